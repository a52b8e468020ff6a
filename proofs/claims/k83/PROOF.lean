import PyProof.Rows.All
import Wide.All
import OpenK.AllK
import Wide.FinOn
import PySem.Builtin.Int.W1All
import PyProof.EqLayable
import KE.DataCmp
import KE.SortData
import KE.DataMinMax
import HandS.ForMost
import HandS.ForExc
import HandS.Gcd
import HandS.IsInst
import HandS.Conv
import HandS.Deep
import HandS.Flow
import HandS.Style
import HandS.TupAny
import HandS.WordsExc
import HandS.Wide
import HandS.HeadHook2
import KE.GoesEnum
import HandS.Iter
import HandS.SortInts
import KE.KTupSum
import PyProof.Rows.SortShell
import HandS.TupSets
import HandS.SetFor
import HandS.TupMul
import HandS.ExcIs
import HandS.DictComp
import HandS.More
import HandS.TupLen
import HandS.MapSum
import PyProof.SumAny
import PyProof.Rows.SumGenD
import KE.KStateDown
import HandS.Head0
import HandS.Head1
import HandS.Head2
import HandS.Head3
import HandS.HeadEnd
import HandS.HeadHook1
import HandS.Rev
import HandS.RevTup
import PySem.Challenge.RW_needlehouse_k83_cheapest_and_fewest_size
set_option Elab.async false
set_option linter.all false
/-! The D semantics: what the constructs compute, as plain functions over PyData. -/
namespace DL
open PySem

abbrev Da := PyData

inductive R (α : Type) where
  | ok (a : α)
  | exc (c : Str)
  | bad

def R.bind {α β : Type} : R α → (α → R β) → R β
  | .ok a, f => f a
  | .exc c, _ => .exc c
  | .bad, _ => .bad

@[simp] theorem R.bind_ok {α β : Type} (a : α) (f : α → R β) : (R.ok a).bind f = f a := by unfold R.bind; rfl
@[simp] theorem R.bind_exc {α β : Type} (c : Str) (f : α → R β) : (R.exc c : R α).bind f = .exc c := by unfold R.bind; rfl
@[simp] theorem R.bind_bad {α β : Type} (f : α → R β) : (R.bad : R α).bind f = .bad := by unfold R.bind; rfl
theorem R.bind_assoc {α β γ : Type} (r : R α) (f : α → R β) (g : β → R γ) : (r.bind f).bind g = r.bind fun a => (f a).bind g := by
  cases r <;> rfl
abbrev Ev := List (Option Da)
abbrev SE := Ev → R Da
abbrev SA := Ev → R (List Da)
abbrev STg := Da → Ev → R Ev
inductive Out where
  | nx (ρ : Ev)
  | rt (d : Da)
  | rf (d : Da)
abbrev SS := Ev → R Out

/-! ### expressions -/
def vGet : Option (Option Da) → R Da
  | some (some d) => .ok d
  | _ => .bad
@[simp] theorem vGet_some (d : Da) : vGet (some (some d)) = .ok d := rfl
@[simp] def eVar (i : Nat) : SE := fun ρ => vGet ρ[i]?
@[simp] def eC (d : Da) : SE := fun _ => .ok d
@[simp] def aNil : SA := fun _ => .ok []
@[simp] def aCons (a : SE) (r : SA) : SA := fun ρ => (a ρ).bind fun x => (r ρ).bind fun xs => .ok (x :: xs)
@[simp] def e1 (f : Da → R Da) (a : SE) : SE := fun ρ => (a ρ).bind f
@[simp] def e2 (f : Da → Da → R Da) (a b : SE) : SE := fun ρ => (a ρ).bind fun x => (b ρ).bind fun y => f x y
@[simp] def eA (f : List Da → R Da) (a : SA) : SE := fun ρ => (a ρ).bind f

def big : Nat := 16777216
/-- truth -/
def tru : Da → Bool
  | .none => false
  | .bool b => b
  | .int i => i != 0
  | .str s => s.length != 0
  | .list xs => !xs.isEmpty
  | .tuple xs => !xs.isEmpty
  | .dict kvs => !kvs.isEmpty
/-- no dict is asked for its truth -/
def isDct : Da → Bool
  | .dict _ => true
  | _ => false
@[simp] theorem isDct_none : isDct .none = false := rfl
@[simp] theorem isDct_bool (b : Bool) : isDct (.bool b) = false := rfl
@[simp] theorem isDct_int (i : Int) : isDct (.int i) = false := rfl
@[simp] theorem isDct_str (s : Str) : isDct (.str s) = false := rfl
@[simp] theorem isDct_list (xs : List Da) : isDct (.list xs) = false := rfl
@[simp] theorem isDct_tuple (xs : List Da) : isDct (.tuple xs) = false := rfl
@[simp] theorem tru_none : tru .none = false := rfl
@[simp] theorem tru_bool (b : Bool) : tru (.bool b) = b := rfl
@[simp] theorem tru_int (i : Int) : tru (.int i) = (i != 0) := rfl
@[simp] theorem tru_list (xs : List Da) : tru (.list xs) = !xs.isEmpty := rfl
@[simp] theorem tru_tuple (xs : List Da) : tru (.tuple xs) = !xs.isEmpty := rfl

def mulOk (i j : Int) : Bool := decide (i.natAbs < 18446744073709551616) || (decide (j.natAbs < 18446744073709551616) || decide (i.natAbs.log2 + j.natAbs.log2 < 1000000))
def dAdd : Da → Da → R Da
  | .int i, .int j => .ok (.int (i + j))
  | .str x, .str y => if x.length + y.length ≤ big then .ok (.str (x ++ y)) else .bad
  | .list x, .list y => if x.length + y.length ≤ big then .ok (.list (x ++ y)) else .bad
  | .tuple x, .tuple y => if x.length + y.length ≤ big then .ok (.tuple (x ++ y)) else .bad
  | _, _ => .bad
def dSub : Da → Da → R Da
  | .int i, .int j => .ok (.int (i - j))
  | _, _ => .bad
def mulI : Da → Da → R Da
  | .int i, .int j => if mulOk i j then .ok (.int (i * j)) else .bad
  | _, _ => .bad
def addI : Da → Da → R Da
  | .int i, .int j => .ok (.int (i + j))
  | _, _ => .bad
def repD : Da → Da → R Da
  | .list x, .int k => if x.length * k.toNat ≤ big ∧ k.natAbs < 9223372036854775808 then .ok (.list (List.replicate k.toNat x).flatten) else .bad
  | _, _ => .bad
def dDiv : Da → Da → R Da
  | .int i, .int j => if j ≠ 0 ∧ j.natAbs < 1073741824 then .ok (.int (i.fdiv j)) else .bad
  | _, _ => .bad
def dMod : Da → Da → R Da
  | .int i, .int j => if j ≠ 0 then .ok (.int (i.fmod j)) else .bad
  | _, _ => .bad
def dPow : Da → Da → R Da
  | .int i, .int j => if 0 ≤ j ∧ j ≤ 1000000 ∧ i.natAbs < 2 ^ 64 then .ok (.int (i ^ j.toNat)) else .bad
  | _, _ => .bad
def dAnd : Da → Da → R Da
  | .int i, .int j => .ok (.int (Builtin.bitAnd i j))
  | _, _ => .bad
def dNeg : Da → R Da
  | .int i => .ok (.int (-i))
  | _ => .bad
def dCmp (p : Int → Int → Bool) : Da → Da → R Da
  | .int i, .int j => .ok (.bool (p i j))
  | _, _ => .bad
abbrev dLt := dCmp fun i j => decide (i < j)
abbrev dLe := dCmp fun i j => decide (i ≤ j)
abbrev dGt := dCmp fun i j => decide (j < i)
abbrev dGe := dCmp fun i j => decide (j ≤ i)
/-- == : scalars at once, else data of any depth -/
def eqD (a b : Da) : R Bool := if SeqAt.shaped a && SeqAt.shaped b then .ok (PyData.eqv a b) else .bad
def dEq : Da → Da → R Da
  | .int i, .int j => .ok (.bool (decide (i = j)))
  | .bool i, .bool j => .ok (.bool (decide (i = j)))
  | .str i, .str j => .ok (.bool (decide (i = j)))
  | .none, .none => .ok (.bool true)
  | .none, .int _ => .ok (.bool false)
  | .int _, .none => .ok (.bool false)
  | a, b => (eqD a b).bind fun k => .ok (.bool k)
def rNot : R Da → R Da
  | .ok (.bool b) => .ok (.bool (!b))
  | .ok _ => .bad
  | .exc c => .exc c
  | .bad => .bad
def dNe (a b : Da) : R Da := rNot (dEq a b)
def isNone : Da → Bool
  | .none => true
  | _ => false
def dIsN (a : Da) : R Da := .ok (.bool (isNone a))
def dNotN (a : Da) : R Da := .ok (.bool (!isNone a))
def dIsB (k : Bool) : Da → R Da
  | .bool b => .ok (.bool (decide (b = k)))
  | _ => .bad
def dIsNotB (k : Bool) : Da → R Da
  | .bool b => .ok (.bool (!decide (b = k)))
  | _ => .bad
def inD (x : Da) (xs : List Da) : R Bool := if SeqAt.shaped x && SeqAt.shaped (.list xs) then .ok (xs.any fun z => PyData.eqv z x) else .bad
def dIn (x : Da) : Da → R Da
  | .list xs => (inD x xs).bind fun k => .ok (.bool k)
  | .tuple xs => (inD x xs).bind fun k => .ok (.bool k)
  | _ => .bad
def dNotIn (x y : Da) : R Da := rNot (dIn x y)
def dNot (a : Da) : R Da := .ok (.bool (!tru a))
@[simp] def eT (a : SE) : SE := fun ρ => (a ρ).bind fun x => if isDct x = true then .bad else .ok x
@[simp] def eAnd (a b : SE) : SE := fun ρ => (a ρ).bind fun x => if tru x then b ρ else .ok x
@[simp] def eOr (a b : SE) : SE := fun ρ => (a ρ).bind fun x => if tru x then .ok x else b ρ
@[simp] def eIf (c a b : SE) : SE := fun ρ => (c ρ).bind fun x => if tru x then a ρ else b ρ
def chB (r : Da) (k : R Da) : R Da := match r with
  | .bool true => k
  | .bool false => .ok (.bool false)
  | _ => .bad
@[simp] theorem chB_bool (b : Bool) (k : R Da) : chB (.bool b) k = if b then k else .ok (.bool false) := by cases b <;> rfl
@[simp] def eChain (f g : Da → Da → R Da) (a b c : SE) : SE := fun ρ => (a ρ).bind fun x => (b ρ).bind fun y => (f x y).bind fun r => chB r ((c ρ).bind fun z => g y z)

/-! ### places -/
def sIxD (n d : Nat) : Option Int → Nat
  | none => d
  | some v => if v < 0 then (v + (n : Int)).toNat else min v.toNat n
def atD {α : Type} (xs : List α) (i : Int) : Option α := if 0 ≤ i then xs[i.toNat]? else if -(xs.length : Int) ≤ i then xs[(i + xs.length).toNat]? else none
def oR {α : Type} : Option α → R α
  | some a => .ok a
  | none => .bad
@[simp] theorem oR_some {α : Type} (a : α) : oR (some a) = .ok a := rfl
def keyEq (a b : Da) : Bool := PyData.eqv a b
def lookD (kvs : List (Da × Da)) (k : Da) : Option Da := (kvs.find? fun p => keyEq p.1 k).map (·.2)
def dIx : Da → Da → R Da
  | .list xs, .int i => oR (atD xs i)
  | .tuple xs, .int i => oR (atD xs i)
  | _, _ => .bad
def cutD {α : Type} (xs : List α) (lo hi : Option Int) : List α := (xs.drop (sIxD xs.length 0 lo)).take (sIxD xs.length xs.length hi - sIxD xs.length 0 lo)
def dSl (lo hi : Option Int) : Da → R Da
  | .list xs => .ok (.list (cutD xs lo hi))
  | .tuple xs => .ok (.tuple (cutD xs lo hi))
  | _ => .bad
abbrev SO := Ev → R (Option Int)
@[simp] def oNone : SO := fun _ => .ok none
def toI : Da → R Int
  | .int i => .ok i
  | _ => .bad
@[simp] theorem toI_int (i : Int) : toI (.int i) = .ok i := rfl
@[simp] def oSome (a : SE) : SO := fun ρ => (a ρ).bind fun x => (toI x).bind fun i => .ok (some i)
@[simp] def eSl (a : SE) (lo hi : SO) : SE := fun ρ => (a ρ).bind fun x => (lo ρ).bind fun l => (hi ρ).bind fun h => dSl l h x
def dRev : Da → R Da
  | .list xs => .ok (.list xs.reverse)
  | .tuple xs => .ok (.tuple xs.reverse)
  | _ => .bad
@[simp] def eTup (a : SA) : SE := fun ρ => (a ρ).bind fun xs => .ok (.tuple xs)
@[simp] def eLst (a : SA) : SE := fun ρ => (a ρ).bind fun xs => .ok (.list xs)

/-! ### targets, slots -/
@[simp] def gVar (i : Nat) : STg := fun d ρ => .ok (ρ.set i (some d))
def gEach : List STg → List Da → Ev → R Ev
  | [], [], ρ => .ok ρ
  | g :: gs, d :: ds, ρ => (g d ρ).bind fun ρ' => gEach gs ds ρ'
  | _, _, _ => .bad
@[simp] theorem gEach_nil (ρ : Ev) : gEach [] [] ρ = .ok ρ := rfl
@[simp] theorem gEach_cons (g : STg) (gs : List STg) (d : Da) (ds : List Da) (ρ : Ev) : gEach (g :: gs) (d :: ds) ρ = (g d ρ).bind fun ρ' => gEach gs ds ρ' := rfl
def gTupD (gs : List STg) : STg := fun d ρ => match d with
  | .tuple ds => gEach gs ds ρ
  | _ => .bad
@[simp] theorem gTupD_tuple (gs : List STg) (ds : List Da) (ρ : Ev) : gTupD gs (.tuple ds) ρ = gEach gs ds ρ := rfl
def kill (ρ : Ev) : List Nat → Ev
  | [] => ρ
  | i :: is => (kill ρ is).set i none
@[simp] theorem kill_nil (ρ : Ev) : kill ρ [] = ρ := rfl
@[simp] theorem kill_cons (ρ : Ev) (i : Nat) (is : List Nat) : kill ρ (i :: is) = (kill ρ is).set i none := rfl

/-! ### what is walked -/
abbrev SI := Ev → R (List Da)
def toL : Da → R (List Da)
  | .list xs => .ok xs
  | .tuple xs => .ok xs
  | _ => .bad
@[simp] theorem toL_list (xs : List Da) : toL (.list xs) = .ok xs := rfl
@[simp] theorem toL_tuple (xs : List Da) : toL (.tuple xs) = .ok xs := rfl
@[simp] def iL (a : SE) : SI := fun ρ => (a ρ).bind toL
def rngD (lo : Int) (n : Nat) : List Da := (List.range n).map fun k => .int (lo + (k : Nat))
def dRng (lo hi : Int) : R (List Da) := if lo.natAbs < 4611686018427387904 ∧ hi.natAbs < 4611686018427387904 ∧ (hi - lo).toNat ≤ big then .ok (rngD lo (hi - lo).toNat) else .bad
@[simp] def iRng1 (a : SE) : SI := fun ρ => (a ρ).bind fun x => (toI x).bind fun n => dRng 0 n
@[simp] def iRng2 (a b : SE) : SI := fun ρ => (a ρ).bind fun x => (b ρ).bind fun y => (toI x).bind fun i => (toI y).bind fun j => dRng i j
def enumD (k : Nat) : List Da → List Da
  | [] => []
  | x :: xs => .tuple [.int (k : Int), x] :: enumD (k + 1) xs
@[simp] def iEnum (a : SE) : SI := fun ρ => (a ρ).bind fun x => (toL x).bind fun xs => .ok (enumD 0 xs)
def zipD : List Da → List Da → List Da
  | x :: xs, y :: ys => .tuple [x, y] :: zipD xs ys
  | _, _ => []
@[simp] def iZip (a b : SE) : SI := fun ρ => (a ρ).bind fun x => (b ρ).bind fun y => (toL x).bind fun xs => (toL y).bind fun ys => .ok (zipD xs ys)

theorem rngC {lo hi : Int} (h : lo.natAbs < 4611686018427387904 ∧ hi.natAbs < 4611686018427387904 ∧ (hi - lo).toNat ≤ big) : -(2 ^ 62) ≤ lo ∧ lo < 2 ^ 62 ∧ -(2 ^ 62) ≤ hi ∧ hi < 2 ^ 62 ∧ (hi - lo).toNat ≤ big := by
  obtain ⟨h1, h2, h3⟩ := h
  omega

/-! ### comprehensions -/
def lcL (f : Da → R (Option Da)) : List Da → R (List Da)
  | [] => .ok []
  | x :: xs => match f x with
    | .ok y => (match lcL f xs with
      | .ok ys => .ok (match y with
        | none => ys
        | some v => v :: ys)
      | _ => .bad)
    | _ => .bad
@[simp] def eYes : SE := fun _ => .ok (.bool true)
def lcF (tg : STg) (own : List Nat) (te el : SE) (ρ : Ev) : Da → R (Option Da) := fun x => (tg x (kill ρ own)).bind fun ρ1 => (te ρ1).bind fun b => if tru b then (el ρ1).bind fun v => .ok (some v) else .ok none
def eLc (it : SI) (tg : STg) (own : List Nat) (te el : SE) : SE := fun ρ => (it ρ).bind fun xs => (lcL (lcF tg own te el ρ) xs).bind fun ys => .ok (.list ys)

/-- two for's -/
def lcL2 (f : Da → R (List Da)) : List Da → R (List Da)
  | [] => .ok []
  | x :: xs => match f x with
    | .ok ys => (match lcL2 f xs with
      | .ok zs => .ok (ys ++ zs)
      | _ => .bad)
    | _ => .bad
def lcF2 (tg : STg) (own : List Nat) (te : SE) (it1 : SI) (tg1 : STg) (vs1 : List Nat) (te1 el : SE) (ρ : Ev) : Da → R (List Da) := fun x => (tg x (kill ρ own)).bind fun ρ1 => (te ρ1).bind fun b => if tru b then (it1 ρ1).bind fun xs => lcL (lcF tg1 vs1 te1 el ρ1) xs else .ok []
def eLc2 (it : SI) (tg : STg) (own : List Nat) (te : SE) (it1 : SI) (tg1 : STg) (vs1 : List Nat) (te1 el : SE) : SE := fun ρ => (it ρ).bind fun xs => (lcL2 (lcF2 tg own te it1 tg1 vs1 te1 el ρ) xs).bind fun ys => if ys.length ≤ big then .ok (.list ys) else .bad

/-! ### built-ins -/
def dLen : List Da → R Da
  | [.list xs] => .ok (.int (xs.length : Nat))
  | [.tuple xs] => .ok (.int (xs.length : Nat))
  | _ => .bad
def dAbs : List Da → R Da
  | [.int i] => .ok (.int (if i < 0 then -i else i))
  | _ => .bad
def dMax2 : List Da → R Da
  | [.int i, .int j] => .ok (.int (if j > i then j else i))
  | _ => .bad
def dMin2 : List Da → R Da
  | [.int i, .int j] => .ok (.int (if j < i then j else i))
  | _ => .bad
def intsD : List Da → R (List Int)
  | [] => .ok []
  | .int i :: r => (intsD r).bind fun is => .ok (i :: is)
  | _ => .bad
def blsD : List Da → R (List Bool)
  | [] => .ok []
  | .bool i :: r => (blsD r).bind fun is => .ok (i :: is)
  | _ => .bad
def minI : List Int → R Int
  | [] => .bad
  | x :: xs => .ok (xs.foldl min x)
def maxI : List Int → R Int
  | [] => .bad
  | x :: xs => .ok (xs.foldl max x)
def dSumL : List Da → R Da
  | [.list xs] => (intsD xs).bind fun is => .ok (.int is.sum)
  | [.tuple xs] => (intsD xs).bind fun is => .ok (.int is.sum)
  | _ => .bad
def dMinL : List Da → R Da
  | [.list xs] => (intsD xs).bind fun is => (minI is).bind fun m => .ok (.int m)
  | _ => .bad
def dMaxL : List Da → R Da
  | [.list xs] => (intsD xs).bind fun is => (maxI is).bind fun m => .ok (.int m)
  | _ => .bad
/-! data in order: all of one kind, place by place -/
def someD : Da → Bool
  | .none => false
  | _ => true
def alkB (xs : List Da) : Bool := xs.all (fun x => xs.all fun y => PySem.W.alike x y) && (xs.all someD && (decide (PyData.depthAll xs ≤ 50) && PyData.canLayAll0 xs))
def tupD1 : Da → Bool
  | .tuple (_ :: _) => true
  | _ => false
def othD1 : Da → Bool
  | .none => false
  | .tuple _ => false
  | _ => true
def srtB (xs : List Da) : Bool := xs.all tupD1 || xs.all othD1
def minG : List Da → R Da
  | [] => .bad
  | x :: xs => if alkB (x :: xs) then .ok (PySem.W.minD x xs) else .bad
def maxG : List Da → R Da
  | [] => .bad
  | x :: xs => if alkB (x :: xs) then .ok (PySem.W.maxD x xs) else .bad
def dMinG : List Da → R Da
  | [.list xs] => minG xs
  | [.tuple xs] => minG xs
  | _ => .bad
def dMaxG : List Da → R Da
  | [.list xs] => maxG xs
  | [.tuple xs] => maxG xs
  | _ => .bad
def dSortG : List Da → R Da
  | [.list xs] => if alkB xs && srtB xs then .ok (.list (xs.mergeSort (PySem.W.dataLe false id))) else .bad
  | _ => .bad
/-- a < b of data -/
def dLtG (a b : Da) : R Da := if alkB [a, b] then .ok (.bool (PySem.W.dataLt a b)) else .bad
def dGtG (a b : Da) : R Da := if alkB [a, b] then .ok (.bool (PySem.W.dataLt b a)) else .bad
def dLeG (a b : Da) : R Da := if alkB [a, b] then .ok (.bool (!PySem.W.dataLt b a)) else .bad
def dGeG (a b : Da) : R Da := if alkB [a, b] then .ok (.bool (!PySem.W.dataLt a b)) else .bad
def dAll : List Da → R Da
  | [.list xs] => (blsD xs).bind fun bs => .ok (.bool (bs.all id))
  | _ => .bad
def dAny : List Da → R Da
  | [.list xs] => (blsD xs).bind fun bs => .ok (.bool (bs.any id))
  | _ => .bad
def dInt : List Da → R Da
  | [.int i] => .ok (.int i)
  | [.bool b] => .ok (.int (if b then 1 else 0))
  | _ => .bad
def dTuple : List Da → R Da
  | [.list xs] => .ok (.tuple xs)
  | [.tuple xs] => .ok (.tuple xs)
  | _ => .bad
def dList : List Da → R Da
  | [.list xs] => .ok (.list xs)
  | [.tuple xs] => .ok (.list xs)
  | _ => .bad
def dGcd : List Da → R Da
  | [.int i, .int j] => .ok (.int (Nat.gcd i.natAbs j.natAbs : Nat))
  | _ => .bad
@[simp] def eTupI (it : SI) : SE := fun ρ => (it ρ).bind fun xs => .ok (.tuple xs)
@[simp] def eLstI (it : SI) : SE := fun ρ => (it ρ).bind fun xs => .ok (.list xs)
inductive Ty where
  | int | bool | str | tuple | list | dict
def isTy : Ty → Da → Bool
  | .int, .int _ => true
  | .int, .bool _ => true
  | .bool, .bool _ => true
  | .str, .str _ => true
  | .tuple, .tuple _ => true
  | .list, .list _ => true
  | .dict, .dict _ => true
  | _, _ => false
def dIsi (t : Ty) (a : Da) : R Da := if isDct a = true then .bad else .ok (.bool (isTy t a))

/-! data without a list in it -/
mutual
def noL : Da → Bool
  | .none => true
  | .bool _ => true
  | .int _ => true
  | .str _ => true
  | .tuple xs => noLs xs
  | .list _ => false
  | .dict _ => false
def noLs : List Da → Bool
  | [] => true
  | x :: xs => noL x && noLs xs
end
def noR (d : Da) : R Da := if noL d then .ok d else .bad

/-! ### statements -/
@[simp] def sNx : SS := fun ρ => .ok (.nx ρ)
def andThen (o : Out) (b : SS) : R Out := match o with
  | .nx ρ => b ρ
  | .rt d => .ok (.rt d)
  | .rf d => .ok (.rf d)
@[simp] theorem andThen_nx (ρ : Ev) (b : SS) : andThen (.nx ρ) b = b ρ := rfl
@[simp] theorem andThen_rt (d : Da) (b : SS) : andThen (.rt d) b = .ok (.rt d) := rfl
@[simp] theorem andThen_rf (d : Da) (b : SS) : andThen (.rf d) b = .ok (.rf d) := rfl
@[simp] def sSeq (a b : SS) : SS := fun ρ => (a ρ).bind fun o => andThen o b
@[simp] def sAsg (g : STg) (e : SE) : SS := fun ρ => (e ρ).bind fun d => (g d ρ).bind fun ρ' => .ok (.nx ρ')
@[simp] def sIf (c : SE) (a b : SS) : SS := fun ρ => (c ρ).bind fun x => if tru x then a ρ else b ρ
@[simp] def sRet (e : SE) : SS := fun ρ => (e ρ).bind fun d => .ok (.rt d)
@[simp] def sExpr (e : SE) : SS := fun ρ => (e ρ).bind fun _ => .ok (.nx ρ)
@[simp] def sRaise (c : Str) : SS := fun _ => .exc c
/-- x = e, e a new list of the def's own -/
def asL : Da → R Da
  | .list xs => .ok (.list xs)
  | _ => .bad
@[simp] theorem asL_list (xs : List Da) : asL (.list xs) = .ok (.list xs) := rfl
@[simp] def sOwn (i : Nat) (e : SE) : SS := fun ρ => (e ρ).bind fun d => (asL d).bind fun d => if i < ρ.length then .ok (.nx (ρ.set i (some d))) else .bad
/-- a, b = x, y; the flags: owned from then on -/
def asO (o : Bool) (d : Da) : R Da := match o with | true => asL d | false => .ok d
@[simp] theorem asO_t (d : Da) : asO true d = asL d := rfl
@[simp] theorem asO_f (d : Da) : asO false d = .ok d := rfl
@[simp] def sPr (oi oj : Bool) (i j : Nat) (a b : SE) : SS := fun ρ => (a ρ).bind fun x => (asO oi x).bind fun x => (b ρ).bind fun y => (asO oj y).bind fun y => if i < ρ.length ∧ j < ρ.length then .ok (.nx ((ρ.set i (some x)).set j (some y))) else .bad
/-- nothing is let out -/
def nox {α : Type} : R α → R α
  | .ok a => .ok a
  | _ => .bad
@[simp] theorem nox_ok {α : Type} (a : α) : nox (.ok a : R α) = .ok a := rfl
@[simp] def sNox (a : SS) : SS := fun ρ => nox (a ρ)
/-- slots forgotten ahead of a statement -/
@[simp] def sWk (k : List Nat) (a : SS) : SS := fun ρ => a (kill ρ k)
/-- .. behind it -/
@[simp] def sPost (k : List Nat) (a : SS) : SS := fun ρ => (a ρ).bind fun o => .ok (match o with
  | .nx ρ' => .nx (kill ρ' k)
  | .rt d => .rt d
  | .rf d => .rf d)
def forL (g : STg) (body : SS) : List Da → SS
  | [], ρ => .ok (.nx ρ)
  | x :: xs, ρ => (g x ρ).bind fun ρ1 => (body ρ1).bind fun o => andThen o (forL g body xs)
@[simp] def sFor (it : SI) (g : STg) (body : SS) : SS := fun ρ => (it ρ).bind fun xs => forL g body xs ρ
def whileF (c : SE) (body : SS) : Nat → SS
  | 0, _ => .bad
  | n + 1, ρ => (c ρ).bind fun x => if tru x then (body ρ).bind fun o => andThen o (whileF c body n) else .ok (.nx ρ)
def fuel : Nat := 1000000000
def sWhile (c : SE) (body : SS) : SS := whileF c body fuel
def updE (ρ : Ev) (i : Nat) (f : Da → R Da) : R Out := (vGet ρ[i]?).bind fun d => (f d).bind fun d' => .ok (.nx (ρ.set i (some d')))
def appD (x : Da) : Da → R Da
  | .list xs => if xs.length < big then .ok (.list (xs ++ [x])) else .bad
  | _ => .bad
@[simp] def sAppend (i : Nat) (e : SE) : SS := fun ρ => (vGet ρ[i]?).bind fun d => (asL d).bind fun _ => (e ρ).bind fun x => updE ρ i (appD x)
/-! dicts: a mark ahead: given up for good (frozen)?, keys are tuples of integers? -/
def dD (fz tk : Bool) (kvs : List (Da × Da)) : Da := .dict ((.bool fz, .bool tk) :: kvs)
def key1 : Da → Option (Int ⊕ Str)
  | .int i => some (.inl i)
  | _ => none
def keyL : List Da → Option (List (Int ⊕ Str))
  | [] => some []
  | d :: ds => match key1 d, keyL ds with
    | some k, some ks => some (k :: ks)
    | _, _ => none
def keyT : Da → Option (List (Int ⊕ Str))
  | .tuple xs => keyL xs
  | _ => none
def isK (tk : Bool) (k : Da) : Bool := match tk with | false => (key1 k).isSome | true => (keyT k).isSome
def kq (tk : Bool) (a b : Da) : Bool := match tk with | false => decide (key1 a = key1 b) | true => decide (keyT a = keyT b)
def kget (tk : Bool) (k : Da) (kvs : List (Da × Da)) : Option Da := (kvs.find? fun z => kq tk z.1 k).map (·.2)
def kput (tk : Bool) (k v : Da) (kvs : List (Da × Da)) : List (Da × Da) :=
  if (kvs.any fun z => kq tk z.1 k) = true then kvs.map (fun z => if kq tk z.1 k = true then (z.1, v) else z) else kvs ++ [(k, v)]
/-- what a dict holds: its mark, its pairs -/
def asD : Da → R (Bool × Bool × List (Da × Da))
  | .dict ((.bool fz, .bool tk) :: kvs) => .ok (fz, tk, kvs)
  | _ => .bad
@[simp] theorem asD_dD (fz tk : Bool) (kvs : List (Da × Da)) : asD (dD fz tk kvs) = .ok (fz, tk, kvs) := rfl
def isKR (tk : Bool) (k : Da) : R Unit := if isK tk k = true then .ok () else .bad
/-- tk: the kind of keys asked for -/
def asDT (tk : Bool) (a : Da) : R (Bool × Bool × List (Da × Da)) := (asD a).bind fun z => if z.2.1 = tk then .ok z else .bad
@[simp] theorem asDT_dD (fz tk : Bool) (kvs : List (Da × Da)) : asDT tk (dD fz tk kvs) = .ok (fz, tk, kvs) := by cases tk <;> rfl
def dDGet (tk : Bool) (a k : Da) : R Da := (asDT tk a).bind fun z => (isKR tk k).bind fun _ => oR (kget tk k z.2.2)
def dDIn (tk : Bool) (k a : Da) : R Da := (asDT tk a).bind fun z => (isKR tk k).bind fun _ => .ok (.bool (kget tk k z.2.2).isSome)
def dDNotIn (tk : Bool) (k a : Da) : R Da := (asDT tk a).bind fun z => (isKR tk k).bind fun _ => .ok (.bool (!(kget tk k z.2.2).isSome))
def dDLen (tk : Bool) : List Da → R Da
  | [a] => (asDT tk a).bind fun z => .ok (.int z.2.2.length)
  | _ => .bad
def dDList (tk : Bool) : List Da → R Da
  | [a] => (asDT tk a).bind fun z => .ok (.list (z.2.2.map (·.1)))
  | _ => .bad
/-- x = {} or the like: x owns it -/
def asM : Da → R Da := fun d => (asD d).bind fun z => if z.1 = false then .ok d else .bad
@[simp] def sOwnD (i : Nat) (e : SE) : SS := fun ρ => (e ρ).bind fun d => (asM d).bind fun d => if i < ρ.length then .ok (.nx (ρ.set i (some d))) else .bad
def putD (tk : Bool) (k v : Da) (a : Da) : R Da := (asDT tk a).bind fun z => if z.1 = false ∧ z.2.2.length < big then (isKR tk k).bind fun _ => .ok (dD false tk (kput tk k v z.2.2)) else .bad
/-- x[k] = e in an own dict -/
@[simp] def sPutD (tk : Bool) (i : Nat) (k e : SE) : SS := fun ρ => (e ρ).bind fun v => (k ρ).bind fun kd => updE ρ i (putD tk kd v)
/-- an own dict is given up for good -/
def frzD (a : Da) : R Da := (asD a).bind fun z => if z.1 = false then .ok (dD true z.2.1 z.2.2) else .bad
@[simp] def sFrz (i : Nat) (a : SS) : SS := fun ρ => (vGet ρ[i]?).bind fun d => (frzD d).bind fun d' => a (ρ.set i (some d'))
/-- walked: frozen ones -/
def keysF (tk : Bool) (a : Da) : R (List Da) := (asDT tk a).bind fun z => if z.1 = true then .ok (z.2.2.map (·.1)) else .bad
def itemsF (a : Da) : R (List Da) := (asDT false a).bind fun z => if z.1 = true then .ok (z.2.2.map fun q => .tuple [q.1, q.2]) else .bad
def valsF (a : Da) : R (List Da) := (asDT false a).bind fun z => if z.1 = true then .ok (z.2.2.map (·.2)) else .bad
@[simp] def iKeys (tk : Bool) (e : SE) : SI := fun ρ => (e ρ).bind (keysF tk)
@[simp] def iItems (e : SE) : SI := fun ρ => (e ρ).bind itemsF
@[simp] def iVals (e : SE) : SI := fun ρ => (e ρ).bind valsF
/-- {k: v} -/
@[simp] def eDisp (sk sv : SE) : SE := fun ρ => (sk ρ).bind fun k => (sv ρ).bind fun v => (isKR false k).bind fun _ => .ok (dD false false [(k, v)])
def ixD (n : Nat) (i : Int) : Option Nat := if 0 ≤ i then (if i < n then some i.toNat else none) else if -(n : Int) ≤ i then some (i + n).toNat else none
def setD (k v : Da) : Da → R Da
  | .list xs => (toI k).bind fun i => (oR (ixD xs.length i)).bind fun j => .ok (.list (xs.set j v))
  | _ => .bad
@[simp] def sSet (i : Nat) (k e : SE) : SS := fun ρ => (e ρ).bind fun v => (k ρ).bind fun j => updE ρ i (setD j v)

/-- x[k] += e -/
@[simp] def sAugI (i : Nat) (k e : SE) : SS := fun ρ => (k ρ).bind fun j => (vGet ρ[i]?).bind fun d => (dIx d j).bind fun x => (e ρ).bind fun y => (addI x y).bind fun z => updE ρ i (setD j z)
/-- x.pop() -/
def popD : Da → R Da
  | .list [] => .bad
  | .list (x :: xs) => .ok (.list (x :: xs).dropLast)
  | _ => .bad
@[simp] def sPop (i : Nat) : SS := fun ρ => updE ρ i popD
/-- sorted(..) of whole numbers -/
def insI (x : Int) : List Int → List Int
  | [] => [x]
  | y :: ys => if x ≤ y then x :: y :: ys else y :: insI x ys
def sortI (l : List Int) : List Int := l.foldr insI []
def dSorted : List Da → R Da
  | [.list xs] => (intsD xs).bind fun is => .ok (.list ((sortI is).map PyData.int))
  | [.tuple xs] => (intsD xs).bind fun is => .ok (.list ((sortI is).map PyData.int))
  | _ => .bad
/-- the keys of a dict, integers, in order -/
def dDSorted : List Da → R Da
  | [a] => (asDT false a).bind fun z => if z.2.2.length < 64 then (intsD (z.2.2.map (·.1))).bind fun is => .ok (.list ((sortI is).map PyData.int)) else .bad
  | _ => .bad
/-- the least key of a dict -/
def dDMin : List Da → R Da
  | [a] => (asDT false a).bind fun z => (intsD (z.2.2.map (·.1))).bind fun is => (minI is).bind fun m => .ok (.int m)
  | _ => .bad
/-- {k: v for ..} -/
def dcL (f : Da → R (Option (Da × Da))) : List Da → List (Da × Da) → R (List (Da × Da))
  | [], acc => .ok acc
  | x :: xs, acc => match f x with
    | .ok none => dcL f xs acc
    | .ok (some kv) => if isK false kv.1 = true then dcL f xs (kput false kv.1 kv.2 acc) else .bad
    | _ => .bad
def dcF (g : STg) (own : List Nat) (st sk sv : SE) (ρ : Ev) : Da → R (Option (Da × Da)) := fun x => (g x (kill ρ own)).bind fun ρ1 => (st ρ1).bind fun b => if tru b then (sk ρ1).bind fun k => (sv ρ1).bind fun v => .ok (some (k, v)) else .ok none
def eDc (it : SI) (g : STg) (own : List Nat) (st sk sv : SE) : SE := fun ρ => (it ρ).bind fun xs => (dcL (dcF g own st sk sv ρ) xs []).bind fun kvs => .ok (dD false false kvs)
/-- a text times 0 or 1 -/
def repS : Da → Da → R Da
  | .str x, .int k => if k = 0 then .ok (.str Str.empty) else if k = 1 then .ok (.str x) else .bad
  | _, _ => .bad
/-- a tuple times 1 or more -/
def repT : Da → Da → R Da
  | .tuple xs, .int k => if xs.length ≤ 1000 ∧ 1 ≤ xs.length ∧ 1 ≤ k ∧ k.natAbs ≤ 1000 then .ok (.tuple (List.replicate k.toNat xs).flatten) else if k = 0 ∨ (xs.length = 0 ∧ k.natAbs ≤ 1000) then .ok (.tuple []) else .bad
  | _, _ => .bad
/-- len(set(..)) of whole numbers -/
def ddI (l : List Int) : List Int := l.foldr (fun x acc => if x ∈ acc then acc else x :: acc) []
def dLenSet : Da → R Da
  | .list xs => (intsD xs).bind fun is => if is.length < 4000 then .ok (.int ((ddI is).length : Nat)) else .bad
  | .tuple xs => (intsD xs).bind fun is => if is.length < 4000 then .ok (.int ((ddI is).length : Nat)) else .bad
  | _ => .bad
/-- range(a, b, c), c > 0 -/
def rng3D (lo c : Int) (n : Nat) : List Da := (List.range n).map fun k => .int (lo + (k : Nat) * c)
def r3n (lo hi c : Int) : Nat := if lo < hi then ((hi - lo - 1) / c + 1).toNat else 0
def dRng3 (lo hi c : Int) : R (List Da) := if lo.natAbs < 1073741824 ∧ hi.natAbs < 1073741824 ∧ 0 < c ∧ c.natAbs < 1073741824 ∧ r3n lo hi c ≤ big then .ok (rng3D lo c (r3n lo hi c)) else if c = -1 ∧ lo.natAbs < 1073741824 ∧ hi.natAbs < 1073741824 ∧ (lo - hi).toNat ≤ big then .ok (rng3D lo (-1) (lo - hi).toNat) else .bad
@[simp] def iRng3 (a b c : SE) : SI := fun ρ => (a ρ).bind fun x => (b ρ).bind fun y => (c ρ).bind fun z => (toI x).bind fun i => (toI y).bind fun j => (toI z).bind fun k => dRng3 i j k
/-- a, b = e, f -/
def sPar2 (i j : Nat) (ρ : Ev) : List Da → R Out
  | [x, y] => .ok (.nx ((ρ.set i (some x)).set j (some y)))
  | _ => .bad
@[simp] theorem sPar2_ (i j : Nat) (ρ : Ev) (x y : Da) : sPar2 i j ρ [x, y] = .ok (.nx ((ρ.set i (some x)).set j (some y))) := rfl
@[simp] def sPar (i j : Nat) (a : SA) : SS := fun ρ => (a ρ).bind fun ds => sPar2 i j ρ ds

/-- try: b / except ..: the answer is the class's -/
def sTry (b : SS) (ok : List Str) (hv : Str → Da) : SS := fun ρ => match b ρ with
  | .exc c => if c ∈ ok then .ok (.rt (hv c)) else .bad
  | r => r

def runDef (n : Nat) (body : SS) (ds : List Da) : R Da := (body (ds.map some ++ List.replicate (n - ds.length) none)).bind fun o => match o with
  | .nx _ => .ok .none
  | .rt d => .ok d
  | .rf d => .ok d
/-- a def that hands back a list of its own -/
def runDefF (n : Nat) (body : SS) (ds : List Da) : R Da := (body (ds.map some ++ List.replicate (n - ds.length) none)).bind fun o => match o with
  | .rf d => .ok d
  | _ => .bad
/-- return x, x an own list -/
@[simp] def sRetO (i : Nat) : SS := fun ρ => (vGet ρ[i]?).bind fun d => (asL d).bind fun d => .ok (.rf d)
@[simp] def sRetF (e : SE) : SS := fun ρ => (e ρ).bind fun d => (asL d).bind fun d => .ok (.rf d)
/-- sum(d.values()) -/
def dSumV (a : Da) : R Da := (asDT false a).bind fun z => (intsD (z.2.2.map (·.2))).bind fun is => .ok (.int is.sum)
/-! no dict inside -/
mutual
def noD : Da → Bool
  | .none => true
  | .bool _ => true
  | .int _ => true
  | .str _ => true
  | .tuple xs => noDs xs
  | .list xs => noDs xs
  | .dict _ => false
def noDs : List Da → Bool
  | [] => true
  | x :: xs => noD x && noDs xs
end
def noDR (d : Da) : R Da := if noD d then .ok d else .bad
/-- x = [.. in d.items() ..], d an own dict that is locked meanwhile -/
@[simp] def sLkLc (i j : Nat) (e : SE) : SS := fun ρ => (vGet ρ[i]?).bind fun d => (frzD d).bind fun d' => (nox (e (ρ.set i (some d')))).bind fun v => (noDR v).bind fun v => .ok (.nx (ρ.set j (some v)))
end DL
set_option Elab.async false
set_option linter.all false
set_option maxRecDepth 100000
/-! The D layer's relation: values by value against the abstract heap; ownership of local lists. -/
namespace DL
open PySem PySem.Spec PyProof.Rows L2

theorem big_line : big = sizeLine := by rw [sizeLine_eq] <;> rfl

def KLs (K : PySem.W.Frag) (a : Addr) (xs : List V) : Prop := ∃ (o : Obj) (its : Array Value) (n : Nat), K.lookup a = some o ∧ o.cls = .type "list" ∧ o.dict = none ∧ o.data = .seq its n ∧ its.size ≤ sizeLine ∧ Vals xs its.toList
def LsR (K : PySem.W.Frag) (H : Hp) (O : List Addr) (a : Addr) (xs : List V) : Prop := (Rd H a (.lst xs) ∧ a ∉ O) ∨ KLs K a xs
theorem LsR.sq {K : PySem.W.Frag} {H : Hp} {O : List Addr} {a : Addr} {xs : List V} (h : LsR K H O a xs) : SqL K H a xs := by
  rcases h with h | h
  · exact .inl h.1
  · exact .inr h

/-- a dict's object: keys, values; frozen ones never change -/
def DkO (tk : Bool) (ks : List PyData) (vs : List V) (u : HO) : Prop := match tk with
  | false => ∃ kk : List (Key × V), u = .dK kk ∧ kk.map (·.2) = vs ∧ ks.map key1 = kk.map fun z => some z.1
  | true => ∃ kk : List (List Key × V), u = .dT kk ∧ kk.map (·.2) = vs ∧ ks.map keyT = kk.map fun z => some z.1
def DkR (H : Hp) (O : List Addr) (fz : Bool) (a : Addr) (u : HO) : Prop := match fz with
  | true => ∃ o, H a = some (.frz o u)
  | false => Rd H a u ∧ a ∉ O
mutual
inductive Rp (K : PySem.W.Frag) (H : Hp) (O : List Addr) : V → PyData → Prop
  | non : Rp K H O .non .none
  | bl (b : Bool) : Rp K H O (.bl b) (.bool b)
  | int (i : Int) : Rp K H O (.int i) (.int i)
  | str (x : Str) (h : x.length ≤ big) : Rp K H O (.str x) (.str x)
  | lst {a : Addr} {xs : List V} {ds : List PyData} (h : LsR K H O a xs) (n : ds.length ≤ big) (r : RpAll K H O xs ds) : Rp K H O (.ref a) (.list ds)
  | tup {a : Addr} {xs : List V} {ds : List PyData} (h : SqT K H a xs) (n : ds.length ≤ big) (r : RpAll K H O xs ds) : Rp K H O (.ref a) (.tuple ds)
  | dct {a : Addr} {fz tk : Bool} {u : HO} {vs : List V} {kvs : List (PyData × PyData)} (h : DkR H O fz a u) (k : DkO tk (kvs.map (·.1)) vs u) (n : kvs.length ≤ big) (r : RpAll K H O vs (kvs.map (·.2))) : Rp K H O (.ref a) (.dict ((.bool fz, .bool tk) :: kvs))
inductive RpAll (K : PySem.W.Frag) (H : Hp) (O : List Addr) : List V → List PyData → Prop
  | nil : RpAll K H O [] []
  | cons {v : V} {vs : List V} {d : PyData} {ds : List PyData} (h : Rp K H O v d) (t : RpAll K H O vs ds) : RpAll K H O (v :: vs) (d :: ds)
end

def mutO : HO → Bool
  | .lst _ => true
  | .dK _ => true
  | .dT _ => true
  | .set _ _ => true
  | .ins _ _ _ => true
  | .ext _ => true
  | _ => false
/-- all but the mutable objects at G are kept -/
def Keep (G : List Addr) (H H' : Hp) : Prop := ∀ b o, H b = some o → (b ∈ G → mutO o = false) → H' b = some o
theorem Keep.of_same {G : List Addr} {H H' : Hp} (s : Same H H') : Keep G H H' := fun b o e _ => s b o e
theorem Keep.refl {G : List Addr} (H : Hp) : Keep G H H := fun _ _ e _ => e
theorem Keep.nil {H H' : Hp} (k : Keep [] H H') : Same H H' := fun b o e => k b o e (fun z => nomatch z)
/-- the mutable objects may have changed at G, which O holds; O' are the owned ones then -/
structure Grow (G O O' : List Addr) (H H' : Hp) : Prop where
  keep : Keep G H H'
  sub : ∀ b, b ∈ G → b ∈ O
  new : ∀ b, b ∈ O' → b ∈ O ∨ H b = none
theorem Grow.same {O : List Addr} {H H' : Hp} (s : Same H H') : Grow [] O O H H' := ⟨.of_same s, fun _ h => (nomatch h), fun _ h => .inl h⟩
theorem Grow.sub_ {O O' : List Addr} {H H' : Hp} (s : Same H H') (h : ∀ b, b ∈ O' → b ∈ O) : Grow [] O O' H H' := ⟨.of_same s, fun _ h => (nomatch h), fun b hb => .inl (h b hb)⟩

section
variable {K : PySem.W.Frag} {H H' : Hp} {O O' G : List Addr} {a : Addr} {xs : List V}
theorem rd_keep {u : HO} (k : Keep G H H') (h : Rd H a u) (m : a ∉ G ∨ mutO u = false) : Rd H' a u := by
  rcases h with h | ⟨o, h⟩
  · exact .inl (k _ _ h fun hb => m.elim (fun z => absurd hb z) id)
  · exact .inr ⟨o, k _ _ h fun _ => rfl⟩
theorem LsR.mono (g : Grow G O O' H H') (h : LsR K H O a xs) : LsR K H' O' a xs := by
  rcases h with ⟨h, n⟩ | h
  · refine .inl ⟨rd_keep g.keep h (.inl fun hb => n (g.sub _ hb)), fun hb => ?_⟩
    rcases g.new a hb with z | z
    · exact n z
    · rcases h with h | ⟨o, h⟩ <;> rw [z] at h <;> cases h
  · exact .inr h
theorem sqt_keep (k : Keep G H H') (h : SqT K H a xs) : SqT K H' a xs := by
  rcases h with h | h
  · exact .inl (rd_keep k h (.inr rfl))
  · exact .inr h
end
theorem DkR.mono {H H' : Hp} {O O' G : List Addr} {fz : Bool} {a : Addr} {u : HO} (g : Grow G O O' H H') (h : DkR H O fz a u) : DkR H' O' fz a u := by
  cases fz with
  | true => obtain ⟨o, h⟩ := h; exact ⟨o, g.keep _ _ h fun _ => rfl⟩
  | false =>
    obtain ⟨h, n⟩ := h
    refine ⟨rd_keep g.keep h (.inl fun hb => n (g.sub _ hb)), fun hb => ?_⟩
    rcases g.new a hb with z | z
    · exact n z
    · rcases h with h | ⟨o, h⟩ <;> rw [z] at h <;> cases h
mutual
theorem Rp.mono {K : PySem.W.Frag} {H H' : Hp} {G O O' : List Addr} (g : Grow G O O' H H') : ∀ {d : PyData} {v : V}, Rp K H O v d → Rp K H' O' v d
  | _, _, .non => .non
  | _, _, .bl _ => .bl _
  | _, _, .int _ => .int _
  | _, _, .str _ n => .str _ n
  | _, _, .lst h n r => .lst (h.mono g) n (RpAll.mono g r)
  | _, _, .tup h n r => .tup (sqt_keep g.keep h) n (RpAll.mono g r)
  | _, _, .dct h k n r => .dct (h.mono g) k n (RpAll.mono g r)
theorem RpAll.mono {K : PySem.W.Frag} {H H' : Hp} {G O O' : List Addr} (g : Grow G O O' H H') : ∀ {ds : List PyData} {vs : List V}, RpAll K H O vs ds → RpAll K H' O' vs ds
  | _, _, .nil => .nil
  | _, _, .cons h t => .cons (Rp.mono g h) (RpAll.mono g t)
end
mutual
theorem Rp.dp {K : PySem.W.Frag} {H : Hp} {O : List Addr} : ∀ {d : PyData} {v : V}, PyData.canLay0 d = true → Rp K H O v d → Dp K H v d
  | _, _, _, .non => .non
  | _, _, _, .bl _ => .bl _
  | _, _, _, .int _ => .int _
  | _, _, _, .str _ _ => .str _
  | _, _, c, .lst h n r => .lst h.sq (RpAll.dp (by unfold PyData.canLay0 at c; exact c) r)
  | _, _, c, .tup h n r => .tup h (RpAll.dp (by unfold PyData.canLay0 at c; exact c) r)
  | _, _, c, .dct h k n r => by unfold PyData.canLay0 at c; cases c
theorem RpAll.dp {K : PySem.W.Frag} {H : Hp} {O : List Addr} : ∀ {ds : List PyData} {vs : List V}, PyData.canLayAll0 ds = true → RpAll K H O vs ds → DpAll K H vs ds
  | _, _, _, .nil => .nil
  | _, _, c, .cons h t => by
    unfold PyData.canLayAll0 at c
    rw [Bool.and_eq_true] at c
    exact .cons (Rp.dp c.1 h) (RpAll.dp c.2 t)
end
section
variable {K : PySem.W.Frag} {H H' : Hp} {O O' G : List Addr}
theorem RpAll.length : ∀ {vs : List V} {ds : List PyData}, RpAll K H O vs ds → vs.length = ds.length
  | _, _, .nil => rfl
  | _, _, .cons _ t => by rw [List.length_cons, List.length_cons, RpAll.length t]
theorem RpAll.get : ∀ {vs : List V} {ds : List PyData} {i : Nat} {d : PyData}, RpAll K H O vs ds → ds[i]? = some d → ∃ v, vs[i]? = some v ∧ Rp K H O v d
  | _, _, _, _, .nil, e => by simp at e
  | _, _, 0, _, .cons h _, e => by simp at e; subst e; exact ⟨_, rfl, h⟩
  | _, _, i + 1, d, .cons _ t, e => by
    obtain ⟨v, h1, h2⟩ := RpAll.get (i := i) (d := d) t (by simpa using e)
    exact ⟨v, by simpa using h1, h2⟩
theorem RpAll.getV : ∀ {vs : List V} {ds : List PyData} {i : Nat} {v : V}, RpAll K H O vs ds → vs[i]? = some v → ∃ d, ds[i]? = some d ∧ Rp K H O v d
  | _, _, _, _, .nil, e => by simp at e
  | _, _, 0, _, .cons h _, e => by simp at e; subst e; exact ⟨_, rfl, h⟩
  | _, _, i + 1, v, .cons _ t, e => by
    obtain ⟨d, h1, h2⟩ := RpAll.getV (i := i) (v := v) t (by simpa using e)
    exact ⟨d, by simpa using h1, h2⟩
theorem RpAll.append : ∀ {vs : List V} {ds : List PyData} {ws : List V} {es : List PyData}, RpAll K H O vs ds → RpAll K H O ws es → RpAll K H O (vs ++ ws) (ds ++ es)
  | _, _, _, _, .nil, h => h
  | _, _, _, _, .cons h t, h2 => .cons h (RpAll.append t h2)
theorem RpAll.take : ∀ {vs : List V} {ds : List PyData} (n : Nat), RpAll K H O vs ds → RpAll K H O (vs.take n) (ds.take n)
  | _, _, 0, _ => .nil
  | _, _, _ + 1, .nil => .nil
  | _, _, n + 1, .cons h t => .cons h (RpAll.take n t)
theorem RpAll.drop : ∀ {vs : List V} {ds : List PyData} (n : Nat), RpAll K H O vs ds → RpAll K H O (vs.drop n) (ds.drop n)
  | _, _, 0, h => h
  | _, _, _ + 1, .nil => .nil
  | _, _, n + 1, .cons _ t => RpAll.drop n t
theorem RpAll.reverse {vs : List V} {ds : List PyData} (h : RpAll K H O vs ds) : RpAll K H O vs.reverse ds.reverse := by
  induction vs generalizing ds with
  | nil => cases h; exact .nil
  | cons v vs ih =>
    cases h with
    | cons h t =>
      rw [List.reverse_cons, List.reverse_cons]
      exact (ih t).append (.cons h .nil)
theorem RpAll.rep {vs : List V} {ds : List PyData} (h : RpAll K H O vs ds) : ∀ k : Nat, RpAll K H O (List.replicate k vs).flatten (List.replicate k ds).flatten
  | 0 => .nil
  | k + 1 => by
    rw [List.replicate_succ, List.replicate_succ, List.flatten_cons, List.flatten_cons]
    exact h.append (RpAll.rep h k)
theorem RpAll.set {v : V} {d : PyData} (r : Rp K H O v d) : ∀ {vs : List V} {ds : List PyData} (i : Nat), RpAll K H O vs ds → RpAll K H O (vs.set i v) (ds.set i d)
  | _, _, _, .nil => .nil
  | _, _, 0, .cons _ t => .cons r t
  | _, _, i + 1, .cons h t => .cons h (RpAll.set r i t)
theorem RpAll.ints : ∀ {vs : List V} {ds : List PyData} {is : List Int}, RpAll K H O vs ds → intsD ds = .ok is → vs = is.map V.int
  | _, _, _, .nil, e => by
    unfold intsD at e
    cases e; rfl
  | _, _, is, .cons (d := d) (ds := ds) h t, e => by
    cases d with
    | int i =>
      unfold intsD at e
      cases q : intsD ds with
      | ok js =>
        rw [q] at e
        simp only [R.bind] at e
        cases e
        cases h
        rw [RpAll.ints t q]
        rfl
      | exc c => rw [q] at e; cases e
      | bad => rw [q] at e; cases e
    | _ => unfold intsD at e; cases e
theorem RpAll.bls : ∀ {vs : List V} {ds : List PyData} {is : List Bool}, RpAll K H O vs ds → blsD ds = .ok is → vs = is.map V.bl
  | _, _, _, .nil, e => by
    unfold blsD at e
    cases e; rfl
  | _, _, is, .cons (d := d) (ds := ds) h t, e => by
    cases d with
    | bool i =>
      unfold blsD at e
      cases q : blsD ds with
      | ok js =>
        rw [q] at e
        simp only [R.bind] at e
        cases e
        cases h
        rw [RpAll.bls t q]
        rfl
      | exc c => rw [q] at e; cases e
      | bad => rw [q] at e; cases e
    | _ => unfold blsD at e; cases e
end

/-! ### what a slot owns; what an expression gives -/
def Own (K : PySem.W.Frag) (H : Hp) (O : List Addr) (p : Addr) : PyData → Prop
  | .list ds => ∃ vs, H p = some (.lst vs) ∧ RpAll K H O vs ds ∧ ds.length ≤ big
  | .dict kvs' => ∃ (tk : Bool) (kvs : List (PyData × PyData)) (u : HO) (vs : List V), kvs' = (.bool false, .bool tk) :: kvs ∧ H p = some u ∧ DkO tk (kvs.map (·.1)) vs u ∧ RpAll K H O vs (kvs.map (·.2)) ∧ kvs.length ≤ big
  | _ => False
theorem DkO.mut {tk : Bool} {ks : List PyData} {vs : List V} {u : HO} (h : DkO tk ks vs u) : mutO u = true := by
  cases tk with
  | false => obtain ⟨kk, rfl, _⟩ := h; rfl
  | true => obtain ⟨kk, rfl, _⟩ := h; rfl
theorem Own.mono {K : PySem.W.Frag} {H H' : Hp} {G O O' : List Addr} {p : Addr} {d : PyData} (g : Grow G O O' H H') (hp : p ∉ G) (h : Own K H O p d) : Own K H' O' p d := by
  cases d with
  | list ds =>
    obtain ⟨vs, h1, h2, h3⟩ := h
    exact ⟨vs, g.keep _ _ h1 fun z => absurd z hp, h2.mono g, h3⟩
  | dict kvs' =>
    obtain ⟨tk, kvs, u, vs, h0, h1, h2, h3, h4⟩ := h
    exact ⟨tk, kvs, u, vs, h0, g.keep _ _ h1 fun z => absurd z hp, h2, h3.mono g, h4⟩
  | _ => exact h.elim
theorem Own.mut {K : PySem.W.Frag} {H : Hp} {O : List Addr} {p : Addr} {d : PyData} (h : Own K H O p d) : ∃ o, H p = some o ∧ mutO o = true := by
  cases d with
  | list ds => obtain ⟨vs, h1, _⟩ := h; exact ⟨_, h1, rfl⟩
  | dict kvs' => obtain ⟨tk, kvs, u, vs, h0, h1, h2, _⟩ := h; exact ⟨u, h1, h2.mut⟩
  | _ => exact h.elim
/-- given up -/
theorem Own.rp {K : PySem.W.Frag} {H : Hp} {O : List Addr} {p : Addr} {d : PyData} (h : Own K H O p d) (hp : p ∉ O) : Rp K H O (.ref p) d := by
  cases d with
  | list ds => obtain ⟨vs, h1, h2, h3⟩ := h; exact .lst (.inl ⟨.inl h1, hp⟩) h3 h2
  | dict kvs' => obtain ⟨tk, kvs, u, vs, h0, h1, h2, h3, h4⟩ := h; subst h0; exact .dct (fz := false) ⟨.inl h1, hp⟩ h2 h4 h3
  | _ => exact h.elim

inductive Fl where
  | bo | sh | fr | fd
def Res (K : PySem.W.Frag) (H0 H : Hp) (O : List Addr) : Fl → V → PyData → Prop
  | .bo, v, d => Rp K H O v d ∨ ∃ p, v = .ref p ∧ p ∈ O ∧ Own K H O p d
  | .sh, v, d => Rp K H O v d
  | .fr, v, d => Rp K H O v d ∧ ∀ ds, d = .list ds → ∃ p, v = .ref p ∧ H0 p = none ∧ Own K H (p :: O) p d
  | .fd, v, d => Rp K H O v d ∧ ∀ tk kvs, d = dD false tk kvs → ∃ p, v = .ref p ∧ H0 p = none ∧ Own K H (p :: O) p d
section
variable {K : PySem.W.Frag} {H0 H1 H H' : Hp} {O O' G : List Addr} {v : V} {d : PyData} {fl : Fl}
theorem Res.bo (h : Res K H0 H O fl v d) : Res K H1 H O .bo v d := by
  cases fl with
  | bo => exact h
  | sh => exact .inl h
  | fr => exact .inl h.1
  | fd => exact .inl h.1
theorem Res.mono (s : Same H H') (h : Res K H0 H O fl v d) : Res K H0 H' O fl v d := by
  cases fl with
  | bo =>
    rcases h with h | ⟨p, e, hp, h⟩
    · exact .inl (h.mono (.same s))
    · exact .inr ⟨p, e, hp, h.mono (.same s) (fun z => nomatch z)⟩
  | sh => exact Rp.mono (.same s) h
  | fr => exact ⟨Rp.mono (.same s) h.1, fun ds e => let ⟨p, e1, e2, e3⟩ := h.2 ds e; ⟨p, e1, e2, e3.mono (.same s) (fun z => nomatch z)⟩⟩
  | fd => exact ⟨Rp.mono (.same s) h.1, fun tk kvs e => let ⟨p, e1, e2, e3⟩ := h.2 tk kvs e; ⟨p, e1, e2, e3.mono (.same s) (fun z => nomatch z)⟩⟩
theorem Res.back (s : Same H0 H1) (h : Res K H1 H O fl v d) : Res K H0 H O fl v d := by
  cases fl with
  | bo => exact h
  | sh => exact h
  | fr => exact ⟨h.1, fun ds e => let ⟨p, e1, e2, e3⟩ := h.2 ds e; ⟨p, e1, s.free e2, e3⟩⟩
  | fd => exact ⟨h.1, fun tk kvs e => let ⟨p, e1, e2, e3⟩ := h.2 tk kvs e; ⟨p, e1, s.free e2, e3⟩⟩
theorem Res.list {ds : List PyData} (h : Res K H0 H O fl v (.list ds)) : ∃ p vs, v = .ref p ∧ SqL K H p vs ∧ RpAll K H O vs ds ∧ ds.length ≤ big := by
  rcases h.bo (H1 := H0) with h' | ⟨p, e, hp, vs, h1, h2, h3⟩
  · cases h' with
    | lst hh n r => exact ⟨_, _, rfl, hh.sq, r, n⟩
  · exact ⟨p, vs, e, .of h1, h2, h3⟩
theorem Res.tuple {ds : List PyData} (h : Res K H0 H O fl v (.tuple ds)) : ∃ p vs, v = .ref p ∧ SqT K H p vs ∧ RpAll K H O vs ds ∧ ds.length ≤ big := by
  rcases h.bo (H1 := H0) with h' | ⟨p, e, hp, h⟩
  · cases h' with
    | tup hh n r => exact ⟨_, _, rfl, hh, r, n⟩
  · exact h.elim
theorem Res.int {i : Int} (h : Res K H0 H O fl v (.int i)) : v = .int i := by
  rcases h.bo (H1 := H0) with h | ⟨p, e, hp, h⟩
  · cases h; rfl
  · exact h.elim
theorem Res.bool {i : Bool} (h : Res K H0 H O fl v (.bool i)) : v = .bl i := by
  rcases h.bo (H1 := H0) with h | ⟨p, e, hp, h⟩
  · cases h; rfl
  · exact h.elim
theorem Res.none_ (h : Res K H0 H O fl v .none) : v = .non := by
  rcases h.bo (H1 := H0) with h | ⟨p, e, hp, h⟩
  · cases h; rfl
  · exact h.elim
theorem Res.str {i : Str} (h : Res K H0 H O fl v (.str i)) : v = .str i ∧ i.length ≤ big := by
  rcases h.bo (H1 := H0) with h | ⟨p, e, hp, h⟩
  · cases h with | str _ n => exact ⟨rfl, n⟩
  · exact h.elim
theorem Res.dp (c : PyData.canLay0 d = true) (h : Res K H0 H O fl v d) : Dp K H v d := by
  rcases h.bo (H1 := H0) with h | ⟨p, e, hp, h⟩
  · exact h.dp c
  · cases d with
    | list ds =>
      obtain ⟨vs, h1, h2, h3⟩ := h
      subst e
      exact .lst (.of h1) (h2.dp (by unfold PyData.canLay0 at c; exact c))
    | dict kvs' => unfold PyData.canLay0 at c; cases c
    | _ => exact h.elim
/-- scalars are of any kind -/
def flatD : PyData → Bool
  | .none | .bool _ | .int _ | .str _ => true
  | _ => false
theorem Res.flat (h : Rp K H O v d) (f : flatD d = true) : Res K H0 H O fl v d := by
  cases fl with
  | bo => exact .inl h
  | sh => exact h
  | fr => exact ⟨h, fun ds e => by subst e; cases f⟩
  | fd => exact ⟨h, fun tk kvs e => by subst e; cases f⟩
theorem Res.nolist (h : Rp K H O v d) (f : ∀ ds, d ≠ .list ds) (f2 : ∀ tk kvs, d ≠ dD false tk kvs := by intro _ _ e; unfold dD at e; cases e) : Res K H0 H O fl v d := by
  cases fl with
  | bo => exact .inl h
  | sh => exact h
  | fr => exact ⟨h, fun ds e => absurd e (f ds)⟩
  | fd => exact ⟨h, fun tk kvs e => absurd e (f2 tk kvs)⟩
end

inductive ResAll (K : PySem.W.Frag) (H0 H : Hp) (O : List Addr) : List Fl → List V → List PyData → Prop
  | nil : ResAll K H0 H O [] [] []
  | cons {fl : Fl} {fls : List Fl} {v : V} {vs : List V} {d : PyData} {ds : List PyData} (h : Res K H0 H O fl v d) (t : ResAll K H0 H O fls vs ds) : ResAll K H0 H O (fl :: fls) (v :: vs) (d :: ds)
section
variable {K : PySem.W.Frag} {H0 H1 H H' : Hp} {O O' G : List Addr}
theorem ResAll.mono (s : Same H H') : ∀ {fls : List Fl} {vs : List V} {ds : List PyData}, ResAll K H0 H O fls vs ds → ResAll K H0 H' O fls vs ds
  | _, _, _, .nil => .nil
  | _, _, _, .cons h t => .cons (h.mono s) (t.mono s)
theorem ResAll.back (s : Same H0 H1) : ∀ {fls : List Fl} {vs : List V} {ds : List PyData}, ResAll K H1 H O fls vs ds → ResAll K H0 H O fls vs ds
  | _, _, _, .nil => .nil
  | _, _, _, .cons h t => .cons (h.back s) (t.back s)
/-- no borrowed one -/
def storable : List Fl → Bool
  | [] => true
  | .bo :: _ => false
  | _ :: r => storable r
theorem Res.stored {fl : Fl} {v : V} {d : PyData} (h : Res K H0 H O fl v d) (hf : storable [fl] = true) : Rp K H O v d := by
  cases fl with
  | bo => cases hf
  | sh => exact h
  | fr => exact h.1
  | fd => exact h.1
theorem ResAll.rp : ∀ {fls : List Fl} {vs : List V} {ds : List PyData}, ResAll K H0 H O fls vs ds → storable fls = true → RpAll K H O vs ds
  | _, _, _, .nil, _ => .nil
  | fl :: _, _, _, .cons h t, s => by
    cases fl with
    | bo => cases s
    | sh => exact .cons (h.stored rfl) (t.rp s)
    | fr => exact .cons (h.stored rfl) (t.rp s)
    | fd => exact .cons (h.stored rfl) (t.rp s)
end

/-! ### the slots -/
structure EnvR (K : PySem.W.Frag) (Γ : List Nat) (F : List Addr) (GO : List (Nat × Addr)) (σ : L2.St) (H : Hp) (ρ : Ev) : Prop where
  len : ρ.length = σ.length
  dom : GO.map (·.1) = Γ
  inj : (GO.map (·.2)).Nodup
  dis : ∀ p, p ∈ GO.map (·.2) → p ∉ F
  frn : ∀ b, b ∈ F → H b ≠ none
  own : ∀ i p, (i, p) ∈ GO → σ[i]? = some (some (.ref p)) ∧ ∃ d, ρ[i]? = some (some d) ∧ Own K H (GO.map (·.2) ++ F) p d
  sh : ∀ i d, i ∉ Γ → ρ[i]? = some (some d) → ∃ v, σ[i]? = some (some v) ∧ Rp K H (GO.map (·.2) ++ F) v d
section
variable {K : PySem.W.Frag} {Γ : List Nat} {F : List Addr} {GO : List (Nat × Addr)} {σ : L2.St} {H H' : Hp} {ρ : Ev}
theorem EnvR.mono (s : Same H H') (e : EnvR K Γ F GO σ H ρ) : EnvR K Γ F GO σ H' ρ where
  len := e.len
  dom := e.dom
  inj := e.inj
  dis := e.dis
  frn := fun b hb z => by
    cases q : H b with
    | none => exact e.frn b hb q
    | some o => rw [s b o q] at z; cases z
  own := fun i p hp => let ⟨h1, d, h2, h3⟩ := e.own i p hp; ⟨h1, d, h2, h3.mono (.same s) (fun z => nomatch z)⟩
  sh := fun i d hi hd => let ⟨v, h1, h2⟩ := e.sh i d hi hd; ⟨v, h1, h2.mono (.same s)⟩
theorem EnvR.alive (e : EnvR K Γ F GO σ H ρ) : ∀ b, b ∈ GO.map (·.2) ++ F → H b ≠ none := fun b hb => by
  rcases List.mem_append.mp hb with hb | hb
  · obtain ⟨⟨i, p⟩, hp, rfl⟩ := List.mem_map.mp hb
    obtain ⟨_, d, _, h3⟩ := e.own i p hp
    obtain ⟨o, z, _⟩ := h3.mut
    show H p ≠ none
    rw [z]
    exact fun z => nomatch z
  · exact e.frn b hb
theorem EnvR.newp (e : EnvR K Γ F GO σ H ρ) {p : Addr} (hp : H p = none) : p ∉ GO.map (·.2) ++ F := fun hb => e.alive p hb hp
/-- a value is put into a slot that owns nothing -/
theorem EnvR.setS (e : EnvR K Γ F GO σ H ρ) {i : Nat} {v : V} {d : PyData} (hi : i ∉ Γ) (h : Rp K H (GO.map (·.2) ++ F) v d) : EnvR K Γ F GO (σ.set i (some v)) H (ρ.set i (some d)) where
  len := by rw [List.length_set, List.length_set, e.len]
  dom := e.dom
  inj := e.inj
  dis := e.dis
  frn := e.frn
  own := fun j p hp => by
    have hj : i ≠ j := fun z => hi (by rw [← e.dom, z]; exact List.mem_map.mpr ⟨_, hp, rfl⟩)
    obtain ⟨h1, d', h2, h3⟩ := e.own j p hp
    exact ⟨by rw [List.getElem?_set_ne hj]; exact h1, d', by rw [List.getElem?_set_ne hj]; exact h2, h3⟩
  sh := fun j d' hj hd => by
    by_cases hij : i = j
    · subst hij
      by_cases hl : i < ρ.length
      · rw [List.getElem?_set_self hl] at hd
        cases hd
        exact ⟨v, by rw [List.getElem?_set_self (by rw [← e.len]; exact hl)], h⟩
      · rw [List.getElem?_eq_none (by rw [List.length_set]; omega)] at hd; cases hd
    · rw [List.getElem?_set_ne hij] at hd ⊢
      exact e.sh j d' hj hd
/-- slots forgotten -/
theorem EnvR.kill1 (e : EnvR K Γ F GO σ H ρ) {i : Nat} (hi : i ∉ Γ) : EnvR K Γ F GO σ H (ρ.set i none) where
  len := by rw [List.length_set, e.len]
  dom := e.dom
  inj := e.inj
  dis := e.dis
  frn := e.frn
  own := fun j p hp => by
    have hj : i ≠ j := fun z => hi (by rw [← e.dom, z]; exact List.mem_map.mpr ⟨_, hp, rfl⟩)
    obtain ⟨h1, d', h2, h3⟩ := e.own j p hp
    exact ⟨h1, d', by rw [List.getElem?_set_ne hj]; exact h2, h3⟩
  sh := fun j d' hj hd => by
    by_cases hij : i = j
    · subst hij
      by_cases hl : i < ρ.length
      · rw [List.getElem?_set_self hl] at hd; cases hd
      · rw [List.getElem?_eq_none (by rw [List.length_set]; omega)] at hd; cases hd
    · rw [List.getElem?_set_ne hij] at hd
      exact e.sh j d' hj hd
theorem EnvR.wipe1 (e : EnvR K Γ F GO σ H ρ) {i : Nat} (hi : i ∉ Γ) : EnvR K Γ F GO (σ.set i none) H (ρ.set i none) where
  len := by rw [List.length_set, List.length_set, e.len]
  dom := e.dom
  inj := e.inj
  dis := e.dis
  frn := e.frn
  own := fun j p hp => by
    have hj : i ≠ j := fun z => hi (by rw [← e.dom, z]; exact List.mem_map.mpr ⟨_, hp, rfl⟩)
    obtain ⟨h1, d', h2, h3⟩ := e.own j p hp
    exact ⟨by rw [List.getElem?_set_ne hj]; exact h1, d', by rw [List.getElem?_set_ne hj]; exact h2, h3⟩
  sh := fun j d' hj hd => by
    by_cases hij : i = j
    · subst hij
      by_cases hl : i < ρ.length
      · rw [List.getElem?_set_self hl] at hd; cases hd
      · rw [List.getElem?_eq_none (by rw [List.length_set]; omega)] at hd; cases hd
    · rw [List.getElem?_set_ne hij] at hd ⊢
      exact e.sh j d' hj hd
theorem EnvR.killAll (e : EnvR K Γ F GO σ H ρ) : ∀ {is : List Nat}, (∀ i, i ∈ is → i ∉ Γ) → EnvR K Γ F GO σ H (kill ρ is)
  | [], _ => e
  | i :: is, h => (e.killAll fun j hj => h j (List.mem_cons_of_mem _ hj)).kill1 (h i List.mem_cons_self)
theorem EnvR.wipeAll (e : EnvR K Γ F GO σ H ρ) : ∀ {is : List Nat}, (∀ i, i ∈ is → i ∉ Γ) → EnvR K Γ F GO (wipe σ is) H (kill ρ is)
  | [], _ => e
  | i :: is, h => (e.wipeAll fun j hj => h j (List.mem_cons_of_mem _ hj)).wipe1 (h i List.mem_cons_self)
/-- owned slots given up -/
theorem EnvR.freeze (e : EnvR K Γ F GO σ H ρ) (q : Nat → Bool) : EnvR K (Γ.filter q) F (GO.filter fun z => q z.1) σ H ρ := by
  have sub : ∀ b, b ∈ (GO.filter fun z => q z.1).map (·.2) ++ F → b ∈ GO.map (·.2) ++ F := fun b hb => by
    rcases List.mem_append.mp hb with hb | hb
    · obtain ⟨z, hz, rfl⟩ := List.mem_map.mp hb
      exact List.mem_append_left _ (List.mem_map.mpr ⟨z, (List.mem_filter.mp hz).1, rfl⟩)
    · exact List.mem_append_right _ hb
  have g : Grow [] (GO.map (·.2) ++ F) ((GO.filter fun z => q z.1).map (·.2) ++ F) H H := .sub_ (.refl H) sub
  refine ⟨e.len, ?_, ?_, fun p hp => ?_, e.frn, fun i p hp => ?_, fun i d hi hd => ?_⟩
  · rw [← e.dom, List.filter_map]; rfl
  · exact e.inj.sublist (List.filter_sublist.map _)
  · obtain ⟨z, hz, rfl⟩ := List.mem_map.mp hp
    exact e.dis _ (List.mem_map.mpr ⟨z, (List.mem_filter.mp hz).1, rfl⟩)
  · obtain ⟨h1, d, h2, h3⟩ := e.own i p (List.mem_filter.mp hp).1
    exact ⟨h1, d, h2, h3.mono g (fun z => nomatch z)⟩
  · by_cases hg : i ∈ Γ
    · rw [← e.dom] at hg
      obtain ⟨⟨j, p⟩, hp, rfl⟩ := List.mem_map.mp hg
      obtain ⟨h1, d', h2, h3⟩ := e.own j p hp
      have hd' : ρ[j]? = some (some d) := hd
      rw [h2] at hd'
      cases hd'
      refine ⟨.ref p, h1, (h3.mono g (fun z => nomatch z)).rp fun hb => ?_⟩
      rcases List.mem_append.mp hb with hb | hb
      · obtain ⟨⟨j2, p2⟩, hz, hp2⟩ := List.mem_map.mp hb
        obtain ⟨hz1, hz2⟩ := List.mem_filter.mp hz
        have : j2 = j := by
          -- unlike slots own unlike objects
          have hp2' : p2 = p := hp2
          subst hp2'
          obtain ⟨i1, hi1, e1⟩ := List.mem_iff_getElem.mp hp
          obtain ⟨i2, hi2, e2⟩ := List.mem_iff_getElem.mp hz1
          have n := e.inj
          have a1 : (GO.map (·.2))[i1]? = some p2 := by rw [List.getElem?_map, List.getElem?_eq_getElem hi1, e1]; rfl
          have a2 : (GO.map (·.2))[i2]? = some p2 := by rw [List.getElem?_map, List.getElem?_eq_getElem hi2, e2]; rfl
          have q12 : i1 = i2 := by
            obtain ⟨b1, c1⟩ := List.getElem?_eq_some_iff.mp a1
            obtain ⟨b2, c2⟩ := List.getElem?_eq_some_iff.mp a2
            exact (List.getElem_inj n).mp (c1.trans c2.symm)
          subst q12
          rw [e1] at e2
          exact (congrArg Prod.fst e2).symm
        subst this
        exact hi (List.mem_filter.mpr ⟨by rw [← e.dom]; exact List.mem_map.mpr ⟨_, hp, rfl⟩, hz2⟩)
      · exact e.dis p (List.mem_map.mpr ⟨_, hp, rfl⟩) hb
    · obtain ⟨v, h1, h2⟩ := e.sh i d hg hd
      exact ⟨v, h1, h2.mono g⟩
end
end DL
set_option Elab.async false
set_option linter.all false
set_option maxRecDepth 100000
/-! The D layer's rules: each construct's reading is a plain function (DSem). -/
namespace DL
open PySem PySem.Spec PyProof.Rows L2

/-! ### judgements -/
abbrev MG := Str → Option Value
def W0 : WX := fun _ _ _ _ => False
/-- what is left to be shown of a result -/
def FinG {α : Type} (mg : MG) (W : WX) (σ : L2.St) (H : Hp) (r : R α) (P : α → Prop) : Prop := match r with
  | .ok a => P a
  | .exc c => ∀ C H', mg c = some (.ref C) → Same H H' → W (.ref C) none σ H'
  | .bad => False
section
variable {α β : Type} {mg : MG} {W : WX} {σ : L2.St} {H H1 : Hp} {r : R α} {P P' : α → Prop}
theorem FinG.bind {f : α → R β} {P : β → Prop} (h : FinG mg W σ H (r.bind f) P) : FinG mg W σ H r fun a => FinG mg W σ H (f a) P := by
  cases r <;> exact h
theorem FinG.imp (h : FinG mg W σ H r P) (w : ∀ a, r = .ok a → P a → P' a) : FinG mg W σ H r P' := by
  cases r with
  | ok a => exact w a rfl h
  | exc c => exact h
  | bad => exact h
theorem FinG.mono (s : Same H H1) (h : FinG mg W σ H r P) (w : ∀ a, r = .ok a → P a → P' a) : FinG mg W σ H1 r P' := by
  cases r with
  | ok a => exact w a rfl h
  | exc c => exact fun C H' hc s' => h C H' hc (s.trans s')
  | bad => exact h
end
abbrev Ads (GO : List (Nat × Addr)) : List Addr := GO.map (·.2)
/-- where a piece of code begins: the slots' values -/
def At (K : PySem.W.Frag) (Γ : List Nat) (σ : L2.St) (H : Hp) (k : Ev → List Addr → List (Nat × Addr) → Prop) : Prop := ∃ ρ F GO, EnvR K Γ F GO σ H ρ ∧ k ρ F GO
def PE_ (K : PySem.W.Frag) (H : Hp) (O : List Addr) (fl : Fl) (Q : VK) (d : Da) : Prop := ∀ v H', Same H H' → Res K H H' O fl v d → Q v H'
def tDE (K : PySem.W.Frag) (mg : MG) (W : WX) (Γ : List Nat) (fl : Fl) (se : SE) : TE := fun σ H Q => At K Γ σ H fun ρ F GO => FinG mg W σ H (se ρ) (PE_ K H (Ads GO ++ F) fl Q)
def tDT (K : PySem.W.Frag) (mg : MG) (W : WX) (Γ : List Nat) (se : SE) : TT := fun σ H Q => At K Γ σ H fun ρ F GO => FinG mg W σ H (se ρ) fun d => ∀ H', Same H H' → Q (tru d) H'
def tDA (K : PySem.W.Frag) (mg : MG) (W : WX) (Γ : List Nat) (fls : List Fl) (sa : SA) : TA := fun σ H Q => At K Γ σ H fun ρ F GO => FinG mg W σ H (sa ρ) fun ds => ∀ vs H', Same H H' → ResAll K H H' (Ads GO ++ F) fls vs ds → Q vs H'
def DE (X : Cx) (W : WX) (Γ : List Nat) (e : Expr) (fl : Fl) (se : SE) : Prop := PE X e (tDE X.K X.mg W Γ fl se)
def DT (X : Cx) (W : WX) (Γ : List Nat) (e : Expr) (se : SE) : Prop := PT X e (tDT X.K X.mg W Γ se)
def DW (X : Cx) (W : WX) (Γ : List Nat) (e : Expr) (se : SE) : Prop := PW X e (tDT X.K X.mg W Γ se)
def DA (X : Cx) (W : WX) (Γ : List Nat) (es : List Expr) (fls : List Fl) (sa : SA) : Prop := PA X es (tDA X.K X.mg W Γ fls sa)

section
variable {X : Cx} {e : Expr} {es : List Expr}
theorem pe_imp {t t' : TE} (h : PE X e t) (w : ∀ σ H Q, t' σ H Q → t σ H Q) : PE X e t' := ⟨fun pins s σ H Q I q => h.run pins s σ H Q I (w _ _ _ q)⟩
theorem pt_imp {t t' : TT} (h : PT X e t) (w : ∀ σ H Q, t' σ H Q → t σ H Q) : PT X e t' := ⟨fun pins s σ H Q I q => h.run pins s σ H Q I (w _ _ _ q)⟩
theorem pw_imp {t t' : TT} (h : PW X e t) (w : ∀ σ H Q, t' σ H Q → t σ H Q) : PW X e t' := ⟨fun wh pins s σ H Q I q => h.run wh pins s σ H Q I (w _ _ _ q)⟩
theorem pa_imp {t t' : TA} (h : PA X es t) (w : ∀ σ H Q, t' σ H Q → t σ H Q) : PA X es t' := ⟨fun pos pins s σ H Q I q => h.run pos pins s σ H Q I (w _ _ _ q)⟩
end

section
variable {K : PySem.W.Frag} {mg : MG} {W : WX} {Γ : List Nat} {F : List Addr} {GO : List (Nat × Addr)} {σ : L2.St} {H H' H1 : Hp} {ρ : Ev} {O : List Addr}
/-- the first part runs, then the rest -/
theorem at_e {β : Type} (E : EnvR K Γ F GO σ H ρ) {fl : Fl} {se : SE} {f : Da → R β} {P : β → Prop} {R' : V → Hp → Prop} (h : FinG mg W σ H ((se ρ).bind f) P)
    (hk : ∀ d v H1, Same H H1 → Res K H H1 (Ads GO ++ F) fl v d → EnvR K Γ F GO σ H1 ρ → FinG mg W σ H1 (f d) P → R' v H1) : tDE K mg W Γ fl se σ H R' :=
  ⟨ρ, F, GO, E, h.bind.imp fun d _ q v H1 s r => hk d v H1 s r (E.mono s) (q.mono s fun _ _ z => z)⟩
theorem at_t {β : Type} (E : EnvR K Γ F GO σ H ρ) {se : SE} {f : Da → R β} {P : β → Prop} {R' : Bool → Hp → Prop} (h : FinG mg W σ H ((se ρ).bind f) P)
    (hk : ∀ d H1, Same H H1 → EnvR K Γ F GO σ H1 ρ → FinG mg W σ H1 (f d) P → R' (tru d) H1) : tDT K mg W Γ se σ H R' :=
  ⟨ρ, F, GO, E, h.bind.imp fun d _ q H1 s => hk d H1 s (E.mono s) (q.mono s fun _ _ z => z)⟩
theorem at_a {β : Type} (E : EnvR K Γ F GO σ H ρ) {fls : List Fl} {sa : SA} {f : List Da → R β} {P : β → Prop} {R' : List V → Hp → Prop} (h : FinG mg W σ H ((sa ρ).bind f) P)
    (hk : ∀ ds vs H1, Same H H1 → ResAll K H H1 (Ads GO ++ F) fls vs ds → EnvR K Γ F GO σ H1 ρ → FinG mg W σ H1 (f ds) P → R' vs H1) : tDA K mg W Γ fls sa σ H R' :=
  ⟨ρ, F, GO, E, h.bind.imp fun d _ q v H1 s r => hk d v H1 s r (E.mono s) (q.mono s fun _ _ z => z)⟩
theorem PE_.mono {fl : Fl} {Q : VK} {d : Da} (s : Same H H1) (h : PE_ K H O fl Q d) : PE_ K H1 O fl Q d := fun v H' s' r => h v H' (s.trans s') (r.back s)
/-- an answer -/
theorem PE_.now {fl : Fl} {Q : VK} {d : Da} {v : V} (h : PE_ K H O fl Q d) (r : Res K H H O fl v d) : Q v H := h v H (.refl H) r
theorem same_upd {p : Addr} {o : HO} (h : H p = none) : Same H (upd H p o) := fun b x e => by
  rw [upd_ne (ne_of_none e h)]
  exact e
theorem Grow.more {p : Addr} (s : Same H H1) (hp : H p = none) : Grow [] O (p :: O) H H1 where
  keep := .of_same s
  sub := fun _ z => (List.not_mem_nil z).elim
  new := fun b hb => by
    rcases List.mem_cons.mp hb with e | hb
    · subst e; exact .inr hp
    · exact .inl hb
/-- a new tuple, a new list -/
theorem PE_.newT {fl : Fl} {Q : VK} {ds : List Da} {vs : List V} {p : Addr} (h : PE_ K H O fl Q (.tuple ds)) (r : RpAll K H O vs ds) (n : ds.length ≤ big) (hp : H p = none) : Q (.ref p) (upd H p (.tup vs)) :=
  h _ _ (same_upd hp) (.nolist (.tup (.of upd_same) n (r.mono (.same (same_upd hp)))) fun _ e => nomatch e)
theorem PE_.newL {Q : VK} {ds : List Da} {vs : List V} {p : Addr} (h : PE_ K H O .fr Q (.list ds)) (r : RpAll K H O vs ds) (n : ds.length ≤ big) (hp : H p = none) (ho : p ∉ O) : Q (.ref p) (upd H p (.lst vs)) := by
  have r1 : RpAll K (upd H p (.lst vs)) O vs ds := r.mono (.same (same_upd hp))
  have r2 : RpAll K (upd H p (.lst vs)) (p :: O) vs ds := r.mono (Grow.more (same_upd hp) hp)
  refine h _ _ (same_upd hp) ⟨.lst (.inl ⟨.inl upd_same, ho⟩) n r1, fun ds' e => ?_⟩
  cases e
  exact ⟨p, rfl, hp, vs, upd_same, r2, n⟩
end

/-! ### names, constants -/
abbrev flOf (Γ : List Nat) (i : Nat) : Fl := match Γ.contains i with
  | true => .bo
  | false => .sh
section
variable {X : Cx} {W : WX} {Γ : List Nat}
theorem de_var {i : Nat} {x : Str} {pos : Pos} (hN : X.N[i]? = some x) (hv : Vis X.env.scope x) (hd : (x == ("__debug__" : Str)) = false := by decide) (hcd : (x == ("__classdict__" : Str)) = false := by decide) :
    DE X W Γ (.Name x pos) (flOf Γ i) (eVar i) := pe_imp (pe_var hN hv hd hcd) fun σ H Q h => by
  obtain ⟨ρ, F, GO, E, h⟩ := h
  have h' : FinG X.mg W σ H (vGet ρ[i]?) (PE_ X.K H (Ads GO ++ F) (flOf Γ i) Q) := h
  cases e : ρ[i]? with
  | none => rw [e] at h'; exact h'.elim
  | some o =>
    rw [e] at h'
    cases o with
    | none => exact h'.elim
    | some d =>
      have h2 : PE_ X.K H (Ads GO ++ F) (flOf Γ i) Q d := h'
      unfold flOf at h2
      by_cases hi : i ∈ Γ
      · rw [List.contains_iff_mem.mpr hi] at h2
        rw [← E.dom] at hi
        obtain ⟨⟨j, p⟩, hp, rfl⟩ := List.mem_map.mp hi
        obtain ⟨h1, d', h3, h4⟩ := E.own j p hp
        have e' : ρ[j]? = some (some d) := e
        rw [h3] at e'
        cases e'
        exact ⟨.ref p, h1, h2.now (.inr ⟨p, rfl, List.mem_append_left _ (List.mem_map.mpr ⟨_, hp, rfl⟩), h4⟩)⟩
      · have c : Γ.contains i = false := by
          cases q : Γ.contains i with
          | false => rfl
          | true => exact absurd (List.contains_iff_mem.mp q) hi
        rw [c] at h2
        obtain ⟨v, h1, h3⟩ := E.sh i d hi e
        exact ⟨v, h1, h2.now h3⟩
/-- the i-th name of the def -/
def visB (sc : Scope) (x : Str) : Bool := match sc.names.lookup x with
  | some .local => true
  | some .cell => true
  | some .free => true
  | _ => false
theorem vis_of {sc : Scope} {x : Str} (h : visB sc x = true) : Vis sc x := by
  unfold visB at h
  split at h
  · exact .inl (by assumption)
  · exact .inr (.inl (by assumption))
  · exact .inr (.inr (by assumption))
  · cases h
def nameOk (N : List Str) (sc : Scope) (i : Nat) (x : Str) : Bool := decide (N[i]? = some x) && (visB sc x && (!(x == ("__debug__" : Str)) && !(x == ("__classdict__" : Str))))
theorem nameOk_of {N : List Str} {sc : Scope} {i : Nat} {x : Str} (h : nameOk N sc i x = true) : N[i]? = some x ∧ Vis sc x ∧ (x == ("__debug__" : Str)) = false ∧ (x == ("__classdict__" : Str)) = false := by
  unfold nameOk at h
  simp only [Bool.and_eq_true, decide_eq_true_eq, Bool.not_eq_true'] at h
  exact ⟨h.1, vis_of h.2.1, h.2.2.1, h.2.2.2⟩
theorem dv (i : Nat) {x : Str} {pos : Pos} (h : nameOk X.N X.env.scope i x = true := by kernel_rfl) : DE X W Γ (.Name x pos) (flOf Γ i) (eVar i) :=
  let h' := nameOk_of h
  de_var h'.1 h'.2.1 h'.2.2.1 h'.2.2.2
theorem de_c {e : Expr} {v : V} {d : Da} {fl : Fl} (h : PE X e (tC v)) (r : ∀ H O, Rp X.K H O v d) (f : flatD d = true) : DE X W Γ e fl (eC d) := pe_imp h fun σ H Q h => by
  obtain ⟨ρ, F, GO, E, h⟩ := h
  have h2 : PE_ X.K H (Ads GO ++ F) fl Q d := h
  exact h2.now (.flat (r _ _) f)
theorem de_int {i : Int} {j pos} : DE X W Γ (.Constant (.int i) j pos) .fr (eC (.int i)) := de_c pe_int (fun _ _ => .int i) rfl
theorem de_bl {b : Bool} {j pos} : DE X W Γ (.Constant (.bool b) j pos) .fr (eC (.bool b)) := de_c pe_bl (fun _ _ => .bl b) rfl
theorem de_non {j pos} : DE X W Γ (.Constant .none j pos) .fr (eC .none) := de_c pe_non (fun _ _ => .non) rfl
theorem de_str {x : Str} {j pos} (h : x.length ≤ big := by decide) : DE X W Γ (.Constant (.str x) j pos) .fr (eC (.str x)) := de_c pe_str (fun _ _ => .str x h) rfl
/-- a module's int -/
theorem de_globI {x : Str} {i : Int} {pos : Pos} (hg : Gl X x) (hm : ∃ t, X.mg x = some (.int i t)) (hd : (x == ("__debug__" : Str)) = false := by decide) : DE X W Γ (.Name x pos) .fr (eC (.int i)) := by
  obtain ⟨t, hm⟩ := hm
  exact de_c (v := .int i) (pe_glob hg hm ⟨t, rfl⟩ hd) (fun _ _ => .int i) rfl
/-- kinds of answers made weaker -/
theorem Res.toSh {K : PySem.W.Frag} {H0 H : Hp} {O : List Addr} {fl : Fl} {v : V} {d : Da} (f : storable [fl] = true) (r : Res K H0 H O fl v d) : Res K H0 H O .sh v d := r.stored f
theorem de_sh {e : Expr} {fl : Fl} {se : SE} (h : DE X W Γ e fl se) (f : storable [fl] = true := by kernel_rfl) : DE X W Γ e .sh se := pe_imp h fun σ H Q ⟨ρ, F, GO, E, q⟩ => ⟨ρ, F, GO, E, q.imp fun d _ z v H' s r => z v H' s (r.toSh f)⟩
theorem de_bo {e : Expr} {fl : Fl} {se : SE} (h : DE X W Γ e fl se) : DE X W Γ e .bo se := pe_imp h fun σ H Q ⟨ρ, F, GO, E, q⟩ => ⟨ρ, F, GO, E, q.imp fun d _ z v H' s r => z v H' s r.bo⟩

/-! ### operators -/
/-- the reading r of values does what f does of data -/
def OpS (X : Cx) (r : R2) (fl : Fl) (f : Da → Da → R Da) : Prop :=
  ∀ (mg : MG) (W : WX) (σ : L2.St) (O : List Addr) (H0 H : Hp) (x y : V) (a b : Da) (Q : VK), (∀ p, H p = none → p ∉ O) → Res X.K H0 H O .bo x a → Res X.K H0 H O .bo y b → FinG mg W σ H (f a b) (PE_ X.K H O fl Q) → r x y H Q
def UnS (X : Cx) (r : V → Hp → VK → Prop) (fl : Fl) (f : Da → R Da) : Prop :=
  ∀ (mg : MG) (W : WX) (σ : L2.St) (O : List Addr) (H0 H : Hp) (x : V) (a : Da) (Q : VK), (∀ p, H p = none → p ∉ O) → Res X.K H0 H O .bo x a → FinG mg W σ H (f a) (PE_ X.K H O fl Q) → r x H Q
def CallS (X : Cx) (r : List V → Hp → VK → Prop) (fl : Fl) (f : List Da → R Da) : Prop :=
  ∀ (mg : MG) (W : WX) (σ : L2.St) (O : List Addr) (H0 H : Hp) (fls : List Fl) (xs : List V) (as : List Da) (Q : VK), (∀ p, H p = none → p ∉ O) → ResAll X.K H0 H O fls xs as → FinG mg W σ H (f as) (PE_ X.K H O fl Q) → r xs H Q
variable {a b : Expr} {fa fb fl : Fl} {sa sb : SE} {pos : Pos}
theorem EnvR.fresh {K : PySem.W.Frag} {F : List Addr} {GO : List (Nat × Addr)} {σ : L2.St} {H : Hp} {ρ : Ev} (E : EnvR K Γ F GO σ H ρ) : ∀ p, H p = none → p ∉ Ads GO ++ F := fun _ hp => E.newp hp
theorem bin_s {r : R2} {f : Da → Da → R Da} (hs : OpS X r fl f) (ta tb : TE) {σ : L2.St} {H : Hp} {Q : VK} (ha : tDE X.K X.mg W Γ fa sa σ H Q → True)
    (h : tDE X.K X.mg W Γ fl (e2 f sa sb) σ H Q) : tOp r (tDE X.K X.mg W Γ fa sa) (tDE X.K X.mg W Γ fb sb) σ H Q := by
  obtain ⟨ρ, F, GO, E, h⟩ := h
  refine at_e E h fun d v H1 s1 r1 E1 h1 => at_e E1 h1 fun d2 v2 H2 s2 r2 E2 h2 => ?_
  exact hs _ _ _ _ H2 H2 v v2 d d2 Q E2.fresh (r1.bo.mono s2) r2.bo (h2.imp fun _ _ z => z.mono (s1.trans s2))
theorem de_bin {op : Operator} {r : R2} {f : Da → Da → R Da} (ho : OpR X (binaryOp op) r) (hs : OpS X r fl f) (ha : DE X W Γ a fa sa) (hb : DE X W Γ b fb sb) : DE X W Γ (.BinOp a op b pos) fl (e2 f sa sb) :=
  pe_imp (pe_op ho ha hb) fun σ H Q h => bin_s hs (tDE X.K X.mg W Γ fa sa) (tDE X.K X.mg W Γ fb sb) (fun _ => trivial) h
theorem de_cmp {op : CmpOp} {r : R2} {f : Da → Da → R Da} (ho : OpR X (compareOp op) r) (hs : OpS X r fl f) (ha : DE X W Γ a fa sa) (hb : DE X W Γ b fb sb) (hm : behindInMarks op b = false) : DE X W Γ (.Compare a [op] [b] pos) fl (e2 f sa sb) :=
  pe_imp (pe_cmpR ho ha hb hm) fun σ H Q h => bin_s hs (tDE X.K X.mg W Γ fa sa) (tDE X.K X.mg W Γ fb sb) (fun _ => trivial) h
theorem de_ix {r : R2} {f : Da → Da → R Da} (ho : IxR X r) (hs : OpS X r fl f) (ha : DE X W Γ a fa sa) (hb : DE X W Γ b fb sb) (hp : PlainIx b) : DE X W Γ (.Subscript a b pos) fl (e2 f sa sb) :=
  pe_imp (pe_ix ho ha hb hp) fun σ H Q h => bin_s hs (tDE X.K X.mg W Γ fa sa) (tDE X.K X.mg W Γ fb sb) (fun _ => trivial) h
theorem de_un {op : UnaryOp} {r : V → Hp → VK → Prop} {f : Da → R Da} (ho : UnR X (unaryOp op) r) (hs : UnS X r fl f) (ha : DE X W Γ a fa sa) : DE X W Γ (.UnaryOp op a pos) fl (e1 f sa) :=
  pe_imp (pe_un ho ha) fun σ H Q h => by
    obtain ⟨ρ, F, GO, E, h⟩ := h
    exact at_e E h fun d v H1 s1 r1 E1 h1 => hs _ _ _ _ H1 H1 v d Q E1.fresh r1.bo (h1.imp fun _ _ z => z.mono s1)
end
end DL
set_option Elab.async false
set_option linter.all false
set_option maxRecDepth 100000
namespace DL
open PySem PySem.Spec PyProof.Rows L2

/-! ### what the operators do -/
section
variable {X : Cx}
theorem big_le {n : Nat} (h : n ≤ big) : n ≤ sizeLine := by rw [← big_line]; exact h
theorem sixD (n d : Nat) (o : Option Int) : sIxD n d o = HT.sIx n d o := by cases o <;> rfl
theorem cutD_V (xs : List V) (lo hi : Option Int) : cutD xs lo hi = cutV xs lo hi := by unfold cutD cutV; simp only [sixD]
theorem RpAll.cut {K : PySem.W.Frag} {H : Hp} {O : List Addr} {vs : List V} {ds : List Da} (r : RpAll K H O vs ds) (lo hi : Option Int) : RpAll K H O (cutV vs lo hi) (cutD ds lo hi) := by
  rw [← cutD_V]
  unfold cutD
  rw [r.length]
  exact (r.drop _).take _
theorem cutD_len {α : Type} (xs : List α) (lo hi : Option Int) : (cutD xs lo hi).length ≤ xs.length := by
  unfold cutD
  have h1 := List.length_take_le (sIxD xs.length xs.length hi - sIxD xs.length 0 lo) (xs.drop (sIxD xs.length 0 lo))
  have h2 := List.length_take_le' (sIxD xs.length xs.length hi - sIxD xs.length 0 lo) (xs.drop (sIxD xs.length 0 lo))
  rw [List.length_drop] at h2
  omega

def rCatL (K : PySem.W.Frag) : R2 := fun x y H Q => ∃ l b xs zs, x = .ref l ∧ y = .ref b ∧ SqL K H l xs ∧ SqL K H b zs ∧ xs.length + zs.length ≤ sizeLine ∧ ∀ p, H p = none → Q (.ref p) (upd H p (.lst (xs ++ zs)))
theorem op_catL : OpR X (binaryOp .Add) (rCatL X.K) := by
  intro pins s σ H x y v u Q I rx ry h
  obtain ⟨l, b, xs, zs, rfl, rfl, hH, hB, hz, q⟩ := h
  cases rx
  cases ry
  obtain ⟨its, r, ⟨⟨cls, dd, data, sl⟩, n, ho, hc, hd0, hd⟩, _⟩ := I.list hH
  obtain ⟨its2, r2, ⟨⟨cls2, dd2, data2, sl2⟩, n2, ho2, hc2, hd20, hd2⟩, _⟩ := I.list hB
  simp only at hc hd hc2 hd2
  subst hc hd hc2 hd2
  have e : its.toArray ++ its2.toArray = (its ++ its2).toArray := by simp
  have hl := r.length
  have hl2 := r2.length
  refine concat_meets ⟨_, ho, rfl⟩ ⟨_, ho2, rfl⟩ noFill_list_add seq_list_add PySem.F.slot_list_add PySem.F.entry_list_add (PySem.F.args_list_add_2 _ _) (list_addW l b its.toArray its2.toArray n n2 dd dd2 sl sl2 (by simp only [List.size_toArray]; omega)) ⟨ho, ho2, ?_⟩
  rw [e]
  exact ⟨.ref _, _, I.lnew (t' := s.toks) (r.append r2) (by rw [List.length_append]; omega), rfl, q _ I.fresh⟩

def rAddD (K : PySem.W.Frag) : R2 := fun x y H Q => (∃ i j, x = .int i ∧ y = .int j ∧ Q (.int (i + j)) H) ∨ (∃ i j, x = .str i ∧ y = .str j ∧ i.length + j.length ≤ sizeLine ∧ Q (.str (i ++ j)) H) ∨ rCatA K x y H Q ∨ rCatL K x y H Q
theorem op_addD : OpR X (binaryOp .Add) (rAddD X.K) := op_add.or (op_add_str.or (op_catA.or op_catL))
/-- an answer that is a scalar -/
theorem PE_.flat {K : PySem.W.Frag} {H : Hp} {O : List Addr} {fl : Fl} {Q : VK} {d : Da} {v : V} (h : PE_ K H O fl Q d) (r : Rp K H O v d) (f : flatD d = true) : Q v H := h.now (.flat r f)
theorem os_add : OpS X (rAddD X.K) .fr dAdd := by
  intro mg W σ O H0 H x y a b Q nw hx hy h
  unfold dAdd at h
  split at h
  · cases hx.int; cases hy.int
    exact .inl ⟨_, _, rfl, rfl, PE_.flat h (.int _) rfl⟩
  · obtain ⟨rfl, h1⟩ := hx.str
    obtain ⟨rfl, h2⟩ := hy.str
    split at h
    · rename_i hl
      exact .inr (.inl ⟨_, _, rfl, rfl, big_le hl, PE_.flat h (.str _ (by rw [Str.length_append]; exact hl)) rfl⟩)
    · exact h.elim
  · obtain ⟨p, vs, rfl, s1, r1, n1⟩ := hx.list
    obtain ⟨q, ws, rfl, s2, r2, n2⟩ := hy.list
    split at h
    · rename_i hl
      refine .inr (.inr (.inr ⟨p, q, vs, ws, rfl, rfl, s1, s2, by rw [r1.length, r2.length]; exact big_le hl, fun t ht => PE_.newL (K := X.K) (Q := Q) h (r1.append r2) (by rw [List.length_append]; exact hl) ht (nw t ht)⟩))
    · exact h.elim
  · obtain ⟨p, vs, rfl, s1, r1, n1⟩ := hx.tuple
    obtain ⟨q, ws, rfl, s2, r2, n2⟩ := hy.tuple
    split at h
    · rename_i hl
      refine .inr (.inr (.inl ⟨p, q, vs, ws, rfl, rfl, s1, s2, by rw [r1.length, r2.length]; exact big_le hl, fun e => ?_, fun _ e => ?_, fun _ _ t ht => ?_⟩))
      · subst e
        cases r1
        exact PE_.now h (.nolist (.tup s2 n2 r2) fun _ e => nomatch e)
      · subst e
        cases r2
        rw [List.append_nil] at h
        exact PE_.now h (.nolist (.tup s1 n1 r1) fun _ e => nomatch e)
      · exact PE_.newT h (r1.append r2) (by rw [List.length_append]; exact hl) ht
    · exact h.elim
  · exact h.elim
theorem os_sub : OpS X (rI0 fun i j => .int (i - j)) .fr dSub := by
  intro mg W σ O H0 H x y a b Q nw hx hy h
  unfold dSub at h
  split at h
  · cases hx.int; cases hy.int
    exact ⟨_, _, rfl, rfl, PE_.flat h (.int _) rfl⟩
  · exact h.elim
def CMulA (i j : Int) : Prop := CMul i j ∨ CMulW i j
theorem mulOk_c {i j : Int} (h : mulOk i j = true) : CMulA i j := by
  unfold mulOk at h
  rcases Bool.or_eq_true_iff.mp h with h | h
  · have := of_decide_eq_true h
    exact .inl (.inl ⟨by omega, by omega⟩)
  · rcases Bool.or_eq_true_iff.mp h with h | h
    · have := of_decide_eq_true h
      exact .inl (.inr ⟨by omega, by omega⟩)
    · exact .inr (show i.natAbs.log2 + j.natAbs.log2 < 1000000 from of_decide_eq_true h)
def rMulD : R2 := rI CMulA fun i j => .int (i * j)
theorem op_mulA : OpR X (binaryOp .Mult) rMulD := opI fun _ _ _ _ _ _ _ hc q => mul_int q (hc.elim CMul.ok CMulW.ok)
theorem os_mul : OpS X rMulD .fr mulI := by
  intro mg W σ O H0 H x y a b Q nw hx hy h
  unfold mulI at h
  split at h
  · cases hx.int; cases hy.int
    split at h
    · rename_i c
      exact ⟨_, _, rfl, rfl, mulOk_c c, PE_.flat h (.int _) rfl⟩
    · exact h.elim
  · exact h.elim
theorem os_div : OpS X (rI CDivN fun i j => .int (i.fdiv j)) .fr dDiv := by
  intro mg W σ O H0 H x y a b Q nw hx hy h
  unfold dDiv at h
  split at h
  · cases hx.int; cases hy.int
    split at h
    · rename_i c
      exact ⟨_, _, rfl, rfl, c, PE_.flat h (.int _) rfl⟩
    · exact h.elim
  · exact h.elim
theorem os_mod : OpS X (rI (fun _ j => j ≠ 0) fun i j => .int (i.fmod j)) .fr dMod := by
  intro mg W σ O H0 H x y a b Q nw hx hy h
  unfold dMod at h
  split at h
  · cases hx.int; cases hy.int
    split at h
    · rename_i c
      exact ⟨_, _, rfl, rfl, c, PE_.flat h (.int _) rfl⟩
    · exact h.elim
  · exact h.elim
theorem os_pow : OpS X (rI CPow fun i j => .int (i ^ j.toNat)) .fr dPow := by
  intro mg W σ O H0 H x y a b Q nw hx hy h
  unfold dPow at h
  split at h
  · cases hx.int; cases hy.int
    split at h
    · rename_i c
      exact ⟨_, _, rfl, rfl, c, PE_.flat h (.int _) rfl⟩
    · exact h.elim
  · exact h.elim
theorem os_and : OpS X (rI0 fun i j => .int (Builtin.bitAnd i j)) .fr dAnd := by
  intro mg W σ O H0 H x y a b Q nw hx hy h
  unfold dAnd at h
  split at h
  · cases hx.int; cases hy.int
    exact ⟨_, _, rfl, rfl, PE_.flat h (.int _) rfl⟩
  · exact h.elim
theorem us_neg : UnS X (rU fun i => .int (-i)) .fr dNeg := by
  intro mg W σ O H0 H x a Q nw hx h
  unfold dNeg at h
  split at h
  · cases hx.int
    exact ⟨_, rfl, PE_.flat h (.int _) rfl⟩
  · exact h.elim
theorem os_cmp {p : Int → Int → Bool} : OpS X (rI0 fun i j => .bl (p i j)) .fr (dCmp p) := by
  intro mg W σ O H0 H x y a b Q nw hx hy h
  unfold dCmp at h
  split at h
  · cases hx.int; cases hy.int
    exact ⟨_, _, rfl, rfl, PE_.flat h (.bl _) rfl⟩
  · exact h.elim
def rEqA (K : PySem.W.Frag) : R2 := fun x y H Q => rEq x y H Q ∨ rEqD K x y H Q
def rNeA (K : PySem.W.Frag) : R2 := fun x y H Q => rNe x y H Q ∨ rNeD K x y H Q
theorem op_eqA (hu : X.A.units + 64 < cLine) : OpR X (compareOp .Eq) (rEqA X.K) := op_eq.or (op_eqD hu)
theorem op_neA (hu : X.A.units + 64 < cLine) : OpR X (compareOp .NotEq) (rNeA X.K) := op_ne.or (op_neD hu)
theorem decI (i j : Int) : decide (V.int i = V.int j) = decide (i = j) := by
  by_cases h : i = j
  · subst h; simp
  · rw [decide_eq_false h, decide_eq_false fun e => h (by cases e; rfl)]
theorem decB (i j : Bool) : decide (V.bl i = V.bl j) = decide (i = j) := by cases i <;> cases j <;> rfl
theorem decS (i j : Str) : decide (V.str i = V.str j) = decide (i = j) := by
  by_cases h : i = j
  · subst h; simp
  · rw [decide_eq_false h, decide_eq_false fun e => h (by cases e; rfl)]
theorem os_eq : OpS X (rEqA X.K) .fr dEq := by
  intro mg W σ O H0 H x y a b Q nw hx hy h
  unfold dEq at h
  split at h
  · cases hx.int; cases hy.int
    exact .inl ⟨rfl, by rw [decI]; exact PE_.flat h (.bl _) rfl⟩
  · cases hx.bool; cases hy.bool
    exact .inl ⟨rfl, by rw [decB]; exact PE_.flat h (.bl _) rfl⟩
  · obtain ⟨rfl, _⟩ := hx.str
    obtain ⟨rfl, _⟩ := hy.str
    exact .inl ⟨rfl, by rw [decS]; exact PE_.flat h (.bl _) rfl⟩
  · cases hx.none_; cases hy.none_
    exact .inl ⟨rfl, PE_.flat h (.bl _) rfl⟩
  · cases hx.none_; cases hy.int
    exact .inl ⟨rfl, PE_.flat h (.bl _) rfl⟩
  · cases hx.int; cases hy.none_
    exact .inl ⟨rfl, PE_.flat h (.bl _) rfl⟩
  · unfold eqD at h
    split at h
    · rename_i c
      obtain ⟨c1, c2⟩ := Bool.and_eq_true_iff.mp c
      exact .inr ⟨_, _, hx.dp (SeqAt.canLay_of_shaped c1), hy.dp (SeqAt.canLay_of_shaped c2), c1, c2, PE_.flat h (.bl _) rfl⟩
    · exact h.elim
theorem os_ne : OpS X (rNeA X.K) .fr dNe := by
  intro mg W σ O H0 H x y a b Q nw hx hy h
  unfold dNe dEq at h
  split at h
  · cases hx.int; cases hy.int
    exact .inl ⟨rfl, by rw [decI]; exact PE_.flat h (.bl _) rfl⟩
  · cases hx.bool; cases hy.bool
    exact .inl ⟨rfl, by rw [decB]; exact PE_.flat h (.bl _) rfl⟩
  · obtain ⟨rfl, _⟩ := hx.str
    obtain ⟨rfl, _⟩ := hy.str
    exact .inl ⟨rfl, by rw [decS]; exact PE_.flat h (.bl _) rfl⟩
  · cases hx.none_; cases hy.none_
    exact .inl ⟨rfl, PE_.flat h (.bl _) rfl⟩
  · cases hx.none_; cases hy.int
    exact .inl ⟨rfl, PE_.flat h (.bl _) rfl⟩
  · cases hx.int; cases hy.none_
    exact .inl ⟨rfl, PE_.flat h (.bl _) rfl⟩
  · unfold eqD at h
    split at h
    · rename_i c
      obtain ⟨c1, c2⟩ := Bool.and_eq_true_iff.mp c
      exact .inr ⟨_, _, hx.dp (SeqAt.canLay_of_shaped c1), hy.dp (SeqAt.canLay_of_shaped c2), c1, c2, PE_.flat h (.bl _) rfl⟩
    · exact h.elim
/-! is None, is True -/
theorem Res.nonB {K : PySem.W.Frag} {H0 H : Hp} {O : List Addr} {fl : Fl} {v : V} {d : Da} (h : Res K H0 H O fl v d) : decide (v = .non) = isNone d := by
  rcases h.bo (H1 := H0) with h' | ⟨p, e, hp, ho⟩
  · cases h' <;> first | rfl | simp [isNone]
  · subst e
    cases d with
    | list ds => rfl
    | dict _ => rfl
    | _ => exact ho.elim
theorem op_isN_ : OpR X (compareOp .Is) (fun x y H Q => y = .non ∧ Q (.bl (decide (x = .non))) H) := op_isN
theorem de_isN {W : WX} {Γ : List Nat} {a : Expr} {fa : Fl} {sa : SE} {j : Nat} {pos pos' : Pos} (ha : DE X W Γ a fa sa) : DE X W Γ (.Compare a [.Is] [.Constant .none j pos'] pos) .fr (e1 dIsN sa) :=
  pe_imp (pe_cmp (pc_isN ha) rfl) fun σ H Q h => by
    obtain ⟨ρ, F, GO, E, h⟩ := h
    refine at_e E h fun d v H1 s1 r1 E1 h1 => ?_
    rw [r1.nonB]
    exact PE_.flat (PE_.mono s1 h1) (.bl _) rfl
theorem de_notN {W : WX} {Γ : List Nat} {a : Expr} {fa : Fl} {sa : SE} {j : Nat} {pos pos' : Pos} (ha : DE X W Γ a fa sa) : DE X W Γ (.Compare a [.IsNot] [.Constant .none j pos'] pos) .fr (e1 dNotN sa) :=
  pe_imp (pe_cmp (pc_notN ha) rfl) fun σ H Q h => by
    obtain ⟨ρ, F, GO, E, h⟩ := h
    refine at_e E h fun d v H1 s1 r1 E1 h1 => ?_
    rw [r1.nonB]
    exact PE_.flat (PE_.mono s1 h1) (.bl _) rfl
theorem de_isB {W : WX} {Γ : List Nat} {a : Expr} {fa : Fl} {sa : SE} {k : Bool} {j : Nat} {pos pos' : Pos} (ha : DE X W Γ a fa sa) : DE X W Γ (.Compare a [.Is] [.Constant (.bool k) j pos'] pos) .fr (e1 (dIsB k) sa) :=
  pe_imp (pe_cmpR op_isBl ha pe_bl (nomark _)) fun σ H Q h => by
    obtain ⟨ρ, F, GO, E, h⟩ := h
    refine at_e E h fun d v H1 s1 r1 E1 h1 => ?_
    unfold dIsB at h1
    split at h1
    · cases r1.bool
      exact ⟨_, _, rfl, rfl, PE_.flat (PE_.mono s1 h1) (.bl _) rfl⟩
    · exact h1.elim
theorem de_notB {W : WX} {Γ : List Nat} {a : Expr} {fa : Fl} {sa : SE} {k : Bool} {j : Nat} {pos pos' : Pos} (ha : DE X W Γ a fa sa) : DE X W Γ (.Compare a [.IsNot] [.Constant (.bool k) j pos'] pos) .fr (e1 (dIsNotB k) sa) :=
  pe_imp (pe_cmpR op_notBl ha pe_bl (nomark _)) fun σ H Q h => by
    obtain ⟨ρ, F, GO, E, h⟩ := h
    refine at_e E h fun d v H1 s1 r1 E1 h1 => ?_
    unfold dIsNotB at h1
    split at h1
    · cases r1.bool
      exact ⟨_, _, rfl, rfl, PE_.flat (PE_.mono s1 h1) (.bl _) rfl⟩
    · exact h1.elim

/-! places -/
theorem atD_I {α : Type} (xs : List α) (i : Int) {v : α} (h : atD xs i = some v) : atI xs i = some v := by
  unfold atD at h
  unfold atI ixN
  split at h
  · rename_i c
    rw [if_pos c]
    by_cases hl : i < xs.length
    · rw [if_pos hl]; exact h
    · rw [List.getElem?_eq_none (by omega)] at h; cases h
  · rename_i c
    rw [if_neg c]
    split at h
    · rename_i c2; rw [if_pos c2]; exact h
    · cases h
theorem atD_get {K : PySem.W.Frag} {H : Hp} {O : List Addr} {vs : List V} {ds : List Da} (r : RpAll K H O vs ds) {i : Int} {d : Da} (h : atD ds i = some d) : ∃ v, atD vs i = some v ∧ Rp K H O v d := by
  unfold atD at h ⊢
  rw [r.length]
  by_cases c : 0 ≤ i
  · rw [if_pos c] at h ⊢
    exact r.get h
  · rw [if_neg c] at h ⊢
    by_cases c2 : -(ds.length : Int) ≤ i
    · rw [if_pos c2] at h ⊢
      exact r.get h
    · rw [if_neg c2] at h
      cases h
theorem ix_any : IxR X (fun x y H Q => rIxL X.K x y H Q ∨ rIxT X.K x y H Q) := ix_list.or ix_tup
theorem os_ix : OpS X (fun x y H Q => rIxL X.K x y H Q ∨ rIxT X.K x y H Q) .sh dIx := by
  intro mg W σ O H0 H x y a b Q nw hx hy h
  unfold dIx at h
  split at h
  · rename_i ds i
    obtain ⟨p, vs, rfl, s1, r1, n1⟩ := hx.list
    cases hy.int
    cases e : atD ds i with
    | none => rw [e] at h; exact h.elim
    | some d =>
      rw [e] at h
      obtain ⟨v, e2, r2⟩ := atD_get r1 e
      exact .inl ⟨p, vs, i, v, rfl, rfl, s1, atD_I _ _ e2, PE_.now h r2⟩
  · rename_i ds i
    obtain ⟨p, vs, rfl, s1, r1, n1⟩ := hx.tuple
    cases hy.int
    cases e : atD ds i with
    | none => rw [e] at h; exact h.elim
    | some d =>
      rw [e] at h
      obtain ⟨v, e2, r2⟩ := atD_get r1 e
      exact .inr ⟨p, vs, i, v, rfl, rfl, s1, atD_I _ _ e2, PE_.now h r2⟩
  · exact h.elim
end

/-! ### in -/
section
variable {X : Cx}
def rInA (K : PySem.W.Frag) : R2 := fun x y H Q => ∃ d ds, Dp K H x d ∧ (Dp K H y (.list ds) ∨ Dp K H y (.tuple ds)) ∧ SeqAt.shaped d = true ∧ SeqAt.shaped (.list ds) = true ∧ Q (.bl (ds.any fun z => PyData.eqv z d)) H
def rNotInA (K : PySem.W.Frag) : R2 := fun x y H Q => ∃ d ds, Dp K H x d ∧ (Dp K H y (.list ds) ∨ Dp K H y (.tuple ds)) ∧ SeqAt.shaped d = true ∧ SeqAt.shaped (.list ds) = true ∧ Q (.bl (!ds.any fun z => PyData.eqv z d)) H
theorem op_inA (hu : X.A.units + 65 < cLine) : OpR X (compareOp .In) (rInA X.K) := by
  intro pins s σ H x y v u Q I rx ry h
  obtain ⟨d, ds, hd, he, sd, se, q⟩ := h
  obtain ⟨as, r1⟩ := Dp.reads I d x v hd rx
  rcases he with he | he
  · obtain ⟨bs, r2⟩ := Dp.reads I (.list ds) y u he ry
    exact SeqAt.in_list_reads r2 r1 (SeqAt.canLay_of_shaped se) (SeqAt.canLay_of_shaped sd) (room_in_shaped sd hu) ⟨.bl _, H, I, rfl, q⟩
  · obtain ⟨bs, r2⟩ := Dp.reads I (.tuple ds) y u he ry
    exact SeqAt.in_tuple_reads r2 r1 (SeqAt.canLay_of_shaped (d := .list ds) se) (SeqAt.canLay_of_shaped sd) (room_in_shaped sd hu) ⟨.bl _, H, I, rfl, q⟩
theorem op_notInA (hu : X.A.units + 65 < cLine) : OpR X (compareOp .NotIn) (rNotInA X.K) := by
  intro pins s σ H x y v u Q I rx ry h
  obtain ⟨d, ds, hd, he, sd, se, q⟩ := h
  obtain ⟨as, r1⟩ := Dp.reads I d x v hd rx
  rcases he with he | he
  · obtain ⟨bs, r2⟩ := Dp.reads I (.list ds) y u he ry
    exact SeqAt.notIn_list_reads r2 r1 (SeqAt.canLay_of_shaped se) (SeqAt.canLay_of_shaped sd) (room_in_shaped sd hu) ⟨.bl _, H, I, rfl, q⟩
  · obtain ⟨bs, r2⟩ := Dp.reads I (.tuple ds) y u he ry
    exact SeqAt.notIn_tuple_reads r2 r1 (SeqAt.canLay_of_shaped (d := .list ds) se) (SeqAt.canLay_of_shaped sd) (room_in_shaped sd hu) ⟨.bl _, H, I, rfl, q⟩
theorem os_in : OpS X (rInA X.K) .fr dIn := by
  intro mg W σ O H0 H x y a b Q nw hx hy h
  unfold dIn inD at h
  split at h
  · split at h
    · rename_i c
      obtain ⟨c1, c2⟩ := Bool.and_eq_true_iff.mp c
      exact ⟨_, _, hx.dp (SeqAt.canLay_of_shaped c1), .inl (hy.dp (SeqAt.canLay_of_shaped c2)), c1, c2, PE_.flat h (.bl _) rfl⟩
    · exact h.elim
  · split at h
    · rename_i c
      obtain ⟨c1, c2⟩ := Bool.and_eq_true_iff.mp c
      exact ⟨_, _, hx.dp (SeqAt.canLay_of_shaped c1), .inr (hy.dp (SeqAt.canLay_of_shaped (d := .list _) c2)), c1, c2, PE_.flat h (.bl _) rfl⟩
    · exact h.elim
  · exact h.elim
theorem os_notIn : OpS X (rNotInA X.K) .fr dNotIn := by
  intro mg W σ O H0 H x y a b Q nw hx hy h
  unfold dNotIn dIn inD at h
  split at h
  · split at h
    · rename_i c
      obtain ⟨c1, c2⟩ := Bool.and_eq_true_iff.mp c
      exact ⟨_, _, hx.dp (SeqAt.canLay_of_shaped c1), .inl (hy.dp (SeqAt.canLay_of_shaped c2)), c1, c2, PE_.flat h (.bl _) rfl⟩
    · exact h.elim
  · split at h
    · rename_i c
      obtain ⟨c1, c2⟩ := Bool.and_eq_true_iff.mp c
      exact ⟨_, _, hx.dp (SeqAt.canLay_of_shaped c1), .inr (hy.dp (SeqAt.canLay_of_shaped (d := .list _) c2)), c1, c2, PE_.flat h (.bl _) rfl⟩
    · exact h.elim
  · exact h.elim
end

/-! ### tests, and, or, not, if-else, chains -/
section
variable {X : Cx} {W : WX} {Γ : List Nat} {a b c : Expr} {fa fb fc fl : Fl} {sa sb sc : SE} {pos : Pos} {rest : List Expr}
theorem Res.tru {K : PySem.W.Frag} {H0 H : Hp} {O : List Addr} {v : V} {d : Da} (h : Res K H0 H O fl v d) (nd : isDct d = false) : TruV K v H (tru d) := by
  cases d with
  | none => cases h.none_; rfl
  | bool k => cases h.bool; rfl
  | int i => cases h.int; rfl
  | str s =>
    obtain ⟨rfl, n⟩ := h.str
    refine ⟨big_le n, ?_⟩
    show (s.length != 0) = ((s.length : Int) != 0)
    by_cases e : s.length = 0
    · rw [e]; rfl
    · have e2 : ((s.length : Nat) : Int) ≠ 0 := by omega
      rw [bne_iff_ne.mpr e, bne_iff_ne.mpr e2]
  | list ds =>
    obtain ⟨p, vs, rfl, s1, r1, n1⟩ := h.list
    refine .inl ⟨vs, s1, ?_⟩
    cases r1 <;> rfl
  | tuple ds =>
    obtain ⟨p, vs, rfl, s1, r1, n1⟩ := h.tuple
    refine .inr (.inl ⟨vs, s1, ?_⟩)
    cases r1 <;> rfl
  | dict _ => cases nd
theorem FinG.eT_ {α : Type} {mg : MG} {σ : L2.St} {H : Hp} {ρ : Ev} {se : SE} {f : Da → R α} {P : α → Prop} (h : FinG mg W σ H ((eT se ρ).bind f) P) : FinG mg W σ H ((se ρ).bind fun d => if isDct d = true then .bad else f d) P := by
  unfold eT at h
  cases q : se ρ with
  | ok d =>
    rw [q] at h
    cases nd : isDct d with
    | true => simp only [R.bind, nd] at h; exact h.elim
    | false => simp only [R.bind, nd] at h ⊢; exact h
  | exc c => rw [q] at h; exact h
  | bad => rw [q] at h; exact h
theorem dt_truth (ha : DE X W Γ a fa sa) (he : ∀ whole, isTrue a X.env whole = (do let v ← whole; standAt a.pos; holding [v] (truthy v)) := by intro _; rfl) : DT X W Γ a (eT sa) :=
  pt_imp (pt_truth ha he) fun σ H Q h => by
    obtain ⟨ρ, F, GO, E, h⟩ := h
    refine at_e E h fun d v H1 s1 r1 E1 h1 => ?_
    cases nd : isDct d with
    | true => rw [nd, if_pos rfl] at h1; exact h1.elim
    | false => rw [nd, if_neg Bool.false_ne_true] at h1; exact ⟨_, r1.tru nd, h1 H1 s1⟩
theorem dt_cmp {op : CmpOp} {r : R2} {f : Da → Da → R Da} (ho : OpR X (compareOp op) r) (hs : OpS X r fl f) (ha : DE X W Γ a fa sa) (hb : DE X W Γ b fb sb) (hm : behindInMarks op b = false) (bl : ∀ x y z, f x y = .ok z → ∃ k, z = .bool k) : DT X W Γ (.Compare a [op] [b] pos) (e2 f sa sb) :=
  pt_imp (pt_cmpR ho ha hb hm) fun σ H Q h => by
    obtain ⟨ρ, F, GO, E, h⟩ := h
    refine at_e E h fun d v H1 s1 r1 E1 h1 => at_e E1 h1 fun d2 v2 H2 s2 r2 E2 h2 => ?_
    refine hs X.mg W σ _ H2 H2 v v2 d d2 _ E2.fresh (r1.bo.mono s2) r2.bo (h2.imp fun z e q w H3 s3 r3 => ?_)
    obtain ⟨k, rfl⟩ := bl _ _ _ e
    cases r3.bool
    exact ⟨k, rfl, q H3 ((s1.trans s2).trans s3)⟩
theorem dt_not (ha : DT X W Γ a sa) : DT X W Γ (.UnaryOp .Not a pos) (e1 dNot sa) :=
  pt_imp (pt_not ha) fun σ H Q h => by
    obtain ⟨ρ, F, GO, E, h⟩ := h
    exact at_t E h fun d H1 s1 E1 h1 => h1 H1 s1
theorem de_not (ha : DE X W Γ a fa sa) : DE X W Γ (.UnaryOp .Not a pos) .fr (e1 dNot (eT sa)) :=
  pe_imp (pe_notT ha) fun σ H Q h => by
    obtain ⟨ρ, F, GO, E, h⟩ := h
    unfold e1 at h
    refine at_e E (h.eT_) fun d v H1 s1 r1 E1 h1 => ?_
    cases nd : isDct d with
    | true => rw [nd, if_pos rfl] at h1; exact h1.elim
    | false => rw [nd, if_neg Bool.false_ne_true] at h1; exact ⟨_, r1.tru nd, PE_.flat (PE_.mono s1 h1) (.bl _) rfl⟩
theorem FinG.ite {α : Type} {mg : MG} {σ : L2.St} {H : Hp} {k : Bool} {r r' : R α} {P : α → Prop} {A B : Prop} (h : FinG mg W σ H (if k = true then r else r') P) (h1 : FinG mg W σ H r P → A) (h2 : FinG mg W σ H r' P → B) : if k = true then A else B := by
  cases k with
  | true => rw [if_pos rfl] at h ⊢; exact h1 h
  | false => rw [if_neg Bool.false_ne_true] at h ⊢; exact h2 h
theorem dw_and1 (ha : DT X W Γ a sa) : DW X W Γ (.BoolOp .And [a] pos) sa := pw_and1 ha
theorem dw_or1 (ha : DT X W Γ a sa) : DW X W Γ (.BoolOp .Or [a] pos) sa := pw_or1 ha
theorem dw_and (ha : DT X W Γ a sa) (hb : DW X W Γ (.BoolOp .And (b :: rest) pos) sb) : DW X W Γ (.BoolOp .And (a :: b :: rest) pos) (eAnd sa sb) :=
  pw_imp (pw_and ha hb) fun σ H Q h => by
    obtain ⟨ρ, F, GO, E, h⟩ := h
    refine at_t E h fun d H1 s1 E1 h1 => ?_
    cases e : tru d with
    | true =>
      rw [if_pos rfl]
      rw [e, if_pos rfl] at h1
      exact ⟨ρ, F, GO, E1, h1.imp fun z _ q H2 s2 => q H2 (s1.trans s2)⟩
    | false =>
      rw [if_neg Bool.false_ne_true]
      rw [e, if_neg Bool.false_ne_true] at h1
      have q := h1 H1 s1
      rw [e] at q
      exact q
theorem dw_or (ha : DT X W Γ a sa) (hb : DW X W Γ (.BoolOp .Or (b :: rest) pos) sb) : DW X W Γ (.BoolOp .Or (a :: b :: rest) pos) (eOr sa sb) :=
  pw_imp (pw_or ha hb) fun σ H Q h => by
    obtain ⟨ρ, F, GO, E, h⟩ := h
    refine at_t E h fun d H1 s1 E1 h1 => ?_
    cases e : tru d with
    | true =>
      rw [if_pos rfl]
      rw [e, if_pos rfl] at h1
      have q := h1 H1 s1
      rw [e] at q
      exact q
    | false =>
      rw [if_neg Bool.false_ne_true]
      rw [e, if_neg Bool.false_ne_true] at h1
      exact ⟨ρ, F, GO, E1, h1.imp fun z _ q H2 s2 => q H2 (s1.trans s2)⟩
theorem dt_w (h : DW X W Γ a sa) : DT X W Γ a sa := PW.pt h
theorem de_one {op : BoolOp} (h : DE X W Γ a fa sa) : DE X W Γ (.BoolOp op [a] pos) fa sa := pe_one h
theorem de_and (ha : DE X W Γ a .sh sa) (hb : DE X W Γ (.BoolOp .And (b :: rest) pos) .sh sb) : DE X W Γ (.BoolOp .And (a :: b :: rest) pos) .sh (eAnd (eT sa) sb) :=
  pe_imp (pe_andT ha hb) fun σ H Q h => by
    obtain ⟨ρ, F, GO, E, h⟩ := h
    unfold eAnd at h
    refine at_e E (h.eT_) fun d v H1 s1 r1 E1 h1 => ?_
    cases nd : isDct d with
    | true => rw [nd, if_pos rfl] at h1; exact h1.elim
    | false =>
      rw [nd, if_neg Bool.false_ne_true] at h1
      exact ⟨_, r1.tru nd, h1.ite (fun h2 => ⟨ρ, F, GO, E1, h2.imp fun _ _ q => PE_.mono s1 q⟩) fun h2 => (PE_.mono s1 h2).now r1⟩
theorem de_or (ha : DE X W Γ a .sh sa) (hb : DE X W Γ (.BoolOp .Or (b :: rest) pos) .sh sb) : DE X W Γ (.BoolOp .Or (a :: b :: rest) pos) .sh (eOr (eT sa) sb) :=
  pe_imp (pe_orT ha hb) fun σ H Q h => by
    obtain ⟨ρ, F, GO, E, h⟩ := h
    unfold eOr at h
    refine at_e E (h.eT_) fun d v H1 s1 r1 E1 h1 => ?_
    cases nd : isDct d with
    | true => rw [nd, if_pos rfl] at h1; exact h1.elim
    | false =>
      rw [nd, if_neg Bool.false_ne_true] at h1
      exact ⟨_, r1.tru nd, h1.ite (fun h2 => (PE_.mono s1 h2).now r1) fun h2 => ⟨ρ, F, GO, E1, h2.imp fun _ _ q => PE_.mono s1 q⟩⟩
theorem de_if (hc : DT X W Γ c sc) (ha : DE X W Γ a fl sa) (hb : DE X W Γ b fl sb) : DE X W Γ (.IfExp c a b pos) fl (eIf sc sa sb) :=
  pe_imp (pe_ifExp hc ha hb) fun σ H Q h => by
    obtain ⟨ρ, F, GO, E, h⟩ := h
    refine at_t E h fun d H1 s1 E1 h1 => h1.ite (fun h2 => ⟨ρ, F, GO, E1, h2.imp fun _ _ q => PE_.mono s1 q⟩) fun h2 => ⟨ρ, F, GO, E1, h2.imp fun _ _ q => PE_.mono s1 q⟩
theorem chain_s {r r' : R2} {f g : Da → Da → R Da} (hs : OpS X r .fr f) (hs' : OpS X r' .fr g) (bl : ∀ x y z, f x y = .ok z → ∃ k, z = .bool k) {σ : L2.St} {H : Hp} {Q : VK}
    (h : tDE X.K X.mg W Γ .fr (eChain f g sa sb sc) σ H Q) : tChain r r' (tDE X.K X.mg W Γ fa sa) (tDE X.K X.mg W Γ fb sb) (tDE X.K X.mg W Γ fc sc) σ H Q := by
  obtain ⟨ρ, F, GO, E, h⟩ := h
  refine at_e E h fun d v H1 s1 r1 E1 h1 => at_e E1 h1 fun d2 v2 H2 s2 r2 E2 h2 => ?_
  refine hs X.mg W σ _ H2 H2 v v2 d d2 _ E2.fresh (r1.bo.mono s2) r2.bo (h2.bind.imp fun z e q w H3 s3 r3 => ?_)
  obtain ⟨k, rfl⟩ := bl _ _ _ e
  cases r3.bool
  refine ⟨k, rfl, ?_⟩
  cases k with
  | true =>
    rw [if_pos rfl]
    refine at_e (E2.mono s3) (FinG.mono s3 q fun _ _ z => z) fun d4 v4 H4 s4 r4 E4 h4 => ?_
    exact hs' X.mg W σ _ H4 H4 v2 v4 d2 d4 _ E4.fresh (r2.bo.mono (s3.trans s4)) r4.bo (h4.imp fun _ _ z => z.mono (((s1.trans s2).trans s3).trans s4))
  | false =>
    rw [if_neg Bool.false_ne_true]
    exact PE_.flat (PE_.mono ((s1.trans s2).trans s3) q) (.bl _) rfl
theorem de_chain {op op' : CmpOp} {r r' : R2} {f g : Da → Da → R Da} (ho : OpR X (compareOp op) r) (ho' : OpR X (compareOp op') r') (hs : OpS X r .fr f) (hs' : OpS X r' .fr g) (bl : ∀ x y z, f x y = .ok z → ∃ k, z = .bool k) (ha : DE X W Γ a fa sa) (hb : DE X W Γ b fb sb) (hc : DE X W Γ c fc sc)
    (hm : lastMarks [op, op'] [b, c] = false := by with_unfolding_all rfl) : DE X W Γ (.Compare a [op, op'] [b, c] pos) .fr (eChain f g sa sb sc) :=
  pe_imp (pe_chain ho ho' ha hb hc hm) fun σ H Q h => chain_s hs hs' bl h
theorem dt_chain {op op' : CmpOp} {r r' : R2} {f g : Da → Da → R Da} (ho : OpR X (compareOp op) r) (ho' : OpR X (compareOp op') r') (hs : OpS X r .fr f) (hs' : OpS X r' .fr g) (bl : ∀ x y z, f x y = .ok z → ∃ k, z = .bool k) (bl' : ∀ x y z, g x y = .ok z → ∃ k, z = .bool k) (ha : DE X W Γ a fa sa) (hb : DE X W Γ b fb sb) (hc : DE X W Γ c fc sc)
    (hm : lastMarks [op, op'] [b, c] = false := by with_unfolding_all rfl) : DT X W Γ (.Compare a [op, op'] [b, c] pos) (eChain f g sa sb sc) :=
  pt_imp (pt_chain ho ho' ha hb hc hm) fun σ H Q h => by
    refine chain_s hs hs' bl ?_
    obtain ⟨ρ, F, GO, E, h⟩ := h
    refine ⟨ρ, F, GO, E, h.imp fun d e q v H1 s1 r1 => ?_⟩
    have : ∃ k, d = .bool k := by
      unfold eChain at e
      cases e1 : sa ρ with
      | ok x =>
        cases e2 : sb ρ with
        | ok y =>
          cases e3 : f x y with
          | ok z =>
            obtain ⟨k, rfl⟩ := bl _ _ _ e3
            rw [e1, e2] at e
            simp only [R.bind, e3] at e
            cases k with
            | true =>
              cases e4 : sc ρ with
              | ok w => rw [e4] at e; exact bl' _ _ _ e
              | exc _ => rw [e4] at e; cases e
              | bad => rw [e4] at e; cases e
            | false => cases e; exact ⟨_, rfl⟩
          | exc _ => rw [e1, e2] at e; simp only [R.bind, e3] at e; cases e
          | bad => rw [e1, e2] at e; simp only [R.bind, e3] at e; cases e
        | exc _ => rw [e1, e2] at e; cases e
        | bad => rw [e1, e2] at e; cases e
      | exc _ => rw [e1] at e; cases e
      | bad => rw [e1] at e; cases e
    obtain ⟨k, rfl⟩ := this
    cases r1.bool
    exact ⟨k, rfl, q H1 s1⟩
theorem bl_cmp {p : Int → Int → Bool} (x y z : Da) (h : dCmp p x y = .ok z) : ∃ k, z = .bool k := by
  unfold dCmp at h
  split at h
  · cases h; exact ⟨_, rfl⟩
  · cases h
theorem bl_eq (x y z : Da) (h : dEq x y = .ok z) : ∃ k, z = .bool k := by
  unfold dEq at h
  split at h <;> first | (cases h; exact ⟨_, rfl⟩) | skip
  unfold eqD at h
  split at h
  · cases h; exact ⟨_, rfl⟩
  · cases h
theorem bl_not {r : R Da} (z : Da) (h : rNot r = .ok z) : ∃ k, z = .bool k := by
  unfold rNot at h
  split at h <;> first | (cases h; exact ⟨_, rfl⟩) | cases h
theorem bl_ne (x y z : Da) (h : dNe x y = .ok z) : ∃ k, z = .bool k := bl_not z h
theorem bl_in (x y z : Da) (h : dIn x y = .ok z) : ∃ k, z = .bool k := by
  unfold dIn inD at h
  split at h <;> first | cases h | skip
  all_goals
    split at h
    · cases h; exact ⟨_, rfl⟩
    · cases h
theorem bl_notIn (x y z : Da) (h : dNotIn x y = .ok z) : ∃ k, z = .bool k := bl_not z h
end

/-! ### arguments, displays, slices -/
section
variable {X : Cx} {W : WX} {Γ : List Nat} {a b c e : Expr} {es : List Expr} {fa fb fl : Fl} {fls : List Fl} {sa sb se : SE} {ss : SA} {pos : Pos}
theorem da_nil : DA X W Γ [] [] aNil := pa_imp pa_nil fun σ H Q ⟨ρ, F, GO, E, h⟩ => h [] H (.refl H) .nil
theorem da_cons (ha : DE X W Γ e fl se) (hr : DA X W Γ es fls ss) (hs : starEach (e :: es) X.env = (false, eval e X.env) :: starEach es X.env := by kernel_rfl) : DA X W Γ (e :: es) (fl :: fls) (aCons se ss) :=
  pa_imp (pa_cons ha hr hs) fun σ H Q h => by
    obtain ⟨ρ, F, GO, E, h⟩ := h
    refine at_e E h fun d v H1 s1 r1 E1 h1 => at_a E1 h1 fun ds vs H2 s2 r2 E2 h2 => ?_
    exact h2 _ _ (s1.trans s2) (.cons (r1.mono s2) (r2.back s1))
theorem de_tup {x1} (h : DA X W Γ es fls ss) (hf : storable fls = true := by kernel_rfl) (hn : es.length ≤ 1000 := by decide) (hl : ∀ ρ ds, ss ρ = .ok ds → ds.length ≤ big) : DE X W Γ (.Tuple es x1 pos) .fr (eTup ss) :=
  pe_imp (pe_tup h) fun σ H Q h => by
    obtain ⟨ρ, F, GO, E, h⟩ := h
    have hl' := hl ρ
    refine ⟨ρ, F, GO, E, h.bind.imp fun ds e q vs H1 s1 r1 => ?_⟩
    have n := hl' ds e
    have r2 := r1.rp hf
    exact ⟨by rw [r2.length]; exact big_le n, fun p hp => PE_.newT (PE_.mono s1 q) r2 n hp⟩
theorem de_lst (h : DA X W Γ es fls ss) (hf : storable fls = true := by kernel_rfl) (hl : ∀ ρ ds, ss ρ = .ok ds → ds.length ≤ big) : DE X W Γ (.List es pos) .fr (eLst ss) :=
  pe_imp (pe_lst h) fun σ H Q h => by
    obtain ⟨ρ, F, GO, E, h⟩ := h
    have hl' := hl ρ
    refine ⟨ρ, F, GO, E, h.bind.imp fun ds e q vs H1 s1 r1 => ?_⟩
    have n := hl' ds e
    have r2 := r1.rp hf
    exact ⟨by rw [r2.length]; exact big_le n, fun p hp => PE_.newL (PE_.mono s1 q) r2 n hp ((E.mono s1).newp hp)⟩
/-- how many arguments there are -/
theorem len_nil (ρ : Ev) (ds : List Da) (h : aNil ρ = .ok ds) : ds.length ≤ 0 := by cases h; exact Nat.le_refl _
theorem len_cons {n : Nat} (h : ∀ ρ ds, ss ρ = .ok ds → ds.length ≤ n) (ρ : Ev) (ds : List Da) (e : aCons se ss ρ = .ok ds) : ds.length ≤ n + 1 := by
  unfold aCons at e
  cases e1 : se ρ with
  | ok x =>
    cases e2 : ss ρ with
    | ok xs => rw [e1, e2] at e; cases e; exact Nat.succ_le_succ (h ρ xs e2)
    | exc _ => rw [e1, e2] at e; cases e
    | bad => rw [e1, e2] at e; cases e
  | exc _ => rw [e1] at e; cases e
  | bad => rw [e1] at e; cases e
theorem len_big {n : Nat} (h : ∀ ρ ds, ss ρ = .ok ds → ds.length ≤ n) (hn : n ≤ 1000) (ρ : Ev) (ds : List Da) (e : ss ρ = .ok ds) : ds.length ≤ big := Nat.le_trans (h ρ ds e) (Nat.le_trans hn (by decide))

/-! slices -/
def tDO (K : PySem.W.Frag) (mg : MG) (W : WX) (Γ : List Nat) (so : SO) : TO := fun σ H Q => At K Γ σ H fun ρ F GO => FinG mg W σ H (so ρ) fun o => ∀ H', Same H H' → Q o H'
def DO (X : Cx) (W : WX) (Γ : List Nat) (e : Option Expr) (so : SO) : Prop := PO X e (tDO X.K X.mg W Γ so)
theorem po_imp {e : Option Expr} {t t' : TO} (h : PO X e t) (w : ∀ σ H Q, t' σ H Q → t σ H Q) : PO X e t' := ⟨fun pins s σ H Q I q => h.run pins s σ H Q I (w _ _ _ q)⟩
theorem do_none : DO X W Γ none oNone := po_imp po_none fun σ H Q ⟨ρ, F, GO, E, h⟩ => h H (.refl H)
theorem do_some (ha : DE X W Γ e fl se) : DO X W Γ (some e) (oSome se) := po_imp (po_some ha) fun σ H Q h => by
  obtain ⟨ρ, F, GO, E, h⟩ := h
  refine at_e E h fun d v H1 s1 r1 E1 h1 => ?_
  cases d with
  | int i => cases r1.int; exact ⟨i, rfl, h1 H1 s1⟩
  | _ => exact h1.elim
theorem at_o {β : Type} {K : PySem.W.Frag} {mg : MG} {F : List Addr} {GO : List (Nat × Addr)} {σ : L2.St} {H : Hp} {ρ : Ev} (E : EnvR K Γ F GO σ H ρ) {so : SO} {f : Option Int → R β} {P : β → Prop} {R' : Option Int → Hp → Prop} (h : FinG mg W σ H ((so ρ).bind f) P)
    (hk : ∀ d H1, Same H H1 → EnvR K Γ F GO σ H1 ρ → FinG mg W σ H1 (f d) P → R' d H1) : tDO K mg W Γ so σ H R' :=
  ⟨ρ, F, GO, E, h.bind.imp fun d _ q H1 s => hk d H1 s (E.mono s) (q.mono s fun _ _ z => z)⟩
theorem de_slice {lo hi : Option Expr} {sl sh : SO} {p2 : Pos} (ha : DE X W Γ a fa sa) (hl : DO X W Γ lo sl) (hh : DO X W Γ hi sh) : DE X W Γ (.Subscript a (.Slice lo hi none p2) pos) .fr (eSl sa sl sh) :=
  pe_imp (pe_slice (sl_list.or sl_tupA) ha hl hh) fun σ H Q h => by
    obtain ⟨ρ, F, GO, E, h⟩ := h
    refine at_e E h fun d v H1 s1 r1 E1 h1 => at_o E1 h1 fun l H2 s2 E2 h2 => at_o E2 h2 fun u H3 s3 E3 h3 => ?_
    have s13 := (s1.trans s2).trans s3
    have r3 := r1.mono (s2.trans s3)
    unfold dSl at h3
    split at h3
    · obtain ⟨p, vs, rfl, q1, r1, n1⟩ := r3.list
      refine .inl ⟨p, vs, rfl, q1, fun t ht => PE_.newL (PE_.mono s13 h3) (r1.cut l u) (Nat.le_trans (cutD_len _ _ _) n1) ht (E3.newp ht)⟩
    · rename_i ds
      obtain ⟨p, vs, rfl, q1, r1, n1⟩ := r3.tuple
      refine .inr ⟨p, vs, rfl, q1, fun ⟨w1, w2⟩ => ?_, fun _ t ht => PE_.newT (PE_.mono s13 h3) (r1.cut l u) (Nat.le_trans (cutD_len _ _ _) n1) ht⟩
      have e : cutD ds l u = ds := by
        unfold cutD
        rw [sixD, sixD, ← r1.length, w1, w2]
        simp [r1.length]
      rw [e] at h3
      exact PE_.now (PE_.mono s13 h3) (.nolist (.tup q1 n1 r1) fun _ e => nomatch e)
    · exact h3.elim
end
end DL
set_option Elab.async false
set_option linter.all false
set_option maxRecDepth 100000
namespace DL
open PySem PySem.Spec PyProof.Rows L2

/-! ### built-ins by name -/
section
variable {X : Cx} {W : WX} {Γ : List Nat} {e : Expr} {es : List Expr} {fls : List Fl} {fl : Fl} {sa : SA} {pos p : Pos} {x : Str}
theorem call_s {r : List V → Hp → VK → Prop} {f : List Da → R Da} (hs : CallS X r fl f) {σ : L2.St} {H : Hp} {Q : VK} (h : tDE X.K X.mg W Γ fl (eA f sa) σ H Q) : tCB r (tDA X.K X.mg W Γ fls sa) σ H Q := by
  obtain ⟨ρ, F, GO, E, h⟩ := h
  exact at_a E h fun ds vs H1 s1 r1 E1 h1 => hs X.mg W σ _ H H1 fls vs ds Q E1.fresh r1 (h1.imp fun _ _ z => PE_.mono s1 z)
theorem de_callB {id : String} {r : List V → Hp → VK → Prop} {f : List Da → R Da} (hc : CallR X (.builtin id) r) (hs : CallS X r fl f) (hg : Gl X x) (hm : X.mg x = none) (hv : bootBuiltins x = some (.builtin id)) (ha : DA X W Γ (e :: es) fls sa) (hn : x ≠ "__name__" := by decide) (hdb : (x == ("__debug__" : Str)) = false := by decide)
    (he : starEach (e :: es) X.env = (false, eval e X.env) :: starEach es X.env := by kernel_rfl) (hpl : (backTo pos (starEach es X.env)).any (·.1) = false := by kernel_rfl) : DE X W Γ (.Call (.Name x p) (e :: es) [] pos) fl (eA f sa) :=
  pe_imp (pe_callB hc hg hm hv ha hn hdb he hpl) fun σ H Q h => call_s hs h
theorem de_callTy {T : String} {r : List V → Hp → VK → Prop} {f : List Da → R Da} (hc : CallR X (.type T) r) (hs : CallS X r fl f) (hg : Gl X x) (hm : X.mg x = none) (hv : bootBuiltins x = some (.type T)) (ha : DA X W Γ (e :: es) fls sa) (hn : x ≠ "__name__" := by decide) (hdb : (x == ("__debug__" : Str)) = false := by decide)
    (he : starEach (e :: es) X.env = (false, eval e X.env) :: starEach es X.env := by kernel_rfl) (hpl : (backTo pos (starEach es X.env)).any (·.1) = false := by kernel_rfl) : DE X W Γ (.Call (.Name x p) (e :: es) [] pos) fl (eA f sa) :=
  pe_imp (pe_callTy hc hg hm hv ha hn hdb he hpl) fun σ H Q h => call_s hs h
theorem de_callG {id : String} {r : List V → Hp → VK → Prop} {f : List Da → R Da} (hc : CallR X (.builtin id) r) (hs : CallS X r fl f) (hg : Gl X x) (hm : X.mg x = some (.builtin id)) (ha : DA X W Γ (e :: es) fls sa) (hdb : (x == ("__debug__" : Str)) = false := by decide)
    (he : starEach (e :: es) X.env = (false, eval e X.env) :: starEach es X.env := by kernel_rfl) (hpl : (backTo pos (starEach es X.env)).any (·.1) = false := by kernel_rfl) : DE X W Γ (.Call (.Name x p) (e :: es) [] pos) fl (eA f sa) :=
  pe_imp (pe_callBfun hc hg hm ha hdb he hpl) fun σ H Q h => call_s hs h

theorem cs_len : CallS X (fun xs H Q => ∃ p ys, xs = [.ref p] ∧ (SqL X.K H p ys ∨ SqT X.K H p ys) ∧ Q (.int ys.length) H) .fr dLen := by
  intro mg W σ O H0 H fls xs as Q nw hx h
  unfold dLen at h
  split at h
  · cases hx with
    | cons h1 t =>
      cases t
      obtain ⟨p, vs, rfl, s1, r1, n1⟩ := h1.list
      exact ⟨p, vs, rfl, .inl s1, by rw [r1.length]; exact PE_.flat h (.int _) rfl⟩
  · cases hx with
    | cons h1 t =>
      cases t
      obtain ⟨p, vs, rfl, s1, r1, n1⟩ := h1.tuple
      exact ⟨p, vs, rfl, .inr s1, by rw [r1.length]; exact PE_.flat h (.int _) rfl⟩
  · exact h.elim
theorem cs_abs : CallS X (fun xs H Q => ∃ i, xs = [.int i] ∧ Q (.int (if i < 0 then -i else i)) H) .fr dAbs := by
  intro mg W σ O H0 H fls xs as Q nw hx h
  unfold dAbs at h
  split at h
  · cases hx with
    | cons h1 t =>
      cases t
      cases h1.int
      exact ⟨_, rfl, PE_.flat h (.int _) rfl⟩
  · exact h.elim
theorem cs_max2 : CallS X (fun xs H Q => ∃ i j, xs = [.int i, .int j] ∧ Q (.int (if j > i then j else i)) H) .fr dMax2 := by
  intro mg W σ O H0 H fls xs as Q nw hx h
  unfold dMax2 at h
  split at h
  · cases hx with
    | cons h1 t =>
      cases t with
      | cons h2 t =>
        cases t
        cases h1.int
        cases h2.int
        exact ⟨_, _, rfl, PE_.flat h (.int _) rfl⟩
  · exact h.elim
theorem cs_min2 : CallS X (fun xs H Q => ∃ i j, xs = [.int i, .int j] ∧ Q (.int (if j < i then j else i)) H) .fr dMin2 := by
  intro mg W σ O H0 H fls xs as Q nw hx h
  unfold dMin2 at h
  split at h
  · cases hx with
    | cons h1 t =>
      cases t with
      | cons h2 t =>
        cases t
        cases h1.int
        cases h2.int
        exact ⟨_, _, rfl, PE_.flat h (.int _) rfl⟩
  · exact h.elim
theorem cs_int : CallS X (fun xs H Q => (∃ i, xs = [.int i] ∧ Q (.int i) H) ∨ ∃ k, xs = [.bl k] ∧ Q (.int (if k then 1 else 0)) H) .fr dInt := by
  intro mg W σ O H0 H fls xs as Q nw hx h
  unfold dInt at h
  split at h
  · cases hx with
    | cons h1 t =>
      cases t
      cases h1.int
      exact .inl ⟨_, rfl, PE_.flat h (.int _) rfl⟩
  · cases hx with
    | cons h1 t =>
      cases t
      cases h1.bool
      exact .inr ⟨_, rfl, PE_.flat h (.int _) rfl⟩
  · exact h.elim
theorem cs_gcd : CallS X rGcd .fr dGcd := by
  intro mg W σ O H0 H fls xs as Q nw hx h
  unfold dGcd at h
  split at h
  · cases hx with
    | cons h1 t =>
      cases t with
      | cons h2 t =>
        cases t
        cases h1.int
        cases h2.int
        exact ⟨_, _, rfl, PE_.flat h (.int _) rfl⟩
  · exact h.elim
theorem foldl_min_mem : ∀ (xs : List Int) (x : Int), xs.foldl min x ∈ x :: xs ∧ ∀ y, y ∈ x :: xs → xs.foldl min x ≤ y
  | [], x => ⟨List.mem_cons_self, fun y hy => by rw [List.mem_singleton] at hy; subst hy; exact Int.le_refl _⟩
  | a :: xs, x => by
    obtain ⟨h1, h2⟩ := foldl_min_mem xs (min x a)
    rw [List.foldl_cons]
    refine ⟨?_, fun y hy => ?_⟩
    · rcases List.mem_cons.mp h1 with e | e
      · rw [e]
        rcases Int.le_total x a with q | q
        · rw [Int.min_eq_left q]; exact List.mem_cons_self
        · rw [Int.min_eq_right q]; exact List.mem_cons_of_mem _ List.mem_cons_self
      · exact List.mem_cons_of_mem _ (List.mem_cons_of_mem _ e)
    · have h3 := h2 (min x a) List.mem_cons_self
      rcases List.mem_cons.mp hy with e | hy
      · subst e; omega
      · rcases List.mem_cons.mp hy with e | hy
        · subst e; omega
        · exact h2 y (List.mem_cons_of_mem _ hy)
theorem foldl_max_mem : ∀ (xs : List Int) (x : Int), xs.foldl max x ∈ x :: xs ∧ ∀ y, y ∈ x :: xs → y ≤ xs.foldl max x
  | [], x => ⟨List.mem_cons_self, fun y hy => by rw [List.mem_singleton] at hy; subst hy; exact Int.le_refl _⟩
  | a :: xs, x => by
    obtain ⟨h1, h2⟩ := foldl_max_mem xs (max x a)
    rw [List.foldl_cons]
    refine ⟨?_, fun y hy => ?_⟩
    · rcases List.mem_cons.mp h1 with e | e
      · rw [e]
        rcases Int.le_total x a with q | q
        · rw [Int.max_eq_right q]; exact List.mem_cons_of_mem _ List.mem_cons_self
        · rw [Int.max_eq_left q]; exact List.mem_cons_self
      · exact List.mem_cons_of_mem _ (List.mem_cons_of_mem _ e)
    · have h3 := h2 (max x a) List.mem_cons_self
      rcases List.mem_cons.mp hy with e | hy
      · subst e; omega
      · rcases List.mem_cons.mp hy with e | hy
        · subst e; omega
        · exact h2 y (List.mem_cons_of_mem _ hy)
theorem FinG.bind_ok {α β : Type} {mg : MG} {W : WX} {σ : L2.St} {H : Hp} {r : R α} {f : α → R β} {P : β → Prop} (nx : ∀ c, r ≠ .exc c) (h : FinG mg W σ H (r.bind f) P) : ∃ a, r = .ok a ∧ FinG mg W σ H (f a) P := by
  cases r with
  | ok a => exact ⟨a, rfl, h⟩
  | exc c => exact absurd rfl (nx c)
  | bad => exact h.elim
theorem intsD_nx : ∀ (xs : List Da) (c : Str), intsD xs ≠ .exc c
  | [], c, e => nomatch e
  | x :: xs, c, e => by
    cases x with
    | int i =>
      unfold intsD at e
      cases q : intsD xs with
      | ok is => rw [q] at e; cases e
      | exc d => exact intsD_nx xs d q
      | bad => rw [q] at e; cases e
    | _ => unfold intsD at e; cases e
theorem blsD_nx : ∀ (xs : List Da) (c : Str), blsD xs ≠ .exc c
  | [], c, e => nomatch e
  | x :: xs, c, e => by
    cases x with
    | bool i =>
      unfold blsD at e
      cases q : blsD xs with
      | ok is => rw [q] at e; cases e
      | exc d => exact blsD_nx xs d q
      | bad => rw [q] at e; cases e
    | _ => unfold blsD at e; cases e
theorem cs_min : CallS X (rMin X.K) .fr dMinL := by
  intro mg W σ O H0 H fls xs as Q nw hx h
  unfold dMinL at h
  split at h
  · cases hx with
    | cons h1 t =>
      cases t
      obtain ⟨p, vs, rfl, s1, r1, n1⟩ := h1.list
      obtain ⟨is, e, h⟩ := FinG.bind_ok (intsD_nx _) h
      rw [r1.ints e] at s1
      cases is with
      | nil => exact h.elim
      | cons i is =>
        refine ⟨p, _, rfl, s1, by simp, fun m hm hle => ?_⟩
        obtain ⟨a1, a2⟩ := foldl_min_mem is i
        have : m = is.foldl min i := Int.le_antisymm (hle _ a1) (a2 _ hm)
        subst this
        exact PE_.flat h (.int _) rfl
  · exact h.elim
theorem cs_max : CallS X (rMax X.K) .fr dMaxL := by
  intro mg W σ O H0 H fls xs as Q nw hx h
  unfold dMaxL at h
  split at h
  · cases hx with
    | cons h1 t =>
      cases t
      obtain ⟨p, vs, rfl, s1, r1, n1⟩ := h1.list
      obtain ⟨is, e, h⟩ := FinG.bind_ok (intsD_nx _) h
      rw [r1.ints e] at s1
      cases is with
      | nil => exact h.elim
      | cons i is =>
        refine ⟨p, _, rfl, s1, by simp, fun m hm hle => ?_⟩
        obtain ⟨a1, a2⟩ := foldl_max_mem is i
        have : m = is.foldl max i := Int.le_antisymm (a2 _ hm) (hle _ a1)
        subst this
        exact PE_.flat h (.int _) rfl
  · exact h.elim
theorem cs_all : CallS X (rAll X.K) .fr dAll := by
  intro mg W σ O H0 H fls xs as Q nw hx h
  unfold dAll at h
  split at h
  · cases hx with
    | cons h1 t =>
      cases t
      obtain ⟨p, vs, rfl, s1, r1, n1⟩ := h1.list
      obtain ⟨is, e, h⟩ := FinG.bind_ok (blsD_nx _) h
      rw [r1.bls e] at s1
      exact ⟨p, is, rfl, s1, PE_.flat h (.bl _) rfl⟩
  · exact h.elim
theorem cs_any : CallS X (rAny X.K) .fr dAny := by
  intro mg W σ O H0 H fls xs as Q nw hx h
  unfold dAny at h
  split at h
  · cases hx with
    | cons h1 t =>
      cases t
      obtain ⟨p, vs, rfl, s1, r1, n1⟩ := h1.list
      obtain ⟨is, e, h⟩ := FinG.bind_ok (blsD_nx _) h
      rw [r1.bls e] at s1
      exact ⟨p, is, rfl, s1, PE_.flat h (.bl _) rfl⟩
  · exact h.elim
theorem cs_tuple : CallS X (fun xs H Q => ∃ p ys, xs = [.ref p] ∧ ((SqL X.K H p ys ∧ ∀ l, H l = none → Q (.ref l) (upd H l (.tup ys))) ∨ (SqT X.K H p ys ∧ Q (.ref p) H))) .fr dTuple := by
  intro mg W σ O H0 H fls xs as Q nw hx h
  unfold dTuple at h
  split at h
  · cases hx with
    | cons h1 t =>
      cases t
      obtain ⟨p, vs, rfl, s1, r1, n1⟩ := h1.list
      exact ⟨p, vs, rfl, .inl ⟨s1, fun l hl => PE_.newT h r1 n1 hl⟩⟩
  · cases hx with
    | cons h1 t =>
      cases t
      obtain ⟨p, vs, rfl, s1, r1, n1⟩ := h1.tuple
      exact ⟨p, vs, rfl, .inr ⟨s1, PE_.now h (.nolist (.tup s1 n1 r1) fun _ e => nomatch e)⟩⟩
  · exact h.elim
theorem cs_list : CallS X (fun xs H Q => ∃ p ys, xs = [.ref p] ∧ (SqL X.K H p ys ∨ SqT X.K H p ys) ∧ ∀ l, H l = none → Q (.ref l) (upd H l (.lst ys))) .fr dList := by
  intro mg W σ O H0 H fls xs as Q nw hx h
  unfold dList at h
  split at h
  · cases hx with
    | cons h1 t =>
      cases t
      obtain ⟨p, vs, rfl, s1, r1, n1⟩ := h1.list
      exact ⟨p, vs, rfl, .inl s1, fun l hl => PE_.newL h r1 n1 hl (nw l hl)⟩
  · cases hx with
    | cons h1 t =>
      cases t
      obtain ⟨p, vs, rfl, s1, r1, n1⟩ := h1.tuple
      exact ⟨p, vs, rfl, .inr s1, fun l hl => PE_.newL h r1 n1 hl (nw l hl)⟩
  · exact h.elim
/-! isinstance(e, T) -/
def Ty.nm : Ty → String
  | .int => "int" | .bool => "bool" | .str => "str" | .tuple => "tuple" | .list => "list" | .dict => "dict"
def tyNm : Da → String
  | .none => "NoneType" | .bool _ => "bool" | .int _ => "int" | .str _ => "str" | .list _ => "list" | .tuple _ => "tuple" | .dict _ => "dict"
theorem kit_all : ∀ (d : Da) (t : Ty), kitB (tyNm d) t.nm = some (isTy t d) := by
  have q : ∀ (a b : Ty), kitB a.nm b.nm = some (match a, b with | .int, .int => true | .bool, .int => true | .bool, .bool => true | .str, .str => true | .tuple, .tuple => true | .list, .list => true | .dict, .dict => true | _, _ => false) := by
    intro a b; cases a <;> cases b <;> decide +kernel
  have q0 : ∀ (b : Ty), kitB "NoneType" b.nm = some false := by intro b; cases b <;> decide +kernel
  intro d t
  cases d with
  | none => exact (q0 t).trans (by cases t <;> rfl)
  | bool k => exact (q .bool t).trans (by cases t <;> rfl)
  | int k => exact (q .int t).trans (by cases t <;> rfl)
  | str k => exact (q .str t).trans (by cases t <;> rfl)
  | list k => exact (q .list t).trans (by cases t <;> rfl)
  | tuple k => exact (q .tuple t).trans (by cases t <;> rfl)
  | dict k => exact (q .dict t).trans (by cases t <;> rfl)
end
end DL
set_option Elab.async false
set_option linter.all false
set_option maxRecDepth 100000
namespace DL
open PySem PySem.Spec PyProof.Rows L2

section
variable {X : Cx} {W : WX} {Γ : List Nat} {e : Expr} {es : List Expr} {fls : List Fl} {fl : Fl} {se : SE} {sa : SA} {pos p p2 : Pos} {x : Str}
theorem Res.ty {K : PySem.W.Frag} {H0 H : Hp} {O : List Addr} {v : V} {d : Da} (h : Res K H0 H O fl v d) (nd : isDct d = false) : TyX K H v (.type (tyNm d)) := by
  cases d with
  | none => cases h.none_; exact .base .non
  | bool k => cases h.bool; exact .base (.bl k)
  | int i => cases h.int; exact .base (.int i)
  | str s => obtain ⟨rfl, n⟩ := h.str; exact .base (.str s)
  | list ds =>
    obtain ⟨p, vs, rfl, s1, r1, n1⟩ := h.list
    rcases s1 with (s1 | ⟨o, s1⟩) | ⟨o, its, n, hk, hc, _⟩
    · exact .base (.lst s1)
    · exact .base (.frz s1)
    · exact .kList hk hc
  | tuple ds =>
    obtain ⟨p, vs, rfl, s1, r1, n1⟩ := h.tuple
    rcases s1 with (s1 | ⟨o, s1⟩) | ⟨o, its, n, hk, hc, _⟩
    · exact .base (.tup s1)
    · exact .fTuple s1
    · exact .kTuple hk hc
  | dict _ => cases nd
theorem ResAll.one {K : PySem.W.Frag} {H0 H : Hp} {O : List Addr} {f1 : Fl} {vs : List V} {ds : List Da} (h : ResAll K H0 H O [f1] vs ds) : ∃ v d, vs = [v] ∧ ds = [d] ∧ Res K H0 H O f1 v d := by
  cases h with
  | cons h t => cases t; exact ⟨_, _, rfl, rfl, h⟩
theorem ResAll.two {K : PySem.W.Frag} {H0 H : Hp} {O : List Addr} {f1 f2 : Fl} {vs : List V} {ds : List Da} (h : ResAll K H0 H O [f1, f2] vs ds) : ∃ v d v2 d2, vs = [v, v2] ∧ ds = [d, d2] ∧ Res K H0 H O f1 v d ∧ Res K H0 H O f2 v2 d2 := by
  cases h with
  | cons h t =>
    obtain ⟨v2, d2, rfl, rfl, h2⟩ := t.one
    exact ⟨_, _, _, _, rfl, rfl, h, h2⟩
theorem de_isi (T : Ty) (he : DE X W Γ e fl se) (hg : Gl X "isinstance") (hm : X.mg "isinstance" = none) (hg2 : Gl X T.nm) (hm2 : X.mg T.nm = none) (hv2 : bootBuiltins T.nm = some (.type T.nm)) (hn2 : (T.nm : Str) ≠ "__name__") (hd2 : ((T.nm : Str) == ("__debug__" : Str)) = false)
    (hs1 : starEach [e, .Name T.nm p2] X.env = (false, eval e X.env) :: starEach [.Name T.nm p2] X.env := by kernel_rfl) (hs2 : starEach [.Name (T.nm : Str) p2] X.env = (false, eval (.Name (T.nm : Str) p2) X.env) :: starEach [] X.env := by kernel_rfl) (hpl : (backTo pos (starEach [.Name (T.nm : Str) p2] X.env)).any (·.1) = false := by kernel_rfl) :
    DE X W Γ (.Call (.Name "isinstance" p) [e, .Name T.nm p2] [] pos) .fr (e1 (dIsi T) se) :=
  pe_imp (pe_callB call_isi hg hm boot_isinstance (pa_cons he (pa_cons (pe_bltn (v := .ty T.nm) hg2 hm2 hv2 rfl hn2 hd2) pa_nil hs2) hs1) (by decide) (by decide) hs1 hpl) fun σ H Q h => by
    obtain ⟨ρ, F, GO, E, h⟩ := h
    refine at_e E h fun d v H1 s1 r1 E1 h1 => ?_
    have nd : isDct d = false := by
      cases nd : isDct d with
      | true => unfold dIsi at h1; rw [nd] at h1; exact h1.elim
      | false => rfl
    unfold dIsi at h1
    rw [nd, if_neg Bool.false_ne_true] at h1
    refine ⟨v, .ty T.nm, .type (tyNm d), .type T.nm, isTy T d, rfl, .ty _, r1.ty nd, kit_ty (kit_all d T), ?_⟩
    exact PE_.flat (PE_.mono s1 h1) (.bl _) rfl

/-! ### a def's promise -/
def spD (K : PySem.W.Frag) (mg : MG) (n : Nat) (g : List Da → R Da) : Sp := fun vs H Q E => vs.length = n ∧ ∃ ds O, (∀ b, b ∈ O → H b ≠ none) ∧ RpAll K H O vs ds ∧ match g ds with
  | .ok d => ∀ v H', Same H H' → Rp K H' O v d → Q v H'
  | .exc c => ∀ C H', mg c = some (.ref C) → Same H H' → E (.ref C) none H'
  | .bad => False
structure FnD (P : Program) (w : World) (K : PySem.W.Frag) (mg : MG) (base : Heap) (x : Str) (k n : Nat) (g : List Da → R Da) : Prop where
  ex : ∃ f fd ps, FnOk P w K mg base (L2.CX P w) k f fd ps (spD K mg n g) ∧ mg x = some (.ref f) ∧ PySem.W.keepIn K (.ref f) = true ∧ Binds K fd ps []
mutual
theorem Rp.anyO {K : PySem.W.Frag} {H : Hp} {O O' : List Addr} : ∀ {d : Da} {v : V}, noL d = true → Rp K H O v d → Rp K H O' v d
  | .none, _, _, h => by cases h; exact .non
  | .bool _, _, _, h => by cases h; exact .bl _
  | .int _, _, _, h => by cases h; exact .int _
  | .str _, _, _, h => by cases h with | str x n => exact .str _ n
  | .tuple ds, _, f, h => by
    cases h with
    | tup h n r => exact .tup h n (RpAll.anyO (by unfold noL at f; exact f) r)
  | .list _, _, f, _ => by unfold noL at f; cases f
  | .dict _, _, f, _ => by unfold noL at f; cases f
theorem RpAll.anyO {K : PySem.W.Frag} {H : Hp} {O O' : List Addr} : ∀ {ds : List Da} {vs : List V}, noLs ds = true → RpAll K H O vs ds → RpAll K H O' vs ds
  | [], _, _, h => by cases h; exact .nil
  | d :: ds, _, f, h => by
    unfold noLs at f
    obtain ⟨f1, f2⟩ := Bool.and_eq_true_iff.mp f
    cases h with
    | cons h t => exact .cons (Rp.anyO f1 h) (RpAll.anyO f2 t)
end
theorem Res.rp0 {K : PySem.W.Frag} {H0 H : Hp} {O : List Addr} {v : V} {d : Da} (h : Res K H0 H O fl v d) : Rp K H [] v d := by
  have g : Grow [] O [] H H := .sub_ (.refl H) fun _ z => (List.not_mem_nil z).elim
  rcases h.bo (H1 := H0) with h' | ⟨p, e, hp, ho⟩
  · exact h'.mono g
  · subst e
    exact (ho.mono g List.not_mem_nil).rp List.not_mem_nil
theorem ResAll.rp0 {K : PySem.W.Frag} {H0 H : Hp} {O : List Addr} : ∀ {fls : List Fl} {vs : List V} {ds : List Da}, ResAll K H0 H O fls vs ds → RpAll K H [] vs ds
  | _, _, _, .nil => .nil
  | _, _, _, .cons h t => .cons h.rp0 t.rp0
theorem ResAll.lenV {K : PySem.W.Frag} {H0 H : Hp} {O : List Addr} : ∀ {fls : List Fl} {vs : List V} {ds : List Da}, ResAll K H0 H O fls vs ds → vs.length = fls.length
  | _, _, _, .nil => rfl
  | _, _, _, .cons _ t => congrArg (· + 1) t.lenV
/-- f(..) of a def of the module -/
theorem de_call {k n : Nat} {g : List Da → R Da} (F : FnD X.prog X.w X.K X.mg X.base x k n g) (hr : Room k X.A) (hg : Gl X x) (tk : Takes X W) (ha : DA X W Γ (e :: es) fls sa) (hn : fls.length = n := by kernel_rfl) (hf : storable fls = true := by kernel_rfl)
    (hdb : (x == ("__debug__" : Str)) = false := by decide) (he : starEach (e :: es) X.env = (false, eval e X.env) :: starEach es X.env := by kernel_rfl) (hpl : (backTo pos (starEach es X.env)).any (·.1) = false := by kernel_rfl) :
    DE X W Γ (.Call (.Name x p) (e :: es) [] pos) .sh (eA g sa) := by
  obtain ⟨f, fd, ps, G, hm, hk, hb⟩ := F.ex
  refine pe_imp (pe_callS G hr hg hm hk hb (fun σ => passAt tk σ) ha hdb he hpl) fun σ H Q h => ?_
  obtain ⟨ρ, F, GO, E, h⟩ := h
  refine at_a E h fun ds vs H1 s1 r1 E1 h1 => ⟨r1.lenV.trans hn, ds, Ads GO ++ F, E1.alive, r1.rp hf, ?_⟩
  cases q : g ds with
  | ok d => rw [q] at h1; exact fun v H' s' r' => h1 v H' (s1.trans s') r'
  | exc c => rw [q] at h1; exact fun C H' hc s' => h1 C H' hc s'
  | bad => rw [q] at h1; exact h1.elim
/-- .. some of the arguments are the def's own lists: the answer has no list in it -/
theorem de_callO {k n : Nat} {g : List Da → R Da} (F : FnD X.prog X.w X.K X.mg X.base x k n g) (hr : Room k X.A) (hg : Gl X x) (tk : Takes X W) (ha : DA X W Γ (e :: es) fls sa) (hn : fls.length = n := by kernel_rfl)
    (hdb : (x == ("__debug__" : Str)) = false := by decide) (he : starEach (e :: es) X.env = (false, eval e X.env) :: starEach es X.env := by kernel_rfl) (hpl : (backTo pos (starEach es X.env)).any (·.1) = false := by kernel_rfl) :
    DE X W Γ (.Call (.Name x p) (e :: es) [] pos) .sh (e1 noR (eA g sa)) := by
  obtain ⟨f, fd, ps, G, hm, hk, hb⟩ := F.ex
  refine pe_imp (pe_callS G hr hg hm hk hb (fun σ => passAt tk σ) ha hdb he hpl) fun σ H Q h => ?_
  obtain ⟨ρ, F, GO, E, h⟩ := h
  have h : FinG X.mg W σ H ((sa ρ).bind fun ds => (g ds).bind noR) (PE_ X.K H (Ads GO ++ F) .sh Q) := by
    have h0 : FinG X.mg W σ H (((sa ρ).bind g).bind noR) (PE_ X.K H (Ads GO ++ F) .sh Q) := h
    cases q : sa ρ with
    | ok ds => rw [q] at h0; exact h0
    | exc c => rw [q] at h0; exact h0
    | bad => rw [q] at h0; exact h0
  refine at_a E h fun ds vs H1 s1 r1 E1 h1 => ⟨r1.lenV.trans hn, ds, [], fun _ z => (List.not_mem_nil z).elim, r1.rp0, ?_⟩
  cases q : g ds with
  | ok d =>
    rw [q] at h1
    have h2 : FinG X.mg W σ H1 (noR d) (PE_ X.K H (Ads GO ++ F) .sh Q) := h1
    unfold noR at h2
    split at h2
    · rename_i c
      exact fun v H' s' r' => h2 v H' (s1.trans s') (r'.anyO c)
    · exact h2.elim
  | exc c => rw [q] at h1; exact fun C H' hc s' => h1 C H' hc s'
  | bad => rw [q] at h1; exact h1.elim
end

/-! ### targets -/
section
variable {X : Cx} {Γ : List Nat} {pos : Pos}
/-- a target stores the value d of the slots is, all of them free of Γ -/
def tDG (K : PySem.W.Frag) (Γ : List Nat) (is : List Nat) (g : STg) : TG := fun v σ H Q => ∃ ρ F GO d, EnvR K Γ F GO σ H ρ ∧ Rp K H (Ads GO ++ F) v d ∧ match g d ρ with
  | .ok ρ' => ∀ σ', EnvR K Γ F GO σ' H ρ' → (∀ js, (∀ i, i ∈ is → i ∈ js) → wipe σ' js = wipe σ js) → Q σ' H
  | _ => False
def DG (X : Cx) (Γ : List Nat) (tg : Expr) (is : List Nat) (g : STg) : Prop := PG X tg (tDG X.K Γ is g) ∧ ∀ d ρ c, g d ρ ≠ .exc c
theorem wipe_get (σ : L2.St) : ∀ (js : List Nat) (i : Nat), i < σ.length → (wipe σ js)[i]? = if i ∈ js then some none else σ[i]?
  | [], i, _ => by simp [wipe]
  | j :: js, i, hi => by
    unfold wipe
    by_cases e : j = i
    · subst e
      rw [List.getElem?_set_self (by rw [wipe_length]; exact hi)]
      simp
    · rw [List.getElem?_set_ne e, wipe_get σ js i hi]
      simp [show ¬ i = j from fun z => e z.symm]
theorem wipe_ext {σ τ : L2.St} {js : List Nat} (hl : σ.length = τ.length) (h : ∀ i, i ∉ js → σ[i]? = τ[i]?) : wipe σ js = wipe τ js := by
  apply List.ext_getElem?
  intro i
  by_cases hi : i < σ.length
  · rw [wipe_get σ js i hi, wipe_get τ js i (by rw [← hl]; exact hi)]
    by_cases hj : i ∈ js
    · rw [if_pos hj, if_pos hj]
    · rw [if_neg hj, if_neg hj]; exact h i hj
  · rw [List.getElem?_eq_none (by rw [wipe_length]; omega), List.getElem?_eq_none (by rw [wipe_length]; omega)]
theorem wipe_set (σ : L2.St) {i : Nat} (o : Option V) {js : List Nat} (h : i ∈ js) : wipe (σ.set i o) js = wipe σ js :=
  wipe_ext (List.length_set ..) fun j hj => List.getElem?_set_ne fun e => hj (by rw [← e]; exact h)
theorem pg_imp {tg : Expr} {t t' : TG} (h : PG X tg t) (w : ∀ v σ H Q, t' v σ H Q → t v σ H Q) : PG X tg t' := ⟨fun pins s σ H v u Q I r q => h.run pins s σ H v u Q I r (w _ _ _ _ q)⟩
theorem dg_var {i : Nat} {x : Str} (hN : X.N.Nodup) (hi : X.N[i]? = some x) (hx : Loc X.env.scope x) (hΓ : Γ.contains i = false) (hf : X.fn x = true ∨ X.env.scope.names.lookup x = some .local := by first | exact .inl rfl | exact .inr rfl | assumption) : DG X Γ (.Name x pos) [i] (gVar i) :=
  ⟨pg_imp (pg_name hN hi hx hf) fun v σ H Q ⟨ρ, F, GO, d, E, r, h⟩ => by
    have hi' : i ∉ Γ := fun z => by rw [List.contains_iff_mem.mpr z] at hΓ; cases hΓ
    exact h _ (E.setS hi' r) fun js hj => wipe_set σ _ (hj i List.mem_cons_self), fun _ _ _ h => nomatch h⟩
/-- several targets -/
def tDGs (K : PySem.W.Frag) (Γ : List Nat) (is : List Nat) (gs : List STg) : TGs := fun vs σ H Q => ∃ ρ F GO ds, EnvR K Γ F GO σ H ρ ∧ RpAll K H (Ads GO ++ F) vs ds ∧ match gEach gs ds ρ with
  | .ok ρ' => ∀ σ', EnvR K Γ F GO σ' H ρ' → (∀ js, (∀ i, i ∈ is → i ∈ js) → wipe σ' js = wipe σ js) → Q σ' H
  | _ => False
def DGs (X : Cx) (Γ : List Nat) (ts : List Expr) (is : List Nat) (gs : List STg) : Prop := PGs X ts (tDGs X.K Γ is gs) ∧ ∀ g, g ∈ gs → ∀ d ρ c, g d ρ ≠ .exc c
theorem pgs_imp {ts : List Expr} {t t' : TGs} (h : PGs X ts t) (w : ∀ vs σ H Q, t' vs σ H Q → t vs σ H Q) : PGs X ts t' := ⟨fun pins s σ H vs us Q I r q => h.run pins s σ H vs us Q I r (w _ _ _ _ q)⟩
theorem dgs_nil : DGs X Γ [] [] [] := ⟨pgs_imp pgs_nil fun vs σ H Q ⟨ρ, F, GO, ds, E, r, h⟩ => by
  cases r with
  | nil => exact ⟨rfl, h σ E fun _ _ => rfl⟩
  | cons a b => exact h.elim, fun g hg => (List.not_mem_nil hg).elim⟩
theorem dgs_cons {t : Expr} {ts : List Expr} {is js : List Nat} {g : STg} {gs : List STg} (h1 : DG X Γ t is g) (h2 : DGs X Γ ts js gs) (hs : (assignEach (t :: ts) X.env).map (·.2) = assign t X.env :: (assignEach ts X.env).map (·.2) := by kernel_rfl) : DGs X Γ (t :: ts) (is ++ js) (g :: gs) :=
  ⟨pgs_imp (pgs_cons h1.1 h2.1 hs) fun vs σ H Q ⟨ρ, F, GO, ds, E, r, h⟩ => by
    cases r with
    | nil => exact h.elim
    | @cons v vs d ds r1 rr =>
      refine ⟨v, vs, rfl, ρ, F, GO, d, E, r1, ?_⟩
      rw [gEach_cons] at h
      cases q : g d ρ with
      | ok ρ1 =>
        rw [q] at h
        show ∀ σ', EnvR X.K Γ F GO σ' H ρ1 → _ → _
        intro σ1 E1 w1
        refine ⟨ρ1, F, GO, ds, E1, rr, ?_⟩
        have h' : match gEach gs ds ρ1 with
          | .ok ρ' => ∀ σ', EnvR X.K Γ F GO σ' H ρ' → (∀ js_1, (∀ i, i ∈ is ++ js → i ∈ js_1) → wipe σ' js_1 = wipe σ js_1) → Q σ' H
          | _ => False := h
        cases q2 : gEach gs ds ρ1 with
        | ok ρ2 =>
          rw [q2] at h'
          exact fun σ2 E2 w2 => h' σ2 E2 fun ks hk => (w2 ks fun i hi => hk i (List.mem_append_right _ hi)).trans (w1 ks fun i hi => hk i (List.mem_append_left _ hi))
        | exc _ => rw [q2] at h'; exact h'.elim
        | bad => rw [q2] at h'; exact h'.elim
      | exc _ => rw [q] at h; exact h.elim
      | bad => rw [q] at h; exact h.elim, fun g' hg' => by
    rcases List.mem_cons.mp hg' with e | hg'
    · subst e; exact h1.2
    · exact h2.2 g' hg'⟩
theorem gEach_nx : ∀ {gs : List STg}, (∀ g, g ∈ gs → ∀ d ρ c, g d ρ ≠ .exc c) → ∀ ds ρ c, gEach gs ds ρ ≠ .exc c
  | [], _, [], _, _, h => nomatch h
  | [], _, _ :: _, _, _, h => nomatch h
  | _ :: _, _, [], _, _, h => nomatch h
  | g :: gs, n, d :: ds, ρ, c, h => by
    rw [gEach_cons] at h
    cases q : g d ρ with
    | ok ρ1 => rw [q] at h; exact gEach_nx (fun g' hg' => n g' (List.mem_cons_of_mem _ hg')) ds ρ1 c h
    | exc _ => exact n g List.mem_cons_self _ _ _ q
    | bad => rw [q] at h; cases h
theorem gEach_len : ∀ {gs : List STg} {ds : List Da} {ρ ρ' : Ev}, gEach gs ds ρ = .ok ρ' → ds.length = gs.length
  | [], [], _, _, _ => rfl
  | [], _ :: _, _, _, h => by cases h
  | _ :: _, [], _, _, h => by cases h
  | g :: gs, d :: ds, ρ, ρ', h => by
    rw [gEach_cons] at h
    cases q : g d ρ with
    | ok ρ1 => rw [q] at h; exact congrArg (· + 1) (gEach_len (ρ := ρ1) (ρ' := ρ') h)
    | exc _ => rw [q] at h; cases h
    | bad => rw [q] at h; cases h
theorem dg_tup {es : List Expr} {k : Nat} {is : List Nat} {gs : List STg} (hc : X.calm = true) (h : DGs X Γ es is gs) (hn : (assignEach es X.env).length = gs.length := by kernel_rfl) (hst : (assignEach es X.env).findIdx? (·.1) = none := by kernel_rfl) : DG X Γ (.Tuple es k pos) is (gTupD gs) :=
  ⟨pg_imp (pg_tup hc h.1 hn hst) fun v σ H Q ⟨ρ, F, GO, d, E, r, h⟩ => by
    cases d with
    | tuple ds =>
      cases r with
      | tup hq n rr =>
        rw [gTupD_tuple] at h
        refine ⟨_, _, rfl, hq, ?_, ρ, F, GO, ds, E, rr, h⟩
        rw [rr.length]
        cases q : gEach gs ds ρ with
        | ok ρ' => exact gEach_len q
        | exc _ => rw [q] at h; exact h.elim
        | bad => rw [q] at h; exact h.elim
    | _ => exact h.elim, fun d ρ c q => by
    cases d with
    | tuple ds => exact gEach_nx h.2 ds ρ c q
    | _ => cases q⟩
end

/-! ### what is walked -/
section
variable {X : Cx} {W : WX} {Γ : List Nat} {e a b : Expr} {fl fa fb : Fl} {se sa sb : SE} {pos p p2 : Pos} {x : Str} {tg : Expr}
/-- the turns give the items xs, from H1 on, while all but G is kept -/
def ItD (K : PySem.W.Frag) (G O : List Addr) (H1 : Hp) (J : It) (xs : List Da) : Prop := ∀ i H O', Grow G O O' H1 H → (∀ x, xs[i]? = some x → J.go i H ∧ ∀ v H', J.yld i H v H' → Same H H' ∧ Rp K H' O' v x) ∧ (i = xs.length → J.stop i H)
def sto (s : Bool) (O : List Addr) : List Addr := if s then O else []
def tDI (K : PySem.W.Frag) (mg : MG) (W : WX) (Γ : List Nat) (s : Bool) (si : SI) : TI := fun σ H R' => At K Γ σ H fun ρ F GO => FinG mg W σ H (si ρ) fun xs => ∀ J H1, Same H H1 → ItD K (sto s (Ads GO ++ F)) (Ads GO ++ F) H1 J xs → xs.length ≤ big → R' J H1
def DI (X : Cx) (W : WX) (Γ : List Nat) (tg iter : Expr) (s : Bool) (si : SI) : Prop := PI X tg iter (tDI X.K X.mg W Γ s si)
theorem pi_imp {t t' : TI} (h : PI X tg e t) (w : ∀ σ H Q, t' σ H Q → t σ H Q) : PI X tg e t' := ⟨fun pins s σ H Q I q => h.run pins s σ H Q I (w _ _ _ q)⟩
/-- a list or a tuple, by its value -/
def iLT (K : PySem.W.Frag) (tl : TE) : TI := fun σ H R' => tl σ H fun x H1 => ∃ a, x = .ref a ∧ (((∃ xs, SqL K H1 a xs) ∧ R' (Itl K a) H1) ∨ ((∃ xs, SqT K H1 a xs) ∧ R' (Itt K a) H1))
theorem pi_lt {l : Expr} {tl : TE} (hl : PE X l tl) : PI X tg l (iLT X.K tl) := by
  refine ⟨fun pins s σ H R I h => ?_⟩
  refine thn (hl.run pins s σ H _ I h) fun v s1 ⟨x, H1, I1, r1, q1⟩ => ?_
  obtain ⟨a, e, q⟩ := q1
  subst e
  cases r1
  rcases q with ⟨⟨xs, hq⟩, q⟩ | ⟨⟨xs, hq⟩, q⟩
  · obtain ⟨its, rv, p, hz⟩ := I1.list hq
    refine wpAny_pyIter_list p.isList ?_
    refine ⟨s1.heap.objs.size, [s1.heap.objs.size], _, _, H1, rfl, I1.kept (t' := s1.toks) fun b o e => Heap.get?_push_of_some _ e, turn_list a _, ⟨_, Heap.get?_push_size _ rfl, rfl, rfl⟩, fun b hb => ?_, q⟩
    have e : b = s1.heap.objs.size := by simpa using hb
    subst e
    exact I1.fpOk (Nat.le_refl _) (I1.hok.fresh (Nat.le_refl _))
  · obtain ⟨its, rv, p, hz⟩ := I1.tuple hq
    refine wpAny_pyIter_tuple (show s1.heap.IsTuple a its.toArray from p) ?_
    refine ⟨s1.heap.objs.size, [s1.heap.objs.size], _, _, H1, rfl, I1.kept (t' := s1.toks) fun b o e => Heap.get?_push_of_some _ e, turn_tuple a _, ⟨_, Heap.get?_push_size _ rfl, rfl, rfl⟩, fun b hb => ?_, q⟩
    have e : b = s1.heap.objs.size := by simpa using hb
    subst e
    exact I1.fpOk (Nat.le_refl _) (I1.hok.fresh (Nat.le_refl _))
/-- the list stays as it is -/
theorem Res.stays {K : PySem.W.Frag} {H0 H1 : Hp} {GO : List (Nat × Addr)} {F : List Addr} {v : V} {ds : List Da} (h : Res K H0 H1 (Ads GO ++ F) fl v (.list ds)) (s : Bool) (hs : s = true → storable [fl] = true) :
    ∃ p vs, v = .ref p ∧ RpAll K H1 (Ads GO ++ F) vs ds ∧ ds.length ≤ big ∧ ∀ H O', Grow (sto s (Ads GO ++ F)) (Ads GO ++ F) O' H1 H → SqL K H p vs := by
  cases s with
  | true =>
    have h' := h.stored (hs rfl)
    cases h' with
    | lst hh n r =>
      refine ⟨_, _, rfl, r, n, fun H O' g => (LsR.mono (O' := O') g hh).sq⟩
  | false =>
    obtain ⟨p, vs, rfl, s1, r1, n1⟩ := h.list
    refine ⟨p, vs, rfl, r1, n1, fun H O' g => ?_⟩
    have k : Same H1 H := fun b o e => g.keep b o e fun z => (List.not_mem_nil z).elim
    exact k.seq s1
theorem di_l (s : Bool) (he : DE X W Γ e fl se) (hs : s = true → storable [fl] = true) : DI X W Γ tg e s (iL se) :=
  pi_imp (pi_lt he) fun σ H Q h => by
    obtain ⟨ρ, F, GO, E, h⟩ := h
    refine at_e E h fun d v H1 s1 r1 E1 h1 => ?_
    cases d with
    | list ds =>
      obtain ⟨p, vs, rfl, r2, n2, st⟩ := r1.stays s hs
      have h2 := h1 (Itl X.K p) H1 s1 ?_ n2
      · refine ⟨p, rfl, .inl ⟨⟨vs, st H1 (Ads GO ++ F) ⟨.refl H1, fun b hb => ?_, fun b hb => .inl hb⟩⟩, h2⟩⟩
        cases s with
        | true => exact hb
        | false => exact (List.not_mem_nil hb).elim
      · intro i H' O' g
        have q := st H' O' g
        refine ⟨fun x hx => ?_, fun hl => ⟨vs, q, by rw [r2.length]; omega⟩⟩
        obtain ⟨v, hv, rv⟩ := (r2.mono g).get hx
        refine ⟨⟨vs, v, q, hv⟩, fun v' H'' ⟨e1, e2⟩ => ?_⟩
        subst e1
        have := e2 vs q
        rw [hv] at this
        cases this
        exact ⟨.refl _, rv⟩
    | tuple ds =>
      obtain ⟨p, vs, rfl, q1, r2, n2⟩ := r1.tuple
      have h2 := h1 (Itt X.K p) H1 s1 ?_ n2
      · exact ⟨p, rfl, .inr ⟨⟨vs, q1⟩, h2⟩⟩
      · intro i H' O' g
        have q := sqt_keep g.keep q1
        refine ⟨fun x hx => ?_, fun hl => ⟨vs, q, by rw [r2.length]; omega⟩⟩
        obtain ⟨v, hv, rv⟩ := (r2.mono g).get hx
        refine ⟨⟨vs, v, q, hv⟩, fun v' H'' ⟨e1, e2⟩ => ?_⟩
        subst e1
        have := e2 vs q
        rw [hv] at this
        cases this
        exact ⟨.refl _, rv⟩
    | _ => exact h1.elim
theorem rngD_get {lo : Int} {n i : Nat} {x : Da} (h : (rngD lo n)[i]? = some x) : i < n ∧ x = .int (lo + (i : Nat)) := by
  unfold rngD at h
  rw [List.getElem?_map] at h
  by_cases hi : i < n
  · rw [List.getElem?_range hi] at h
    exact ⟨hi, (Option.some.inj h).symm⟩
  · rw [List.getElem?_eq_none (by rw [List.length_range]; omega)] at h
    cases h
theorem rngD_len (lo : Int) (n : Nat) : (rngD lo n).length = n := by unfold rngD; rw [List.length_map, List.length_range]
theorem itD_rng {K : PySem.W.Frag} {G O : List Addr} {H1 : Hp} {lo : Int} {n : Nat} : ItD K G O H1 (Itr lo n) (rngD lo n) := fun i H O' g =>
  ⟨fun x hx => by
    obtain ⟨hi, rfl⟩ := rngD_get hx
    exact ⟨hi, fun v H' ⟨e1, e2⟩ => by subst e1 e2; exact ⟨.refl _, .int _⟩⟩, fun hl => by rw [rngD_len] at hl; exact Nat.le_of_eq hl.symm⟩
theorem di_rng1 (s : Bool) (hg : Gl X "range") (hm : X.mg "range" = none) (ha : DA X W Γ [a] [fa] (aCons sa aNil)) (hs : starEach [a] X.env = [(false, eval a X.env)] := by kernel_rfl) : DI X W Γ tg (.Call (.Name "range" p) [a] [] pos) s (iRng1 sa) :=
  pi_imp (pi_range1 hg hm ha hs) fun σ H Q h => by
    obtain ⟨ρ, F, GO, E, h⟩ := h
    have h : FinG X.mg W σ H ((aCons sa aNil ρ).bind fun xs => match xs with | [x] => (toI x).bind fun n => dRng 0 n | _ => .bad) fun xs => ∀ J H1, Same H H1 → ItD X.K (sto s (Ads GO ++ F)) (Ads GO ++ F) H1 J xs → xs.length ≤ big → Q J H1 := by
      have h0 : FinG X.mg W σ H ((sa ρ).bind fun x => (toI x).bind fun n => dRng 0 n) fun xs => ∀ J H1, Same H H1 → ItD X.K (sto s (Ads GO ++ F)) (Ads GO ++ F) H1 J xs → xs.length ≤ big → Q J H1 := h
      unfold aCons
      cases q : sa ρ with
      | ok x => rw [q] at h0; exact h0
      | exc c => rw [q] at h0; exact h0
      | bad => rw [q] at h0; exact h0
    refine at_a E h fun ds vs H1 s1 r1 E1 h1 => ?_
    obtain ⟨v, d, rfl, rfl, q1⟩ := r1.one
    have h1 : FinG X.mg W σ H1 ((toI d).bind fun n => dRng 0 n) fun xs => ∀ J H1, Same H H1 → ItD X.K (sto s (Ads GO ++ F)) (Ads GO ++ F) H1 J xs → xs.length ≤ big → Q J H1 := h1
    cases d with
    | int j =>
      cases q1.int
      have h2 : FinG X.mg W σ H1 (dRng 0 j) fun xs => ∀ J H1, Same H H1 → ItD X.K (sto s (Ads GO ++ F)) (Ads GO ++ F) H1 J xs → xs.length ≤ big → Q J H1 := h1
      unfold dRng at h2
      split at h2
      · rename_i c
        obtain ⟨c1, c2, c3, c4, c5⟩ := rngC c
        refine ⟨j, rfl, c3, c4, ?_⟩
        have := h2 (Itr 0 (j - 0).toNat) H1 s1 itD_rng (by rw [rngD_len]; exact c5)
        rw [Int.sub_zero] at this
        exact this
      · exact h2.elim
    | _ => exact h1.elim
theorem di_rng2 (s : Bool) (hg : Gl X "range") (hm : X.mg "range" = none) (ha : DA X W Γ [a, b] [fa, fb] (aCons sa (aCons sb aNil))) (hs : starEach [a, b] X.env = [(false, eval a X.env), (false, eval b X.env)] := by kernel_rfl) (hs2 : starEach [b] X.env = [(false, eval b X.env)] := by kernel_rfl) : DI X W Γ tg (.Call (.Name "range" p) [a, b] [] pos) s (iRng2 sa sb) :=
  pi_imp (pi_range2 hg hm ha hs hs2) fun σ H Q h => by
    obtain ⟨ρ, F, GO, E, h⟩ := h
    have h : FinG X.mg W σ H ((aCons sa (aCons sb aNil) ρ).bind fun xs => match xs with | [x, y] => (toI x).bind fun i => (toI y).bind fun j => dRng i j | _ => .bad) fun xs => ∀ J H1, Same H H1 → ItD X.K (sto s (Ads GO ++ F)) (Ads GO ++ F) H1 J xs → xs.length ≤ big → Q J H1 := by
      have h0 : FinG X.mg W σ H ((sa ρ).bind fun x => (sb ρ).bind fun y => (toI x).bind fun i => (toI y).bind fun j => dRng i j) fun xs => ∀ J H1, Same H H1 → ItD X.K (sto s (Ads GO ++ F)) (Ads GO ++ F) H1 J xs → xs.length ≤ big → Q J H1 := h
      unfold aCons
      cases q : sa ρ with
      | ok x =>
        rw [q] at h0
        have h0 : FinG X.mg W σ H ((sb ρ).bind fun y => (toI x).bind fun i => (toI y).bind fun j => dRng i j) _ := h0
        cases q2 : sb ρ with
        | ok y => rw [q2] at h0; simpa [q2] using h0
        | exc c => rw [q2] at h0; simpa [q2] using h0
        | bad => rw [q2] at h0; simpa [q2] using h0
      | exc c => rw [q] at h0; exact h0
      | bad => rw [q] at h0; exact h0
    refine at_a E h fun ds vs H1 s1 r1 E1 h1 => ?_
    obtain ⟨v, d, v2, d2, rfl, rfl, q1, q2⟩ := r1.two
    have h1 : FinG X.mg W σ H1 ((toI d).bind fun i => (toI d2).bind fun j => dRng i j) fun xs => ∀ J H1, Same H H1 → ItD X.K (sto s (Ads GO ++ F)) (Ads GO ++ F) H1 J xs → xs.length ≤ big → Q J H1 := h1
    cases d with
    | int i =>
      cases d2 with
      | int j =>
        cases q1.int
        cases q2.int
        have h2 : FinG X.mg W σ H1 (dRng i j) fun xs => ∀ J H1, Same H H1 → ItD X.K (sto s (Ads GO ++ F)) (Ads GO ++ F) H1 J xs → xs.length ≤ big → Q J H1 := h1
        unfold dRng at h2
        split at h2
        · rename_i c
          obtain ⟨c1, c2, c3, c4, c5⟩ := rngC c
          exact ⟨i, j, rfl, ⟨c1, c2, c3, c4⟩, h2 (Itr i (j - i).toNat) H1 s1 itD_rng (by rw [rngD_len]; exact c5)⟩
        · exact h2.elim
      | _ => exact h1.elim
    | _ => exact h1.elim
end
end DL
set_option Elab.async false
set_option linter.all false
set_option maxRecDepth 100000
namespace DL
open PySem PySem.Spec PyProof.Rows L2

/-! ### comprehensions -/
section
variable {X : Cx} {W : WX} {Γ : List Nat} {pos : Pos}
theorem lcL_cons {f : Da → R (Option Da)} {x : Da} {xs ys : List Da} (h : lcL f (x :: xs) = .ok ys) : ∃ y zs, f x = .ok y ∧ lcL f xs = .ok zs ∧ ys = (match y with
    | none => zs
    | some v => v :: zs) := by
  unfold lcL at h
  cases e : f x with
  | ok y =>
    rw [e] at h
    cases q : lcL f xs with
    | ok zs =>
      rw [q] at h
      exact ⟨y, zs, rfl, rfl, (R.ok.inj h).symm⟩
    | exc _ => rw [q] at h; cases h
    | bad => rw [q] at h; cases h
  | exc _ => rw [e] at h; cases h
  | bad => rw [e] at h; cases h
theorem lcL_nx {f : Da → R (Option Da)} : ∀ (xs : List Da) (c : Str), lcL f xs ≠ .exc c
  | [], c, h => nomatch h
  | x :: xs, c, h => by
    unfold lcL at h
    cases e : f x with
    | ok y =>
      rw [e] at h
      cases q : lcL f xs with
      | ok zs => rw [q] at h; cases h
      | exc _ => rw [q] at h; cases h
      | bad => rw [q] at h; cases h
    | exc _ => rw [e] at h; cases h
    | bad => rw [e] at h; cases h
theorem lcL_len {f : Da → R (Option Da)} : ∀ {xs ys : List Da}, lcL f xs = .ok ys → ys.length ≤ xs.length
  | [], ys, h => by cases h; exact Nat.le_refl _
  | x :: xs, ys, h => by
    obtain ⟨y, zs, _, e2, rfl⟩ := lcL_cons h
    have := lcL_len e2
    cases y with
    | none => exact Nat.le_succ_of_le this
    | some v => exact Nat.succ_le_succ this
theorem ok_of_fin {α : Type} {mg : MG} {σ : L2.St} {H : Hp} {r : R α} {P : α → Prop} (h : ∃ a, r = .ok a ∧ P a) : FinG mg W σ H r P := by
  obtain ⟨a, rfl, h⟩ := h
  exact h
/-- the list that a comprehension makes is foreign to what it reckons -/
theorem EnvR.under {K : PySem.W.Frag} {F : List Addr} {GO : List (Nat × Addr)} {σ : L2.St} {H1 H : Hp} {ρ : Ev} {D : Addr} (E : EnvR K Γ F GO σ H1 ρ) (hD : H1 D = none) (s : Same H1 H) (hH : H D ≠ none) : EnvR K Γ (D :: F) GO σ H ρ := by
  have hn : D ∉ Ads GO ++ F := E.newp hD
  have g : Grow [] (Ads GO ++ F) (Ads GO ++ (D :: F)) H1 H := ⟨.of_same s, fun _ z => (List.not_mem_nil z).elim, fun b hb => by
    rcases List.mem_append.mp hb with hb | hb
    · exact .inl (List.mem_append_left _ hb)
    · rcases List.mem_cons.mp hb with e | hb
      · subst e; exact .inr hD
      · exact .inl (List.mem_append_right _ hb)⟩
  have E1 := E.mono s
  refine ⟨E.len, E.dom, E.inj, fun p hp hz => ?_, fun b hb => ?_, fun i p hp => ?_, fun i d hi hd => ?_⟩
  · rcases List.mem_cons.mp hz with e | hz
    · subst e; exact hn (List.mem_append_left _ hp)
    · exact E.dis p hp hz
  · rcases List.mem_cons.mp hb with e | hb
    · subst e; exact hH
    · exact E1.frn b hb
  · obtain ⟨h1, d, h2, h3⟩ := E.own i p hp
    exact ⟨h1, d, h2, h3.mono g List.not_mem_nil⟩
  · obtain ⟨v, h1, h2⟩ := E.sh i d hi hd
    exact ⟨v, h1, h2.mono g⟩
theorem Same.upd_new {H1 H : Hp} {D : Addr} {o : HO} (hD : H1 D = none) (s : Same H1 H) : Same H1 (upd H D o) := fun b x e => by
  rw [upd_ne (ne_of_none e hD)]
  exact s b x e
theorem lc_s {own : List Nat} {si : SI} {is : List Nat} {g : STg} {st se : SE} {fl : Fl} (hown : own.all (fun i => !Γ.contains i) = true) (his : is.all (fun i => own.contains i) = true) (hf : storable [fl] = true)
    {σ : L2.St} {H0 : Hp} {Q : VK} (h : tDE X.K X.mg W Γ .fr (eLc si g own st se) σ H0 Q) :
    tLc (tDI X.K X.mg W Γ false si) (tDG X.K Γ is g) (tDT X.K X.mg W0 Γ st) (tDE X.K X.mg W0 Γ fl se) own σ H0 Q := by
  obtain ⟨ρ, F, GO, E, h⟩ := h
  have hown' : ∀ i, i ∈ own → i ∉ Γ := fun i hi hz => by
    have := List.all_eq_true.mp hown i hi
    rw [List.contains_iff_mem.mpr hz] at this
    cases this
  have his' : ∀ i, i ∈ is → i ∈ own := fun i hi => List.contains_iff_mem.mp (List.all_eq_true.mp his i hi)
  unfold eLc at h
  refine ⟨ρ, F, GO, E, h.bind.imp fun xs _ h J H1 s1 itd hlen D hD => ?_⟩
  obtain ⟨ys, hys, h⟩ := FinG.bind_ok (lcL_nx xs) h
  have hq : PE_ X.K H0 (Ads GO ++ F) .fr Q (.list ys) := h
  have E1 := E.mono s1
  have hnD : D ∉ Ads GO ++ F := E1.newp hD
  have sub : ∀ b, b ∈ Ads GO ++ F → b ∈ Ads GO ++ (D :: F) := fun b hb => by
    rcases List.mem_append.mp hb with hb | hb
    · exact List.mem_append_left _ hb
    · exact List.mem_append_right _ (List.mem_cons_of_mem _ hb)
  refine ⟨fun i m H => i ≤ xs.length ∧ m = xs.length - i ∧ Same H1 H ∧ ∃ acc ds zs, H D = some (.lst acc) ∧ RpAll X.K H (Ads GO ++ (D :: F)) acc ds ∧ ds.length ≤ i ∧ lcL (lcF g own st se ρ) (xs.drop i) = .ok zs ∧ ds ++ zs = ys,
    ⟨xs.length, Nat.zero_le _, rfl, Same.upd_new hD (.refl H1), [], [], ys, upd_same, .nil, Nat.le_refl _, hys, rfl⟩, ?_⟩
  rintro i m H ⟨hi, rfl, sH, acc, ds, zs, hacc, racc, hdl, hzs, hcat⟩
  have gr : Grow [] (Ads GO ++ F) (Ads GO ++ (D :: F)) H1 H := ⟨.of_same sH, fun _ z => (List.not_mem_nil z).elim, fun b hb => by
    rcases List.mem_append.mp hb with hb | hb
    · exact .inl (List.mem_append_left _ hb)
    · rcases List.mem_cons.mp hb with e | hb
      · subst e; exact .inr hD
      · exact .inl (List.mem_append_right _ hb)⟩
  obtain ⟨it1, it2⟩ := itd i H _ gr
  by_cases hlt : i < xs.length
  · refine .inr ?_
    have hx : xs[i]? = some xs[i] := List.getElem?_eq_getElem hlt
    obtain ⟨go, yld⟩ := it1 _ hx
    have hdrop : xs.drop i = xs[i] :: xs.drop (i + 1) := List.drop_eq_getElem_cons hlt
    rw [hdrop] at hzs
    obtain ⟨y, ws, e1, e2, e3⟩ := lcL_cons hzs
    refine ⟨go, fun H' => Same H1 H' ∧ ∃ acc ds zs, H' D = some (.lst acc) ∧ RpAll X.K H' (Ads GO ++ (D :: F)) acc ds ∧ ds.length ≤ i + 1 ∧ lcL (lcF g own st se ρ) (xs.drop (i + 1)) = .ok zs ∧ ds ++ zs = ys, fun H' hw => ⟨xs.length - (i + 1), by omega, hlt, rfl, hw⟩, fun v H' hv => ?_⟩
    obtain ⟨s2, rv⟩ := yld v H' hv
    have sH' : Same H1 H' := sH.trans s2
    have hD' : H' D = some (.lst acc) := s2 _ _ hacc
    have EB : EnvR X.K Γ (D :: F) GO (wipe σ own) H' (kill ρ own) := (E1.under hD sH' (by rw [hD']; exact fun z => nomatch z)).wipeAll hown'
    unfold lcF at e1
    cases q1 : g xs[i] (kill ρ own) with
    | ok ρ1 =>
      rw [q1] at e1
      refine ⟨kill ρ own, D :: F, GO, xs[i], EB, rv, ?_⟩
      rw [q1]
      intro σ2 E2 w2
      refine ⟨(w2 own his').trans (wipe_ext (wipe_length _ _) fun j hj => ?_), ?_⟩
      · by_cases hl : j < σ.length
        · rw [wipe_get σ own j hl, if_neg hj]
        · rw [List.getElem?_eq_none (by rw [wipe_length]; omega), List.getElem?_eq_none (by omega)]
      have e1 : ((st ρ1).bind fun b => if tru b then (se ρ1).bind fun v => .ok (some v) else .ok none) = .ok y := e1
      cases q2 : st ρ1 with
      | ok b =>
        rw [q2] at e1
        have e1 : (if tru b then (se ρ1).bind fun v => .ok (some v) else .ok none) = .ok y := e1
        refine ⟨ρ1, D :: F, GO, E2, ok_of_fin ⟨b, q2, fun H3 s3 => ?_⟩⟩
        cases q3 : tru b with
        | true =>
          rw [if_pos rfl]
          rw [q3, if_pos rfl] at e1
          cases q4 : se ρ1 with
          | ok d =>
            rw [q4] at e1
            have ey : y = some d := (R.ok.inj e1).symm
            subst ey
            refine ⟨ρ1, D :: F, GO, E2.mono s3, ok_of_fin ⟨d, q4, fun v4 H4 s4 r4 => ?_⟩⟩
            have hD4 : H4 D = some (.lst acc) := s4 _ _ (s3 _ _ hD')
            have sH4 : Same H1 H4 := (sH'.trans s3).trans s4
            have r4' := r4.stored hf
            have g4 : Grow [D] (Ads GO ++ (D :: F)) (Ads GO ++ (D :: F)) H4 (upd H4 D (.lst (acc ++ [v4]))) := ⟨fun b o e hb => by
              by_cases q : b = D
              · subst q
                rw [hD4] at e
                cases e
                cases hb List.mem_cons_self
              · rw [upd_ne q]; exact e, fun b hb => by
              rw [List.mem_singleton] at hb
              subst hb
              exact List.mem_append_right _ List.mem_cons_self, fun b hb => .inl hb⟩
            have racc4 : RpAll X.K H4 (Ads GO ++ (D :: F)) acc ds := racc.mono (.same ((s2.trans s3).trans s4))
            refine ⟨acc, hD4, ?_, Same.upd_new hD sH4, acc ++ [v4], ds ++ [d], ws, upd_same, (racc4.append (.cons r4' .nil)).mono g4, ?_, e2, ?_⟩
            · rw [racc.length]
              exact Nat.lt_of_le_of_lt hdl (Nat.lt_of_lt_of_le hlt (big_le hlen))
            · rw [List.length_append, List.length_singleton]; omega
            · rw [← hcat, e3, List.append_assoc]; rfl
          | exc _ => rw [q4] at e1; cases e1
          | bad => rw [q4] at e1; cases e1
        | false =>
          rw [if_neg Bool.false_ne_true]
          rw [q3, if_neg Bool.false_ne_true] at e1
          have ey : y = none := (R.ok.inj e1).symm
          subst ey
          subst e3
          exact ⟨sH'.trans s3, acc, ds, zs, s3 _ _ hD', racc.mono (.same (s2.trans s3)), Nat.le_succ_of_le hdl, e2, hcat⟩
      | exc _ => rw [q2] at e1; cases e1
      | bad => rw [q2] at e1; cases e1
    | exc _ => rw [q1] at e1; cases e1
    | bad => rw [q1] at e1; cases e1
  · have hi' : i = xs.length := by omega
    refine .inl ⟨it2 (by omega), ?_⟩
    have ez : zs = [] := by
      rw [List.drop_of_length_le (by omega)] at hzs
      cases hzs; rfl
    subst ez
    rw [List.append_nil] at hcat
    subst hcat
    have g5 : Grow [] (Ads GO ++ (D :: F)) (Ads GO ++ F) H H := .sub_ (.refl H) sub
    have g6 : Grow [] (Ads GO ++ (D :: F)) (D :: (Ads GO ++ F)) H H := .sub_ (.refl H) fun b hb => by
      rcases List.mem_cons.mp hb with e | hb
      · subst e; exact List.mem_append_right _ List.mem_cons_self
      · exact sub b hb
    have nl : ds.length ≤ big := Nat.le_trans hdl (by omega)
    refine hq _ _ (s1.trans sH) ⟨.lst (.inl ⟨.inl hacc, hnD⟩) nl (racc.mono g5), fun ds' e => ?_⟩
    cases e
    exact ⟨D, rfl, s1.free hD, acc, hacc, racc.mono g6, nl⟩
section
variable {elt tg iter : Expr} {ifs : List Expr} {scope : Scope} {own : List (Str × Nat)} {si : SI} {is : List Nat} {g : STg} {st se : SE} {fl : Fl}
def DTs (X : Cx) (W : WX) (Γ : List Nat) (ifs : List Expr) (st : SE) : Prop := PTs X ifs (tDT X.K X.mg W Γ st)
theorem dts_nil : DTs X W Γ [] eYes := ⟨fun pins s σ H Q I h => pts_nil.run pins s σ H Q I (by
  obtain ⟨ρ, F, GO, E, h⟩ := h
  exact h H (.refl H))⟩
theorem dts_one {c : Expr} {sc : SE} (h : DT X W Γ c sc) : DTs X W Γ [c] sc := pts_one h
theorem de_lc (hc : X.calm = true) (hN : X.N.Nodup) (hi : DI X W Γ tg iter false si) (ok : BlkOk X.N X.env.scope scope own)
    (hown : (own.map (·.2)).all (fun i => !Γ.contains i) = true) (his : is.all (fun i => (own.map (·.2)).contains i) = true)
    (hg : ∀ (s : Shared) (H : Hp) (C : Addr) (cl : List (Str × Addr)) (fp : List Addr), DG (X.blk s H scope (compEnvC scope cl C X.env) fp) Γ tg is g)
    (ht : ∀ (s : Shared) (H : Hp) (C : Addr) (cl : List (Str × Addr)) (fp : List Addr), DTs (X.blk s H scope (compEnvC scope cl C X.env) fp) W0 Γ ifs st)
    (he : ∀ (s : Shared) (H : Hp) (C : Addr) (cl : List (Str × Addr)) (fp : List Addr), DE (X.blk s H scope (compEnvC scope cl C X.env) fp) W0 Γ elt fl se) (hf : storable [fl] = true := by kernel_rfl)
    (hs : ∀ x, foldedSetIterable iter X.env x = pure x := by intro _; rfl) :
    DE X W Γ (.ListComp elt [⟨tg, iter, ifs, 0⟩] scope pos) .fr (eLc si g (own.map (·.2)) st se) :=
  pe_imp (pe_lc (wi := tDI X.K X.mg W Γ false si) (g := tDG X.K Γ is g) (tt := tDT X.K X.mg W0 Γ st) (te := tDE X.K X.mg W0 Γ fl se) hc hN hi ok (fun s H C cl fp => (hg s H C cl fp).1) ht he hs) fun σ H0 Q h => lc_s hown his hf h
end
end
end DL
set_option Elab.async false
set_option linter.all false
set_option maxRecDepth 100000
namespace DL
open PySem PySem.Spec PyProof.Rows L2

/-! ### statements -/
def FinS (K : PySem.W.Frag) (mg : MG) (W : WX) (Γ' : List Nat) (F : List Addr) (GO : List (Nat × Addr)) (H : Hp) (r : R Out) (D : Ends) : Prop := match r with
  | .ok (.nx ρ') => ∀ σ' H' GO', EnvR K Γ' F GO' σ' H' ρ' → Keep (Ads GO) H H' → (∀ b, b ∈ Ads GO' → b ∈ Ads GO ∨ H b = none) → D.nx σ' H'
  | .ok (.rt d) => ∀ v H', Keep (Ads GO) H H' → Rp K H' F v d → D.rt v H'
  | .ok (.rf d) => ∀ p H', Keep (Ads GO) H H' → (p ∈ Ads GO ∨ H p = none) → Own K H' (p :: F) p d → D.rt (.ref p) H'
  | .exc c => ∀ C σ' H', mg c = some (.ref C) → Keep (Ads GO) H H' → W (.ref C) none σ' H'
  | .bad => False
def tDS (K : PySem.W.Frag) (mg : MG) (W : WX) (Γ Γ' : List Nat) (ss : SS) : TS := fun D σ H => At K Γ σ H fun ρ F GO => FinS K mg W Γ' F GO H (ss ρ) D
def DS (X : Cx) (W : WX) (Γ : List Nat) (st : Stmt) (Γ' : List Nat) (ss : SS) : Prop := PS X st (tDS X.K X.mg W Γ Γ' ss)
def DSs (X : Cx) (W : WX) (Γ : List Nat) (st : List Stmt) (Γ' : List Nat) (ss : SS) : Prop := PSs X st (tDS X.K X.mg W Γ Γ' ss)
section
variable {K : PySem.W.Frag} {mg : MG} {W : WX} {Γ Γ' : List Nat} {F : List Addr} {GO GO1 : List (Nat × Addr)} {σ : L2.St} {H H1 H' : Hp} {ρ : Ev} {D : Ends} {G G' : List Addr}
theorem Keep.trans (h1 : Keep G H H1) (h2 : Keep G' H1 H') (n : ∀ b, b ∈ G' → b ∈ G ∨ H b = none) : Keep G H H' := fun b o e hb =>
  h2 b o (h1 b o e hb) fun z => (n b z).elim hb fun q => by rw [q] at e; cases e
theorem FinS.later {r : R Out} (k : Keep (Ads GO) H H1) (n : ∀ b, b ∈ Ads GO1 → b ∈ Ads GO ∨ H b = none) (h : FinS K mg W Γ' F GO H r D) : FinS K mg W Γ' F GO1 H1 r D := by
  have back : ∀ b, H1 b = none → H b = none ∨ b ∈ Ads GO := fun b e => by
    cases q : H b with
    | none => exact .inl rfl
    | some o =>
      by_cases hb : b ∈ Ads GO
      · exact .inr hb
      · rw [k b o q fun z => absurd z hb] at e; cases e
  cases r with
  | ok o =>
    cases o with
    | nx ρ' => exact fun σ' H' GO' E k' n' => h σ' H' GO' E (k.trans k' n) fun b hb => (n' b hb).elim (n b) fun e => (back b e).symm
    | rt d => exact fun v H' k' r' => h v H' (k.trans k' n) r'
    | rf d => exact fun p H' k' hp r' => h p H' (k.trans k' n) (hp.elim (n p) fun e => (back p e).symm) r'
  | exc c => exact fun C σ' H' hc k' => h C σ' H' hc (k.trans k' n)
  | bad => exact h
theorem FinS.ofG {α : Type} {r : R α} {f : α → R Out} (h : FinS K mg W Γ' F GO H (r.bind f) D) : FinG mg W σ H r fun a => FinS K mg W Γ' F GO H (f a) D := by
  cases r with
  | ok a => exact h
  | exc c => exact fun C H' hc s => h C σ H' hc (.of_same s)
  | bad => exact h
theorem FinS.imp {r : R Out} {D' : Ends} (h : FinS K mg W Γ' F GO H r D) (e : D.rt = D'.rt) (w : ∀ ρ' σ' H' GO', r = .ok (.nx ρ') → EnvR K Γ' F GO' σ' H' ρ' → Keep (Ads GO) H H' → (∀ b, b ∈ Ads GO' → b ∈ Ads GO ∨ H b = none) → D.nx σ' H' → D'.nx σ' H') : FinS K mg W Γ' F GO H r D' := by
  cases r with
  | ok o =>
    cases o with
    | nx ρ' => exact fun σ' H' GO' E k n => w ρ' σ' H' GO' rfl E k n (h σ' H' GO' E k n)
    | rt d => exact fun v H' k r => by rw [← e]; exact h v H' k r
    | rf d => exact fun p H' k hp r => by rw [← e]; exact h p H' k hp r
  | exc c => exact h
  | bad => exact h
theorem keep_less (n : ∀ b, b ∈ G' → b ∈ G) (h : Keep G' H H') : Keep G H H' := fun b o e hb => h b o e fun z => hb (n b z)
theorem same_new : ∀ b, b ∈ Ads GO → b ∈ Ads GO ∨ H b = none := fun _ hb => .inl hb
end

section
variable {X : Cx} {W : WX} {Γ Γ' Γ1 Γ2 : List Nat} {st : Stmt} {rest sts : List Stmt} {a b : SS} {e c tg : Expr} {fl : Fl} {se sc : SE} {pos p : Pos}
theorem ps_imp {t t' : TS} (h : PS X st t) (w : ∀ D σ H, t' D σ H → t D σ H) : PS X st t' := ⟨fun pins s σ H D I q => h.run pins s σ H D I (w _ _ _ q)⟩
theorem pss_imp {t t' : TS} (h : PSs X sts t) (w : ∀ D σ H, t' D σ H → t D σ H) : PSs X sts t' := ⟨fun pins s σ H D I q => h.run pins s σ H D I (w _ _ _ q)⟩
theorem seq_s {D : Ends} {σ : L2.St} {H : Hp} (h : tDS X.K X.mg W Γ Γ2 (sSeq a b) D σ H) : tSeq (tDS X.K X.mg W Γ Γ1 a) (tDS X.K X.mg W Γ1 Γ2 b) D σ H := by
  obtain ⟨ρ, F, GO, E, h⟩ := h
  refine ⟨ρ, F, GO, E, ?_⟩
  unfold sSeq at h
  show FinS _ _ _ _ _ _ _ (a ρ) _
  cases q : a ρ with
  | ok o =>
    rw [q] at h
    cases o with
    | nx ρ' => exact fun σ' H' GO' E' k n => ⟨ρ', F, GO', E', FinS.later k n h⟩
    | rt d => exact h
    | rf d => exact h
  | exc c => rw [q] at h; exact h
  | bad => rw [q] at h; exact h
theorem dss_cons (h1 : DS X W Γ st Γ1 a) (h2 : DSs X W Γ1 rest Γ2 b) : DSs X W Γ (st :: rest) Γ2 (sSeq a b) := pss_imp (pss_cons h1 h2) fun D σ H h => seq_s h
theorem dss_one (h : DS X W Γ st Γ1 a) : DSs X W Γ [st] Γ1 a := pss_one h
theorem dss_nil : DSs X W Γ [] Γ sNx := pss_imp pss_nil fun D σ H ⟨ρ, F, GO, E, h⟩ => h σ H GO E (.refl H) same_new
/-! ahead of a statement: owned lists given up, slots forgotten -/
theorem pre_s {D : Ends} {σ : L2.St} {H : Hp} (hf : Γ.filter (fun i => Γ1.contains i) = Γ1) (h : tDS X.K X.mg W Γ Γ' a D σ H) : tDS X.K X.mg W Γ1 Γ' a D σ H := by
  obtain ⟨ρ, F, GO, E, h⟩ := h
  have E1 := E.freeze fun i => Γ1.contains i
  rw [hf] at E1
  have sub : ∀ b, b ∈ Ads (GO.filter fun z => Γ1.contains z.1) → b ∈ Ads GO := fun b hb => by
    obtain ⟨z, hz, rfl⟩ := List.mem_map.mp hb
    exact List.mem_map.mpr ⟨z, (List.mem_filter.mp hz).1, rfl⟩
  exact ⟨ρ, F, _, E1, FinS.later (.refl H) (fun b hb => .inl (sub b hb)) h⟩
theorem ds_pre (hf : Γ.filter (fun i => Γ1.contains i) = Γ1) (h : DS X W Γ1 st Γ' a) : DS X W Γ st Γ' a := ps_imp h fun D σ H h => pre_s hf h
theorem dss_pre (hf : Γ.filter (fun i => Γ1.contains i) = Γ1) (h : DSs X W Γ1 sts Γ' a) : DSs X W Γ sts Γ' a := pss_imp h fun D σ H h => pre_s hf h
theorem post_s {D : Ends} {σ : L2.St} {H : Hp} (hf : Γ'.filter (fun i => Γ1.contains i) = Γ1) (h : tDS X.K X.mg W Γ Γ1 a D σ H) : tDS X.K X.mg W Γ Γ' a D σ H := by
  obtain ⟨ρ, F, GO, E, h⟩ := h
  refine ⟨ρ, F, GO, E, ?_⟩
  show FinS _ _ _ _ _ _ _ (a ρ) _
  cases q : a ρ with
  | ok o =>
    rw [q] at h
    cases o with
    | nx ρ' =>
      intro σ' H' GO' E' k n
      have E1 := E'.freeze fun i => Γ1.contains i
      rw [hf] at E1
      exact h σ' H' _ E1 k fun b hb => by
        obtain ⟨z, hz, rfl⟩ := List.mem_map.mp hb
        exact n _ (List.mem_map.mpr ⟨z, (List.mem_filter.mp hz).1, rfl⟩)
    | rt d => exact h
    | rf d => exact h
  | exc c => rw [q] at h; exact h
  | bad => rw [q] at h; exact h
theorem dss_post (hf : Γ'.filter (fun i => Γ1.contains i) = Γ1) (h : DSs X W Γ sts Γ' a) : DSs X W Γ sts Γ1 a := pss_imp h fun D σ H h => post_s hf h
theorem wk_s {ks : List Nat} {D : Ends} {σ : L2.St} {H : Hp} (hk : ks.all (fun i => !Γ.contains i) = true) (h : tDS X.K X.mg W Γ Γ' (sWk ks a) D σ H) : tDS X.K X.mg W Γ Γ' a D σ H := by
  obtain ⟨ρ, F, GO, E, h⟩ := h
  refine ⟨kill ρ ks, F, GO, E.killAll fun i hi hz => ?_, h⟩
  have := List.all_eq_true.mp hk i hi
  rw [List.contains_iff_mem.mpr hz] at this
  cases this
theorem ds_wk {ks : List Nat} (hk : ks.all (fun i => !Γ.contains i) = true) (h : DS X W Γ st Γ' a) : DS X W Γ st Γ' (sWk ks a) := ps_imp h fun D σ H h => wk_s hk h
theorem dss_wk {ks : List Nat} (hk : ks.all (fun i => !Γ.contains i) = true) (h : DSs X W Γ sts Γ' a) : DSs X W Γ sts Γ' (sWk ks a) := pss_imp h fun D σ H h => wk_s hk h
/-! simple statements -/
theorem at_s (F : List Addr) (GO : List (Nat × Addr)) {σ : L2.St} {H : Hp} {ρ : Ev} {D : Ends} (E : EnvR X.K Γ F GO σ H ρ) {f : Da → R Out} {R' : V → Hp → Prop} (h : FinS X.K X.mg W Γ' F GO H ((se ρ).bind f) D)
    (hk : ∀ d v H1, Same H H1 → Res X.K H H1 (Ads GO ++ F) fl v d → EnvR X.K Γ F GO σ H1 ρ → FinS X.K X.mg W Γ' F GO H1 (f d) D → R' v H1) : tDE X.K X.mg W Γ fl se σ H R' :=
  ⟨ρ, F, GO, E, h.ofG.imp fun d _ q v H1 s r => hk d v H1 s r (E.mono s) (FinS.later (.of_same s) same_new q)⟩
theorem ds_asg {g : STg} {is : List Nat} (he : DE X W Γ e fl se) (hg : DG X Γ tg is g) (hf : storable [fl] = true := by kernel_rfl) (hs : swapsWithSole [tg] e pos.line X.env = pure false := by kernel_rfl) (hw : swappedStores [tg] e X.env = pure none := by kernel_rfl)
    (h1 : (assignEach [tg] X.env).map (·.2) = [assign tg X.env] := by kernel_rfl) : DS X W Γ (.Assign [tg] e pos) Γ (sAsg g se) :=
  ps_imp (ps_asg he hg.1 hs hw h1) fun D σ H h => by
    obtain ⟨ρ, F, GO, E, h⟩ := h
    refine at_s F GO E h fun d v H1 s1 r1 E1 h1 => ⟨ρ, F, GO, d, E1, r1.stored hf, ?_⟩
    cases q : g d ρ with
    | ok ρ' => rw [q] at h1; exact fun σ' E' _ => h1 σ' H1 GO E' (.refl H1) same_new
    | exc _ => exact absurd q (hg.2 _ _ _)
    | bad => rw [q] at h1; exact h1.elim
/-- x = e -/
theorem ds_set {i : Nat} {x : Str} (hN : X.N.Nodup) (hi : X.N[i]? = some x) (hx : Loc X.env.scope x) (hΓ : Γ.contains i = false) (he : DE X W Γ e fl se) (hf : storable [fl] = true := by kernel_rfl) (hs : swapsWith e (some (.Name x p)) pos.line X.env = pure false := by kernel_rfl) (hff : X.fn x = true ∨ X.env.scope.names.lookup x = some .local := by first | exact .inl rfl | exact .inr rfl | assumption) :
    DS X W Γ (.Assign [.Name x p] e pos) Γ (sAsg (gVar i) se) :=
  ps_imp (ps_set hN hi hx he hs hff) fun D σ H h => by
    obtain ⟨ρ, F, GO, E, h⟩ := h
    refine at_s F GO E h fun d v H1 s1 r1 E1 h1 => ?_
    have hi' : i ∉ Γ := fun z => by rw [List.contains_iff_mem.mpr z] at hΓ; cases hΓ
    exact h1 _ H1 GO (E1.setS hi' (r1.stored hf)) (.refl H1) same_new
theorem EnvR.setO {K : PySem.W.Frag} {F : List Addr} {GO : List (Nat × Addr)} {σ : L2.St} {H0 H : Hp} {ρ : Ev} (E0 : EnvR K Γ F GO σ H0 ρ) (s : Same H0 H) {i : Nat} {p : Addr} {d : Da} (hi : i ∉ Γ) (hl : i < ρ.length) (hp : H0 p = none) (h : Own K H (p :: (Ads GO ++ F)) p d) :
    EnvR K (i :: Γ) F ((i, p) :: GO) (σ.set i (some (.ref p))) H (ρ.set i (some d)) := by
  have hn : p ∉ Ads GO ++ F := E0.newp hp
  have g : Grow [] (Ads GO ++ F) (p :: (Ads GO ++ F)) H0 H := Grow.more s hp
  have E := E0.mono s
  refine ⟨by rw [List.length_set, List.length_set, E.len], by rw [List.map_cons, E.dom], ?_, fun q hq => ?_, E.frn, fun j q hj => ?_, fun j d' hj hd => ?_⟩
  · exact List.nodup_cons.mpr ⟨fun z => hn (List.mem_append_left _ z), E.inj⟩
  · rcases List.mem_cons.mp hq with e | hq
    · subst e; exact fun z => hn (List.mem_append_right _ z)
    · exact E.dis q hq
  · rcases List.mem_cons.mp hj with e | hj
    · cases e
      exact ⟨List.getElem?_set_self (by rw [← E.len]; exact hl), d, List.getElem?_set_self hl, h⟩
    · have hij : i ≠ j := fun z => hi (by rw [← E.dom, z]; exact List.mem_map.mpr ⟨_, hj, rfl⟩)
      obtain ⟨h1, d', h2, h3⟩ := E0.own j q hj
      exact ⟨by rw [List.getElem?_set_ne hij]; exact h1, d', by rw [List.getElem?_set_ne hij]; exact h2, h3.mono g List.not_mem_nil⟩
  · have hij : i ≠ j := fun z => hj (by rw [z]; exact List.mem_cons_self)
    rw [List.getElem?_set_ne hij] at hd ⊢
    obtain ⟨v, h1, h2⟩ := E0.sh j d' (fun z => hj (List.mem_cons_of_mem _ z)) hd
    exact ⟨v, h1, h2.mono g⟩
/-- x = e, e a new list: x owns it -/
theorem own_s {i : Nat} {D : Ends} {σ : L2.St} {H : Hp} (hΓ : Γ.contains i = false) (h : tDS X.K X.mg W Γ (i :: Γ) (sOwn i se) D σ H) : tDE X.K X.mg W Γ .fr se σ H fun x H1 => gName i x σ H1 D.nx := by
  obtain ⟨ρ, F, GO, E, h⟩ := h
  have hi' : i ∉ Γ := fun z => by rw [List.contains_iff_mem.mpr z] at hΓ; cases hΓ
  unfold sOwn at h
  refine ⟨ρ, F, GO, E, h.ofG.imp fun d _ h1 v H1 s1 r1 => ?_⟩
  cases d with
  | list ds =>
    obtain ⟨p, rfl, hp, ho⟩ := r1.2 ds rfl
    have h2 : FinS X.K X.mg W (i :: Γ) F GO H (if i < ρ.length then .ok (.nx (ρ.set i (some (.list ds)))) else .bad) D := h1
    split at h2
    · rename_i hl
      exact h2 _ H1 _ (E.setO s1 hi' hl hp ho) (.of_same s1) (fun b hb => by
        rcases List.mem_cons.mp hb with e | hb
        · subst e; exact .inr hp
        · exact .inl hb)
    · exact h2.elim
  | _ => exact h1.elim
theorem ds_own {i : Nat} {x : Str} (hN : X.N.Nodup) (hi : X.N[i]? = some x) (hx : Loc X.env.scope x) (hΓ : Γ.contains i = false) (he : DE X W Γ e .fr se) (hs : swapsWith e (some (.Name x p)) pos.line X.env = pure false := by kernel_rfl) (hff : X.fn x = true ∨ X.env.scope.names.lookup x = some .local := by first | exact .inl rfl | exact .inr rfl | assumption) :
    DS X W Γ (.Assign [.Name x p] e pos) (i :: Γ) (sOwn i se) :=
  ps_imp (ps_set hN hi hx he hs hff) fun D σ H h => own_s hΓ h
/-! x = [.. for ..] on one line -/
section
variable {elt iter : Expr} {ifs : List Expr} {scope : Scope} {own : List (Str × Nat)} {si : SI} {is : List Nat} {g : STg} {ct : SE}
theorem ds_setLc {i : Nat} {y : Str} {py : Pos} {spos : Pos} (hc : X.calm = true) (hN : X.N.Nodup) (hy : X.N[i]? = some y) (hyl : X.env.scope.names.lookup y = some .local) (hΓ : Γ.contains i = false)
    (hsw : swapsWith (.ListComp elt [⟨tg, iter, ifs, 0⟩] scope pos) (some (.Name y py)) spos.line X.env = pure true) (hi : DI X W Γ tg iter false si) (ok : BlkOk X.N X.env.scope scope own)
    (hown : (own.map (·.2)).all (fun i => !Γ.contains i) = true) (his : is.all (fun i => (own.map (·.2)).contains i) = true)
    (hg : ∀ (s : Shared) (H : Hp) (C : Addr) (cl : List (Str × Addr)) (fp : List Addr), DG (X.blk s H scope (compEnvC scope cl C X.env) fp) Γ tg is g)
    (ht : ∀ (s : Shared) (H : Hp) (C : Addr) (cl : List (Str × Addr)) (fp : List Addr), DTs (X.blk s H scope (compEnvC scope cl C X.env) fp) W0 Γ ifs ct)
    (he : ∀ (s : Shared) (H : Hp) (C : Addr) (cl : List (Str × Addr)) (fp : List Addr), DE (X.blk s H scope (compEnvC scope cl C X.env) fp) W0 Γ elt fl se) (hf : storable [fl] = true := by kernel_rfl)
    (hs : ∀ x, foldedSetIterable iter X.env x = pure x := by intro _; rfl) :
    DS X W Γ (.Assign [.Name y py] (.ListComp elt [⟨tg, iter, ifs, 0⟩] scope pos) spos) (i :: Γ) (sOwn i (eLc si g (own.map (·.2)) ct se)) :=
  ps_imp (ps_setLc (wi := tDI X.K X.mg W Γ false si) (g := tDG X.K Γ is g) (tt := tDT X.K X.mg W0 Γ ct) (te := tDE X.K X.mg W0 Γ fl se) hc hN hy hyl hsw hi ok (fun s H C cl fp => (hg s H C cl fp).1) ht he hs) fun D σ H h =>
    lc_s hown his hf (own_s hΓ h)
end
theorem ds_if {c : Expr} {A B : List Stmt} (hc : DT X W Γ c sc) (ha : DSs X W Γ A Γ1 a) (hb : DSs X W Γ B Γ1 b) : DS X W Γ (.If c A B pos) Γ1 (sIf sc a b) :=
  ps_imp (ps_if hc ha hb) fun D σ H h => by
    obtain ⟨ρ, F, GO, E, h⟩ := h
    unfold sIf at h
    refine ⟨ρ, F, GO, E, h.ofG.imp fun d _ h1 H1 s1 => ?_⟩
    cases q : tru d with
    | true =>
      rw [if_pos rfl]
      rw [q, if_pos rfl] at h1
      exact ⟨ρ, F, GO, E.mono s1, FinS.later (.of_same s1) same_new h1⟩
    | false =>
      rw [if_neg Bool.false_ne_true]
      rw [q, if_neg Bool.false_ne_true] at h1
      exact ⟨ρ, F, GO, E.mono s1, FinS.later (.of_same s1) same_new h1⟩
theorem ds_ret (he : DE X W Γ e fl se) (hf : storable [fl] = true := by kernel_rfl) : DS X W Γ (.Return (some e) pos) Γ' (sRet se) :=
  ps_imp (ps_ret he) fun D σ H h => by
    obtain ⟨ρ, F, GO, E, h⟩ := h
    unfold sRet at h
    refine ⟨ρ, F, GO, E, h.ofG.imp fun d _ h1 v H1 s1 r1 => ?_⟩
    exact h1 v H1 (.of_same s1) (Rp.mono (.sub_ (.refl H1) fun b hb => List.mem_append_right _ hb) (r1.stored hf))
theorem ds_expr (he : DE X W Γ e fl se) (hs : swapsWith e none pos.line X.env = pure false := by kernel_rfl) : DS X W Γ (.Expr e pos) Γ (sExpr se) :=
  ps_imp (ps_expr he hs) fun D σ H h => by
    obtain ⟨ρ, F, GO, E, h⟩ := h
    refine at_s F GO E h fun d v H1 s1 r1 E1 h1 => ?_
    exact h1 σ H1 GO E1 (.refl H1) same_new
theorem ds_raise {x : Str} {C : Addr} {e : Expr} {pos : Pos} (hc : X.calm = true) (tk : Takes X W) (hm : X.mg x = some (.ref C)) (he : PMk X e (fun _ H Q => Q (.ref C) none H)) : DS X W Γ (.Raise (some e) none pos) Γ' (sRaise x) :=
  ps_imp (ps_raise hc tk he) fun D σ H h => by
    obtain ⟨ρ, F, GO, E, h⟩ := h
    exact h C σ H hm (.refl H)
/-- nothing leaves a part of the body -/
theorem PS.nox {t : TS} (h : PS X.nox st t) : PS X st t := ⟨fun pins s σ H D I hw =>
  wpAny_mono (h.run pins s σ H D (I.wish _) hw) (fun _ _ q => q.unwish) fun _ _ z => False.elim z⟩
theorem ds_nox (h : DS X.nox W0 Γ st Γ' a) : DS X W Γ st Γ' (sNox a) := ps_imp (PS.nox h) fun D σ H h => by
  obtain ⟨ρ, F, GO, E, h⟩ := h
  refine ⟨ρ, F, GO, E, ?_⟩
  unfold sNox at h
  show FinS _ _ _ _ _ _ _ (a ρ) _
  cases q : a ρ with
  | ok o =>
    rw [q] at h
    cases o with
    | nx _ => exact h
    | rt _ => exact h
    | rf _ => exact h
  | exc _ => rw [q] at h; exact h.elim
  | bad => rw [q] at h; exact h.elim
theorem news_trans {G G' G3 : List Addr} {H1 H H2 : Hp} (k : Keep G H1 H) (s2 : Same H H2) (n : ∀ b, b ∈ G' → b ∈ G ∨ H1 b = none) (n3 : ∀ b, b ∈ G3 → b ∈ G' ∨ H2 b = none) : ∀ b, b ∈ G3 → b ∈ G ∨ H1 b = none := fun b hb => by
  rcases n3 b hb with z | e
  · exact n b z
  · have e1 : H b = none := s2.free e
    cases q : H1 b with
    | none => exact .inr rfl
    | some o =>
      by_cases hb' : b ∈ G
      · exact .inl hb'
      · rw [k b o q fun z => absurd z hb'] at e1
        cases e1
theorem keep_trans3 {G G' : List Addr} {H1 H H2 H3 : Hp} (k : Keep G H1 H) (s2 : Same H H2) (n : ∀ b, b ∈ G' → b ∈ G ∨ H1 b = none) (k3 : Keep G' H2 H3) : Keep G H1 H3 :=
  (k.trans (.of_same s2) (G' := []) fun _ z => (List.not_mem_nil z).elim).trans k3 n
/-! loops -/
theorem ds_for {iter : Expr} {body : List Stmt} {si : SI} {g : STg} {is : List Nat} (hx : X.xe = fun _ _ => False) (hc : X.calm = true) (hi : DI X W0 Γ tg iter true si) (hg : DG X Γ tg is g) (hb : DSs X W0 Γ body Γ b)
    (hs : ∀ x, foldedSetIterable iter X.env x = pure x := by intro _; rfl) : DS X W0 Γ (.For tg iter body [] pos) Γ (sFor si g b) := by
  have hp : PassesOwn (model X.prog X.w) X.A X.env X.xe := by rw [hx]; exact PassesOwn.never
  refine ps_imp (ps_for hp hc hi hg.1 hb hs) fun D σ H0 h => ?_
  obtain ⟨ρ, F, GO, E, h⟩ := h
  unfold sFor at h
  refine ⟨ρ, F, GO, E, h.ofG.imp fun xs _ h J H1 s1 itd hlen => ?_⟩
  have h := FinS.later (GO1 := GO) (.of_same s1) same_new h
  refine ⟨fun i m σ H => i ≤ xs.length ∧ m = xs.length - i ∧ ∃ ρ' GO', EnvR X.K Γ F GO' σ H ρ' ∧ Keep (Ads GO) H1 H ∧ (∀ b, b ∈ Ads GO' → b ∈ Ads GO ∨ H1 b = none) ∧ FinS X.K X.mg W0 Γ F GO' H (forL g b (xs.drop i) ρ') D,
    ⟨xs.length, Nat.zero_le _, rfl, ρ, GO, E.mono s1, .refl H1, same_new, h⟩, ?_⟩
  rintro i m σ1 H ⟨hi, rfl, ρ', GO', E', k, n, h⟩
  have gr : Grow (Ads GO ++ F) (Ads GO ++ F) (Ads GO' ++ F) H1 H := ⟨keep_less (fun b hb => List.mem_append_left _ hb) k, fun b hb => hb, fun b hb => by
    rcases List.mem_append.mp hb with hb | hb
    · exact (n b hb).imp (fun z => List.mem_append_left _ z) id
    · exact .inl (List.mem_append_right _ hb)⟩
  obtain ⟨it1, it2⟩ := itd i H _ gr
  by_cases hlt : i < xs.length
  · refine .inr ?_
    obtain ⟨go, yld⟩ := it1 _ (List.getElem?_eq_getElem hlt)
    rw [List.drop_eq_getElem_cons hlt] at h
    refine ⟨go, fun σ' H' => ∃ ρ' GO', EnvR X.K Γ F GO' σ' H' ρ' ∧ Keep (Ads GO) H1 H' ∧ (∀ b, b ∈ Ads GO' → b ∈ Ads GO ∨ H1 b = none) ∧ FinS X.K X.mg W0 Γ F GO' H' (forL g b (xs.drop (i + 1)) ρ') D, fun σ' H' hw => ⟨xs.length - (i + 1), by omega, hlt, rfl, hw⟩, fun v H' hv => ?_⟩
    obtain ⟨s2, rv⟩ := yld v H' hv
    have h : FinS X.K X.mg W0 Γ F GO' H ((g xs[i] ρ').bind fun ρ1 => (b ρ1).bind fun o => andThen o (forL g b (xs.drop (i + 1)))) D := h
    refine ⟨ρ', F, GO', xs[i], E'.mono s2, rv, ?_⟩
    cases q1 : g xs[i] ρ' with
    | ok ρ1 =>
      rw [q1] at h
      have h : FinS X.K X.mg W0 Γ F GO' H ((b ρ1).bind fun o => andThen o (forL g b (xs.drop (i + 1)))) D := h
      have h := FinS.later (GO1 := GO') (.of_same s2) same_new h
      intro σ2 E2 _
      refine ⟨ρ1, F, GO', E2, ?_⟩
      show FinS _ _ _ _ _ _ _ (b ρ1) _
      cases q2 : b ρ1 with
      | ok o =>
        rw [q2] at h
        cases o with
        | nx ρ2 =>
          have h : FinS X.K X.mg W0 Γ F GO' H' (forL g b (xs.drop (i + 1)) ρ2) D := h
          exact fun σ3 H3 GO3 E3 k3 n3 => ⟨ρ2, GO3, E3, keep_trans3 k s2 n k3, news_trans k s2 n n3, FinS.later k3 n3 h⟩
        | rt d => exact h
        | rf d => exact h
      | exc c => rw [q2] at h; exact h
      | bad => rw [q2] at h; exact h
    | exc _ => exact absurd q1 (hg.2 _ _ _)
    | bad => rw [q1] at h; exact h.elim
  · refine .inl ⟨it2 (by omega), ?_⟩
    rw [List.drop_of_length_le (by omega)] at h
    exact h σ1 H GO' E' (.refl H) same_new
theorem ds_while {c : Expr} {body : List Stmt} (hx : X.xe = fun _ _ => False) (hc : DT X W0 Γ c sc) (hb : DSs X W0 Γ body Γ b) : DS X W0 Γ (.While c body [] pos) Γ (sWhile sc b) := by
  have hp : PassesOwn (model X.prog X.w) X.A X.env X.xe := by rw [hx]; exact PassesOwn.never
  refine ps_imp (ps_while hp hc hb) fun D σ H1 h => ?_
  obtain ⟨ρ, F, GO, E, h⟩ := h
  unfold sWhile at h
  refine ⟨fun m σ H => ∃ ρ' GO', EnvR X.K Γ F GO' σ H ρ' ∧ Keep (Ads GO) H1 H ∧ (∀ b, b ∈ Ads GO' → b ∈ Ads GO ∨ H1 b = none) ∧ FinS X.K X.mg W0 Γ F GO' H (whileF sc b m ρ') D,
    ⟨fuel, ρ, GO, E, .refl H1, same_new, h⟩, ?_⟩
  rintro m σ1 H ⟨ρ', GO', E', k, n, h⟩
  cases m with
  | zero => exact h.elim
  | succ m =>
    have h : FinS X.K X.mg W0 Γ F GO' H ((sc ρ').bind fun x => if tru x then (b ρ').bind fun o => andThen o (whileF sc b m) else .ok (.nx ρ')) D := h
    refine ⟨ρ', F, GO', E', h.ofG.imp fun d _ h H2 s2 => ?_⟩
    have h := FinS.later (GO1 := GO') (.of_same s2) same_new h
    cases q : tru d with
    | true =>
      refine iteT ?_
      rw [q, if_pos rfl] at h
      refine ⟨fun σ' H' => ∃ ρ' GO', EnvR X.K Γ F GO' σ' H' ρ' ∧ Keep (Ads GO) H1 H' ∧ (∀ b, b ∈ Ads GO' → b ∈ Ads GO ∨ H1 b = none) ∧ FinS X.K X.mg W0 Γ F GO' H' (whileF sc b m ρ') D, fun σ' H' hw => ⟨m, Nat.lt_succ_self m, hw⟩, ρ', F, GO', E'.mono s2, ?_⟩
      show FinS _ _ _ _ _ _ _ (b ρ') _
      cases q2 : b ρ' with
      | ok o =>
        rw [q2] at h
        cases o with
        | nx ρ2 =>
          have h : FinS X.K X.mg W0 Γ F GO' H2 (whileF sc b m ρ2) D := h
          exact fun σ3 H3 GO3 E3 k3 n3 => ⟨ρ2, GO3, E3, keep_trans3 k s2 n k3, news_trans k s2 n n3, FinS.later k3 n3 h⟩
        | rt d => exact h
        | rf d => exact h
      | exc c => rw [q2] at h; exact h
      | bad => rw [q2] at h; exact h
    | false =>
      refine iteF ?_
      rw [q, if_neg Bool.false_ne_true] at h
      exact h σ1 H2 GO' (E'.mono s2) (.refl H2) same_new
end
end DL
set_option Elab.async false
set_option linter.all false
set_option maxRecDepth 100000
namespace DL
open PySem PySem.Spec PyProof.Rows L2

/-! ### own lists changed -/
section
variable {X : Cx} {W : WX} {Γ Γ' : List Nat} {e k : Expr} {fl fk : Fl} {se sk : SE} {pos p p2 : Pos}
/-- the object of an own slot is written -/
theorem EnvR.write {K : PySem.W.Frag} {F : List Addr} {GO : List (Nat × Addr)} {σ : L2.St} {H : Hp} {ρ : Ev} (E : EnvR K Γ F GO σ H ρ) {i : Nat} {q : Addr} (hi : (i, q) ∈ GO) {o : HO} {d : Da} (h : Own K (upd H q o) (Ads GO ++ F) q d) : EnvR K Γ F GO σ (upd H q o) (ρ.set i (some d)) ∧ Keep (Ads GO) H (upd H q o) := by
  have hq : q ∈ Ads GO := List.mem_map.mpr ⟨_, hi, rfl⟩
  have kq : Keep [q] H (upd H q o) := fun b u e hb => by
    by_cases z : b = q
    · subst z
      obtain ⟨_, d', _, h3⟩ := E.own i b hi
      obtain ⟨u', e', m⟩ := h3.mut
      rw [e] at e'
      cases e'
      rw [hb List.mem_cons_self] at m
      cases m
    · rw [upd_ne z]; exact e
  have sub : ∀ b, b ∈ [q] → b ∈ Ads GO ++ F := fun b hb => by
    rw [List.mem_singleton] at hb
    subst hb
    exact List.mem_append_left _ hq
  have g : Grow [q] (Ads GO ++ F) (Ads GO ++ F) H (upd H q o) := ⟨kq, sub, fun b hb => .inl hb⟩
  have hl : i < ρ.length := by
    obtain ⟨_, d', h2, _⟩ := E.own i q hi
    exact (List.getElem?_eq_some_iff.mp h2).1
  have uniq : ∀ j r, (j, r) ∈ GO → r = q → j = i := fun j r hj e => by
    subst e
    obtain ⟨i1, hi1, e1⟩ := List.mem_iff_getElem.mp hi
    obtain ⟨i2, hi2, e2⟩ := List.mem_iff_getElem.mp hj
    have a1 : (Ads GO)[i1]? = some r := by rw [List.getElem?_map, List.getElem?_eq_getElem hi1, e1]; rfl
    have a2 : (Ads GO)[i2]? = some r := by rw [List.getElem?_map, List.getElem?_eq_getElem hi2, e2]; rfl
    have q12 : i1 = i2 := by
      obtain ⟨b1, c1⟩ := List.getElem?_eq_some_iff.mp a1
      obtain ⟨b2, c2⟩ := List.getElem?_eq_some_iff.mp a2
      exact (List.getElem_inj E.inj).mp (c1.trans c2.symm)
    subst q12
    rw [e1] at e2
    exact (congrArg Prod.fst e2).symm
  refine ⟨⟨by rw [List.length_set, E.len], E.dom, E.inj, E.dis, fun b hb z => ?_, fun j r hj => ?_, fun j d' hj hd => ?_⟩, fun b u e hb => kq b u e fun z => hb (by rw [List.mem_singleton] at z; subst z; exact hq)⟩
  · by_cases e : b = q
    · subst e; rw [upd_same] at z; cases z
    · rw [upd_ne e] at z; exact E.frn b hb z
  · obtain ⟨h1, d', h2, h3⟩ := E.own j r hj
    by_cases e : j = i
    · subst e
      have er : r = q := by
        obtain ⟨g1, _⟩ := E.own j q hi
        rw [h1] at g1
        cases g1
        rfl
      subst er
      exact ⟨h1, d, List.getElem?_set_self hl, h⟩
    · have er : r ≠ q := fun z => e (uniq j r hj z)
      exact ⟨h1, d', by rw [List.getElem?_set_ne fun z => e z.symm]; exact h2, h3.mono g fun z => er (by simpa using z)⟩
  · have hij : i ≠ j := fun z => hj (by rw [← E.dom, ← z]; exact List.mem_map.mpr ⟨_, hi, rfl⟩)
    rw [List.getElem?_set_ne hij] at hd
    obtain ⟨v, h1, h2⟩ := E.sh j d' hj hd
    exact ⟨v, h1, h2.mono g⟩
/-- the own list of a slot -/
theorem EnvR.ownL {K : PySem.W.Frag} {F : List Addr} {GO : List (Nat × Addr)} {σ : L2.St} {H : Hp} {ρ : Ev} (E : EnvR K Γ F GO σ H ρ) {i : Nat} (hi : Γ.contains i = true) : ∃ q d, (i, q) ∈ GO ∧ σ[i]? = some (some (.ref q)) ∧ ρ[i]? = some (some d) ∧ Own K H (Ads GO ++ F) q d := by
  have hi' := List.contains_iff_mem.mp hi
  rw [← E.dom] at hi'
  obtain ⟨⟨j, q⟩, hq, rfl⟩ := List.mem_map.mp hi'
  obtain ⟨h1, d, h2, h3⟩ := E.own j q hq
  exact ⟨q, d, hq, h1, h2, h3⟩
/-- x.append(e) -/
theorem ds_append {i : Nat} {x : Str} {apos cpos : Pos} (hN : X.N[i]? = some x) (hv : Vis X.env.scope x) (hΓ : Γ.contains i = true) (he : DE X W Γ e fl se) (hf : storable [fl] = true := by kernel_rfl)
    (hd : (x == ("__debug__" : Str)) = false := by decide) (hcd : (x == ("__classdict__" : Str)) = false := by decide)
    (hs : starEach [e] X.env = (false, eval e X.env) :: starEach [] X.env := by kernel_rfl) (hsw : swapsWith (.Call (.Attribute (.Name x p) "append" apos) [e] [] cpos) none pos.line X.env = pure false := by kernel_rfl)
    (hb : attributeBase (.Name x p) "append" X.env (eval (.Name x p) X.env) = eval (.Name x p) X.env := by kernel_rfl) (hl : (apos.endLine == cpos.line) = true := by kernel_rfl)
    (hfew : ((backTo cpos (starEach [e] X.env)).all (!·.1) && (backToKw cpos (keywordEach [] X.env)).all (·.1.isSome) && decide ([e].length + ([] : List Keyword).length + (if ([] : List Keyword).isEmpty then 0 else 1) < 30)) = true := by kernel_rfl) :
    DS X W Γ (.Expr (.Call (.Attribute (.Name x p) "append" apos) [e] [] cpos) pos) Γ (sAppend i se) :=
  ps_imp (ps_expr (pe_bm PySem.F.plainAttrs_list PySem.F.slot_list_append PySem.F.type_list_append mt_append (pe_var (i := i) hN hv hd hcd) (pa_cons he pa_nil hs) hb hfew hl hs) hsw) fun D σ H h => by
    obtain ⟨ρ, F, GO, E, h⟩ := h
    obtain ⟨q, d0, hq, h1, h2, h3⟩ := E.ownL hΓ
    cases d0 with
    | list ds =>
      obtain ⟨vs0, g1, _, _⟩ := id h3
      refine ⟨.ref q, h1, .inl ⟨rfl, _, .inl (.inl g1)⟩, ?_⟩
      unfold sAppend at h
      rw [h2] at h
      have h : FinS X.K X.mg W Γ F GO H ((se ρ).bind fun x => updE ρ i (appD x)) D := h
      refine at_s F GO E h fun d v H1 s1 r1 E1 h4 => ?_
      obtain ⟨q', d1, hq', k1, k2, k3⟩ := E1.ownL hΓ
      have eq' : q' = q := by rw [h1] at k1; cases k1; rfl
      subst eq'
      unfold updE at h4
      rw [k2] at h4
      cases d1 with
      | list ds1 =>
        obtain ⟨vs, g1, g2, g3⟩ := k3
        have h5 : FinS X.K X.mg W Γ F GO H1 ((if ds1.length < big then R.ok (PyData.list (ds1 ++ [d])) else .bad).bind fun d' => .ok (.nx (ρ.set i (some d')))) D := h4
        split at h5
        · rename_i hlt
          refine ⟨q', vs, v, rfl, rfl, g1, by rw [g2.length]; exact Nat.lt_of_lt_of_le hlt (big_le (Nat.le_refl _)), ?_⟩
          have rv := r1.stored hf
          have kq : Keep [q'] H1 (upd H1 q' (.lst (vs ++ [v]))) := fun b u e hb => by
            by_cases z : b = q'
            · subst z
              rw [g1] at e
              cases e
              cases hb List.mem_cons_self
            · rw [upd_ne z]; exact e
          have g : Grow [q'] (Ads GO ++ F) (Ads GO ++ F) H1 (upd H1 q' (.lst (vs ++ [v]))) := ⟨kq, fun b hb => by
            rw [List.mem_singleton] at hb
            subst hb
            exact List.mem_append_left _ (List.mem_map.mpr ⟨_, hq', rfl⟩), fun b hb => .inl hb⟩
          obtain ⟨E2, K2⟩ := E1.write hq' (o := .lst (vs ++ [v])) (d := .list (ds1 ++ [d])) ⟨_, upd_same, (g2.append (.cons rv .nil)).mono g, by rw [List.length_append, List.length_singleton]; exact hlt⟩
          exact h5 σ _ GO E2 K2 same_new
        · exact h5.elim
      | dict _ => exact h4.elim
      | _ => exact k3.elim
    | dict _ =>
      unfold sAppend at h
      rw [h2] at h
      exact h.elim
    | _ => exact h3.elim
theorem ixD_N (n : Nat) (i : Int) : ixD n i = ixN n i := rfl
/-- x[k] = e -/
theorem ds_setI {i : Nat} {x : Str} {tpos : Pos} (hN : X.N[i]? = some x) (hv : Vis X.env.scope x) (hΓ : Γ.contains i = true) (he : DE X W Γ e fl se) (hk : DE X W Γ k fk sk) (hf : storable [fl] = true := by kernel_rfl)
    (hd : (x == ("__debug__" : Str)) = false := by decide) (hcd : (x == ("__classdict__" : Str)) = false := by decide)
    (ha : ∀ v, assign (.Subscript (.Name x p) k tpos) X.env v = (do
      let ov ← holding [v] (eval (.Name x p) X.env)
      let iv ← holding [v, ov] (eval k X.env)
      standAt tpos
      holding [v, ov, iv] (setItem ov iv v)
      release [v, ov, iv] []) := by intro _; rfl)
    (hs : swapsWithSole [.Subscript (.Name x p) k tpos] e pos.line X.env = pure false := by kernel_rfl) (hw : swappedStores [.Subscript (.Name x p) k tpos] e X.env = pure none := by kernel_rfl)
    (h1 : (assignEach [.Subscript (.Name x p) k tpos] X.env).map (·.2) = [assign (.Subscript (.Name x p) k tpos) X.env] := by kernel_rfl) :
    DS X W Γ (.Assign [.Subscript (.Name x p) k tpos] e pos) Γ (sSet i sk se) :=
  ps_imp (ps_asg he (pg_sub (pe_var (i := i) hN hv hd hcd) hk set_list ha) hs hw h1) fun D σ H h => by
    obtain ⟨ρ, F, GO, E, h⟩ := h
    unfold sSet at h
    refine at_s F GO E h fun d v H1 s1 r1 E1 h4 => ?_
    obtain ⟨q, d0, hq, k1, k2, k3⟩ := E1.ownL hΓ
    refine ⟨.ref q, k1, ?_⟩
    refine at_s F GO E1 h4 fun j w H2 s2 r2 E2 h5 => ?_
    obtain ⟨q', d1, hq', k1', k2', k3'⟩ := E2.ownL hΓ
    have eq' : q' = q := by rw [k1] at k1'; cases k1'; rfl
    subst eq'
    unfold updE at h5
    rw [k2'] at h5
    cases d1 with
    | list ds1 =>
      obtain ⟨vs, g1, g2, g3⟩ := k3'
      have h6 : FinS X.K X.mg W Γ F GO H2 (((toI j).bind fun ii => (oR (ixD ds1.length ii)).bind fun jj => R.ok (PyData.list (ds1.set jj d))).bind fun d' => .ok (.nx (ρ.set i (some d')))) D := h5
      cases j with
      | int ii =>
        cases r2.int
        have h6 : FinS X.K X.mg W Γ F GO H2 (((oR (ixD ds1.length ii)).bind fun jj => R.ok (PyData.list (ds1.set jj d))).bind fun d' => .ok (.nx (ρ.set i (some d')))) D := h6
        cases q2 : ixD ds1.length ii with
        | none => rw [q2] at h6; exact h6.elim
        | some jj =>
          rw [q2] at h6
          have h7 : FinS X.K X.mg W Γ F GO H2 (.ok (.nx (ρ.set i (some (.list (ds1.set jj d)))))) D := h6
          have rv := r1.stored hf
          refine ⟨q', vs, ii, jj, rfl, rfl, g1, by rw [g2.length]; exact q2, ?_⟩
          have kq : Keep [q'] H2 (upd H2 q' (.lst (vs.set jj v))) := fun b u e hb => by
            by_cases z : b = q'
            · subst z
              rw [g1] at e
              cases e
              cases hb List.mem_cons_self
            · rw [upd_ne z]; exact e
          have g : Grow [q'] (Ads GO ++ F) (Ads GO ++ F) H2 (upd H2 q' (.lst (vs.set jj v))) := ⟨kq, fun b hb => by
            rw [List.mem_singleton] at hb
            subst hb
            exact List.mem_append_left _ (List.mem_map.mpr ⟨_, hq', rfl⟩), fun b hb => .inl hb⟩
          obtain ⟨E3, K3⟩ := E2.write hq' (o := .lst (vs.set jj v)) (d := .list (ds1.set jj d)) ⟨_, upd_same, (RpAll.set (rv.mono (.same s2)) jj g2).mono g, by rw [List.length_set]; exact g3⟩
          exact h7 σ _ GO E3 K3 same_new
      | _ => exact h6.elim
    | dict _ =>
      cases j <;> exact h5.elim
    | _ => exact k3'.elim
/-- x op= e, x a plain local -/
theorem ds_aug {i : Nat} {x : Str} {op : Operator} {ti : R2} {f : Da → Da → R Da} (hN : X.N.Nodup) (hi : X.N[i]? = some x) (hx : Loc X.env.scope x) (hΓ : Γ.contains i = false) (he : DE X W Γ e fl se) (ho : PIp X op ti) (hs : OpS X ti .fr f) (hff : X.fn x = true ∨ X.env.scope.names.lookup x = some .local := by first | exact .inl rfl | exact .inr rfl | assumption) :
    DS X W Γ (.AugAssign (.Name x p) op e pos) Γ (sAsg (gVar i) (e2 f (eVar i) se)) :=
  ps_imp (ps_aug hN hi hx he ho hff) fun D σ H h => by
    obtain ⟨ρ, F, GO, E, h⟩ := h
    have hi' : i ∉ Γ := fun z => by rw [List.contains_iff_mem.mpr z] at hΓ; cases hΓ
    have h0 : FinS X.K X.mg W Γ F GO H (((vGet ρ[i]?).bind fun x => (se ρ).bind fun y => f x y).bind fun d => .ok (.nx (ρ.set i (some d)))) D := h
    cases q : ρ[i]? with
    | none => rw [q] at h0; exact h0.elim
    | some o =>
      rw [q] at h0
      cases o with
      | none => exact h0.elim
      | some d0 =>
        obtain ⟨v, h1, h2⟩ := E.sh i d0 hi' q
        have h3 : FinS X.K X.mg W Γ F GO H ((se ρ).bind fun y => (f d0 y).bind fun d => .ok (.nx (ρ.set i (some d)))) D := by
          cases q2 : se ρ with
          | ok y => rw [q2] at h0; exact h0
          | exc c => rw [q2] at h0; exact h0
          | bad => rw [q2] at h0; exact h0
        refine ⟨v, h1, at_s F GO E h3 fun d w H1 s1 r1 E1 h4 => ?_⟩
        refine hs X.mg W σ (Ads GO ++ F) H1 H1 v w d0 d _ E1.fresh (.inl (h2.mono (.same s1))) r1.bo (h4.ofG.imp fun d2 _ h5 v2 H2 s2 r2 => ?_)
        exact h5 _ H2 GO ((E1.mono s2).setS hi' r2.1) (.of_same s2) same_new
theorem pip_add : PIp X .Add (rI0 fun i j => .int (i + j)) := ip_add
theorem pip_sub : PIp X .Sub (rI0 fun i j => .int (i - j)) := ip_sub
theorem os_addI : OpS X (rI0 fun i j => .int (i + j)) .fr addI := by
  intro mg W σ O H0 H x y a b Q nw hx hy h
  unfold addI at h
  split at h
  · cases hx.int; cases hy.int
    exact ⟨_, _, rfl, rfl, PE_.flat h (.int _) rfl⟩
  · exact h.elim
end

/-! ### raise X() -/
section
variable {X : Cx} {C : Addr} {bmB : List Value} {B newId initId : String}
theorem pmk_own0 {x : Str} {p pos : Pos} (F : ExcBaseFacts B newId initId bmB) (q : PySem.W.excIn X.K C bmB newId = true) (gC : X.mg x = some (.ref C)) (kC : PySem.W.keepIn X.K (.ref C) = true) (r : Raises X (.ref C)) (hg : Gl X x)
    (hdb : (x == ("__debug__" : Str)) = false := by decide) : PMk X (.Call (.Name x p) [] [] pos) (fun _ H Q => Q (.ref C) none H) := by
  intro pins s σ H Q I h
  refine wpAny_Call_Name_kw (ld_glob I hg gC ?_ hdb)
  refine PySem.W.callWith_K0 I.kIn kC ?_
  obtain ⟨bm, N, nm, qn, bs, hdct, sn, sub, ab, col, dd, k0, k1, k2, k3, k5, mN, hC, hN, hni, T⟩ := exc_obj I.kIn q
  refine wpAny_call_exc_subT F T hC hN hni (fun h' e hm => ?_) (by show 0 ≤ sizeLine; exact Nat.zero_le _)
  exact mk_of I hm r h (I.hok.gone hm.new)
end

/-! ### a def -/
section
variable {P : Program} {w : World} {K : PySem.W.Frag} {mg : MG} {base : Heap}
theorem env_start {H : Hp} {O : List Addr} {vs : List V} {ds : List Da} (r : RpAll K H O vs ds) (a : ∀ b, b ∈ O → H b ≠ none) (N : List Str) : EnvR K [] O [] (L2.start N vs) H (ds.map some ++ List.replicate (N.length - ds.length) none) where
  len := by unfold L2.start; rw [List.length_append, List.length_append, List.length_map, List.length_map, List.length_replicate, List.length_replicate, r.length]
  dom := rfl
  inj := List.Pairwise.nil
  dis := fun p hp => (List.not_mem_nil hp).elim
  frn := a
  own := fun i p hp => (List.not_mem_nil hp).elim
  sh := fun i d _ hd => by
    have hl : i < ds.length := by
      by_cases hl : i < ds.length
      · exact hl
      · rw [List.getElem?_append_right (by rw [List.length_map]; omega), List.getElem?_replicate] at hd
        split at hd <;> cases hd
    rw [List.getElem?_append_left (by rw [List.length_map]; exact hl), List.getElem?_map] at hd
    cases q : ds[i]? with
    | none => rw [q] at hd; cases hd
    | some d' =>
      rw [q] at hd
      cases hd
      obtain ⟨v, h1, h2⟩ := r.get q
      refine ⟨v, ?_, h2⟩
      unfold L2.start
      rw [List.getElem?_append_left (by rw [List.length_map, r.length]; exact hl), List.getElem?_map, h1]
      rfl
/-- THE RULE for a def: its body's reading is a plain function -/
theorem okF {x qual : Str} {params : Arguments} {body : List Stmt} {scope : Scope} {f : Addr} {fd : FuncData} {N ps : List Str} {k n : Nat} {Γ' : List Nat} {b : SS} {g : List Da → R Da} (F : FunD K x qual params body scope [] [] f fd) (S : FnScope N ps scope) (hn : ps.length = n)
    (hbody : ∀ (cdv : Value) (A : Around) (outer : List Env) (s : Shared) (H : Hp) (E : XK), Room k (A.deeper (envOfC qual scope s.heap.objs.size f cdv)) → DSs (cxOf (L2.CX P w) P w K mg base N qual scope f cdv A outer s H E) (fun cls d _ H => E cls d H) [] body Γ' b)
    (hg : g = runDef N.length b) : FnOk P w K mg base (L2.CX P w) (k + 1) f fd ps (spD K mg n g) := by
  subst hn hg
  refine F.ok S (fun vs H Q E h => h.1) (fun cdv A outer s H vs Q E hr h => ⟨_, hbody cdv A outer s H E hr, ?_⟩)
  obtain ⟨hl, ds, O, al, r, h⟩ := h
  refine ⟨_, O, [], env_start r al N, ?_⟩
  unfold runDef at h
  show FinS K mg _ Γ' O [] H (b (ds.map some ++ List.replicate (N.length - ds.length) none)) _
  cases q : b (ds.map some ++ List.replicate (N.length - ds.length) none) with
  | ok o =>
    rw [q] at h
    cases o with
    | nx ρ' => exact fun σ' H' GO' E' k n => h .non H' k.nil .non
    | rt d => exact fun v H' k r' => h v H' k.nil r'
    | rf d => exact fun p H' k' hp ho => h (.ref p) H' k'.nil ((ho.mono (.sub_ (.refl H') fun b hb => List.mem_cons_of_mem _ hb) List.not_mem_nil).rp fun z => al p z (hp.resolve_left List.not_mem_nil))
  | exc c =>
    rw [q] at h
    exact fun C σ' H' hc k => h C H' hc k.nil
  | bad => rw [q] at h; exact h.elim
theorem okD {x qual : Str} {params : Arguments} {body : List Stmt} {scope : Scope} {f : Addr} {fd : FuncData} {N ps : List Str} {k n : Nat} {Γ' : List Nat} {b : SS} {g : List Da → R Da} (F : FunD K x qual params body scope [] [] f fd) (S : FnScope N ps scope) (hn : ps.length = n)
    (hb : ∀ (kV doc pm : Value) (an : Option Addr) (cdv ct : Value) (us : List Value), us.length = ps.length → bindArgs (PySem.W.fnOf x qual params body scope .none kV doc pm an cdv ct) ⟨us, []⟩ = pure (ps.zip us)) (hm : mg x = some (.ref f))
    (hbody : ∀ (cdv : Value) (A : Around) (outer : List Env) (s : Shared) (H : Hp) (E : XK), Room k (A.deeper (envOfC qual scope s.heap.objs.size f cdv)) → DSs (cxOf (L2.CX P w) P w K mg base N qual scope f cdv A outer s H E) (fun cls d _ H => E cls d H) [] body Γ' b)
    (hg : g = runDef N.length b) : FnD P w K mg base x (k + 1) n g :=
  ⟨f, fd, ps, okF F S hn hbody hg, hm, F.kp, F.bindsN hb⟩
end
end DL
set_option Elab.async false
set_option linter.all false
set_option maxRecDepth 100000
namespace DL
open PySem PySem.Spec PyProof.Rows L2

theorem s63a (k : Int) (h : k.natAbs < 9223372036854775808) : -(2 ^ 63) ≤ k := by omega
theorem s63b (k : Int) (h : k.natAbs < 9223372036854775808) : k < 2 ^ 63 := by omega
/-! ### short words for the printed terms -/
section
variable {X : Cx} {W : WX} {Γ Γ' Γ1 : List Nat} {e a b c d : Expr} {es : List Expr} {fls : List Fl} {fl fa fb fc : Fl} {se sa sb sc : SE} {pos p p2 p3 : Pos}
theorem u64 {k : Nat} {A : Around} (h : Room k A) : A.units + 64 < cLine := h.units
theorem u65 {k : Nat} {A : Around} (h : Room k A) : A.units + 65 < cLine := by have := h.un; omega
theorem de_len (m : X.mg "len" = none) (he : DE X W Γ e fl se) (hg : Gl X "len" := by show _ = _; kernel_rfl) (h1 : starEach [e] X.env = (false, eval e X.env) :: starEach [] X.env := by kernel_rfl) (h2 : (backTo pos (starEach [] X.env)).any (·.1) = false := by kernel_rfl) : DE X W Γ (.Call (.Name "len" p) [e] [] pos) .fr (eA dLen (aCons se aNil)) :=
  de_callB call_len_seq cs_len hg m boot_len (da_cons he da_nil h1) (by decide) (by decide) h1 h2
theorem de_abs (m : X.mg "abs" = none) (he : DE X W Γ e fl se) (hg : Gl X "abs" := by show _ = _; kernel_rfl) (h1 : starEach [e] X.env = (false, eval e X.env) :: starEach [] X.env := by kernel_rfl) (h2 : (backTo pos (starEach [] X.env)).any (·.1) = false := by kernel_rfl) : DE X W Γ (.Call (.Name "abs" p) [e] [] pos) .fr (eA dAbs (aCons se aNil)) :=
  de_callB call_abs cs_abs hg m boot_abs (da_cons he da_nil h1) (by decide) (by decide) h1 h2
theorem de_minL (hc : X.calm = true) (m : X.mg "min" = none) (he : DE X W Γ e fl se) (hg : Gl X "min" := by show _ = _; kernel_rfl) (h1 : starEach [e] X.env = (false, eval e X.env) :: starEach [] X.env := by kernel_rfl) (h2 : (backTo pos (starEach [] X.env)).any (·.1) = false := by kernel_rfl) : DE X W Γ (.Call (.Name "min" p) [e] [] pos) .fr (eA dMinL (aCons se aNil)) :=
  de_callB (cr_min hc) cs_min hg m boot_min (da_cons he da_nil h1) (by decide) (by decide) h1 h2
theorem de_maxL (hc : X.calm = true) (m : X.mg "max" = none) (he : DE X W Γ e fl se) (hg : Gl X "max" := by show _ = _; kernel_rfl) (h1 : starEach [e] X.env = (false, eval e X.env) :: starEach [] X.env := by kernel_rfl) (h2 : (backTo pos (starEach [] X.env)).any (·.1) = false := by kernel_rfl) : DE X W Γ (.Call (.Name "max" p) [e] [] pos) .fr (eA dMaxL (aCons se aNil)) :=
  de_callB (cr_max hc) cs_max hg m boot_max (da_cons he da_nil h1) (by decide) (by decide) h1 h2
theorem de_all (hc : X.calm = true) (m : X.mg "all" = none) (he : DE X W Γ e fl se) (hg : Gl X "all" := by show _ = _; kernel_rfl) (h1 : starEach [e] X.env = (false, eval e X.env) :: starEach [] X.env := by kernel_rfl) (h2 : (backTo pos (starEach [] X.env)).any (·.1) = false := by kernel_rfl) : DE X W Γ (.Call (.Name "all" p) [e] [] pos) .fr (eA dAll (aCons se aNil)) :=
  de_callB (cr_all hc) cs_all hg m boot_all (da_cons he da_nil h1) (by decide) (by decide) h1 h2
theorem de_any (hc : X.calm = true) (m : X.mg "any" = none) (he : DE X W Γ e fl se) (hg : Gl X "any" := by show _ = _; kernel_rfl) (h1 : starEach [e] X.env = (false, eval e X.env) :: starEach [] X.env := by kernel_rfl) (h2 : (backTo pos (starEach [] X.env)).any (·.1) = false := by kernel_rfl) : DE X W Γ (.Call (.Name "any" p) [e] [] pos) .fr (eA dAny (aCons se aNil)) :=
  de_callB (cr_any hc) cs_any hg m boot_any (da_cons he da_nil h1) (by decide) (by decide) h1 h2
theorem de_int1 (m : X.mg "int" = none) (he : DE X W Γ e fl se) (hg : Gl X "int" := by show _ = _; kernel_rfl) (h1 : starEach [e] X.env = (false, eval e X.env) :: starEach [] X.env := by kernel_rfl) (h2 : (backTo pos (starEach [] X.env)).any (·.1) = false := by kernel_rfl) : DE X W Γ (.Call (.Name "int" p) [e] [] pos) .fr (eA dInt (aCons se aNil)) :=
  de_callTy call_int1 cs_int hg m boot_int (da_cons he da_nil h1) (by decide) (by decide) h1 h2
theorem de_tuple (m : X.mg "tuple" = none) (he : DE X W Γ e fl se) (hg : Gl X "tuple" := by show _ = _; kernel_rfl) (h1 : starEach [e] X.env = (false, eval e X.env) :: starEach [] X.env := by kernel_rfl) (h2 : (backTo pos (starEach [] X.env)).any (·.1) = false := by kernel_rfl) : DE X W Γ (.Call (.Name "tuple" p) [e] [] pos) .fr (eA dTuple (aCons se aNil)) :=
  de_callTy call_tuple_of cs_tuple hg m boot_tuple (da_cons he da_nil h1) (by decide) (by decide) h1 h2
theorem de_list (m : X.mg "list" = none) (he : DE X W Γ e fl se) (hg : Gl X "list" := by show _ = _; kernel_rfl) (h1 : starEach [e] X.env = (false, eval e X.env) :: starEach [] X.env := by kernel_rfl) (h2 : (backTo pos (starEach [] X.env)).any (·.1) = false := by kernel_rfl) : DE X W Γ (.Call (.Name "list" p) [e] [] pos) .fr (eA dList (aCons se aNil)) :=
  de_callTy call_list_of cs_list hg m boot_list (da_cons he da_nil h1) (by decide) (by decide) h1 h2
theorem de_min2 (hc : X.calm = true) (m : X.mg "min" = none) (ha : DE X W Γ a fa sa) (hb : DE X W Γ b fb sb) (hg : Gl X "min" := by show _ = _; kernel_rfl) (h1 : starEach [a, b] X.env = (false, eval a X.env) :: starEach [b] X.env := by kernel_rfl) (h2 : starEach [b] X.env = (false, eval b X.env) :: starEach [] X.env := by kernel_rfl) (h3 : (backTo pos (starEach [b] X.env)).any (·.1) = false := by kernel_rfl) : DE X W Γ (.Call (.Name "min" p) [a, b] [] pos) .fr (eA dMin2 (aCons sa (aCons sb aNil))) :=
  de_callB (call_min2 hc) cs_min2 hg m boot_min (da_cons ha (da_cons hb da_nil h2) h1) (by decide) (by decide) h1 h3
theorem de_max2 (hc : X.calm = true) (m : X.mg "max" = none) (ha : DE X W Γ a fa sa) (hb : DE X W Γ b fb sb) (hg : Gl X "max" := by show _ = _; kernel_rfl) (h1 : starEach [a, b] X.env = (false, eval a X.env) :: starEach [b] X.env := by kernel_rfl) (h2 : starEach [b] X.env = (false, eval b X.env) :: starEach [] X.env := by kernel_rfl) (h3 : (backTo pos (starEach [b] X.env)).any (·.1) = false := by kernel_rfl) : DE X W Γ (.Call (.Name "max" p) [a, b] [] pos) .fr (eA dMax2 (aCons sa (aCons sb aNil))) :=
  de_callB (call_max2 hc) cs_max2 hg m boot_max (da_cons ha (da_cons hb da_nil h2) h1) (by decide) (by decide) h1 h3
theorem de_gcd (m : X.mg "gcd" = some (.builtin "math.gcd")) (ha : DE X W Γ a fa sa) (hb : DE X W Γ b fb sb) (hg : Gl X "gcd" := by show _ = _; kernel_rfl) (h1 : starEach [a, b] X.env = (false, eval a X.env) :: starEach [b] X.env := by kernel_rfl) (h2 : starEach [b] X.env = (false, eval b X.env) :: starEach [] X.env := by kernel_rfl) (h3 : (backTo pos (starEach [b] X.env)).any (·.1) = false := by kernel_rfl) : DE X W Γ (.Call (.Name "gcd" p) [a, b] [] pos) .fr (eA dGcd (aCons sa (aCons sb aNil))) :=
  de_callG cr_gcd cs_gcd hg m (da_cons ha (da_cons hb da_nil h2) h1) (by decide) h1 h3
theorem de_isiT (T : Ty) (x : Str) (hx : x = T.nm) (m : X.mg "isinstance" = none) (m2 : X.mg x = none) (he : DE X W Γ e fl se) (hv2 : bootBuiltins x = some (.type T.nm)) (hn2 : x ≠ "__name__" := by decide) (hd2 : (x == ("__debug__" : Str)) = false := by decide) (hg : Gl X "isinstance" := by show _ = _; kernel_rfl) (hg2 : Gl X x := by show _ = _; kernel_rfl)
    (hs1 : starEach [e, .Name x p2] X.env = (false, eval e X.env) :: starEach [.Name x p2] X.env := by kernel_rfl) (hs2 : starEach [.Name x p2] X.env = (false, eval (.Name x p2) X.env) :: starEach [] X.env := by kernel_rfl) (hpl : (backTo pos (starEach [.Name x p2] X.env)).any (·.1) = false := by kernel_rfl) :
    DE X W Γ (.Call (.Name "isinstance" p) [e, .Name x p2] [] pos) .fr (e1 (dIsi T) se) := by
  subst hx
  exact de_isi T he hg m hg2 m2 hv2 hn2 hd2 hs1 hs2 hpl
/-! tests that compare -/
theorem dt_val {f : Da → R Da} (h : PE X e (tDE X.K X.mg W Γ fl se)) (h2 : PT X e (tB (tDE X.K X.mg W Γ fl se))) (bl : ∀ ρ z, se ρ = .ok z → ∃ k, z = .bool k) : DT X W Γ e se :=
  pt_imp h2 fun σ H Q h => by
    obtain ⟨ρ, F, GO, E, h⟩ := h
    refine ⟨ρ, F, GO, E, h.imp fun d e q v H1 s1 r1 => ?_⟩
    obtain ⟨k, rfl⟩ := bl _ _ e
    cases r1.bool
    exact ⟨k, rfl, q H1 s1⟩
theorem dt_isN {j : Nat} {pos' : Pos} (ha : DE X W Γ a fa sa) : DT X W Γ (.Compare a [.Is] [.Constant .none j pos'] pos) (e1 dIsN sa) :=
  pt_imp (pt_cmp (pc_isN ha) rfl) fun σ H Q h => by
    obtain ⟨ρ, F, GO, E, h⟩ := h
    refine at_e E h fun d v H1 s1 r1 E1 h1 => ⟨_, rfl, ?_⟩
    rw [r1.nonB]
    exact h1 H1 s1
theorem dt_notN {j : Nat} {pos' : Pos} (ha : DE X W Γ a fa sa) : DT X W Γ (.Compare a [.IsNot] [.Constant .none j pos'] pos) (e1 dNotN sa) :=
  pt_imp (pt_cmp (pc_notN ha) rfl) fun σ H Q h => by
    obtain ⟨ρ, F, GO, E, h⟩ := h
    refine at_e E h fun d v H1 s1 r1 E1 h1 => ⟨_, rfl, ?_⟩
    rw [r1.nonB]
    exact h1 H1 s1
theorem dt_isB {k : Bool} {j : Nat} {pos' : Pos} (ha : DE X W Γ a fa sa) : DT X W Γ (.Compare a [.Is] [.Constant (.bool k) j pos'] pos) (e1 (dIsB k) sa) :=
  pt_imp (pt_cmpR op_isBl ha pe_bl (nomark _)) fun σ H Q h => by
    obtain ⟨ρ, F, GO, E, h⟩ := h
    refine at_e E h fun d v H1 s1 r1 E1 h1 => ?_
    unfold dIsB at h1
    split at h1
    · cases r1.bool
      exact ⟨_, _, rfl, rfl, _, rfl, h1 H1 s1⟩
    · exact h1.elim
theorem dt_notB {k : Bool} {j : Nat} {pos' : Pos} (ha : DE X W Γ a fa sa) : DT X W Γ (.Compare a [.IsNot] [.Constant (.bool k) j pos'] pos) (e1 (dIsNotB k) sa) :=
  pt_imp (pt_cmpR op_notBl ha pe_bl (nomark _)) fun σ H Q h => by
    obtain ⟨ρ, F, GO, E, h⟩ := h
    refine at_e E h fun d v H1 s1 r1 E1 h1 => ?_
    unfold dIsNotB at h1
    split at h1
    · cases r1.bool
      exact ⟨_, _, rfl, rfl, _, rfl, h1 H1 s1⟩
    · exact h1.elim
/-! tuple(range(..)), list(range(..)) -/
theorem toL_of {K : PySem.W.Frag} {H : Hp} {O : List Addr} {lo hi : Int} : RpAll K H O (rgV lo hi) (rngD lo (hi - lo).toNat) := by
  unfold rgV rngD
  generalize (hi - lo).toNat = n
  generalize List.range n = l
  induction l with
  | nil => exact .nil
  | cons i l ih => exact .cons (.int _) ih
theorem rg_s1 {ta : TE} {σ : L2.St} {H : Hp} {Q : VK} (tl : Bool) (h : tDE X.K X.mg W Γ .fr (fun ρ => (iRng1 sa ρ).bind fun xs => .ok (if tl then .tuple xs else .list xs)) σ H Q) :
    (tRg1 (tDE X.K X.mg W Γ fa sa)) σ H fun a b H1 => RgOk a b ∧ ∀ q, H1 q = none → Q (.ref q) (upd H1 q (if tl then .tup (rgV a b) else .lst (rgV a b))) := by
  obtain ⟨ρ, F, GO, E, h⟩ := h
  have h0 : FinG X.mg W σ H ((sa ρ).bind fun x => ((toI x).bind fun n => dRng 0 n).bind fun xs => .ok (if tl then .tuple xs else .list xs)) (PE_ X.K H (Ads GO ++ F) .fr Q) := by
    have h : FinG X.mg W σ H (((sa ρ).bind fun x => (toI x).bind fun n => dRng 0 n).bind fun xs => .ok (if tl then .tuple xs else .list xs)) (PE_ X.K H (Ads GO ++ F) .fr Q) := h
    rw [R.bind_assoc] at h
    exact h
  refine at_e E h0 fun d v H1 s1 r1 E1 h1 => ?_
  cases d with
  | int j =>
    cases r1.int
    have h2 : FinG X.mg W σ H1 ((dRng 0 j).bind fun xs => .ok (if tl then .tuple xs else .list xs)) (PE_ X.K H (Ads GO ++ F) .fr Q) := h1
    unfold dRng at h2
    split at h2
    · rename_i c
      obtain ⟨c1, c2, c3, c4, c5⟩ := rngC c
      refine ⟨j, rfl, ⟨c1, c2, c3, c4, c5⟩, fun q hq => ?_⟩
      have h3 : PE_ X.K H (Ads GO ++ F) .fr Q (if tl then .tuple (rngD 0 (j - 0).toNat) else .list (rngD 0 (j - 0).toNat)) := h2
      cases tl with
      | true => exact PE_.newT (PE_.mono s1 h3) toL_of (by rw [rngD_len]; exact c5) hq
      | false => exact PE_.newL (PE_.mono s1 h3) toL_of (by rw [rngD_len]; exact c5) hq (E1.newp hq)
    · exact h2.elim
  | _ => exact h1.elim
theorem rg_s2 {σ : L2.St} {H : Hp} {Q : VK} (tl : Bool) (h : tDE X.K X.mg W Γ .fr (fun ρ => (iRng2 sa sb ρ).bind fun xs => .ok (if tl then .tuple xs else .list xs)) σ H Q) :
    (tRg2 (tDE X.K X.mg W Γ fa sa) (tDE X.K X.mg W Γ fb sb)) σ H fun a b H1 => RgOk a b ∧ ∀ q, H1 q = none → Q (.ref q) (upd H1 q (if tl then .tup (rgV a b) else .lst (rgV a b))) := by
  obtain ⟨ρ, F, GO, E, h⟩ := h
  have h0 : FinG X.mg W σ H ((sa ρ).bind fun x => (sb ρ).bind fun y => ((toI x).bind fun i => (toI y).bind fun j => dRng i j).bind fun xs => .ok (if tl then .tuple xs else .list xs)) (PE_ X.K H (Ads GO ++ F) .fr Q) := by
    have h : FinG X.mg W σ H (((sa ρ).bind fun x => (sb ρ).bind fun y => (toI x).bind fun i => (toI y).bind fun j => dRng i j).bind fun xs => .ok (if tl then .tuple xs else .list xs)) (PE_ X.K H (Ads GO ++ F) .fr Q) := h
    rw [R.bind_assoc] at h
    have e : (fun a => ((sb ρ).bind fun y => (toI a).bind fun i => (toI y).bind fun j => dRng i j).bind fun xs => R.ok (if tl then PyData.tuple xs else PyData.list xs)) = fun a => (sb ρ).bind fun y => ((toI a).bind fun i => (toI y).bind fun j => dRng i j).bind fun xs => .ok (if tl then .tuple xs else .list xs) := by
      funext a
      rw [R.bind_assoc]
    rw [e] at h
    exact h
  refine at_e E h0 fun d v H1 s1 r1 E1 h1 => at_e E1 h1 fun d2 v2 H2 s2 r2 E2 h2 => ?_
  cases d with
  | int i =>
    cases d2 with
    | int j =>
      cases r1.int
      cases r2.int
      have h2 : FinG X.mg W σ H2 ((dRng i j).bind fun xs => .ok (if tl then .tuple xs else .list xs)) (PE_ X.K H (Ads GO ++ F) .fr Q) := h2
      unfold dRng at h2
      split at h2
      · rename_i c
        obtain ⟨c1, c2, c3, c4, c5⟩ := rngC c
        refine ⟨i, j, rfl, rfl, ⟨c1, c2, c3, c4, c5⟩, fun q hq => ?_⟩
        have h3 : PE_ X.K H (Ads GO ++ F) .fr Q (if tl then .tuple (rngD i (j - i).toNat) else .list (rngD i (j - i).toNat)) := h2
        cases tl with
        | true => exact PE_.newT (PE_.mono (s1.trans s2) h3) toL_of (by rw [rngD_len]; exact c5) hq
        | false => exact PE_.newL (PE_.mono (s1.trans s2) h3) toL_of (by rw [rngD_len]; exact c5) hq (E2.newp hq)
      · exact h2.elim
    | _ => exact h2.elim
  | _ =>
    cases d2 <;> exact h2.elim
theorem de_tupR1 (hc : X.calm = true) (m : X.mg "tuple" = none) (m2 : X.mg "range" = none) (ha : DE X W Γ a fa sa) (hg : Gl X "tuple" := by show _ = _; kernel_rfl) (hg2 : Gl X "range" := by show _ = _; kernel_rfl) (na : starEach [a] X.env = (false, eval a X.env) :: starEach [] X.env := by kernel_rfl) (ne : starEach [.Call (.Name "range" p2) [a] [] p3] X.env = (false, eval (.Call (.Name "range" p2) [a] [] p3) X.env) :: starEach [] X.env := by kernel_rfl) :
    DE X W Γ (.Call (.Name "tuple" p) [.Call (.Name "range" p2) [a] [] p3] [] pos) .fr (eTupI (iRng1 sa)) :=
  pe_imp (pe_tupRg hc hg m (prg_1 hg2 m2 ha na) ne) fun σ H Q h => rg_s1 (ta := tDE X.K X.mg W Γ fa sa) true h
theorem de_lstR1 (hc : X.calm = true) (m : X.mg "list" = none) (m2 : X.mg "range" = none) (ha : DE X W Γ a fa sa) (hg : Gl X "list" := by show _ = _; kernel_rfl) (hg2 : Gl X "range" := by show _ = _; kernel_rfl) (na : starEach [a] X.env = (false, eval a X.env) :: starEach [] X.env := by kernel_rfl) (ne : starEach [.Call (.Name "range" p2) [a] [] p3] X.env = (false, eval (.Call (.Name "range" p2) [a] [] p3) X.env) :: starEach [] X.env := by kernel_rfl) :
    DE X W Γ (.Call (.Name "list" p) [.Call (.Name "range" p2) [a] [] p3] [] pos) .fr (eLstI (iRng1 sa)) :=
  pe_imp (pe_listRg hc hg m (prg_1 hg2 m2 ha na) ne) fun σ H Q h => rg_s1 (ta := tDE X.K X.mg W Γ fa sa) false h
theorem de_tupR2 (hc : X.calm = true) (m : X.mg "tuple" = none) (m2 : X.mg "range" = none) (ha : DE X W Γ a fa sa) (hb : DE X W Γ b fb sb) (hg : Gl X "tuple" := by show _ = _; kernel_rfl) (hg2 : Gl X "range" := by show _ = _; kernel_rfl) (na : starEach [a, b] X.env = (false, eval a X.env) :: starEach [b] X.env := by kernel_rfl) (nb : starEach [b] X.env = (false, eval b X.env) :: starEach [] X.env := by kernel_rfl) (hp : (backTo p3 (starEach [b] X.env)).any (·.1) = false := by kernel_rfl) (ne : starEach [.Call (.Name "range" p2) [a, b] [] p3] X.env = (false, eval (.Call (.Name "range" p2) [a, b] [] p3) X.env) :: starEach [] X.env := by kernel_rfl) :
    DE X W Γ (.Call (.Name "tuple" p) [.Call (.Name "range" p2) [a, b] [] p3] [] pos) .fr (eTupI (iRng2 sa sb)) :=
  pe_imp (pe_tupRg hc hg m (prg_2 hg2 m2 ha hb na nb hp) ne) fun σ H Q h => rg_s2 true h
theorem de_lstR2 (hc : X.calm = true) (m : X.mg "list" = none) (m2 : X.mg "range" = none) (ha : DE X W Γ a fa sa) (hb : DE X W Γ b fb sb) (hg : Gl X "list" := by show _ = _; kernel_rfl) (hg2 : Gl X "range" := by show _ = _; kernel_rfl) (na : starEach [a, b] X.env = (false, eval a X.env) :: starEach [b] X.env := by kernel_rfl) (nb : starEach [b] X.env = (false, eval b X.env) :: starEach [] X.env := by kernel_rfl) (hp : (backTo p3 (starEach [b] X.env)).any (·.1) = false := by kernel_rfl) (ne : starEach [.Call (.Name "range" p2) [a, b] [] p3] X.env = (false, eval (.Call (.Name "range" p2) [a, b] [] p3) X.env) :: starEach [] X.env := by kernel_rfl) :
    DE X W Γ (.Call (.Name "list" p) [.Call (.Name "range" p2) [a, b] [] p3] [] pos) .fr (eLstI (iRng2 sa sb)) :=
  pe_imp (pe_listRg hc hg m (prg_2 hg2 m2 ha hb na nb hp) ne) fun σ H Q h => rg_s2 false h
/-! raise -/
structure Exn (K : PySem.W.Frag) (mg : MG) (x : Str) : Prop where
  ex : ∃ C, mg x = some (.ref C) ∧ PySem.W.excIn K C He.veBase "ValueError.__new__" = true ∧ PySem.W.keepIn K (.ref C) = true ∧ PySem.W.subIn K (.ref C) (.type "BaseException") = some true ∧ PySem.W.typeIn K (.ref C) = some (.type "type")
theorem ds_raiseX {x : Str} (T : Exn X.K X.mg x) (hc : X.calm = true) (tk : Takes X W) (hg : Gl X x := by show _ = _; kernel_rfl) (hdb : (x == ("__debug__" : Str)) = false := by decide) : DS X W Γ (.Raise (some (.Call (.Name x p) [] [] p2)) none pos) Γ' (sRaise x) := by
  obtain ⟨C, gC, h1, h2, h3, h4⟩ := T.ex
  exact ds_raise hc tk gC (pmk_own0 PySem.F.excBase_ValueError h1 gC h2 (raises_own h3 h4) hg hdb)
/-! slots forgotten behind a block -/
theorem dss_wkp {sts : List Stmt} {sx : SS} {ks : List Nat} (hk : ks.all (fun i => !Γ'.contains i) = true) (h : DSs X W Γ sts Γ' sx) : DSs X W Γ sts Γ' (sPost ks sx) := pss_imp h fun D σ H h => by
  obtain ⟨ρ, F, GO, E, h⟩ := h
  refine ⟨ρ, F, GO, E, ?_⟩
  unfold sPost at h
  show FinS _ _ _ _ _ _ _ (sx ρ) _
  cases q : sx ρ with
  | ok o =>
    rw [q] at h
    cases o with
    | nx ρ' => exact fun σ' H' GO' E' k n => h σ' H' GO' (E'.killAll fun i hi hz => by
        have := List.all_eq_true.mp hk i hi
        rw [List.contains_iff_mem.mpr hz] at this
        cases this) k n
    | rt d => exact h
    | rf d => exact h
  | exc c => rw [q] at h; exact h
  | bad => rw [q] at h; exact h
/-! [a] * n -/
theorem de_repL (ha : DE X W Γ a .fr sa) (hb : DE X W Γ b fb sb) : DE X W Γ (.BinOp a .Mult b pos) .fr (e2 repD sa sb) :=
  pe_imp (pe_op op_rep ha hb) fun σ H Q h => by
    obtain ⟨ρ, F, GO, E, h⟩ := h
    refine at_e E h fun d v H1 s1 r1 E1 h1 => at_e E1 h1 fun d2 v2 H2 s2 r2 E2 h2 => ?_
    unfold repD at h2
    split at h2
    · obtain ⟨p, rfl, _, ho⟩ := (r1.mono s2).2 _ rfl
      cases r2.int
      obtain ⟨vs, g1, g2, g3⟩ := ho
      split at h2
      · rename_i c
        obtain ⟨c1, c2'⟩ := c
        have c2 := s63a _ c2'
        have c3 := s63b _ c2'
        have g2' := g2.mono (.sub_ (.refl H2) (O' := Ads GO ++ F) fun b hb => List.mem_cons_of_mem _ hb)
        refine ⟨p, _, vs, rfl, rfl, g1, c2, c3, by rw [g2.length]; exact big_le c1, fun t ht => PE_.newL (PE_.mono (s1.trans s2) h2) (g2'.rep _) ?_ ht (E2.newp ht)⟩
        rw [PyProof.Rows.lm_len_rep_flat, Nat.mul_comm]
        exact c1
      · exact h2.elim
    · exact h2.elim
end
end DL
set_option Elab.async false
set_option linter.all false
set_option maxRecDepth 100000
/-! enumerate, zip over lists and tuples -/
namespace PySem
open Sem (wp)
set_option maxHeartbeats 1000000 in
theorem meets_enumerate_newB1 {v : Value} {o : Obj} {H : Heap → Prop} (B : Begins v o H) :
    Meets (Builtin.«enumerate.__new__» ⟨[.type "enumerate", v], []⟩) (fun _ R s => H s.heap ∧
      R (.ok (.ret (.ref (s.heap.push o).objs.size))) { s with heap := (s.heap.push o).push { cls := .type "enumerate", data := .fields #[.none, .bool false, .ref s.heap.objs.size, rawInt 0, .none, .none] } }) :=
  .of_wp fun prog w A R s h => by
    obtain ⟨hp, g, d, tk, os⟩ := s; obtain ⟨h1, h⟩ := h
    have hsub := sub_enumerate
    have q1 : ∀ {A' : Around} {E : Value → Shared → Prop} {Q : Value → Shared → Prop}, Q (.ref hp.objs.size) ⟨hp.push o, g, d, tk, os⟩ → wpAny (model prog w) A' (pyIter v) Q E ⟨hp, g, d, tk, os⟩ :=
      fun q => B.iter prog w _ _ ⟨hp, g, d, tk, os⟩ _ h1 q
    wp_walk using q1
    refine wpAny_stack_any fun st => wpAny_pure ?_
    split
    · rename_i c _ _ _ _ _
      cases (c == Value.type "enumerate")
      · wp_walk using q1
        exact ⟨_, rfl, h⟩
      · wp_walk using q1
        exact ⟨_, rfl, h⟩
    · wp_walk using q1
      exact ⟨_, rfl, h⟩
theorem enum_begins1 {prog : Program} {w : World} {A : Around} {E : Value → Shared → Prop} {s : Shared} {v : Value} {o : Obj} {H : Heap → Prop} {Q : Value → Shared → Prop} (B : Begins v o H) (h1 : H s.heap)
    (h : ∀ h', IsEnum h' (s.heap.objs.size + 1) s.heap.objs.size 0 .none → h'.get? s.heap.objs.size = some o → h'.objs.size = s.heap.objs.size + 2 →
      (∀ b o, s.heap.get? b = some o → h'.get? b = some o) → Q (.ref (s.heap.objs.size + 1)) { s with heap := h' }) :
    wpAny (model prog w) A (call (.type "enumerate") [v]) Q E s := by
  refine callType_new F.called_enumerate (by decide) (F.typeCall_enumerate_1 _) (F.newCall_enumerate_1 _) (fun obj => F.args_object_init_2 obj _) F.entry_enumerate_new
    (meets_enumerate_newB1 B) ⟨h1, ?_⟩
  have hz : (s.heap.push o).objs.size = s.heap.objs.size + 1 := Heap.size_push ..
  show _ ∧ _
  rw [hz]
  have he : IsEnum ((s.heap.push o).push { cls := .type "enumerate", data := .fields #[.none, .bool false, .ref s.heap.objs.size, rawInt 0, .none, .none] }) (s.heap.objs.size + 1) s.heap.objs.size 0 .none := by
    have := Heap.get?_push_size (s.heap.push o) (o := { cls := .type "enumerate", data := .fields #[.none, .bool false, .ref s.heap.objs.size, rawInt 0, .none, .none] }) rfl
    rw [hz] at this; exact this
  refine ⟨⟨_, he, rfl⟩, h _ he (Heap.get?_push_of_some _ (Heap.get?_push_size _ B.free)) (by rw [Heap.size_push, hz]) fun b o x => Heap.get?_push_of_some _ (Heap.get?_push_of_some _ x)⟩
end PySem
namespace DL
open PySem PySem.Spec PyProof.Rows L2

/-! ### a list (k false) or a tuple (k true) -/
def SqK (k : Bool) (K : PySem.W.Frag) (H : Hp) (a : Addr) (xs : List V) : Prop := match k with
  | true => SqT K H a xs
  | false => SqL K H a xs
def IsQ (k : Bool) (h : Heap) (a : Addr) (its : Array Value) : Prop := match k with
  | true => h.IsTuple a its
  | false => h.IsList a its
def IsQIter (k : Bool) (h : Heap) (it a : Addr) (i : Nat) : Prop := match k with
  | true => h.IsTupleIter it a i
  | false => h.IsListIter it a i
def iterO (k : Bool) (a : Addr) : Obj := match k with
  | true => { cls := .type "tuple_iterator", data := .fields #[.ref a, .int 0 0] }
  | false => { cls := .type "list_iterator", data := .fields #[.ref a, .int 0 0] }
theorem IsQ.at {k : Bool} {h h' : Heap} {a : Addr} {its : Array Value} (x : IsQ k h a its) (e : ∀ o, h.get? a = some o → h'.get? a = some o) : IsQ k h' a its := by
  cases k with
  | true => exact Heap.IsTuple.at x e
  | false => exact Heap.IsList.at x e
theorem IsQIter.at {k : Bool} {h h' : Heap} {it a : Addr} {i : Nat} (x : IsQIter k h it a i) (e : ∀ o, h.get? it = some o → h'.get? it = some o) : IsQIter k h' it a i := by
  cases k with
  | true => exact Heap.IsTupleIter.at x e
  | false => exact Heap.IsListIter.at x e
theorem IsQIter.obj {k : Bool} {h : Heap} {it a : Addr} {i : Nat} (x : IsQIter k h it a i) : ∃ o, h.get? it = some o ∧ ∀ v, o.data ≠ .cell v := by
  cases k with
  | true =>
    obtain ⟨o, ho, _, d⟩ := x
    exact ⟨o, ho, fun v q => by rw [d] at q; cases q⟩
  | false =>
    obtain ⟨o, ho, _, d⟩ := x
    exact ⟨o, ho, fun v q => by rw [d] at q; cases q⟩
theorem IsQ.ne {k k' : Bool} {h : Heap} {it a b : Addr} {i : Nat} {its : Array Value} (x : IsQ k h a its) (y : IsQIter k' h it b i) : a ≠ it := by
  intro e
  subst e
  cases k <;> cases k' <;>
  · obtain ⟨o, ho, c, _⟩ := x
    obtain ⟨o', ho', c', _⟩ := y
    rw [ho] at ho'
    cases ho'
    rw [c] at c'
    exact absurd c' (by decide)
theorem drawsQ {prog : Program} {w : World} {A : Around} (hh : A.handled = none) (k : Bool) (it a : Addr) (hne : a ≠ it) (items : Array Value) :
    Draws prog w A it [it, a] items.size (fun i v => items[i]? = some v) (fun i h => IsQIter k h it a i ∧ IsQ k h a items) := by
  cases k with
  | true => exact Draws.tuple hh it a hne items
  | false => exact Draws.list hh it a hne items
theorem beginsQ (k : Bool) (a : Addr) (items : Array Value) : Begins (.ref a) (iterO k a) (fun h => IsQ k h a items) := by
  cases k with
  | true => exact begins_tuple a items
  | false => exact begins_list a items
theorem iterQ {k : Bool} {h : Heap} {it a : Addr} (e : h.get? it = some (iterO k a)) : IsQIter k h it a 0 := by
  cases k with
  | true => exact ⟨_, e, rfl, rfl⟩
  | false => exact ⟨_, e, rfl, rfl⟩
section
variable {X : Cx} {pins : List (Addr × Obj)} {σ : L2.St} {H : Hp} {s : Shared} {a : Addr} {xs ys : List V} {k : Bool}
theorem invQ (I : Inv X pins σ H s) (h : SqK k X.K H a xs) : ∃ its : List Value, Vals xs its ∧ IsQ k s.heap a its.toArray ∧ xs.length ≤ sizeLine := by
  cases k with
  | true =>
    obtain ⟨its, r, t, z⟩ := I.tuple h
    exact ⟨its, r, t, z⟩
  | false =>
    obtain ⟨its, r, t, z⟩ := I.list h
    exact ⟨its, r, t.isList, z⟩
theorem invQ_inj (I : Inv X pins σ H s) (h : SqK k X.K H a xs) (h' : SqK k X.K H a ys) : xs = ys := by
  cases k with
  | true => exact I.tuple_inj h h'
  | false => exact I.list_inj h h'
end
/-- enumerate -/
def IteQ (k : Bool) (K : PySem.W.Frag) (a : Addr) : It :=
  ⟨fun i H => ∃ (xs : List V) (x : V), SqK k K H a xs ∧ xs[i]? = some x, fun i H v H' => ∃ T x, v = .ref T ∧ H T = none ∧ H' = upd H T (.tup [.int (i : Nat), x]) ∧ ∀ xs, SqK k K H a xs → xs[i]? = some x, fun i H => ∃ xs : List V, SqK k K H a xs ∧ xs.length = i⟩
theorem turn_enumQ {P : Program} {w : World} {K : PySem.W.Frag} {elts : List Expr} {kk : Nat} {tpos : Pos} (k : Bool) (a e it : Addr) :
    Turn P w K (.Tuple elts kk tpos) (IteQ k K a) [e, it] e (fun i h => (∃ old, IsEnum h e it ((i : Nat) : Int) old) ∧ IsQIter k h it a i ∧ e ≠ it ∧ e ≠ a) where
  mem := by simp
  obj := fun i h st b hb => by
    obtain ⟨⟨old, he⟩, hi, _⟩ := st
    have e' : b = e ∨ b = it := by simpa using hb
    rcases e' with z | z
    · rw [z]; exact ⟨_, he, fun v q => nomatch q⟩
    · rw [z]; exact hi.obj
  keep := fun i h h' st k => let ⟨⟨old, he⟩, hi, hne⟩ := st; ⟨⟨old, k e (by simp) _ he⟩, hi.at fun o q => k it (by simp) o q, hne⟩
  item := by
    intro X hP hw hK hc i pins s σ H E I hf st hg
    subst hP hw hK
    obtain ⟨⟨old, he⟩, hit, hne, hea⟩ := st
    obtain ⟨xs, x, hq, hx⟩ := hg
    obtain ⟨its, rv, p, hz⟩ := invQ I hq
    obtain ⟨u, hu, ru⟩ := rv.get hx
    have hel : e < s.heap.objs.size := Heap.lt_size he
    have hil : it < s.heap.objs.size := by obtain ⟨_, q, _⟩ := hit.obj; exact Heap.lt_size q
    have D := drawsQ (prog := X.prog) (w := X.w) (A := X.A.in1) (I.ok.hd hc) k it a (p.ne hit) its.toArray
    have hlt : i < its.toArray.size := by
      have := (List.getElem?_eq_some_iff.mp hu).1
      simpa using this
    refine wpAny_pyNext_enum_itemD D he ⟨hit, p⟩ hlt hne (by simp [hne, hea]) fun x' h' tk hP ho hst hT hsz hk => ?_
    obtain ⟨hit', p'⟩ := hst
    have hxu : x' = u := by
      have q1 : its.toArray[i]? = some x' := hP
      have q2 : its.toArray[i]? = some u := by simpa using hu
      rw [q1] at q2
      exact Option.some.inj q2
    subst hxu
    refine ⟨_, rfl, wpAny_letOwnedTupleGo_enum (s := { s with heap := h', toks := tk + 1 }) ho fun h'' he' sb => ?_⟩
    have hT2 : h''.get? s.heap.objs.size = some { cls := .type "tuple", data := .seq #[.int i tk, x'] } := (sb.2 _ (Nat.ne_of_gt hel)).trans hT
    have new : ObjOk X.prog X.w (upd H s.heap.objs.size (.tup [.int (i : Nat), x])) h'' s.heap.objs.size (.tup [.int (i : Nat), x]) :=
      ⟨by show 2 ≤ sizeLine; decide, [.int i tk, x'], .cons ⟨_, rfl⟩ (.cons ru .nil), ⟨_, hT2, rfl, _, rfl⟩⟩
    have I1 : Inv X pins σ (upd H s.heap.objs.size (.tup [.int (i : Nat), x])) { s with heap := h'', toks := tk + 1 } :=
      I.turnedNew (ch := [e, it]) (fun b ob hb q => (sb.2 b (fun z => hb (by simp [z]))).trans (hk b ob (fun z => hb (by simp [z])) (fun z => hb (by simp [z])) q)) hf (Nat.le_refl _) new
    refine ⟨.ref s.heap.objs.size, _, I1, rfl, ⟨_, x, rfl, I.hok.fresh (Nat.le_refl _), rfl, fun ys hy => by rw [invQ_inj I hy hq]; exact hx⟩, ⟨⟨x', ?_⟩, hit'.at fun o q => (sb.2 it (Ne.symm hne)).trans q, hne, hea⟩, fun b hb => ?_⟩
    · have e1 : ((i + 1 : Nat) : Int) = (i : Int) + 1 := by omega
      rw [e1]; exact he'
    · have hb' : b < s.heap.objs.size := by
        have e' : b = e ∨ b = it := by simpa using hb
        rcases e' with z | z
        · rw [z]; exact hel
        · rw [z]; exact hil
      rw [upd_ne (Nat.ne_of_lt hb')]
      exact (hf b hb).1
  done := by
    intro X hP hw hK hc i pins s σ H E I hf st hg
    subst hP hw hK
    obtain ⟨⟨old, he⟩, hit, hne, hea⟩ := st
    obtain ⟨xs, hq, hx⟩ := hg
    obtain ⟨its, rv, p, hz⟩ := invQ I hq
    obtain ⟨f0, f1, f2, f3, f4, f5⟩ := hf it (by simp)
    have hl := rv.length
    have D := drawsQ (prog := X.prog) (w := X.w) (A := X.A.in1) (I.ok.hd hc) k it a (p.ne hit) its.toArray
    have en : its.toArray.size = i := by rw [List.size_toArray]; omega
    refine wpAny_pyNext_enum_endD D he ?_ fun h' eb => ⟨rfl, I.turned (t' := s.toks) (fun b o hb q => eb b o hb q) f0 f1 f3 f4 f5⟩
    rw [en]
    exact ⟨hit, p⟩
  self := fun A i s Q E st h => let ⟨⟨_, he⟩, _⟩ := st; wpAny_pyIter_enum he h
def iEnumQ (K : PySem.W.Frag) (ta : TA) : TI := fun σ H R' => ta σ H fun vs H1 => ∃ a xs k, vs = [.ref a] ∧ SqK k K H1 a xs ∧ R' (IteQ k K a) H1
theorem pi_enumQ {X : Cx} {e : Expr} {ta : TA} {p pos tpos : Pos} {elts : List Expr} {kk : Nat} (hg : Gl X "enumerate") (hm : X.mg "enumerate" = none) (ha : PA X [e] ta) (hs : starEach [e] X.env = [(false, eval e X.env)] := by kernel_rfl) :
    PI X (.Tuple elts kk tpos) (.Call (.Name "enumerate" p) [e] [] pos) (iEnumQ X.K ta) := by
  refine ⟨fun pins s σ H R I h => ?_⟩
  refine Call_ (ld_blt I hg hm boot_enumerate (PyProof.Rows.callWith_type1 (thn (ha.run pos pins s σ H _ I h) fun us s1 ⟨vs, H1, I1, r1, q1⟩ => ?_) hs rfl))
  obtain ⟨a, xs, k, ex, hq, q⟩ := q1
  subst ex
  cases r1 with
  | cons r rr =>
    cases rr
    cases r
    obtain ⟨its, rv, p', hz⟩ := invQ I1 hq
    have hal : a < s1.heap.objs.size := by
      cases k with
      | true => obtain ⟨o, ho, _⟩ := p'; exact Heap.lt_size ho
      | false => obtain ⟨o, ho, _⟩ := p'; exact Heap.lt_size ho
    refine enum_begins1 (beginsQ k a its.toArray) p' fun h' he hit hsz hk => wpAny_pyIter_enum he ?_
    have I2 : Inv X pins σ H1 { s1 with heap := h' } := I1.kept (t' := s1.toks) hk
    refine ⟨s1.heap.objs.size + 1, [s1.heap.objs.size + 1, s1.heap.objs.size], _, _, H1, rfl, I2, turn_enumQ k a (s1.heap.objs.size + 1) s1.heap.objs.size, ⟨⟨.none, he⟩, iterQ hit, Nat.succ_ne_self _, Nat.ne_of_gt (Nat.lt_succ_of_lt hal)⟩, fun b hb => ?_, q⟩
    have e' : b = s1.heap.objs.size + 1 ∨ b = s1.heap.objs.size := by simpa using hb
    have hle : s1.heap.objs.size ≤ b := by
      rcases e' with z | z
      · rw [z]; exact Nat.le_add_right _ _
      · rw [z]; exact Nat.le_refl _
    exact I1.fpOk hle (I1.hok.fresh hle)
/-- zip -/
def ItzQ (k1 k2 : Bool) (K : PySem.W.Frag) (a b : Addr) : It :=
  ⟨fun i H => ∃ (xs ys : List V) (x y : V), SqK k1 K H a xs ∧ SqK k2 K H b ys ∧ xs[i]? = some x ∧ ys[i]? = some y,
    fun i H v H' => ∃ T x y, v = .ref T ∧ H T = none ∧ H' = upd H T (.tup [x, y]) ∧ (∀ xs, SqK k1 K H a xs → xs[i]? = some x) ∧ ∀ ys, SqK k2 K H b ys → ys[i]? = some y,
    fun i H => ∃ xs ys : List V, SqK k1 K H a xs ∧ SqK k2 K H b ys ∧ i ≤ xs.length ∧ i ≤ ys.length ∧ (i = xs.length ∨ i = ys.length)⟩
theorem turn_zipQ {P : Program} {w : World} {K : PySem.W.Frag} {elts : List Expr} {kk : Nat} {tpos : Pos} (k1 k2 : Bool) {a b z TI TO i1 i2 : Addr} (S : ZipSep2 z TI TO i1 i2 [i1, a] [i2, b]) :
    Turn P w K (.Tuple elts kk tpos) (ItzQ k1 k2 K a b) [z, TI, TO, i1, i2] z (fun i h => IsZip h z TI TO .none ∧ IsTupOf2 h TI (.ref i1) (.ref i2) ∧ (∃ x y, IsTupOf2 h TO x y) ∧ IsQIter k1 h i1 a i ∧ IsQIter k2 h i2 b i) where
  mem := by simp
  obj := fun i h st c hc => by
    obtain ⟨hz, hTI, ⟨x, y, hTO⟩, h1, h2⟩ := st
    have e' : c = z ∨ c = TI ∨ c = TO ∨ c = i1 ∨ c = i2 := by simpa using hc
    rcases e' with q | q | q | q | q
    · rw [q]; exact ⟨_, hz, fun v q => nomatch q⟩
    · rw [q]; exact ⟨_, hTI, fun v q => nomatch q⟩
    · rw [q]; exact ⟨_, hTO, fun v q => nomatch q⟩
    · rw [q]; exact h1.obj
    · rw [q]; exact h2.obj
  keep := fun i h h' st k => by
    obtain ⟨hz, hTI, ⟨x, y, hTO⟩, h1, h2⟩ := st
    exact ⟨k z (by simp) _ hz, k TI (by simp) _ hTI, ⟨x, y, k TO (by simp) _ hTO⟩, h1.at fun o q => k i1 (by simp) o q, h2.at fun o q => k i2 (by simp) o q⟩
  item := by
    intro X hP hw hK hc i pins s σ H E I hf st hg
    subst hP hw hK
    obtain ⟨hz, hTI, ⟨x0, y0, hTO⟩, h1, h2⟩ := st
    obtain ⟨xs, ys, x, y, hqx, hqy, hx, hy⟩ := hg
    obtain ⟨its, rv, p, _⟩ := invQ I hqx
    obtain ⟨its2, rv2, p2, _⟩ := invQ I hqy
    obtain ⟨u, hu, ru⟩ := rv.get hx
    obtain ⟨u2, hu2, ru2⟩ := rv2.get hy
    have hzl : z < s.heap.objs.size := Heap.lt_size hz
    have D1 := drawsQ (prog := X.prog) (w := X.w) (A := X.A.in1) (I.ok.hd hc) k1 i1 a (p.ne h1) its.toArray
    have D2 := drawsQ (prog := X.prog) (w := X.w) (A := X.A.in1) (I.ok.hd hc) k2 i2 b (p2.ne h2) its2.toArray
    have hlt1 : i < its.toArray.size := by
      have := (List.getElem?_eq_some_iff.mp hu).1
      simpa using this
    have hlt2 : i < its2.toArray.size := by
      have := (List.getElem?_eq_some_iff.mp hu2).1
      simpa using this
    refine wpAny_pyNext_zipD2_item S D1 D2 hz hTI hTO ⟨h1, p⟩ ⟨h2, p2⟩ hlt1 hlt2 fun y1 y2 h' tk hy1 hy2 z' TO' st1 st2 hT hsz hk => ?_
    obtain ⟨h1', _⟩ := st1
    obtain ⟨h2', _⟩ := st2
    have e1 : y1 = u := by
      have q2 : its.toArray[i]? = some u := by simpa using hu
      rw [show its.toArray[i]? = some y1 from hy1] at q2
      exact Option.some.inj q2
    have e2 : y2 = u2 := by
      have q2 : its2.toArray[i]? = some u2 := by simpa using hu2
      rw [show its2.toArray[i]? = some y2 from hy2] at q2
      exact Option.some.inj q2
    subst e1 e2
    refine ⟨_, rfl, wpAny_letOwnedTupleGo_zip (s := { s with heap := h', toks := tk }) z' fun h'' z'' sb => ?_⟩
    have hT2 : h''.get? s.heap.objs.size = some { cls := .type "tuple", data := .seq #[y1, y2] } := (sb.2 _ (Nat.ne_of_gt hzl)).trans hT
    have new : ObjOk X.prog X.w (upd H s.heap.objs.size (.tup [x, y])) h'' s.heap.objs.size (.tup [x, y]) :=
      ⟨by show 2 ≤ sizeLine; decide, [y1, y2], .cons ru (.cons ru2 .nil), ⟨_, hT2, rfl, _, rfl⟩⟩
    have I1 : Inv X pins σ (upd H s.heap.objs.size (.tup [x, y])) { s with heap := h'', toks := tk } :=
      I.turnedNew (t' := tk) (ch := [z, TI, TO, i1, i2]) (fun c o hb q => (sb.2 c (fun q' => hb (by simp [q']))).trans (hk c o (fun q' => hb (by simp [q'])) (fun q' => hb (by simp [q'])) (fun q' => hb (by simp [q'])) (fun q' => hb (by simp [q'])) q)) hf (Nat.le_refl _) new
    refine ⟨.ref s.heap.objs.size, _, I1, rfl, ⟨_, x, y, rfl, I.hok.fresh (Nat.le_refl _), rfl, fun l hl => by rw [invQ_inj I hl hqx]; exact hx, fun l hl => by rw [invQ_inj I hl hqy]; exact hy⟩, ⟨z'', ?_, ⟨y1, y2, ?_⟩, ?_, ?_⟩, fun c hcm => ?_⟩
    · exact (sb.2 _ S.TIz).trans (hk _ _ S.TIz S.TITO S.TIi1 S.TIi2 hTI)
    · exact (sb.2 _ S.TOz).trans TO'
    · exact h1'.at fun o q => (sb.2 _ (Ne.symm S.zi1)).trans q
    · exact h2'.at fun o q => (sb.2 _ (Ne.symm S.zi2)).trans q
    · have hlt : c < s.heap.objs.size := by
        have e' : c = z ∨ c = TI ∨ c = TO ∨ c = i1 ∨ c = i2 := by simpa using hcm
        rcases e' with q | q | q | q | q
        · rw [q]; exact hzl
        · rw [q]; exact Heap.lt_size hTI
        · rw [q]; exact Heap.lt_size hTO
        · rw [q]; obtain ⟨_, e1, _⟩ := h1.obj; exact Heap.lt_size e1
        · rw [q]; obtain ⟨_, e2, _⟩ := h2.obj; exact Heap.lt_size e2
      rw [upd_ne (Nat.ne_of_lt hlt)]
      exact (hf c hcm).1
  done := by
    intro X hP hw hK hc i pins s σ H E I hf st hg
    subst hP hw hK
    obtain ⟨hz, hTI, ⟨x0, y0, hTO⟩, h1, h2⟩ := st
    obtain ⟨xs, ys, hqx, hqy, l1, l2, hend⟩ := hg
    obtain ⟨its, rv, p, _⟩ := invQ I hqx
    obtain ⟨its2, rv2, p2, _⟩ := invQ I hqy
    have e1 := rv.length
    have e2 := rv2.length
    have D1 := drawsQ (prog := X.prog) (w := X.w) (A := X.A.in1) (I.ok.hd hc) k1 i1 a (p.ne h1) its.toArray
    have D2 := drawsQ (prog := X.prog) (w := X.w) (A := X.A.in1) (I.ok.hd hc) k2 i2 b (p2.ne h2) its2.toArray
    exact wpAny_pyNext_zipD2_end S D1 D2 hz hTI hTO ⟨h1, p⟩ ⟨h2, p2⟩ (by rw [List.size_toArray]; omega) (by rw [List.size_toArray]; omega) (by rw [List.size_toArray, List.size_toArray]; omega) fun h' tk hk => ⟨rfl, I.turnedL (t' := tk) (ch := [z, TI, TO, i1, i2]) (fun c o hb q =>
      hk c o (fun q' => hb (by simp [q'])) (fun q' => hb (by simp [q'])) (fun q' => hb (by simp [q'])) (fun q' => hb (by simp [q'])) q) hf⟩
  self := fun A i s Q E st h => wpAny_pyIter_zip st.1 h
def iZipQ (K : PySem.W.Frag) (ta : TA) : TI := fun σ H R' => ta σ H fun vs H1 => ∃ a b xs ys k1 k2, vs = [.ref a, .ref b] ∧ SqK k1 K H1 a xs ∧ SqK k2 K H1 b ys ∧ R' (ItzQ k1 k2 K a b) H1
theorem IsQ.lt {k : Bool} {h : Heap} {a : Addr} {its : Array Value} (x : IsQ k h a its) : a < h.objs.size := by
  cases k with
  | true => obtain ⟨o, ho, _⟩ := x; exact Heap.lt_size ho
  | false => obtain ⟨o, ho, _⟩ := x; exact Heap.lt_size ho
theorem pi_zipQ {X : Cx} {e e2 : Expr} {ta : TA} {p pos tpos : Pos} {elts : List Expr} {kk : Nat} (hg : Gl X "zip") (hm : X.mg "zip" = none) (ha : PA X [e, e2] ta) (hs : starEach [e, e2] X.env = (false, eval e X.env) :: starEach [e2] X.env := by kernel_rfl) (hpl : (backTo pos (starEach [e2] X.env)).any (·.1) = false := by kernel_rfl) :
    PI X (.Tuple elts kk tpos) (.Call (.Name "zip" p) [e, e2] [] pos) (iZipQ X.K ta) := by
  refine ⟨fun pins s σ H R I h => ?_⟩
  refine Call_ (ld_blt I hg hm boot_zip (PyProof.Rows.callWith_type1 (thn (ha.run pos pins s σ H _ I h) fun us s1 ⟨vs, H1, I1, r1, q1⟩ => ?_) hs hpl))
  obtain ⟨a, b, xs, ys, k1, k2, ex, hq, hq2, q⟩ := q1
  subst ex
  obtain ⟨u1, u2, rfl, r, rr⟩ := r1.two
  cases r
  cases rr
  obtain ⟨its, rv, p1, hz⟩ := invQ I1 hq
  obtain ⟨its2, rv2, p2, hz2⟩ := invQ I1 hq2
  refine zip_begins2 (beginsQ k1 a its.toArray) (beginsQ k2 b its2.toArray) p1 p2 fun h' hz' hTI hTO hi1 hi2 hsz hk => wpAny_pyIter_zip hz' ?_
  have I2 : Inv X pins σ H1 { s1 with heap := h' } := I1.kept (t' := s1.toks) hk
  have S := zip_sep2 (N := s1.heap.objs.size) (fp1 := [a]) (fp2 := [b]) (fun c hc => by rw [List.mem_singleton] at hc; subst hc; exact p1.lt) (fun c hc => by rw [List.mem_singleton] at hc; subst hc; exact p2.lt)
  refine ⟨s1.heap.objs.size + 4, [s1.heap.objs.size + 4, s1.heap.objs.size + 2, s1.heap.objs.size + 3, s1.heap.objs.size, s1.heap.objs.size + 1], _, _, H1, rfl, I2, turn_zipQ k1 k2 S, ⟨hz', hTI, ⟨_, _, hTO⟩, iterQ hi1, iterQ hi2⟩, fun c hc => ?_, q⟩
  have hle : s1.heap.objs.size ≤ c := by
    have e' : c = s1.heap.objs.size + 4 ∨ c = s1.heap.objs.size + 2 ∨ c = s1.heap.objs.size + 3 ∨ c = s1.heap.objs.size ∨ c = s1.heap.objs.size + 1 := by simpa using hc
    rcases e' with z | z | z | z | z <;> rw [z] <;> first | exact Nat.le_refl _ | exact Nat.le_add_right _ _
  exact I1.fpOk hle (I1.hok.fresh hle)

/-! ### .. as data -/
section
variable {X : Cx} {W : WX} {Γ : List Nat} {e a b : Expr} {fl fa fb : Fl} {se sa sb : SE} {pos p p2 tpos : Pos} {elts : List Expr} {kk : Nat}
theorem Res.staysQ {K : PySem.W.Frag} {H0 H1 : Hp} {GO : List (Nat × Addr)} {F : List Addr} {v : V} {d : Da} {ds : List Da} (h : Res K H0 H1 (Ads GO ++ F) fl v d) (hd : toL d = .ok ds) (s : Bool) (hs : s = true → storable [fl] = true) :
    ∃ k p vs, v = .ref p ∧ RpAll K H1 (Ads GO ++ F) vs ds ∧ ds.length ≤ big ∧ ∀ H O', Grow (sto s (Ads GO ++ F)) (Ads GO ++ F) O' H1 H → SqK k K H p vs := by
  cases d with
  | list xs =>
    cases hd
    obtain ⟨p, vs, e, r, n, st⟩ := h.stays s hs
    exact ⟨false, p, vs, e, r, n, st⟩
  | tuple xs =>
    cases hd
    obtain ⟨p, vs, rfl, q1, r2, n2⟩ := h.tuple
    exact ⟨true, p, vs, rfl, r2, n2, fun H O' g => sqt_keep g.keep q1⟩
  | _ => cases hd
theorem grow_refl {GO : List (Nat × Addr)} {F : List Addr} {H : Hp} (s : Bool) : Grow (sto s (Ads GO ++ F)) (Ads GO ++ F) (Ads GO ++ F) H H := ⟨.refl H, fun b hb => by
  cases s with
  | true => exact hb
  | false => exact (List.not_mem_nil hb).elim, fun b hb => .inl hb⟩
theorem enumD_get : ∀ (xs : List Da) (k i : Nat) (y : Da), (enumD k xs)[i]? = some y → ∃ x, xs[i]? = some x ∧ y = .tuple [.int ((k + i : Nat) : Int), x]
  | [], _, _, _, h => by simp [enumD] at h
  | x :: xs, k, 0, y, h => by
    unfold enumD at h
    simp at h
    exact ⟨x, rfl, h.symm⟩
  | x :: xs, k, i + 1, y, h => by
    unfold enumD at h
    obtain ⟨z, h1, h2⟩ := enumD_get xs (k + 1) i y (by simpa using h)
    exact ⟨z, by simpa using h1, by rw [h2, Nat.add_right_comm]; rfl⟩
theorem enumD_len : ∀ (xs : List Da) (k : Nat), (enumD k xs).length = xs.length
  | [], _ => rfl
  | x :: xs, k => congrArg (· + 1) (enumD_len xs (k + 1))
theorem di_enum (s : Bool) (hm : X.mg "enumerate" = none) (he : DE X W Γ e fl se) (hs : s = true → storable [fl] = true) (hg : Gl X "enumerate" := by show _ = _; kernel_rfl) (h1 : starEach [e] X.env = [(false, eval e X.env)] := by kernel_rfl) : DI X W Γ (.Tuple elts kk tpos) (.Call (.Name "enumerate" p) [e] [] pos) s (iEnum se) :=
  pi_imp (pi_enumQ hg hm (pa_cons he pa_nil h1) h1) fun σ H Q h => by
    obtain ⟨ρ, F, GO, E, h⟩ := h
    refine at_e E h fun d v H1 s1 r1 E1 h1 => ?_
    cases hd : toL d with
    | ok ds =>
      rw [hd] at h1
      obtain ⟨k, p, vs, rfl, r2, n2, st⟩ := r1.staysQ hd s hs
      refine ⟨p, vs, k, rfl, st H1 _ (grow_refl s), h1 (IteQ k X.K p) H1 s1 (fun i H' O' g => ⟨fun y hy => ?_, fun hl => ?_⟩) (by rw [enumD_len]; exact n2)⟩
      · obtain ⟨x, hx, rfl⟩ := enumD_get ds 0 i y hy
        obtain ⟨v, hv, rv⟩ := (r2.mono g).get hx
        have q := st H' O' g
        refine ⟨⟨vs, v, q, hv⟩, fun v' H'' ⟨T, x', e1, hT, e2, hx'⟩ => ?_⟩
        subst e1 e2
        have := hx' vs q
        rw [hv] at this
        cases this
        refine ⟨same_upd hT, .tup (.of upd_same) (by show 2 ≤ big; decide) (.cons ?_ (.cons (rv.mono (.same (same_upd hT))) .nil))⟩
        rw [Nat.zero_add]
        exact .int _
      · rw [enumD_len] at hl
        exact ⟨vs, st H' O' g, by rw [r2.length, hl]⟩
    | exc c => rw [hd] at h1; exact absurd hd (by cases d <;> exact fun z => nomatch z)
    | bad => rw [hd] at h1; exact h1.elim
theorem zipD_get : ∀ (xs ys : List Da) (i : Nat) (z : Da), (zipD xs ys)[i]? = some z → ∃ x y, xs[i]? = some x ∧ ys[i]? = some y ∧ z = .tuple [x, y]
  | [], _, _, _, h => by simp [zipD] at h
  | _ :: _, [], _, _, h => by simp [zipD] at h
  | x :: xs, y :: ys, 0, z, h => by
    unfold zipD at h
    simp at h
    exact ⟨x, y, rfl, rfl, h.symm⟩
  | x :: xs, y :: ys, i + 1, z, h => by
    unfold zipD at h
    obtain ⟨a, b, h1, h2, h3⟩ := zipD_get xs ys i z (by simpa using h)
    exact ⟨a, b, by simpa using h1, by simpa using h2, h3⟩
theorem zipD_len : ∀ (xs ys : List Da), (zipD xs ys).length = min xs.length ys.length
  | [], ys => by simp [zipD]
  | _ :: _, [] => by simp [zipD]
  | x :: xs, y :: ys => by
    unfold zipD
    rw [List.length_cons, zipD_len xs ys, List.length_cons, List.length_cons]
    omega
theorem toL_nx (d : Da) (c : Str) : toL d ≠ .exc c := by cases d <;> exact fun z => nomatch z
theorem di_zip (s : Bool) (hm : X.mg "zip" = none) (ha : DE X W Γ a fa sa) (hb : DE X W Γ b fb sb) (hs : s = true → storable [fa] = true) (hs2 : s = true → storable [fb] = true) (hg : Gl X "zip" := by show _ = _; kernel_rfl) (h1 : starEach [a, b] X.env = (false, eval a X.env) :: starEach [b] X.env := by kernel_rfl) (h2 : starEach [b] X.env = (false, eval b X.env) :: starEach [] X.env := by kernel_rfl) (hpl : (backTo pos (starEach [b] X.env)).any (·.1) = false := by kernel_rfl) : DI X W Γ (.Tuple elts kk tpos) (.Call (.Name "zip" p) [a, b] [] pos) s (iZip sa sb) :=
  pi_imp (pi_zipQ hg hm (pa_cons ha (pa_cons hb pa_nil h2) h1) h1 hpl) fun σ H Q h => by
    obtain ⟨ρ, F, GO, E, h⟩ := h
    refine at_e E h fun d v H1 s1 r1 E1 h1 => at_e E1 h1 fun d2 v2 H2 s2 r2 E2 h2 => ?_
    obtain ⟨ds, hd, h2⟩ := FinG.bind_ok (toL_nx d) h2
    obtain ⟨ds2, hd2, h2⟩ := FinG.bind_ok (toL_nx d2) h2
    obtain ⟨k, p, vs, rfl, q1, n1, st1⟩ := (r1.mono s2).staysQ hd s hs
    obtain ⟨k2, p2, vs2, rfl, q2, n2, st2⟩ := r2.staysQ hd2 s hs2
    refine ⟨p, p2, vs, vs2, k, k2, rfl, st1 H2 _ (grow_refl s), st2 H2 _ (grow_refl s), h2 (ItzQ k k2 X.K p p2) H2 (s1.trans s2) (fun i H' O' g => ⟨fun z hz => ?_, fun hl => ?_⟩) (by rw [zipD_len]; omega)⟩
    · obtain ⟨x, y, hx, hy, rfl⟩ := zipD_get ds ds2 i z hz
      obtain ⟨v, hv, rv⟩ := (q1.mono g).get hx
      obtain ⟨w, hw, rw'⟩ := (q2.mono g).get hy
      have t1 := st1 H' O' g
      have t2 := st2 H' O' g
      refine ⟨⟨vs, vs2, v, w, t1, t2, hv, hw⟩, fun v' H'' ⟨T, x', y', e1, hT, e2, hx', hy'⟩ => ?_⟩
      subst e1 e2
      have g1 := hx' vs t1
      rw [hv] at g1
      cases g1
      have g2 := hy' vs2 t2
      rw [hw] at g2
      cases g2
      exact ⟨same_upd hT, .tup (.of upd_same) (by show 2 ≤ big; decide) (.cons (rv.mono (.same (same_upd hT))) (.cons (rw'.mono (.same (same_upd hT))) .nil))⟩
    · rw [zipD_len] at hl
      exact ⟨vs, vs2, st1 H' O' g, st2 H' O' g, by rw [q1.length]; omega, by rw [q2.length]; omega, by rw [q1.length, q2.length]; omega⟩
end
end DL
set_option Elab.async false
set_option linter.all false
set_option maxRecDepth 100000
namespace DL
open PySem PySem.Spec PyProof.Rows L2

/-! ### sorting -/
theorem insI_perm (x : Int) : ∀ l : List Int, (insI x l).Perm (x :: l)
  | [] => List.Perm.refl _
  | y :: l => by
    unfold insI
    split
    · exact List.Perm.refl _
    · exact ((insI_perm x l).cons y).trans (List.Perm.swap x y l)
theorem insI_sorted (x : Int) : ∀ l : List Int, l.Pairwise (· ≤ ·) → (insI x l).Pairwise (· ≤ ·)
  | [], _ => List.pairwise_singleton _ _
  | y :: l, h => by
    unfold insI
    obtain ⟨h1, h2⟩ := List.pairwise_cons.mp h
    split
    · rename_i q
      exact List.pairwise_cons.mpr ⟨fun z hz => by
        rcases List.mem_cons.mp hz with e | hz
        · subst e; exact q
        · have := h1 z hz; omega, h⟩
    · rename_i q
      exact List.pairwise_cons.mpr ⟨fun z hz => by
        rcases List.mem_cons.mp ((insI_perm x l).mem_iff.mp hz) with e | hz
        · subst e; omega
        · exact h1 z hz, insI_sorted x l h2⟩
theorem sortI_perm : ∀ l : List Int, (sortI l).Perm l
  | [] => List.Perm.refl _
  | x :: l => (insI_perm x (sortI l)).trans ((sortI_perm l).cons x)
theorem sortI_sorted : ∀ l : List Int, (sortI l).Pairwise (· ≤ ·)
  | [] => List.Pairwise.nil
  | x :: l => insI_sorted x _ (sortI_sorted l)
theorem sorted_one : ∀ (l m : List Int), l.Perm m → l.Pairwise (· ≤ ·) → m.Pairwise (· ≤ ·) → l = m
  | [], m, p, _, _ => (List.Perm.eq_nil p.symm).symm
  | x :: l, [], p, _, _ => absurd p.length_eq (by simp)
  | x :: l, y :: m, p, h1, h2 => by
    obtain ⟨a1, a2⟩ := List.pairwise_cons.mp h1
    obtain ⟨b1, b2⟩ := List.pairwise_cons.mp h2
    have e : x = y := by
      have q1 : x ∈ y :: m := p.mem_iff.mp List.mem_cons_self
      have q2 : y ∈ x :: l := p.mem_iff.mpr List.mem_cons_self
      rcases List.mem_cons.mp q1 with q1 | q1
      · exact q1
      · rcases List.mem_cons.mp q2 with q2 | q2
        · exact q2.symm
        · have := a1 y q2
          have := b1 x q1
          omega
    subst e
    rw [sorted_one l m ((List.perm_cons x).mp p) a2 b2]

section
variable {X : Cx} {W : WX} {Γ Γ' Γ1 : List Nat} {e a b c d k : Expr} {es : List Expr} {fls : List Fl} {fl fa fb fc fk : Fl} {se sa sb sc sk : SE} {pos p p2 p3 : Pos}
theorem RpAll.intsR {K : PySem.W.Frag} {H : Hp} {O : List Addr} : ∀ is : List Int, RpAll K H O (is.map V.int) (is.map PyData.int)
  | [] => .nil
  | i :: is => .cons (.int i) (RpAll.intsR is)
theorem intsD_len : ∀ {xs : List Da} {is : List Int}, intsD xs = .ok is → is.length = xs.length
  | [], is, e => by unfold intsD at e; cases e; rfl
  | x :: xs, is, e => by
    cases x with
    | int i =>
      unfold intsD at e
      cases q : intsD xs with
      | ok js =>
        rw [q] at e
        cases e
        rw [List.length_cons, List.length_cons, intsD_len q]
      | exc c => rw [q] at e; cases e
      | bad => rw [q] at e; cases e
    | _ => unfold intsD at e; cases e
/-! ### range with a step -/
theorem rng3_get {lo c : Int} {n i : Nat} {x : Da} (h : (rng3D lo c n)[i]? = some x) : i < n ∧ x = .int (lo + (i : Nat) * c) := by
  unfold rng3D at h
  rw [List.getElem?_map] at h
  by_cases hi : i < n
  · rw [List.getElem?_range hi] at h
    exact ⟨hi, (Option.some.inj h).symm⟩
  · rw [List.getElem?_eq_none (by rw [List.length_range]; omega)] at h
    cases h
theorem rng3_len (lo c : Int) (n : Nat) : (rng3D lo c n).length = n := by unfold rng3D; rw [List.length_map, List.length_range]
theorem itD_rng3 {K : PySem.W.Frag} {G O : List Addr} {H1 : Hp} {lo c : Int} {n : Nat} : ItD K G O H1 (Itc lo c n) (rng3D lo c n) := fun i H O' g =>
  ⟨fun x hx => by
    obtain ⟨hi, rfl⟩ := rng3_get hx
    exact ⟨hi, fun v H' ⟨e1, e2⟩ => by subst e1 e2; exact ⟨.refl _, .int _⟩⟩, fun hl => by rw [rng3_len] at hl; exact Nat.le_of_eq hl.symm⟩

/-! ### an owned list written -/
theorem EnvR.writeL {K : PySem.W.Frag} {F : List Addr} {GO : List (Nat × Addr)} {σ : L2.St} {H : Hp} {ρ : Ev} (E : EnvR K Γ F GO σ H ρ) {i : Nat} {q : Addr} {vs vs' : List V} {ds' : List Da} (hq : (i, q) ∈ GO) (g1 : H q = some (.lst vs)) (r : RpAll K H (Ads GO ++ F) vs' ds') (n : ds'.length ≤ big) :
    EnvR K Γ F GO σ (upd H q (.lst vs')) (ρ.set i (some (.list ds'))) ∧ Keep (Ads GO) H (upd H q (.lst vs')) := by
  have kq : Keep [q] H (upd H q (.lst vs')) := fun b u e hb => by
    by_cases z : b = q
    · subst z
      rw [g1] at e
      cases e
      cases hb List.mem_cons_self
    · rw [upd_ne z]; exact e
  have g : Grow [q] (Ads GO ++ F) (Ads GO ++ F) H (upd H q (.lst vs')) := ⟨kq, fun b hb => by
    rw [List.mem_singleton] at hb
    subst hb
    exact List.mem_append_left _ (List.mem_map.mpr ⟨_, hq, rfl⟩), fun b hb => .inl hb⟩
  exact E.write hq (o := .lst vs') (d := .list ds') ⟨_, upd_same, r.mono g, n⟩

/-! ### x[k] += e -/
def rIxG (K : PySem.W.Frag) : V → V → Hp → VK → Prop := fun x y H Q => rIxL K x y H Q
theorem get_list : PGet X (rIxG X.K) := by
  intro pins s σ H x y v u Q I rx ry h
  obtain ⟨p, xs, i, z, rfl, rfl, hq, he, q⟩ := h
  cases rx
  obtain ⟨t, rfl⟩ := ry
  obtain ⟨its, r, pl, hz⟩ := I.list hq
  obtain ⟨j, h1, h2, h3, h4, h5⟩ := atI_get he
  obtain ⟨w, ew, rw'⟩ := r.get h2
  have hl := r.length
  have hn := line63
  have fin : EP X pins σ Q w s := ⟨z, H, I, rw', q⟩
  by_cases h0 : 0 ≤ i
  · have hj : i.toNat = j := by
      rw [seqIndex_of h0 h5] at h1
      exact Option.some.inj h1
    exact wpAny_getItem_list pl.isList h0 (by omega) (by rw [hj]; simpa using ew) fin
  · have hj : (i + (its.toArray.size : Int)).toNat = j := by
      rw [seqIndex_neg (by omega) h4] at h1
      rw [List.size_toArray, ← hl]
      exact Option.some.inj h1
    exact wpAny_getItem_list_neg pl.isList (by omega) (by rw [List.size_toArray] <;> omega) (by omega) (by rw [hj]; simpa using ew) fin
theorem ds_augI {i : Nat} {x : Str} {tpos : Pos} (hN : X.N[i]? = some x) (hv : Vis X.env.scope x) (hΓ : Γ.contains i = true) (hk : DE X W Γ k fk sk) (he : DE X W Γ e fl se)
    (hd : (x == ("__debug__" : Str)) = false := by decide) (hcd : (x == ("__classdict__" : Str)) = false := by decide)
    (ha : ∀ ov iv new, augStore k ov iv new = (do holding [new, ov, iv] (setItem ov iv new); release [new, ov, iv] []; pure Flow.next) := by intros; rfl) :
    DS X W Γ (.AugAssign (.Subscript (.Name x p) k tpos) .Add e pos) Γ (sAugI i sk se) :=
  ps_imp (ps_augS (pe_var (i := i) hN hv hd hcd) hk get_list he ip_add set_list ha) fun D σ H h => by
    obtain ⟨ρ, F, GO, E, h⟩ := h
    unfold sAugI at h
    obtain ⟨q, d0, hq, k1, k2, k3⟩ := E.ownL hΓ
    refine ⟨.ref q, k1, ?_⟩
    refine at_s F GO E h fun j w H1 s1 r1 E1 h1 => ?_
    obtain ⟨q', d1, hq', k1', k2', k3'⟩ := E1.ownL hΓ
    have eq' : q' = q := by rw [k1] at k1'; cases k1'; rfl
    subst eq'
    rw [k2'] at h1
    cases d1 with
    | list ds1 =>
      obtain ⟨vs, g1, g2, g3⟩ := k3'
      cases j with
      | int ii =>
        cases r1.int
        have h2 : FinS X.K X.mg W Γ F GO H1 ((oR (atD ds1 ii)).bind fun x => (se ρ).bind fun y => (addI x y).bind fun z => updE ρ i (setD (.int ii) z)) D := h1
        cases e1 : atD ds1 ii with
        | none => rw [e1] at h2; exact h2.elim
        | some x0 =>
          rw [e1] at h2
          obtain ⟨v0, e2, r2⟩ := atD_get g2 e1
          refine ⟨q', vs, ii, v0, rfl, rfl, .inl (.inl g1), atD_I _ _ e2, ?_⟩
          have h3 : FinS X.K X.mg W Γ F GO H1 ((se ρ).bind fun y => (addI x0 y).bind fun z => updE ρ i (setD (.int ii) z)) D := h2
          refine at_s F GO E1 h3 fun y w2 H2 s2 r3 E2 h4 => ?_
          cases x0 with
          | int a0 =>
            cases r2
            cases y with
            | int b0 =>
              cases r3.int
              have h5 : FinS X.K X.mg W Γ F GO H2 (updE ρ i (setD (.int ii) (.int (a0 + b0)))) D := h4
              refine ⟨a0, b0, rfl, rfl, ?_⟩
              unfold updE at h5
              rw [k2'] at h5
              have h6 : FinS X.K X.mg W Γ F GO H2 (((oR (ixD ds1.length ii)).bind fun jj => R.ok (PyData.list (ds1.set jj (.int (a0 + b0))))).bind fun d' => .ok (.nx (ρ.set i (some d')))) D := h5
              cases e3 : ixD ds1.length ii with
              | none => rw [e3] at h6; exact h6.elim
              | some jj =>
                rw [e3] at h6
                have h7 : FinS X.K X.mg W Γ F GO H2 (.ok (.nx (ρ.set i (some (.list (ds1.set jj (.int (a0 + b0)))))))) D := h6
                have g1' := s2 _ _ g1
                obtain ⟨E3, K3⟩ := E2.writeL hq' g1' (vs' := vs.set jj (.int (a0 + b0))) (ds' := ds1.set jj (.int (a0 + b0))) (RpAll.set (.int _) jj (g2.mono (.same s2))) (by rw [List.length_set]; exact g3)
                exact ⟨q', vs, ii, jj, rfl, rfl, g1', by rw [g2.length]; exact e3, h7 σ _ GO E3 K3 same_new⟩
            | _ => exact h4.elim
          | _ => exact h4.elim
      | _ => exact h1.elim
    | dict _ => exact h1.elim
    | _ => exact k3'.elim
theorem name_s {i : Nat} {D : Ends} {σ : L2.St} {H : Hp} (hΓ : Γ.contains i = false) (hf : storable [fl] = true) (h : tDS X.K X.mg W Γ Γ (sAsg (gVar i) se) D σ H) : tDE X.K X.mg W Γ fl se σ H fun x H1 => gName i x σ H1 D.nx := by
  obtain ⟨ρ, F, GO, E, h⟩ := h
  refine at_s F GO E h fun d v H1 s1 r1 E1 h1 => ?_
  have hi' : i ∉ Γ := fun z => by rw [List.contains_iff_mem.mpr z] at hΓ; cases hΓ
  exact h1 _ H1 GO (E1.setS hi' (r1.stored hf)) (.refl H1) same_new
end
end DL
set_option Elab.async false
set_option linter.all false
set_option maxRecDepth 100000
namespace DL
open PySem PySem.Spec PyProof.Rows L2
section
variable {X : Cx} {W : WX} {Γ Γ' Γ1 : List Nat} {e a b c d k : Expr} {es : List Expr} {fls : List Fl} {fl fa fb fc fk : Fl} {se sa sb sc sk : SE} {pos p p2 p3 : Pos}
theorem rgC3 {i j c : Int} (h1 : i.natAbs < 1073741824) (h2 : j.natAbs < 1073741824) (hc : 0 < c) (h3 : c.natAbs < 1073741824) : RgC i j c (r3n i j c) := by
  have e : Builtin.Range.rangeSize i j c = (r3n i j c : Int) := by
    unfold Builtin.Range.rangeSize r3n
    rw [if_pos hc]
    split
    · have := Int.ediv_nonneg (show 0 ≤ j - i - 1 by omega) (show 0 ≤ c by omega)
      omega
    · rfl
  have hle : (r3n i j c : Int) ≤ 2147483648 ∧ (i < j → (r3n i j c : Int) = (j - i - 1) / c + 1) := by
    unfold r3n
    split
    · have g1 := Int.ediv_nonneg (show 0 ≤ j - i - 1 by omega) (show 0 ≤ c by omega)
      have g2 := Int.ediv_le_self c (show 0 ≤ j - i - 1 by omega)
      omega
    · omega
  refine ⟨by omega, h3, ?_, e⟩
  unfold Builtin.Range.small
  rw [e, if_pos hc]
  simp only [Builtin.Range.rangeFitsLong, Bool.and_eq_true, Bool.or_eq_true, decide_eq_true_eq, beq_iff_eq]
  omega
theorem di_rng3 (s : Bool) (hg : Gl X "range") (hm : X.mg "range" = none) {tg : Expr} (ha : DA X W Γ [a, b, c] [fa, fb, fc] (aCons sa (aCons sb (aCons sc aNil)))) (hs : starEach [a, b, c] X.env = (false, eval a X.env) :: starEach [b, c] X.env := by kernel_rfl) (hpl : (backTo pos (starEach [b, c] X.env)).any (·.1) = false := by kernel_rfl) : DI X W Γ tg (.Call (.Name "range" p) [a, b, c] [] pos) s (DL.iRng3 sa sb sc) :=
  pi_imp (pi_range3 hg hm ha hs hpl) fun σ H Q h => by
    obtain ⟨ρ, F, GO, E, h⟩ := h
    have h : FinG X.mg W σ H ((aCons sa (aCons sb (aCons sc aNil)) ρ).bind fun xs => match xs with | [x, y, z] => (toI x).bind fun i => (toI y).bind fun j => (toI z).bind fun k => dRng3 i j k | _ => .bad) fun xs => ∀ J H1, Same H H1 → ItD X.K (sto s (Ads GO ++ F)) (Ads GO ++ F) H1 J xs → xs.length ≤ big → Q J H1 := by
      have h0 : FinG X.mg W σ H ((sa ρ).bind fun x => (sb ρ).bind fun y => (sc ρ).bind fun z => (toI x).bind fun i => (toI y).bind fun j => (toI z).bind fun k => dRng3 i j k) fun xs => ∀ J H1, Same H H1 → ItD X.K (sto s (Ads GO ++ F)) (Ads GO ++ F) H1 J xs → xs.length ≤ big → Q J H1 := h
      unfold aCons
      cases q : sa ρ with
      | ok x =>
        rw [q] at h0
        have h0 : FinG X.mg W σ H ((sb ρ).bind fun y => (sc ρ).bind fun z => (toI x).bind fun i => (toI y).bind fun j => (toI z).bind fun k => dRng3 i j k) _ := h0
        cases q2 : sb ρ with
        | ok y =>
          rw [q2] at h0
          have h0 : FinG X.mg W σ H ((sc ρ).bind fun z => (toI x).bind fun i => (toI y).bind fun j => (toI z).bind fun k => dRng3 i j k) _ := h0
          cases q3 : sc ρ with
          | ok z => rw [q3] at h0; simpa [q2, q3] using h0
          | exc c => rw [q3] at h0; simpa [q2, q3] using h0
          | bad => rw [q3] at h0; simpa [q2, q3] using h0
        | exc c => rw [q2] at h0; simpa [q2] using h0
        | bad => rw [q2] at h0; simpa [q2] using h0
      | exc c => rw [q] at h0; exact h0
      | bad => rw [q] at h0; exact h0
    refine at_a E h fun ds vs H1 s1 r1 E1 h1 => ?_
    cases r1 with
    | cons q1 t1 =>
      cases t1 with
      | cons q2 t2 =>
        cases t2 with
        | cons q3 t3 =>
          cases t3
          rename_i v1 d1 v2 d2 v3 d3
          have h1 : FinG X.mg W σ H1 ((toI d1).bind fun i => (toI d2).bind fun j => (toI d3).bind fun k => dRng3 i j k) fun xs => ∀ J H1, Same H H1 → ItD X.K (sto s (Ads GO ++ F)) (Ads GO ++ F) H1 J xs → xs.length ≤ big → Q J H1 := h1
          cases d1 with
          | int i =>
            cases d2 with
            | int j =>
              cases d3 with
              | int k =>
                cases q1.int
                cases q2.int
                cases q3.int
                have h2 : FinG X.mg W σ H1 (dRng3 i j k) fun xs => ∀ J H1, Same H H1 → ItD X.K (sto s (Ads GO ++ F)) (Ads GO ++ F) H1 J xs → xs.length ≤ big → Q J H1 := h1
                unfold dRng3 at h2
                split at h2
                · rename_i cc
                  obtain ⟨c1, c2, c3, c4, c5⟩ := cc
                  exact ⟨i, j, k, r3n i j k, rfl, rgC3 c1 c2 c3 c4, h2 (Itc i k (r3n i j k)) H1 s1 itD_rng3 (by rw [rng3_len]; exact c5)⟩
                · split at h2
                  · rename_i cc
                    obtain ⟨c0, c1, c2, c5⟩ := cc
                    subst c0
                    exact ⟨i, j, -1, (i - j).toNat, rfl, RgC.neg (by omega) (by omega) (by omega) (by omega), h2 (Itc i (-1) (i - j).toNat) H1 s1 itD_rng3 (by rw [rng3_len]; exact c5)⟩
                  · exact h2.elim
              | _ => exact h1.elim
            | _ => exact h1.elim
          | _ => exact h1.elim
/-! ### two for's -/
theorem lcL2_cons {f : Da → R (List Da)} {x : Da} {xs ys : List Da} (h : lcL2 f (x :: xs) = .ok ys) : ∃ y zs, f x = .ok y ∧ lcL2 f xs = .ok zs ∧ ys = y ++ zs := by
  unfold lcL2 at h
  cases e : f x with
  | ok y =>
    rw [e] at h
    cases q : lcL2 f xs with
    | ok zs =>
      rw [q] at h
      exact ⟨y, zs, rfl, rfl, (R.ok.inj h).symm⟩
    | exc _ => rw [q] at h; cases h
    | bad => rw [q] at h; cases h
  | exc _ => rw [e] at h; cases h
  | bad => rw [e] at h; cases h
theorem lcL2_nx {f : Da → R (List Da)} : ∀ (xs : List Da) (c : Str), lcL2 f xs ≠ .exc c
  | [], c, h => nomatch h
  | x :: xs, c, h => by
    unfold lcL2 at h
    cases e : f x with
    | ok y =>
      rw [e] at h
      cases q : lcL2 f xs with
      | ok zs => rw [q] at h; cases h
      | exc _ => rw [q] at h; cases h
      | bad => rw [q] at h; cases h
    | exc _ => rw [e] at h; cases h
    | bad => rw [e] at h; cases h
theorem R.bind_ok_inv {α β : Type} {r : R α} {f : α → R β} {b : β} (h : r.bind f = .ok b) : ∃ a, r = .ok a ∧ f a = .ok b := by
  cases r with
  | ok a => exact ⟨a, rfl, h⟩
  | exc c => cases h
  | bad => cases h
theorem lc2_s {own vs1 : List Nat} {si si1 : SI} {is is1 : List Nat} {g g1 : STg} {st st1 se : SE} {fl : Fl} (hown : own.all (fun i => !Γ.contains i) = true) (hvs : vs1.all (fun i => own.contains i) = true) (his : is.all (fun i => own.contains i) = true) (his1 : is1.all (fun i => vs1.contains i) = true) (hf : storable [fl] = true)
    {σ : L2.St} {H0 : Hp} {Q : VK} (h : tDE X.K X.mg W Γ .fr (eLc2 si g own st si1 g1 vs1 st1 se) σ H0 Q) :
    tLc2 (tDI X.K X.mg W Γ false si) (tDG X.K Γ is g) (tDT X.K X.mg W0 Γ st) (tDI X.K X.mg W0 Γ true si1) (tDG X.K Γ is1 g1) (tDT X.K X.mg W0 Γ st1) (tDE X.K X.mg W0 Γ fl se) own vs1 σ H0 Q := by
  obtain ⟨ρ, F, GO, E, h⟩ := h
  have hown' : ∀ i, i ∈ own → i ∉ Γ := fun i hi hz => by
    have := List.all_eq_true.mp hown i hi
    rw [List.contains_iff_mem.mpr hz] at this
    cases this
  have hvs' : ∀ i, i ∈ vs1 → i ∈ own := fun i hi => List.contains_iff_mem.mp (List.all_eq_true.mp hvs i hi)
  have his' : ∀ i, i ∈ is → i ∈ own := fun i hi => List.contains_iff_mem.mp (List.all_eq_true.mp his i hi)
  have his1' : ∀ i, i ∈ is1 → i ∈ vs1 := fun i hi => List.contains_iff_mem.mp (List.all_eq_true.mp his1 i hi)
  unfold eLc2 at h
  refine ⟨ρ, F, GO, E, h.bind.imp fun xs _ h J H1 s1 itd hlen D hD => ?_⟩
  obtain ⟨ys, hys, h⟩ := FinG.bind_ok (lcL2_nx xs) h
  have h : FinG X.mg W σ H0 (if ys.length ≤ big then R.ok (PyData.list ys) else .bad) (PE_ X.K H0 (Ads GO ++ F) .fr Q) := h
  split at h
  case isFalse => exact h.elim
  rename_i hbig
  have hq : PE_ X.K H0 (Ads GO ++ F) .fr Q (.list ys) := h
  have E1 := E.mono s1
  have hnD : D ∉ Ads GO ++ F := E1.newp hD
  have sub : ∀ b, b ∈ Ads GO ++ F → b ∈ Ads GO ++ (D :: F) := fun b hb => by
    rcases List.mem_append.mp hb with hb | hb
    · exact List.mem_append_left _ hb
    · exact List.mem_append_right _ (List.mem_cons_of_mem _ hb)
  refine ⟨fun i m H => i ≤ xs.length ∧ m = xs.length - i ∧ Same H1 H ∧ ∃ acc ds zs, H D = some (.lst acc) ∧ RpAll X.K H (Ads GO ++ (D :: F)) acc ds ∧ lcL2 (lcF2 g own st si1 g1 vs1 st1 se ρ) (xs.drop i) = .ok zs ∧ ds ++ zs = ys,
    ⟨xs.length, Nat.zero_le _, rfl, Same.upd_new hD (.refl H1), [], [], ys, upd_same, .nil, hys, rfl⟩, ?_⟩
  rintro i m H ⟨hi, rfl, sH, acc, ds, zs, hacc, racc, hzs, hcat⟩
  have gr : ∀ {H : Hp}, Same H1 H → Grow [] (Ads GO ++ F) (Ads GO ++ (D :: F)) H1 H := fun sH => ⟨.of_same sH, fun _ z => (List.not_mem_nil z).elim, fun b hb => by
    rcases List.mem_append.mp hb with hb | hb
    · exact .inl (List.mem_append_left _ hb)
    · rcases List.mem_cons.mp hb with e | hb
      · subst e; exact .inr hD
      · exact .inl (List.mem_append_right _ hb)⟩
  obtain ⟨it1, it2⟩ := itd i H _ (gr sH)
  by_cases hlt : i < xs.length
  · refine .inr ?_
    have hx : xs[i]? = some xs[i] := List.getElem?_eq_getElem hlt
    obtain ⟨go, yld⟩ := it1 _ hx
    have hdrop : xs.drop i = xs[i] :: xs.drop (i + 1) := List.drop_eq_getElem_cons hlt
    rw [hdrop] at hzs
    obtain ⟨y, ws, e1, e2, e3⟩ := lcL2_cons hzs
    subst e3
    refine ⟨go, fun H' => Same H1 H' ∧ ∃ acc ds zs, H' D = some (.lst acc) ∧ RpAll X.K H' (Ads GO ++ (D :: F)) acc ds ∧ lcL2 (lcF2 g own st si1 g1 vs1 st1 se ρ) (xs.drop (i + 1)) = .ok zs ∧ ds ++ zs = ys, fun H' hw => ⟨xs.length - (i + 1), by omega, hlt, rfl, hw⟩, fun v H' hv => ?_⟩
    obtain ⟨s2, rv⟩ := yld v H' hv
    have sH' : Same H1 H' := sH.trans s2
    have hD' : H' D = some (.lst acc) := s2 _ _ hacc
    have EB : EnvR X.K Γ (D :: F) GO (wipe σ own) H' (kill ρ own) := (E1.under hD sH' (by rw [hD']; exact fun z => nomatch z)).wipeAll hown'
    unfold lcF2 at e1
    obtain ⟨ρ1, q1, e1⟩ := R.bind_ok_inv e1
    refine ⟨kill ρ own, D :: F, GO, xs[i], EB, rv, ?_⟩
    rw [q1]
    intro σ2 E2 w2
    refine ⟨(w2 own his').trans (wipe_ext (wipe_length _ _) fun j hj => ?_), ?_⟩
    · by_cases hl : j < σ.length
      · rw [wipe_get σ own j hl, if_neg hj]
      · rw [List.getElem?_eq_none (by rw [wipe_length]; omega), List.getElem?_eq_none (by omega)]
    obtain ⟨b, q2, e1⟩ := R.bind_ok_inv e1
    refine ⟨ρ1, D :: F, GO, E2, ok_of_fin ⟨b, q2, fun H3 s3 => ?_⟩⟩
    cases q3 : tru b with
    | false =>
      rw [if_neg Bool.false_ne_true]
      rw [q3, if_neg Bool.false_ne_true] at e1
      have ey : y = [] := (R.ok.inj e1).symm
      subst ey
      exact ⟨sH'.trans s3, acc, ds, ws, s3 _ _ hD', racc.mono (.same (s2.trans s3)), e2, hcat⟩
    | true =>
      rw [if_pos rfl]
      rw [q3, if_pos rfl] at e1
      obtain ⟨xs1, q4, e4⟩ := R.bind_ok_inv e1
      refine ⟨ρ1, D :: F, GO, E2.mono s3, ok_of_fin ⟨xs1, q4, fun J1 H4 s4 itd1 hlen1 => ?_⟩⟩
      have E4 : EnvR X.K Γ (D :: F) GO σ2 H4 ρ1 := (E2.mono s3).mono s4
      have hD4 : H4 D = some (.lst acc) := s4 _ _ (s3 _ _ hD')
      have sH4 : Same H1 H4 := (sH'.trans s3).trans s4
      refine ⟨fun j k H => j ≤ xs1.length ∧ k = xs1.length - j ∧ Keep [D] H4 H ∧ Same H1 H ∧ ∃ acc ds zs, H D = some (.lst acc) ∧ RpAll X.K H (Ads GO ++ (D :: F)) acc ds ∧ lcL (lcF g1 vs1 st1 se ρ1) (xs1.drop j) = .ok zs ∧ ds ++ (zs ++ ws) = ys,
        ⟨xs1.length, Nat.zero_le _, rfl, .refl H4, sH4, acc, ds, y, hD4, racc.mono (.same ((s2.trans s3).trans s4)), e4, by rw [← hcat]⟩, ?_⟩
      rintro j k H5 ⟨hj, rfl, k5, sH5, acc5, ds5, zs5, hacc5, racc5, hzs5, hcat5⟩
      have gD : ∀ {Ha Hb : Hp}, Keep [D] Ha Hb → Grow [D] (Ads GO ++ (D :: F)) (Ads GO ++ (D :: F)) Ha Hb := fun k => ⟨k, fun b hb => by
        rw [List.mem_singleton] at hb
        subst hb
        exact List.mem_append_right _ List.mem_cons_self, fun b hb => .inl hb⟩
      have gO : Grow (Ads GO ++ (D :: F)) (Ads GO ++ (D :: F)) (Ads GO ++ (D :: F)) H4 H5 := ⟨keep_less (fun b hb => by
        rw [List.mem_singleton] at hb
        subst hb
        exact List.mem_append_right _ List.mem_cons_self) k5, fun b hb => hb, fun b hb => .inl hb⟩
      obtain ⟨jt1, jt2⟩ := itd1 j H5 _ gO
      -- the slots at this place: what they own is not D
      have E5 : EnvR X.K Γ (D :: F) GO σ2 H5 ρ1 := by
        have ow : ∀ p, p ∈ Ads GO → p ∉ [D] := fun p hp hz => by
          rw [List.mem_singleton] at hz
          subst hz
          exact hnD (List.mem_append_left _ hp)
        refine ⟨E4.len, E4.dom, E4.inj, E4.dis, fun b hb z => ?_, fun i2 p2 hp2 => ?_, fun i2 d2 hi2 hd2 => ?_⟩
        · rcases List.mem_cons.mp hb with e | hb2
          · subst e; rw [hacc5] at z; cases z
          · cases q9 : H4 b with
            | none => exact E4.frn b hb q9
            | some o =>
              by_cases e : b = D
              · subst e; rw [hacc5] at z; cases z
              · rw [k5 b o q9 fun hz => absurd (by simpa using hz) e] at z; cases z
        · obtain ⟨h1, d', h2, h3⟩ := E4.own i2 p2 hp2
          exact ⟨h1, d', h2, h3.mono (gD k5) (ow p2 (List.mem_map.mpr ⟨_, hp2, rfl⟩))⟩
        · obtain ⟨v2, h1, h2⟩ := E4.sh i2 d2 hi2 hd2
          exact ⟨v2, h1, h2.mono (gD k5)⟩
      by_cases hlt1 : j < xs1.length
      · refine .inr ?_
        obtain ⟨go1, yld1⟩ := jt1 _ (List.getElem?_eq_getElem hlt1)
        rw [List.drop_eq_getElem_cons hlt1] at hzs5
        obtain ⟨y6, ws6, f1, f2, f3⟩ := lcL_cons hzs5
        refine ⟨go1, fun H' => Keep [D] H4 H' ∧ Same H1 H' ∧ ∃ acc ds zs, H' D = some (.lst acc) ∧ RpAll X.K H' (Ads GO ++ (D :: F)) acc ds ∧ lcL (lcF g1 vs1 st1 se ρ1) (xs1.drop (j + 1)) = .ok zs ∧ ds ++ (zs ++ ws) = ys, fun H' hw => ⟨xs1.length - (j + 1), by omega, hlt1, rfl, hw⟩, fun v6 H6 hv6 => ?_⟩
        obtain ⟨s6, rv6⟩ := yld1 v6 H6 hv6
        have hD6 : H6 D = some (.lst acc5) := s6 _ _ hacc5
        have k6 : Keep [D] H4 H6 := fun b o e hb => s6 _ _ (k5 b o e hb)
        have E6 : EnvR X.K Γ (D :: F) GO (wipe σ2 vs1) H6 (kill ρ1 vs1) := (E5.mono s6).wipeAll fun i hi => hown' i (hvs' i hi)
        unfold lcF at f1
        obtain ⟨ρ2, q6, f1⟩ := R.bind_ok_inv f1
        refine ⟨kill ρ1 vs1, D :: F, GO, xs1[j], E6, rv6, ?_⟩
        rw [q6]
        intro σ3 E7 w3
        refine ⟨(w3 vs1 his1').trans (wipe_ext (wipe_length _ _) fun j2 hj2 => ?_), ?_⟩
        · by_cases hl : j2 < σ2.length
          · rw [wipe_get σ2 vs1 j2 hl, if_neg hj2]
          · rw [List.getElem?_eq_none (by rw [wipe_length]; omega), List.getElem?_eq_none (by omega)]
        obtain ⟨b7, q7, f1⟩ := R.bind_ok_inv f1
        refine ⟨ρ2, D :: F, GO, E7, ok_of_fin ⟨b7, q7, fun H7 s7 => ?_⟩⟩
        cases q8 : tru b7 with
        | false =>
          rw [if_neg Bool.false_ne_true]
          rw [q8, if_neg Bool.false_ne_true] at f1
          have ey : y6 = none := (R.ok.inj f1).symm
          subst ey
          subst f3
          exact ⟨fun b o e hb => s7 _ _ (k6 b o e hb), (sH5.trans s6).trans s7, acc5, ds5, zs5, s7 _ _ hD6, racc5.mono (.same (s6.trans s7)), f2, hcat5⟩
        | true =>
          rw [if_pos rfl]
          rw [q8, if_pos rfl] at f1
          obtain ⟨d8, q9, f1⟩ := R.bind_ok_inv f1
          have ey : y6 = some d8 := (R.ok.inj f1).symm
          subst ey
          refine ⟨ρ2, D :: F, GO, E7.mono s7, ok_of_fin ⟨d8, q9, fun v8 H8 s8 r8 => ?_⟩⟩
          have hD8 : H8 D = some (.lst acc5) := s8 _ _ (s7 _ _ hD6)
          have r8' := r8.stored hf
          have kk : Keep [D] H8 (upd H8 D (.lst (acc5 ++ [v8]))) := fun b o e hb => by
            by_cases q : b = D
            · subst q
              rw [hD8] at e
              cases e
              cases hb List.mem_cons_self
            · rw [upd_ne q]; exact e
          have racc8 : RpAll X.K H8 (Ads GO ++ (D :: F)) acc5 ds5 := racc5.mono (.same ((s6.trans s7).trans s8))
          have lenB : ds5.length < big := by
            have e9 := congrArg List.length hcat5
            rw [f3] at e9
            simp only [List.length_append, List.length_cons] at e9
            omega
          refine ⟨acc5, hD8, by rw [racc5.length]; exact Nat.lt_of_lt_of_le lenB (big_le (Nat.le_refl _)), fun b o e hb => kk b o (s8 _ _ (s7 _ _ (k6 b o e hb))) hb, Same.upd_new hD (((sH5.trans s6).trans s7).trans s8), acc5 ++ [v8], ds5 ++ [d8], ws6, upd_same, (racc8.append (.cons r8' .nil)).mono (gD kk), f2, ?_⟩
          rw [← hcat5, f3, List.append_assoc]
          rfl
      · have hj' : j = xs1.length := by omega
        refine .inl ⟨jt2 hj', ?_⟩
        have ez : zs5 = [] := by
          rw [List.drop_of_length_le (by omega)] at hzs5
          cases hzs5; rfl
        subst ez
        exact ⟨sH5, acc5, ds5, ws, hacc5, racc5, e2, by rw [← hcat5]; rfl⟩
  · have hi' : i = xs.length := by omega
    refine .inl ⟨it2 (by omega), ?_⟩
    have ez : zs = [] := by
      rw [List.drop_of_length_le (by omega)] at hzs
      cases hzs; rfl
    subst ez
    rw [List.append_nil] at hcat
    subst hcat
    have g5 : Grow [] (Ads GO ++ (D :: F)) (Ads GO ++ F) H H := .sub_ (.refl H) sub
    have g6 : Grow [] (Ads GO ++ (D :: F)) (D :: (Ads GO ++ F)) H H := .sub_ (.refl H) fun b hb => by
      rcases List.mem_cons.mp hb with e | hb
      · subst e; exact List.mem_append_right _ List.mem_cons_self
      · exact sub b hb
    refine hq _ _ (s1.trans sH) ⟨.lst (.inl ⟨.inl hacc, hnD⟩) hbig (racc.mono g5), fun ds' e => ?_⟩
    cases e
    exact ⟨D, rfl, s1.free hD, acc, hacc, racc.mono g6, hbig⟩
theorem de_lc2 {elt tg iter tg1 iter1 : Expr} {ifs ifs1 : List Expr} {scope : Scope} {own : List (Str × Nat)} {vs1 : List Nat} {si si1 : SI} {is is1 : List Nat} {g g1 : STg} {st st1 se : SE} {fl : Fl}
    (hc : X.calm = true) (hN : X.N.Nodup) (hi : DI X W Γ tg iter false si) (ok : BlkOk X.N X.env.scope scope own)
    (hown : (own.map (·.2)).all (fun i => !Γ.contains i) = true) (hvs : vs1.all (fun i => (own.map (·.2)).contains i) = true) (his : is.all (fun i => (own.map (·.2)).contains i) = true) (his1 : is1.all (fun i => vs1.contains i) = true)
    (hg : ∀ (s : Shared) (H : Hp) (C : Addr) (cl : List (Str × Addr)) (fp : List Addr), DG (X.blk s H scope (compEnvC scope cl C X.env) fp) Γ tg is g)
    (ht : ∀ (s : Shared) (H : Hp) (C : Addr) (cl : List (Str × Addr)) (fp : List Addr), DTs (X.blk s H scope (compEnvC scope cl C X.env) fp) W0 Γ ifs st)
    (hi1 : ∀ (s : Shared) (H : Hp) (C : Addr) (cl : List (Str × Addr)) (fp : List Addr), DI (X.blk s H scope (compEnvC scope cl C X.env) fp) W0 Γ tg1 iter1 true si1)
    (hg1 : ∀ (s : Shared) (H : Hp) (C : Addr) (cl : List (Str × Addr)) (fp : List Addr), DG (X.blk s H scope (compEnvC scope cl C X.env) fp) Γ tg1 is1 g1)
    (ht1 : ∀ (s : Shared) (H : Hp) (C : Addr) (cl : List (Str × Addr)) (fp : List Addr), DTs (X.blk s H scope (compEnvC scope cl C X.env) fp) W0 Γ ifs1 st1)
    (he : ∀ (s : Shared) (H : Hp) (C : Addr) (cl : List (Str × Addr)) (fp : List Addr), DE (X.blk s H scope (compEnvC scope cl C X.env) fp) W0 Γ elt fl se) (hf : storable [fl] = true := by kernel_rfl)
    (hs : ∀ x, foldedSetIterable iter X.env x = pure x := by intro _; rfl) (hs1 : ∀ env x, foldedSetIterable iter1 env x = pure x := by intro _ _; rfl) :
    DE X W Γ (.ListComp elt [⟨tg, iter, ifs, 0⟩, ⟨tg1, iter1, ifs1, 0⟩] scope pos) .fr (eLc2 si g (own.map (·.2)) st si1 g1 vs1 st1 se) :=
  pe_imp (pe_lc2 (vs1 := vs1) (wi := tDI X.K X.mg W Γ false si) (g := tDG X.K Γ is g) (tt := tDT X.K X.mg W0 Γ st) (wi1 := tDI X.K X.mg W0 Γ true si1) (g1 := tDG X.K Γ is1 g1) (tt1 := tDT X.K X.mg W0 Γ st1) (te := tDE X.K X.mg W0 Γ fl se) hc hN hi ok (fun i hi => List.contains_iff_mem.mp (List.all_eq_true.mp hvs i hi)) (fun s H C cl fp => (hg s H C cl fp).1) ht hi1 (fun s H C cl fp => (hg1 s H C cl fp).1) ht1 he hs hs1) fun σ H0 Q h => lc2_s hown hvs his his1 hf h
section
variable {elt tg iter tg1 iter1 : Expr} {ifs ifs1 : List Expr} {scope : Scope} {own : List (Str × Nat)} {vs1 : List Nat} {si si1 : SI} {is is1 : List Nat} {g g1 : STg} {st st1 se : SE} {fl : Fl} {i : Nat} {y : Str} {py spos : Pos}
theorem ds_setLc2 (hc : X.calm = true) (hN : X.N.Nodup) (hy : X.N[i]? = some y) (hyl : X.env.scope.names.lookup y = some .local) (hΓ : Γ.contains i = false)
    (hsw : swapsWith (.ListComp elt [⟨tg, iter, ifs, 0⟩, ⟨tg1, iter1, ifs1, 0⟩] scope pos) (some (.Name y py)) spos.line X.env = pure true) (hi : DI X W Γ tg iter false si) (ok : BlkOk X.N X.env.scope scope own)
    (hown : (own.map (·.2)).all (fun i => !Γ.contains i) = true) (hvs : vs1.all (fun i => (own.map (·.2)).contains i) = true) (his : is.all (fun i => (own.map (·.2)).contains i) = true) (his1 : is1.all (fun i => vs1.contains i) = true)
    (hg : ∀ (s : Shared) (H : Hp) (C : Addr) (cl : List (Str × Addr)) (fp : List Addr), DG (X.blk s H scope (compEnvC scope cl C X.env) fp) Γ tg is g)
    (ht : ∀ (s : Shared) (H : Hp) (C : Addr) (cl : List (Str × Addr)) (fp : List Addr), DTs (X.blk s H scope (compEnvC scope cl C X.env) fp) W0 Γ ifs st)
    (hi1 : ∀ (s : Shared) (H : Hp) (C : Addr) (cl : List (Str × Addr)) (fp : List Addr), DI (X.blk s H scope (compEnvC scope cl C X.env) fp) W0 Γ tg1 iter1 true si1)
    (hg1 : ∀ (s : Shared) (H : Hp) (C : Addr) (cl : List (Str × Addr)) (fp : List Addr), DG (X.blk s H scope (compEnvC scope cl C X.env) fp) Γ tg1 is1 g1)
    (ht1 : ∀ (s : Shared) (H : Hp) (C : Addr) (cl : List (Str × Addr)) (fp : List Addr), DTs (X.blk s H scope (compEnvC scope cl C X.env) fp) W0 Γ ifs1 st1)
    (he : ∀ (s : Shared) (H : Hp) (C : Addr) (cl : List (Str × Addr)) (fp : List Addr), DE (X.blk s H scope (compEnvC scope cl C X.env) fp) W0 Γ elt fl se) (hf : storable [fl] = true := by kernel_rfl)
    (hs : ∀ x, foldedSetIterable iter X.env x = pure x := by intro _; rfl) (hs1 : ∀ env x, foldedSetIterable iter1 env x = pure x := by intro _ _; rfl) :
    DS X W Γ (.Assign [.Name y py] (.ListComp elt [⟨tg, iter, ifs, 0⟩, ⟨tg1, iter1, ifs1, 0⟩] scope pos) spos) (i :: Γ) (sOwn i (eLc2 si g (own.map (·.2)) st si1 g1 vs1 st1 se)) :=
  ps_imp (ps_setLc2 (vs1 := vs1) (wi := tDI X.K X.mg W Γ false si) (g := tDG X.K Γ is g) (tt := tDT X.K X.mg W0 Γ st) (wi1 := tDI X.K X.mg W0 Γ true si1) (g1 := tDG X.K Γ is1 g1) (tt1 := tDT X.K X.mg W0 Γ st1) (te := tDE X.K X.mg W0 Γ fl se) hc hN hy hyl hsw hi ok (fun i hi => List.contains_iff_mem.mp (List.all_eq_true.mp hvs i hi)) (fun s H C cl fp => (hg s H C cl fp).1) ht hi1 (fun s H C cl fp => (hg1 s H C cl fp).1) ht1 he hs hs1) fun D σ H0 h => lc2_s hown hvs his his1 hf (own_s hΓ h)
theorem ds_setLcS2 (hc : X.calm = true) (hN : X.N.Nodup) (hy : X.N[i]? = some y) (hyl : X.env.scope.names.lookup y = some .local) (hΓ : Γ.contains i = false)
    (hsw : swapsWith (.ListComp elt [⟨tg, iter, ifs, 0⟩, ⟨tg1, iter1, ifs1, 0⟩] scope pos) (some (.Name y py)) spos.line X.env = pure true) (hi : DI X W Γ tg iter false si) (ok : BlkOk X.N X.env.scope scope own)
    (hown : (own.map (·.2)).all (fun i => !Γ.contains i) = true) (hvs : vs1.all (fun i => (own.map (·.2)).contains i) = true) (his : is.all (fun i => (own.map (·.2)).contains i) = true) (his1 : is1.all (fun i => vs1.contains i) = true)
    (hg : ∀ (s : Shared) (H : Hp) (C : Addr) (cl : List (Str × Addr)) (fp : List Addr), DG (X.blk s H scope (compEnvC scope cl C X.env) fp) Γ tg is g)
    (ht : ∀ (s : Shared) (H : Hp) (C : Addr) (cl : List (Str × Addr)) (fp : List Addr), DTs (X.blk s H scope (compEnvC scope cl C X.env) fp) W0 Γ ifs st)
    (hi1 : ∀ (s : Shared) (H : Hp) (C : Addr) (cl : List (Str × Addr)) (fp : List Addr), DI (X.blk s H scope (compEnvC scope cl C X.env) fp) W0 Γ tg1 iter1 true si1)
    (hg1 : ∀ (s : Shared) (H : Hp) (C : Addr) (cl : List (Str × Addr)) (fp : List Addr), DG (X.blk s H scope (compEnvC scope cl C X.env) fp) Γ tg1 is1 g1)
    (ht1 : ∀ (s : Shared) (H : Hp) (C : Addr) (cl : List (Str × Addr)) (fp : List Addr), DTs (X.blk s H scope (compEnvC scope cl C X.env) fp) W0 Γ ifs1 st1)
    (he : ∀ (s : Shared) (H : Hp) (C : Addr) (cl : List (Str × Addr)) (fp : List Addr), DE (X.blk s H scope (compEnvC scope cl C X.env) fp) W0 Γ elt fl se) (hf : storable [fl] = true := by kernel_rfl)
    (hs : ∀ x, foldedSetIterable iter X.env x = pure x := by intro _; rfl) (hs1 : ∀ env x, foldedSetIterable iter1 env x = pure x := by intro _ _; rfl) :
    DS X W Γ (.Assign [.Name y py] (.ListComp elt [⟨tg, iter, ifs, 0⟩, ⟨tg1, iter1, ifs1, 0⟩] scope pos) spos) Γ (sAsg (gVar i) (eLc2 si g (own.map (·.2)) st si1 g1 vs1 st1 se)) :=
  ps_imp (ps_setLc2 (vs1 := vs1) (wi := tDI X.K X.mg W Γ false si) (g := tDG X.K Γ is g) (tt := tDT X.K X.mg W0 Γ st) (wi1 := tDI X.K X.mg W0 Γ true si1) (g1 := tDG X.K Γ is1 g1) (tt1 := tDT X.K X.mg W0 Γ st1) (te := tDE X.K X.mg W0 Γ fl se) hc hN hy hyl hsw hi ok (fun i hi => List.contains_iff_mem.mp (List.all_eq_true.mp hvs i hi)) (fun s H C cl fp => (hg s H C cl fp).1) ht hi1 (fun s H C cl fp => (hg1 s H C cl fp).1) ht1 he hs hs1) fun D σ H0 h => lc2_s hown hvs his his1 hf (name_s (fl := .fr) hΓ rfl h)
end
end
end DL
set_option Elab.async false
set_option linter.all false
set_option maxRecDepth 100000
namespace DL
open PySem PySem.Spec PyProof.Rows L2

/-! ### sum, sorted of a tuple -/
section
variable {prog : Program} {w : World} {A : Around} {E : Value → Shared → Prop} {s : Shared}
theorem coll_tup {l : Addr} {vs : List Value} {R' : List Value → Shared → Prop} (x : s.heap.IsTuple l vs.toArray) (hz : vs.length ≤ sizeLine)
    (q : R' vs { s with heap := (s.heap.push (seqObj "list" #[] 0)).update s.heap.objs.size (Obj.mapSeq (· ++ vs.toArray)) }) : wpAny (model prog w) A (collect (.ref l)) R' E s := by
  obtain ⟨o1, g1, c1, n1, d1⟩ := id x
  unfold collect
  refine wpAny_bind (wpAny_runValue (codeAny_builtin F.entry_proto_collect ?_))
  show wpAny _ _ (newList [] >>= fun y => again (.builtin "list.__iadd__" ⟨[y, .ref l], []⟩)) _ _ s
  refine wpAny_bind (wpAny_newList ?_)
  refine wpAny_pure ⟨Code.quiet_builtin _ (by decide +kernel), codeAny_builtin F.entry_list_iadd ?_⟩
  show wpAny _ _ (Builtin.List.listExtendWith (.ref s.heap.objs.size) (.ref l) (.ref s.heap.objs.size)) _ _ _
  have g2 : (s.heap.push (seqObj "list" #[] 0)).get? l = some o1 := Heap.get?_push_of_some _ g1
  unfold Builtin.List.listExtendWith
  refine wpAny_bind (wpAny_typeOf (T := "tuple") ⟨o1, g2, c1⟩ ?_)
  rw [if_pos (by have e1 : (Value.type "tuple" == Value.type "tuple") = true := by rfl
                 rw [e1]; simp)]
  refine wpAny_bind (listItems_at g2 d1 (wpAny_bind (listItems_at (xs := #[]) (n := 0) (Heap.get?_push_size _ rfl) rfl ?_)))
  rw [if_neg (by simp)]
  refine wpAny_bind (listUpdate_at (xs := #[]) (n := 0) (Heap.get?_push_size _ rfl) rfl ?_ (Nat.zero_le _) (by
    show (#[] ++ vs.toArray).size ≤ sizeLine + 1
    rw [Array.size_append, List.size_toArray]
    show 0 + vs.length ≤ sizeLine + 1
    omega))
  refine wpAny_pure ?_
  refine wpAny_bind (wpAny_load (get?_update_seq (Heap.get?_push_size _ rfl) _) ?_)
  have e2 : ((#[] : Array Value) ++ vs.toArray).toList = vs := by simp
  show wpAny _ _ (pure ((#[] : Array Value) ++ vs.toArray).toList) _ _ _
  rw [e2]
  exact wpAny_pure q
end
section
variable {X : Cx} {W : WX} {Γ Γ' Γ1 : List Nat} {e a b c d k : Expr} {es : List Expr} {fls : List Fl} {fl fa fb fc fk : Fl} {se sa sb sc sk : SE} {pos p p2 p3 : Pos}
theorem cr_or {f : Value} {r1 r2 : List V → Hp → VK → Prop} (h1 : CallR X f r1) (h2 : CallR X f r2) : CallR X f (fun xs H Q => r1 xs H Q ∨ r2 xs H Q) := by
  intro pins s σ H vs us Q I r h
  rcases h with h | h
  · exact h1 pins s σ H vs us Q I r h
  · exact h2 pins s σ H vs us Q I r h
def rSumT (K : PySem.W.Frag) : List V → Hp → VK → Prop := fun vs H Q => ∃ (a : Addr) (ns : List Int), vs = [V.ref a] ∧ SqT K H a (ns.map V.int) ∧ Q (.int ns.sum) H
theorem cr_sumT (hc : X.calm = true) : CallR X (.builtin "sum") (rSumT X.K) := by
  intro pins s σ H vs us Q I r h
  obtain ⟨a, ns, rfl, hs, q⟩ := h
  obtain ⟨its, rv, t, _⟩ := I.tuple hs
  rw [Vals.ref1 r]
  obtain ⟨xs, ex⟩ := rv.ints.allInts.items
  have hn : numsOf (intItems xs).toList = ns := by rw [← ex]; exact rv.ints.numsOf
  rw [nums_intItems] at hn
  have t2 : s.heap.IsTuple a (intItems xs) := by rw [← ex]; exact t
  refine PySem.W.ktm_sumG (I.ok.hd hc) t2 fun h' tk t' hk => ?_
  rw [preSum_eq, List.take_of_length_le (by simp), hn]
  exact ⟨.int _, H, I.kept hk, ⟨_, rfl⟩, q⟩
theorem cs_sumA : CallS X (fun xs H Q => rSum X.K xs H Q ∨ rSumT X.K xs H Q) .fr dSumL := by
  intro mg W σ O H0 H fls xs as Q nw hx h
  unfold dSumL at h
  split at h
  · cases hx with
    | cons h1 t =>
      cases t
      obtain ⟨p, vs, rfl, s1, r1, n1⟩ := h1.list
      obtain ⟨is, e, h⟩ := FinG.bind_ok (intsD_nx _) h
      rw [r1.ints e] at s1
      exact .inl ⟨p, is, rfl, s1, PE_.flat h (.int _) rfl⟩
  · cases hx with
    | cons h1 t =>
      cases t
      obtain ⟨p, vs, rfl, s1, r1, n1⟩ := h1.tuple
      obtain ⟨is, e, h⟩ := FinG.bind_ok (intsD_nx _) h
      rw [r1.ints e] at s1
      exact .inr ⟨p, is, rfl, s1, PE_.flat h (.int _) rfl⟩
  · exact h.elim
theorem de_sum (hc : X.calm = true) (m : X.mg "sum" = none) (he : DE X W Γ e fl se) (hg : Gl X "sum" := by show _ = _; kernel_rfl) (h1 : starEach [e] X.env = (false, eval e X.env) :: starEach [] X.env := by kernel_rfl) (h2 : (backTo pos (starEach [] X.env)).any (·.1) = false := by kernel_rfl) : DE X W Γ (.Call (.Name "sum" p) [e] [] pos) .fr (eA dSumL (aCons se aNil)) :=
  de_callB (cr_or (cr_sum hc) (cr_sumT hc)) cs_sumA hg m boot_sum (da_cons he da_nil h1) (by decide) (by decide) h1 h2
/-- sorted(t), t a tuple of whole numbers -/
def rSortedIT (K : PySem.W.Frag) : List V → Hp → VK → Prop := fun vs H Q => ∃ (a : Addr) (ns : List Int), vs = [V.ref a] ∧ SqT K H a (ns.map V.int) ∧
  ∀ (ns' : List Int) (p : Addr), ns'.Perm ns → ns'.Pairwise (· ≤ ·) → H p = none → Q (.ref p) (upd H p (.lst (ns'.map V.int)))
theorem cr_sortedIT : CallR X (.builtin "sorted") (rSortedIT X.K) := by
  intro pins s σ H vs us Q I r h
  obtain ⟨a, ns, rfl, hs, q⟩ := h
  obtain ⟨its, rv, tp, hz⟩ := I.tuple hs
  rw [Vals.ref1 r]
  have hi := rv.ints
  have hz' : its.length ≤ sizeLine := by rw [← rv.length]; exact hz
  refine Calls.call_function_entry kind_sorted plain_sorted entry_sorted (args_sorted1 _) ?_
  unfold Builtin.«sorted»
  refine wpAny_bind (m := checkCount "sorted" 1 1 _) (wpAny_pure (wpAny_bind (coll_tup tp hz' (wpAny_bind (wpAny_newList ?_ hz')))))
  have z1 : ((s.heap.push (seqObj "list" #[] 0)).update s.heap.objs.size (Obj.mapSeq (· ++ its.toArray))).objs.size = s.heap.objs.size + 1 := by
    rw [Heap.size_update, size_push']
  have z2 : (((s.heap.push (seqObj "list" #[] 0)).update s.heap.objs.size (Obj.mapSeq (· ++ its.toArray))).push (seqObj "list" its.toArray 0)).get? (s.heap.objs.size + 1) = some (seqObj "list" its.toArray 0) := by
    rw [← z1]; exact Heap.get?_push_size _ rfl
  show wpAny _ _ _ _ _ { s with heap := ((s.heap.push (seqObj "list" #[] 0)).update s.heap.objs.size (Obj.mapSeq (· ++ its.toArray))).push (seqObj "list" its.toArray 0) }
  rw [z1]
  refine wpAny_bind (wpAny_holding (wpAny_call_entry slot_list_sort ⟨_, z2, rfl⟩ entry_list_sort
    (SrtO.list_sort_ord SrtO.swo_int z2 hz' (fun h2 => SrtO.ints_sortable hi h2) fun out h1 h2 => ⟨_, rfl, wpAny_pure ⟨_, rfl, ?_⟩⟩) (args_list_sort _)))
  obtain ⟨k1, k2, k3⟩ := SrtO.ints_out hi h1 h2
  obtain ⟨ep, he'⟩ := PyProof.Rows.sortedAll_at s.heap its out.toArray
  have hlen : ((out.map SrtO.iv).map V.int).length ≤ sizeLine := by
    rw [List.length_map, k2.length_eq, ← List.length_map (f := V.int)]
    exact hz
  exact ⟨.ref _, upd H (s.heap.objs.size + 1) (.lst ((out.map SrtO.iv).map V.int)), I.laid (t' := s.toks) (fun _ _ => PyProof.Rows.sortedAll_old) (Nat.le_succ _) ⟨hlen, out, ep, vals_of_ints k1, he'⟩, rfl, q _ _ k2 k3 (I.hok.fresh (Nat.le_succ _))⟩
theorem cs_sorted : CallS X (fun xs H Q => rSortedI X.K xs H Q ∨ rSortedIT X.K xs H Q) .fr dSorted := by
  intro mg W σ O H0 H fls xs as Q nw hx h
  have fin : ∀ (ds : List Da) (is : List Int), intsD ds = .ok is → ds.length ≤ big → FinG mg W σ H (R.ok (PyData.list ((sortI is).map PyData.int))) (PE_ X.K H O .fr Q) → ∀ (ns' : List Int) (r : Addr), ns'.Perm is → ns'.Pairwise (· ≤ ·) → H r = none → Q (.ref r) (upd H r (.lst (ns'.map V.int))) := fun ds is e n1 h ns' r hp ho hr => by
    have hs : ns' = sortI is := sorted_one _ _ (hp.trans (sortI_perm is).symm) ho (sortI_sorted is)
    subst hs
    have hl : ((sortI is).map PyData.int).length ≤ big := by
      rw [List.length_map, (sortI_perm is).length_eq, intsD_len e]
      exact n1
    exact PE_.newL h (RpAll.intsR _) hl hr (nw r hr)
  unfold dSorted at h
  split at h
  · cases hx with
    | cons h1 t =>
      cases t
      obtain ⟨p, vs, rfl, s1, r1, n1⟩ := h1.list
      obtain ⟨is, e, h⟩ := FinG.bind_ok (intsD_nx _) h
      rw [r1.ints e] at s1
      exact .inl ⟨p, is, rfl, s1, fin _ _ e n1 h⟩
  · cases hx with
    | cons h1 t =>
      cases t
      obtain ⟨p, vs, rfl, s1, r1, n1⟩ := h1.tuple
      obtain ⟨is, e, h⟩ := FinG.bind_ok (intsD_nx _) h
      rw [r1.ints e] at s1
      exact .inr ⟨p, is, rfl, s1, fin _ _ e n1 h⟩
  · exact h.elim
theorem de_sorted (m : X.mg "sorted" = none) (he : DE X W Γ e fl se) (hg : Gl X "sorted" := by show _ = _; kernel_rfl) (h1 : starEach [e] X.env = (false, eval e X.env) :: starEach [] X.env := by kernel_rfl) (h2 : (backTo pos (starEach [] X.env)).any (·.1) = false := by kernel_rfl) : DE X W Γ (.Call (.Name "sorted" p) [e] [] pos) .fr (eA dSorted (aCons se aNil)) :=
  de_callB (cr_or cr_sortedI cr_sortedIT) cs_sorted hg m boot_sorted (da_cons he da_nil h1) (by decide) (by decide) h1 h2
end
end DL
set_option Elab.async false
set_option linter.all false
set_option maxRecDepth 100000
namespace DL
open PySem PySem.Spec PyProof.Rows L2

/-! ### len(set(..)), whole numbers -/
theorem ddI_mem (x : Int) : ∀ l : List Int, x ∈ ddI l ↔ x ∈ l
  | [] => Iff.rfl
  | y :: l => by
    have ih := ddI_mem x l
    show x ∈ (if y ∈ ddI l then ddI l else y :: ddI l) ↔ _
    by_cases q : y ∈ ddI l
    · rw [if_pos q, ih, List.mem_cons]
      constructor
      · exact .inr
      · rintro (e | e)
        · subst e; exact (ddI_mem x l).mp q
        · exact e
    · rw [if_neg q, List.mem_cons, List.mem_cons, ih]
theorem ddI_nodup : ∀ l : List Int, (ddI l).Nodup
  | [] => List.nodup_nil
  | y :: l => by
    show (if y ∈ ddI l then ddI l else y :: ddI l).Nodup
    by_cases q : y ∈ ddI l
    · rw [if_pos q]; exact ddI_nodup l
    · rw [if_neg q]; exact List.nodup_cons.mpr ⟨q, ddI_nodup l⟩
theorem nodup_le : ∀ (l m : List Int), l.Nodup → (∀ x, x ∈ l → x ∈ m) → l.length ≤ m.length
  | [], m, _, _ => Nat.zero_le _
  | x :: l, m, h, s => by
    obtain ⟨h1, h2⟩ := List.nodup_cons.mp h
    have hx := s x List.mem_cons_self
    have := nodup_le l (m.erase x) h2 fun y hy => (List.mem_erase_of_ne (fun e => by subst e; exact h1 hy)).mpr (s y (List.mem_cons_of_mem _ hy))
    rw [List.length_erase_of_mem hx] at this
    have := List.length_pos_of_mem hx
    rw [List.length_cons]
    omega
theorem ddI_len {ns ks : List Int} (h : ks.Nodup) (m : ∀ x, x ∈ ks ↔ x ∈ ns) : ks.length = (ddI ns).length :=
  Nat.le_antisymm (nodup_le _ _ h fun x hx => (ddI_mem x ns).mpr ((m x).mp hx)) (nodup_le _ _ (ddI_nodup ns) fun x hx => (m x).mpr ((ddI_mem x ns).mp hx))
theorem met_nodup (ns : List Int) : (firstMet (fun i => ns.getD i 0) ns.length).Nodup ∧ ∀ x, x ∈ firstMet (fun i => ns.getD i 0) ns.length ↔ x ∈ ns := by
  have key : ∀ i, i ≤ ns.length → (firstMet (fun i => ns.getD i 0) i).Nodup ∧ ∀ x, x ∈ firstMet (fun i => ns.getD i 0) i ↔ x ∈ ns.take i := fun i => by
    induction i with
    | zero => exact fun _ => ⟨List.nodup_nil, fun x => Iff.rfl⟩
    | succ i ih =>
      intro hi
      obtain ⟨h1, h2⟩ := ih (by omega)
      have g : ns.getD i 0 = ns[i] := by simp [show i < ns.length by omega]
      have tk : ns.take (i + 1) = ns.take i ++ [ns[i]] := List.take_succ_eq_append_getElem (by omega)
      rw [firstMet_succ, tk]
      unfold step_dedup
      simp only [g]
      by_cases q : ns[i] ∈ firstMet (fun i => ns.getD i 0) i
      · have q' : (firstMet (fun i => ns.getD i 0) i).any (· == ns[i]) = true := List.any_eq_true.mpr ⟨_, q, beq_self_eq_true _⟩
        rw [if_pos q']
        refine ⟨h1, fun x => ?_⟩
        rw [List.mem_append, List.mem_singleton, h2]
        exact ⟨.inl, fun z => z.elim id fun e => by rw [e]; exact (h2 _).mp q⟩
      · have q' : ¬ (firstMet (fun i => ns.getD i 0) i).any (· == ns[i]) = true := fun z => by
          obtain ⟨y, hy, e⟩ := List.any_eq_true.mp z
          rw [beq_iff_eq.mp e] at hy
          exact q hy
        rw [if_neg q']
        refine ⟨List.nodup_append.mpr ⟨h1, by simp, fun a ha b hb e => ?_⟩, fun x => ?_⟩
        · rw [List.mem_singleton] at hb
          subst hb e
          exact q ha
        · rw [List.mem_append, List.mem_append, h2]
  obtain ⟨h1, h2⟩ := key ns.length (Nat.le_refl _)
  rw [List.take_length] at h2
  exact ⟨h1, h2⟩
section
variable {X : Cx} {W : WX} {Γ : List Nat} {e a : Expr} {fl : Fl} {se : SE} {pos p p2 q : Pos} {ta : TE}
def tLenSetA (K : PySem.W.Frag) (ta : TE) : TE := fun σ H Q => ta σ H fun x H1 => ∃ (l : Addr) (ns : List Int), x = V.ref l ∧ (SqL K H1 l (ns.map V.int) ∨ SqT K H1 l (ns.map V.int)) ∧ ns.length < 4000 ∧ Q (.int ((ddI ns).length : Nat)) H1
theorem pe_lenSetA (hc : X.calm = true) (g1 : Gl X "len") (m1 : X.mg "len" = none) (g2 : Gl X "set") (m2 : X.mg "set" = none) (ha : PE X a ta) (na : starEach [a] X.env = (false, eval a X.env) :: starEach [] X.env) :
    PE X (.Call (.Name "len" p) [.Call (.Name "set" p2) [a] [] q] [] pos) (tLenSetA X.K ta) := ⟨fun pins s σ H Q I h => by
  have boot1 := PySem.boot_len
  have boot2 := PyProof.Rows.boot_set
  refine Call_ (ld_blt I g1 m1 boot1 (PyProof.Rows.callWith_builtin1 (PyProof.Rows.args_cons (Call_ (ld_blt I g2 m2 boot2 (PyProof.Rows.callWith_type1 (PyProof.Rows.args_cons (thn (ha.run pins s σ H _ I h) fun v s1 ⟨x, H1, I1, r1, q1⟩ => PyProof.Rows.args_nil ?_) na) na rfl))) rfl) rfl rfl))
  obtain ⟨l, ns, rfl, hq, hn, q1⟩ := q1
  cases r1
  have fin : ∀ (h' : Heap) (tk : Nat) (o : Obj) (es : Array (Int × Value)) (ep : Nat) (t : SetTable), h'.get? s1.heap.objs.size = some o → o.ExactSet → o.data = .set es ep t → t.fits es.size = true → es.size = (ddI ns).length → (∀ b o, s1.heap.get? b = some o → h'.get? b = some o) →
      wpAny (model X.prog X.w) X.A (call (.builtin "len") [.ref s1.heap.objs.size]) (EP X pins σ Q) X.xe { s1 with heap := h', toks := tk } := fun h' tk o es ep t ho hex hd hf hsz hk => by
    have I2 : Inv X pins σ H1 { s1 with heap := h', toks := tk } := I1.kept hk
    have small : (ddI ns).length ≤ ns.length := nodup_le _ _ (ddI_nodup ns) fun x hx => (ddI_mem x ns).mp hx
    exact call_len_set ho hex hd hf (by rw [hsz]; omega) ⟨.int ((ddI ns).length : Nat), H1, I2.tok _, ⟨_, by rw [hsz]⟩, q1⟩
  rcases hq with hq | hq
  · obtain ⟨its, r, pl, _⟩ := I1.list hq
    have hl : its.toArray.size = ns.length := by rw [List.size_toArray, ← r.length, List.length_map]
    refine call_set_list (I1.ok.hd hc) pl.isList (ns := ns) (by simpa using r.ints) (by rw [hl]; unfold scanBound; omega) fun h' tk hS hk => PyProof.Rows.args_nil ?_
    rw [hl] at hS
    obtain ⟨o, es, ep, t, ho, hex, hd, _, _, _, hf, hz⟩ := hS
    obtain ⟨d1, d2⟩ := met_nodup ns
    exact fin h' tk o es ep t ho hex hd hf (by rw [hz, ddI_len d1 d2]) fun b o e => hk b o (Heap.lt_size e) e
  · obtain ⟨its, r, tp, _⟩ := I1.tuple hq
    refine call_set_tupI ns (I1.ok.hd hc) tp (by simpa using r.ints) (by unfold scanBound; omega) fun h' tk c hS _ hk => PyProof.Rows.args_nil ?_
    obtain ⟨o, es, ep, t, ho, hex, hd, _, nd, mem, _, hf, hz, _⟩ := hS
    refine fin h' tk o es ep t ho hex hd hf ?_ hk
    have e1 : es.size = (es.toList.map keyOf).length := by rw [List.length_map, Array.length_toList]
    rw [e1]
    exact ddI_len nd fun x => by rw [← mem x]; exact decide_eq_true_iff⟩
theorem de_lenSet (hc : X.calm = true) (m1 : X.mg "len" = none) (m2 : X.mg "set" = none) (he : DE X W Γ a fl se) (g1 : Gl X "len" := by show _ = _; kernel_rfl) (g2 : Gl X "set" := by show _ = _; kernel_rfl) (na : starEach [a] X.env = (false, eval a X.env) :: starEach [] X.env := by kernel_rfl) :
    DE X W Γ (.Call (.Name "len" p) [.Call (.Name "set" p2) [a] [] q] [] pos) .fr (e1 dLenSet se) := pe_imp (pe_lenSetA hc g1 m1 g2 m2 he na) fun σ H Q h => by
  obtain ⟨ρ, F, GO, E, h⟩ := h
  refine at_e E h fun d v H1 s1 r1 E1 h1 => ?_
  have fin : ∀ (ds : List Da) (is : List Int), intsD ds = .ok is → FinG X.mg W σ H1 (if is.length < 4000 then R.ok (PyData.int ((ddI is).length : Nat)) else .bad) (PE_ X.K H (Ads GO ++ F) .fr Q) → is.length < 4000 ∧ Q (.int ((ddI is).length : Nat)) H1 := fun ds is e h => by
    split at h
    · rename_i c
      exact ⟨c, PE_.flat (PE_.mono s1 h) (.int _) rfl⟩
    · exact h.elim
  unfold dLenSet at h1
  split at h1
  · obtain ⟨p, vs, rfl, q1, r2, n2⟩ := r1.list
    obtain ⟨is, e, h2⟩ := FinG.bind_ok (intsD_nx _) h1
    rw [r2.ints e] at q1
    exact ⟨p, is, rfl, .inl q1, fin _ _ e h2⟩
  · obtain ⟨p, vs, rfl, q1, r2, n2⟩ := r1.tuple
    obtain ⟨is, e, h2⟩ := FinG.bind_ok (intsD_nx _) h1
    rw [r2.ints e] at q1
    exact ⟨p, is, rfl, .inr q1, fin _ _ e h2⟩
  · exact h1.elim
end
end DL
set_option Elab.async false
set_option linter.all false
set_option maxRecDepth 100000
namespace DL
open PySem PySem.Spec PyProof.Rows L2

/-! ### a text times 0 or 1, a tuple times a number -/
section
variable {X : Cx} {W : WX} {Γ : List Nat} {e a b : Expr} {fl fa fb : Fl} {se sa sb : SE} {pos p p2 q : Pos}
def rRepS : R2 := fun x y H Q => ∃ s k, x = .str s ∧ y = .int k ∧ s.length ≤ big ∧ ((k = 0 ∧ Q (.str Str.empty) H) ∨ (k = 1 ∧ Q (.str s) H))
theorem op_repS : OpR X (binaryOp .Mult) rRepS := by
  intro pins s σ H x y v u Q I rx ry h
  obtain ⟨z, k, rfl, rfl, hz, h⟩ := h
  obtain ⟨t1, rfl⟩ := rx
  obtain ⟨t2, rfl⟩ := ry
  rcases h with ⟨rfl, h⟩ | ⟨rfl, h⟩
  · exact PySem.P.mul_str_none (by decide) (by decide) ⟨.str Str.empty, H, I.tok _, ⟨_, rfl⟩, h⟩
  · refine PySem.P.mul_str (by decide) (fun _ z => by cases z) (fun _ z => by cases z) ?_
    rw [if_neg (by decide), if_pos (by rfl)]
    exact ⟨.str z, H, I, ⟨_, rfl⟩, h⟩
theorem os_repS : OpS X rRepS .fr repS := by
  intro mg W σ O H0 H x y a b Q nw hx hy h
  unfold repS at h
  split at h
  · cases hy.int
    obtain ⟨rfl, hz⟩ := hx.str
    split at h
    · rename_i e
      exact ⟨_, _, rfl, rfl, hz, .inl ⟨e, PE_.flat h (.str _ (by decide)) rfl⟩⟩
    · split at h
      · rename_i e
        exact ⟨_, _, rfl, rfl, hz, .inr ⟨e, PE_.flat h (.str _ hz) rfl⟩⟩
      · exact h.elim
  · exact h.elim
theorem de_repS (ha : DE X W Γ a fa sa) (hb : DE X W Γ b fb sb) : DE X W Γ (.BinOp a .Mult b pos) .fr (e2 repS sa sb) := de_bin op_repS os_repS ha hb
/-! ### a tuple times 0, () times a number -/
open AutoSeq1 (wpAny_loadPart') in
theorem tuple_mul_nil (l : Addr) (n : Nat) (dd : Option Addr) (sl : Array (Option Value)) (x : Int) (u : Tok) (c0 : (decide (x < -(2 ^ 63)) || decide (x ≥ 2 ^ 63)) = false) :
    Meets (Builtin.«tuple.__mul__» ⟨[.ref l, .int x u], []⟩) (fun _ R s => s.heap.get? l = some { cls := .type "tuple", dict := dd, data := .seq #[] n, slots := sl } ∧ R (.ok (.ret (Value.ref l))) s) :=
  .of_wp fun prog w A R s h => by
    obtain ⟨hp, g, d, tk, os⟩ := s
    obtain ⟨g1, g2⟩ := h
    have f1 := AutoSeq1.idx_int
    have c1 : ((#[] : Array Value).isEmpty || x == 1) = true := by rw [show (#[] : Array Value).isEmpty = true from rfl, Bool.true_or]
    have tT : Shared.TypeIs ⟨hp, g, d, tk, os⟩ (.ref l) "tuple" := ⟨_, g1, rfl⟩
    wp_walk using wpAny_loadPart' g1, wpAny_typeOf tT
    repeat (first
      | (refine wpAny_ite_false (decide_eq_false (by rw [c0]; exact Bool.false_ne_true)) ?_; wp_walk using wpAny_loadPart' g1, wpAny_typeOf tT))
    exact ⟨_, rfl, g2⟩
open AutoSeq1 (wpAny_loadPart') in
theorem tuple_mul_zero (l : Addr) (items : Array Value) (n : Nat) (dd : Option Addr) (sl : Array (Option Value)) (u : Tok) (c1 : (items.isEmpty || (0 : Int) == 1) = false) :
    Meets (Builtin.«tuple.__mul__» ⟨[.ref l, .int 0 u], []⟩) (fun _ R s => s.heap.get? l = some { cls := .type "tuple", dict := dd, data := .seq items n, slots := sl } ∧
      R (.ok (.ret (Value.ref s.heap.objs.size))) { s with heap := s.heap.push { cls := Value.type "tuple", data := Data.seq #[] }, toks := s.toks }) :=
  .of_wp fun prog w A R s h => by
    obtain ⟨hp, g, d, tk, os⟩ := s
    obtain ⟨hl, h⟩ := h
    have f1 := AutoSeq1.idx_int
    have c2 : (decide ((0 : Int) ≤ 0) || items.isEmpty) = true := by rw [decide_eq_true (Int.le_refl 0), Bool.true_or]
    wp_walk using wpAny_loadPart' hl
    repeat (first
      | (refine wpAny_ite_false (decide_eq_false (by rw [c1]; exact Bool.false_ne_true)) ?_; wp_walk using wpAny_loadPart' hl))
    exact ⟨_, rfl, h⟩
open AutoSeq1 (wpAny_loadPart') in
theorem tuple_mul_one (l : Addr) (items : Array Value) (n : Nat) (dd : Option Addr) (sl : Array (Option Value)) (u : Tok) :
    Meets (Builtin.«tuple.__mul__» ⟨[.ref l, .int 1 u], []⟩) (fun _ R s => s.heap.get? l = some { cls := .type "tuple", dict := dd, data := .seq items n, slots := sl } ∧ R (.ok (.ret (Value.ref l))) s) :=
  .of_wp fun prog w A R s h => by
    obtain ⟨hp, g, d, tk, os⟩ := s
    obtain ⟨g1, g2⟩ := h
    have f1 := AutoSeq1.idx_int
    have c1 : (items.isEmpty || (1 : Int) == 1) = true := by rw [show ((1 : Int) == 1) = true from rfl, Bool.or_true]
    have tT : Shared.TypeIs ⟨hp, g, d, tk, os⟩ (.ref l) "tuple" := ⟨_, g1, rfl⟩
    wp_walk using wpAny_loadPart' g1, wpAny_typeOf tT
    exact ⟨_, rfl, g2⟩
def rRepT1 (K : PySem.W.Frag) : R2 := fun x y H Q => ∃ l xs, x = .ref l ∧ y = .int 1 ∧ SqT K H l xs ∧ Q (.ref l) H
theorem op_repT1 : OpR X (binaryOp .Mult) (rRepT1 X.K) := by
  intro pins s σ H x y v u Q I rx ry h
  obtain ⟨l, xs, rfl, rfl, hT, q⟩ := h
  cases rx
  obtain ⟨t, rfl⟩ := ry
  obtain ⟨its, r, ⟨⟨cls, dd, data, sl⟩, ho, hc, n, hd⟩, hs⟩ := I.tuple hT
  simp only at hc hd
  subst hc hd
  refine wpAny_binaryOp_repeat_ref (T := "tuple") (U := "int") (by decide) ⟨_, ho, rfl⟩ (fun s' => typeIs_int s' 1 t) noFill_tuple_mul F.fills_int_mul F.slot_int_rmul repeat_tuple F.slot_int_index.lookup
    (call_meets F.slot_int_rmul (typeIs_int s 1 t) F.entry_int_rmul (F.args_int_rmul_2 _ _) (int_rmul_tuple 1 t l its.toArray n dd sl) ⟨ho, rfl, ⟨_, ho, rfl⟩, ?_⟩)
  exact call_meets F.slot_tuple_mul ⟨_, ho, rfl⟩ F.entry_tuple_mul (F.args_tuple_mul_2 _ _) (tuple_mul_one l its.toArray n dd sl t) ⟨ho, ⟨.ref l, H, I, rfl, q⟩⟩
def rRepT0 (K : PySem.W.Frag) : R2 := fun x y H Q => ∃ l k xs, x = .ref l ∧ y = .int k ∧ SqT K H l xs ∧ ((xs = [] ∧ k.natAbs ≤ 1000 ∧ Q (.ref l) H) ∨ (xs ≠ [] ∧ k = 0 ∧ ∀ p, H p = none → Q (.ref p) (upd H p (.tup []))))
theorem op_repT0 : OpR X (binaryOp .Mult) (rRepT0 X.K) := by
  intro pins s σ H x y v u Q I rx ry h
  obtain ⟨l, k, xs, rfl, rfl, hT, h⟩ := h
  cases rx
  obtain ⟨t, rfl⟩ := ry
  obtain ⟨its, r, ⟨⟨cls, dd, data, sl⟩, ho, hc, n, hd⟩, hs⟩ := I.tuple hT
  simp only at hc hd
  subst hc hd
  refine wpAny_binaryOp_repeat_ref (T := "tuple") (U := "int") (by decide) ⟨_, ho, rfl⟩ (fun s' => typeIs_int s' k t) noFill_tuple_mul F.fills_int_mul F.slot_int_rmul repeat_tuple F.slot_int_index.lookup
    (call_meets F.slot_int_rmul (typeIs_int s k t) F.entry_int_rmul (F.args_int_rmul_2 _ _) (int_rmul_tuple k t l its.toArray n dd sl) ⟨ho, rfl, ⟨_, ho, rfl⟩, ?_⟩)
  rcases h with ⟨rfl, hk, q⟩ | ⟨hne, rfl, q⟩
  · cases r
    have c0 : (decide (k < -(2 ^ 63)) || decide (k ≥ 2 ^ 63)) = false := by
      rw [decide_eq_false (by omega), decide_eq_false (by omega)] <;> rfl
    exact call_meets F.slot_tuple_mul ⟨_, ho, rfl⟩ F.entry_tuple_mul (F.args_tuple_mul_2 _ _) (tuple_mul_nil l n dd sl k t c0) ⟨ho, ⟨.ref l, H, I, rfl, q⟩⟩
  · have hi : its.toArray.isEmpty = false := by
      cases r with
      | nil => exact absurd rfl hne
      | cons _ _ => rfl
    have c1 : (its.toArray.isEmpty || (0 : Int) == 1) = false := by
      rw [hi]
      rfl
    refine call_meets F.slot_tuple_mul ⟨_, ho, rfl⟩ F.entry_tuple_mul (F.args_tuple_mul_2 _ _) (tuple_mul_zero l its.toArray n dd sl t c1) ⟨ho, ?_⟩
    refine ⟨.ref s.heap.objs.size, _, I.laid (t' := s.toks) (o := .tup []) (fun b ob q => Heap.get?_push_of_some _ q) (Nat.le_refl _) ?_, rfl, q _ (I.hok.fresh (Nat.le_refl _))⟩
    exact ⟨Nat.zero_le _, [], .nil, IsTup.new _ _⟩
theorem op_or {op : Value → Value → Sem Value} {r1 r2 : R2} (h1 : OpR X op r1) (h2 : OpR X op r2) : OpR X op (fun x y H Q => r1 x y H Q ∨ r2 x y H Q) := by
  intro pins s σ H x y v u Q I rx ry h
  rcases h with h | h
  · exact h1 pins s σ H x y v u Q I rx ry h
  · exact h2 pins s σ H x y v u Q I rx ry h
theorem os_repT : OpS X (fun x y H Q => (rRepT X.K x y H Q ∨ rRepT1 X.K x y H Q) ∨ rRepT0 X.K x y H Q) .fr repT := by
  intro mg W σ O H0 H x y a b Q nw hx hy h
  unfold repT at h
  split at h
  · rename_i ds k
    cases hy.int
    obtain ⟨p, vs, rfl, q1, r1, n1⟩ := hx.tuple
    split at h
    · rename_i c
      obtain ⟨c1, c2, c3, c4⟩ := c
      refine .inl ?_
      by_cases e : k = 1
      · subst e
        have ee : (List.replicate (1 : Int).toNat ds).flatten = ds := by simp
        rw [ee] at h
        exact .inr ⟨p, vs, rfl, rfl, q1, PE_.now h (.nolist (.tup q1 n1 r1) fun _ z => nomatch z)⟩
      · refine .inl ⟨p, k, vs, rfl, rfl, q1, ?_, by omega, by omega, by rw [r1.length]; exact c1, fun t ht => PE_.newT h (r1.rep _) ?_ ht⟩
        · intro z
          have := r1.length
          rw [z] at this
          simp at this
          omega
        · rw [PyProof.Rows.lm_len_rep_flat]
          have : k.toNat * ds.length ≤ 1000 * 1000 := Nat.mul_le_mul (by omega) c1
          unfold big
          omega
    · split at h
      · rename_i c
        refine .inr ⟨p, k, vs, rfl, rfl, q1, ?_⟩
        by_cases e : vs = []
        · subst e
          cases r1
          refine .inl ⟨rfl, ?_, PE_.now h (.nolist (.tup q1 n1 .nil) fun _ z => nomatch z)⟩
          rcases c with c | c
          · subst c; decide
          · exact c.2
        · rcases c with c | c
          · exact .inr ⟨e, c, fun t ht => PE_.newT h .nil (Nat.zero_le _) ht⟩
          · have := r1.length
            exact absurd (List.eq_nil_of_length_eq_zero (by omega)) e
      · exact h.elim
  · exact h.elim
theorem de_repT (ha : DE X W Γ a fa sa) (hb : DE X W Γ b fb sb) : DE X W Γ (.BinOp a .Mult b pos) .fr (e2 repT sa sb) := de_bin (op_or (op_or op_repT op_repT1) op_repT0) os_repT ha hb
end
end DL
set_option Elab.async false
set_option linter.all false
set_option maxRecDepth 100000
namespace DL
open PySem PySem.Spec PyProof.Rows L2

/-! ### try: .. except X as n: .., a suite that answers by the error's class -/
theorem Rp.flat2 {K : PySem.W.Frag} {H : Hp} {O O' : List Addr} {v : V} {d : Da} (f : flatD d = true) (r : Rp K H O v d) : Rp K H O' v d := by
  cases d with
  | none => cases r; exact .non
  | bool b => cases r; exact .bl b
  | int i => cases r; exact .int i
  | str x => cases r with | str _ n => exact .str x n
  | tuple _ => cases f
  | list _ => cases f
  | dict _ => cases f
/-- a suite's reading: the error lies at a, in slot i; answer d -/
def tSu (K : PySem.W.Frag) (a : Addr) (i : Nat) (d : Da) : TS := fun D σ H => σ[i]? = some (some (.ref a)) ∧ ∀ v, Rp K H [] v d → D.rt v H
theorem ps_imp' {X : Cx} {st : Stmt} {t t' : TS} (h : PS X st t) (w : ∀ D σ H, t' D σ H → t D σ H) : PS X st t' := ps_imp h w
section
variable {X : Cx} {W : WX} {Γ Γ' : List Nat} {b : SS} {x n : Str} {c : Value} {i : Nat} {body suite : List Stmt} {b₀ : Stmt} {np pos pos' : Pos} {ok : List Str} {hv : Str → Da}
theorem takes_len (tk : Takes X W) : Takes X (fun cls d σ H => σ.length = X.N.length → W cls d σ H) := fun u s' ⟨a, B, sI, pins, σ, H, cls, d, e, I, nb, up, sky, na, os, ag, w⟩ =>
  tk u s' ⟨a, B, sI, pins, σ, H, cls, d, e, I, nb, up, sky, na, os, ag, w I.len⟩
theorem ds_try (hs : X.stack = X.env :: X.outer) (hf : X.env.frame = some X.env.locals) (hN : X.N.Nodup) (hi : X.N[i]? = some n) (hln : X.env.kindOf n = some .local) (hc : Names X x c) (tk : Takes X W)
    (hfl : ∀ y, y ∈ ok → flatD (hv y) = true) (hex : ∀ y, y ∈ ok → ∀ C, X.mg y = some (.ref C) → PySem.W.exmOne X.K (.ref C) c = some true)
    (hb : ∀ (W : WX) (pn : List (Addr × Obj)) (xe : Value → Shared → Prop), Takes (X.tr pn xe) W → PassesOwn (model X.prog X.w) X.A X.env xe → DSs (X.tr pn xe) W Γ body Γ' b)
    (hsu : ∀ y, y ∈ ok → ∀ (C a : Addr) (oe : Obj) (pn : List (Addr × Obj)), X.mg y = some (.ref C) → Zc (.ref C) none oe → (∃ vs, oe.data = .fields vs) → PSs (X.suite a ((a, oe) :: pn)) (b₀ :: suite) (tSu X.K a i (hv y))) :
    DS X W Γ (.Try body [.ExceptHandler (some (.Name x np)) (some n) (b₀ :: suite) pos'] [] [] pos) Γ' (sTry b ok hv) :=
  ps_imp (ps_try_as (tb := fun W => tDS X.K X.mg (fun cls d σ H => σ.length = X.N.length → W cls d σ H) Γ Γ' b)
    (ts := fun a cls d => fun D σ H => ∃ y C, y ∈ ok ∧ X.mg y = some (.ref C) ∧ cls = .ref C ∧ d = none ∧ tSu X.K a i (hv y) D σ H) hs hf hN hi hln hc tk
    (fun W pn xe tk2 ps => hb _ pn xe (takes_len tk2) ps)
    (fun a oe cls d pn hz hv => ⟨fun pins s σ H D I h => by
      obtain ⟨y, C, hy, hm, e1, e2, h⟩ := h
      subst e1 e2
      exact (hsu y hy C a oe pn hm hz hv).run pins s σ H D I h⟩)) fun D σ H h => by
    obtain ⟨ρ, F, GO, E, h⟩ := h
    refine ⟨ρ, F, GO, E, ?_⟩
    unfold sTry at h
    show FinS _ _ _ _ _ _ _ (b ρ) _
    cases q : b ρ with
    | ok o =>
      rw [q] at h
      cases o with
      | nx _ => exact h
      | rt _ => exact h
      | rf _ => exact h
    | bad => rw [q] at h; exact h
    | exc y =>
      rw [q] at h
      dsimp only at h
      split at h
      · rename_i hy
        intro C σ' H' hC k hlen
        refine ⟨true, hex y hy C hC, fun _ a na => ⟨y, C, hy, hC, rfl, rfl, ?_, fun v r => ?_⟩, fun z => Bool.noConfusion z⟩
        · obtain ⟨hl, _⟩ := List.getElem?_eq_some_iff.mp hi
          exact List.getElem?_set_self (by rw [hlen]; exact hl)
        · exact h v H' k (Rp.flat2 (hfl y hy) r)
      · exact h.elim
/-- isinstance(wrong, C1) in the suite -/
theorem pe_isE {D C1 a : Addr} {oe : Obj} {pn : List (Addr × Obj)} {m x1 : Str} {bb : Bool} {p p1 p2 : Pos} (EC : ExcC X.K D) (hz : Zc (.ref D) none oe) (hf : ∃ vs, oe.data = .fields vs)
    (hg : Gl X "isinstance") (hm : X.mg "isinstance" = none) (hN : X.N[i]? = some n) (hv : Vis X.env.scope n) (hd : (n == ("__debug__" : Str)) = false) (hcd : (n == ("__classdict__" : Str)) = false)
    (hg1 : Gl X x1) (hm1 : X.mg x1 = some (.ref C1)) (hd1 : (x1 == ("__debug__" : Str)) = false) (hk : PySem.W.kitOne X.K (.ref D) (.ref C1) = some bb)
    (hs1 : starEach [.Name n p1, .Name x1 p2] X.env = (false, eval (.Name n p1) X.env) :: starEach [.Name x1 p2] X.env := by rfl) (hs2 : starEach [.Name x1 p2] X.env = (false, eval (.Name x1 p2) X.env) :: starEach [] X.env := by rfl)
    (hpl : (backTo pos (starEach [.Name x1 p2] X.env)).any (·.1) = false := by rfl) :
    PE (X.suite a ((a, oe) :: pn)) (.Call (.Name "isinstance" p) [.Name n p1, .Name x1 p2] [] pos) (fun σ H Q => σ[i]? = some (some (.ref a)) ∧ Q (.bl bb) H) :=
  pe_imp (pe_callB (X := X.suite a ((a, oe) :: pn)) (call_isE EC hz hf) hg hm boot_isinstance (pa_cons (pe_var (X := X.suite a ((a, oe) :: pn)) hN hv hd hcd) (pa_cons (pe_glob (X := X.suite a ((a, oe) :: pn)) (v := .ref C1) hg1 hm1 rfl hd1) pa_nil hs2) hs1) (by decide) (by decide) hs1 hpl) fun σ H Q h =>
    ⟨.ref a, h.1, .ref C1, .ref C1, bb, rfl, fun u r => r, hk, h.2⟩
/-! the suites themselves -/
section
variable {D C1 C2 a : Addr} {oe : Obj} {pn : List (Addr × Obj)} {w1 w2 : Str} {b1 b2 : Bool} {e1 e2 : Expr} {p p1 p2 p3 p4 p5 p6 : Pos}
def tE (a : Addr) (i : Nat) (bb : Bool) : TE := fun σ H Q => σ[i]? = some (some (.ref a)) ∧ Q (.bl bb) H
/-- return isinstance(wrong, C) -/
theorem su_ret {Y : Cx} (hY : Y.K = X.K) (h1 : PE Y e1 (tE a i b1)) : PSs Y [.Return (some e1) p] (tSu X.K a i (.bool b1)) := pss_one (ps_imp' (ps_ret h1) fun D σ H h => ⟨h.1, h.2 _ (.bl b1)⟩)
/-- if isinstance(wrong, C1): return 'w1' / return 'w2' * int(isinstance(wrong, C2)) -/
theorem su_two {Y : Cx} (hY : Y.K = X.K) {f1 : Expr} {as1 : List Expr} {k1 : List Keyword} {q1 q2 q3 q4 q5 q6 : Pos} {j1 j2 : Nat} (h1 : PE Y (.Call f1 as1 k1 p1) (tE a i b1)) (h2 : PE Y e2 (tE a i b2)) (n1 : w1.length ≤ big) (n2 : w2.length ≤ big)
    (m : Y.mg "int" = none) (hg : Gl Y "int") (hs1 : starEach [e2] Y.env = (false, eval e2 Y.env) :: starEach [] Y.env := by rfl) (hs2 : (backTo q6 (starEach [] Y.env)).any (·.1) = false := by rfl) :
    PSs Y [.If (.Call f1 as1 k1 p1) [.Return (some (.Constant (.str w1) j1 q1)) q2] [] q3, .Return (some (.BinOp (.Constant (.str w2) j2 q4) .Mult (.Call (.Name "int" p2) [e2] [] q6) q5)) p3]
      (tSu X.K a i (if b1 then .str w1 else if b2 then .str w2 else .str Str.empty)) :=
  pss_imp (pss_cons (ps_if (pt_val h1) (pss_one (ps_ret pe_str)) pss_nil) (pss_one (ps_ret (pe_op op_repS pe_str (pe_callTy call_int1 hg m boot_int (pa_cons h2 pa_nil hs1) (by decide) (by decide) hs1 hs2))))) fun D σ H h => by
    obtain ⟨h3, h4⟩ := h
    refine ⟨h3, b1, rfl, ?_⟩
    cases b1 with
    | true => exact h4 _ (.str w1 n1)
    | false =>
      refine ⟨h3, .inr ⟨b2, rfl, ?_⟩⟩
      cases b2 with
      | true => exact ⟨w2, 1, rfl, rfl, n2, .inr ⟨rfl, h4 _ (.str w2 n2)⟩⟩
      | false => exact ⟨w2, 0, rfl, rfl, n2, .inl ⟨rfl, h4 _ (.str _ (by decide))⟩⟩
end
end
/-! what the head shows of an error's class -/
def excCB (K : PySem.W.Frag) (D : Addr) : Bool :=
  decide (PySem.W.findIn K (.ref D) "__getattribute__" = some (some (.builtin "BaseException.__getattribute__"))) &&
  (decide (PySem.W.findIn K (.ref D) "__getattr__" = some none) && (decide (PySem.W.subIn K (.ref D) (.type "BaseException") = some true) && (PySem.W.hasDictIn K D &&
  (decide (PySem.W.findIn K (.ref D) "__class__" = some (some (.builtin "object.__class__"))) && (decide (PySem.W.specialIn K (.builtin "object.__class__") "__get__" = some (some (.builtin "getset_descriptor.__get__"))) &&
  (decide (PySem.W.takesIn K (.builtin "object.__class__") = some true) && decide (PySem.W.mroIn K D (.type "object") = some true)))))))
theorem excC_of {K : PySem.W.Frag} {D : Addr} (h : excCB K D = true) : ExcC K D := by
  unfold excCB at h
  simp only [Bool.and_eq_true, decide_eq_true_eq] at h
  obtain ⟨h1, h2, h3, h4, h5, h6, h7, h8⟩ := h
  exact ⟨h1, h2, h3, h4, h5, h6, h7, h8⟩
/-- an error x raised, under except y, asked after the classes z -/
def catB (K : PySem.W.Frag) (x y : Str) : Bool := decide (PySem.W.exmOne K (.ref (He.ga K x)) (.ref (He.ga K y)) = some true) && excCB K (He.ga K x)
def isB (K : PySem.W.Frag) (x z : Str) (b : Bool) : Bool := decide (PySem.W.kitOne K (.ref (He.ga K x)) (.ref (He.ga K z)) = some b)
/-- .. as a fact about names -/
structure Cat (K : PySem.W.Frag) (mg : MG) (x y : Str) : Prop where
  ex : ∃ C N, mg x = some (.ref C) ∧ mg y = some (.ref N) ∧ PySem.W.exmOne K (.ref C) (.ref N) = some true ∧ ExcC K C
structure IsE (K : PySem.W.Frag) (mg : MG) (x z : Str) (b : Bool) : Prop where
  ex : ∃ C N, mg x = some (.ref C) ∧ mg z = some (.ref N) ∧ PySem.W.kitOne K (.ref C) (.ref N) = some b
theorem cat_of {K : PySem.W.Frag} {h : Heap} {mg : MG} {x y : Str} (X : K.In h) (G : h.Ns mainGlobals mg) (c1 : (He.Fa.glo x).ok K = true) (c2 : (He.Fa.glo y).ok K = true) (c : catB K x y = true) : Cat K mg x y := by
  unfold catB at c
  simp only [Bool.and_eq_true, decide_eq_true_eq] at c
  exact ⟨_, _, He.glo_ok X G c1, He.glo_ok X G c2, c.1, excC_of c.2⟩
theorem isE_of {K : PySem.W.Frag} {h : Heap} {mg : MG} {x z : Str} {b : Bool} (X : K.In h) (G : h.Ns mainGlobals mg) (c1 : (He.Fa.glo x).ok K = true) (c2 : (He.Fa.glo z).ok K = true) (c : isB K x z b = true) : IsE K mg x z b := by
  unfold isB at c
  simp only [decide_eq_true_eq] at c
  exact ⟨_, _, He.glo_ok X G c1, He.glo_ok X G c2, c⟩
section
variable {X : Cx} {W : WX} {Γ Γ' : List Nat} {b : SS} {x n x1 x2 y0 w1 w2 : Str} {i : Nat} {body : List Stmt} {np pos pos' p p1 p2 p3 p4 p5 p6 p7 p8 q q1 q2 q3 q4 q5 q6 : Pos} {ok : List Str} {hv : Str → Da} {j1 j2 : Nat}
theorem ds_try1 (hs : X.stack = X.env :: X.outer) (hf : X.env.frame = some X.env.locals) (hN : X.N.Nodup) (hi : nameOk X.N X.env.scope i n = true) (hln : X.env.kindOf n = some .local) (hgx : Gl X x) (hdx : (x == ("__debug__" : Str)) = false) (tk : Takes X W)
    (hy0 : y0 ∈ ok) (hcat : ∀ y, y ∈ ok → Cat X.K X.mg y x) (his : ∀ y, y ∈ ok → ∃ b1, IsE X.K X.mg y x1 b1 ∧ hv y = .bool b1)
    (hgi : Gl X "isinstance") (hmi : X.mg "isinstance" = none) (hg1 : Gl X x1) (hd1 : (x1 == ("__debug__" : Str)) = false)
    (hb : ∀ (W : WX) (pn : List (Addr × Obj)) (xe : Value → Shared → Prop), Takes (X.tr pn xe) W → PassesOwn (model X.prog X.w) X.A X.env xe → DSs (X.tr pn xe) W Γ body Γ' b)
    (hs1 : starEach [.Name n p1, .Name x1 p2] X.env = (false, eval (.Name n p1) X.env) :: starEach [.Name x1 p2] X.env := by rfl) (hs2 : starEach [.Name x1 p2] X.env = (false, eval (.Name x1 p2) X.env) :: starEach [] X.env := by rfl)
    (hpl : (backTo q (starEach [.Name x1 p2] X.env)).any (·.1) = false := by rfl) :
    DS X W Γ (.Try body [.ExceptHandler (some (.Name x np)) (some n) [.Return (some (.Call (.Name "isinstance" p) [.Name n p1, .Name x1 p2] [] q)) q1] pos'] [] [] pos) Γ' (sTry b ok hv) := by
  obtain ⟨C0, N0, m0, mN, _, _⟩ := (hcat y0 hy0).ex
  obtain ⟨hi1, hi2, hi3, hi4⟩ := nameOk_of hi
  refine ds_try (c := .ref N0) hs hf hN hi1 hln ⟨hgx, hdx, .inl mN⟩ tk (fun y hy => ?_) (fun y hy C hC => ?_) hb fun y hy C a oe pn hC hz hfl => ?_
  · obtain ⟨b1, _, e⟩ := his y hy
    rw [e]; rfl
  · obtain ⟨C', N', e1, e2, e3, _⟩ := (hcat y hy).ex
    rw [hC] at e1; rw [mN] at e2
    cases e1; cases e2
    exact e3
  · obtain ⟨C', N', e1, e2, _, e4⟩ := (hcat y hy).ex
    obtain ⟨b1, ⟨C2, N2, f1, f2, f3⟩, e⟩ := his y hy
    rw [hC] at e1 f1
    cases e1; cases f1
    rw [e]
    exact su_ret rfl (pe_isE (m := n) e4 hz hfl hgi hmi hi1 hi2 hi3 hi4 hg1 f2 hd1 f3 hs1 hs2 hpl)
theorem ds_try2 (hs : X.stack = X.env :: X.outer) (hf : X.env.frame = some X.env.locals) (hN : X.N.Nodup) (hi : nameOk X.N X.env.scope i n = true) (hln : X.env.kindOf n = some .local) (hgx : Gl X x) (hdx : (x == ("__debug__" : Str)) = false) (tk : Takes X W)
    (hy0 : y0 ∈ ok) (hcat : ∀ y, y ∈ ok → Cat X.K X.mg y x) (his : ∀ y, y ∈ ok → ∃ b1 b2, IsE X.K X.mg y x1 b1 ∧ IsE X.K X.mg y x2 b2 ∧ hv y = if b1 then .str w1 else if b2 then .str w2 else .str Str.empty)
    (n1 : w1.length ≤ big) (n2 : w2.length ≤ big) (hmt : X.mg "int" = none) (hgt : Gl X "int")
    (hgi : Gl X "isinstance") (hmi : X.mg "isinstance" = none) (hg1 : Gl X x1) (hd1 : (x1 == ("__debug__" : Str)) = false) (hg2 : Gl X x2) (hd2 : (x2 == ("__debug__" : Str)) = false)
    (hb : ∀ (W : WX) (pn : List (Addr × Obj)) (xe : Value → Shared → Prop), Takes (X.tr pn xe) W → PassesOwn (model X.prog X.w) X.A X.env xe → DSs (X.tr pn xe) W Γ body Γ' b)
    (hs1 : starEach [.Name n p1, .Name x1 p2] X.env = (false, eval (.Name n p1) X.env) :: starEach [.Name x1 p2] X.env := by rfl) (hs2 : starEach [.Name x1 p2] X.env = (false, eval (.Name x1 p2) X.env) :: starEach [] X.env := by rfl)
    (hpl : (backTo q (starEach [.Name x1 p2] X.env)).any (·.1) = false := by rfl)
    (hs3 : starEach [.Name n p5, .Name x2 p6] X.env = (false, eval (.Name n p5) X.env) :: starEach [.Name x2 p6] X.env := by rfl) (hs4 : starEach [.Name x2 p6] X.env = (false, eval (.Name x2 p6) X.env) :: starEach [] X.env := by rfl)
    (hpl2 : (backTo q4 (starEach [.Name x2 p6] X.env)).any (·.1) = false := by rfl)
    (hs5 : starEach [.Call (.Name "isinstance" p4) [.Name n p5, .Name x2 p6] [] q4] X.env = (false, eval (.Call (.Name "isinstance" p4) [.Name n p5, .Name x2 p6] [] q4) X.env) :: starEach [] X.env := by rfl) (hpl3 : (backTo q5 (starEach [] X.env)).any (·.1) = false := by rfl) :
    DS X W Γ (.Try body [.ExceptHandler (some (.Name x np)) (some n) [.If (.Call (.Name "isinstance" p) [.Name n p1, .Name x1 p2] [] q) [.Return (some (.Constant (.str w1) j1 q1)) q2] [] q3,
      .Return (some (.BinOp (.Constant (.str w2) j2 p7) .Mult (.Call (.Name "int" p3) [.Call (.Name "isinstance" p4) [.Name n p5, .Name x2 p6] [] q4] [] q5) q6)) p8] pos'] [] [] pos) Γ' (sTry b ok hv) := by
  obtain ⟨C0, N0, m0, mN, _, _⟩ := (hcat y0 hy0).ex
  obtain ⟨hi1, hi2, hi3, hi4⟩ := nameOk_of hi
  refine ds_try (c := .ref N0) hs hf hN hi1 hln ⟨hgx, hdx, .inl mN⟩ tk (fun y hy => ?_) (fun y hy C hC => ?_) hb fun y hy C a oe pn hC hz hfl => ?_
  · obtain ⟨b1, b2, _, _, e⟩ := his y hy
    rw [e]
    cases b1 <;> cases b2 <;> rfl
  · obtain ⟨C', N', e1, e2, e3, _⟩ := (hcat y hy).ex
    rw [hC] at e1; rw [mN] at e2
    cases e1; cases e2
    exact e3
  · obtain ⟨C', N', e1, e2, _, e4⟩ := (hcat y hy).ex
    obtain ⟨b1, b2, ⟨C2, N2, f1, f2, f3⟩, ⟨C3, N3, k1, k2, k3⟩, e⟩ := his y hy
    rw [hC] at e1 f1 k1
    cases e1; cases f1; cases k1
    rw [e]
    exact su_two (Y := X.suite a ((a, oe) :: pn)) rfl (pe_isE (m := n) e4 hz hfl hgi hmi hi1 hi2 hi3 hi4 hg1 f2 hd1 f3 hs1 hs2 hpl) (pe_isE (m := n) e4 hz hfl hgi hmi hi1 hi2 hi3 hi4 hg2 k2 hd2 k3 hs3 hs4 hpl2) n1 n2 hmt hgt hs5 hpl3
end
end DL
set_option Elab.async false
set_option linter.all false
set_option maxRecDepth 100000
namespace DL
open PySem PySem.Spec PyProof.Rows L2
/-! ### data in order -/
theorem alkB_ok {xs : List Da} (h : alkB xs = true) : PySem.W.AlikeAll xs ∧ PyData.depthAll xs ≤ 50 ∧ PyData.canLayAll0 xs = true := by
  unfold alkB at h
  simp only [Bool.and_eq_true, List.all_eq_true, decide_eq_true_eq] at h
  refine ⟨⟨fun x hx y hy => h.1 x hx y hy, fun x hx e => ?_⟩, h.2.2.1, h.2.2.2⟩
  have := h.2.1 x hx
  subst e
  cases this
theorem srtB_ok {xs : List Da} (h : srtB xs = true) : PySem.W.Sortable xs := by
  unfold srtB at h
  rcases Bool.or_eq_true_iff.mp h with h | h
  · refine .inl fun d hd => ?_
    have := List.all_eq_true.mp h d hd
    unfold tupD1 at this
    split at this
    · exact ⟨_, _, rfl⟩
    · cases this
  · refine .inr fun d hd => ?_
    have := List.all_eq_true.mp h d hd
    unfold othD1 at this
    split at this
    · cases this
    · cases this
    · rename_i n1 n2
      exact ⟨n1, fun xs => n2 xs⟩
theorem depth_mem {xs : List Da} {d : Da} (h : d ∈ xs) : d.depth ≤ PyData.depthAll xs := by
  induction xs with
  | nil => cases h
  | cons x xs ih =>
    simp only [PyData.depthAll]
    rcases List.mem_cons.mp h with e | h
    · subst e; omega
    · have := ih h; omega
theorem lay_mem {xs : List Da} {d : Da} (l : PyData.canLayAll0 xs = true) (h : d ∈ xs) : d.canLay0 = true := by
  induction xs with
  | nil => cases h
  | cons x xs ih =>
    simp only [PyData.canLayAll0, Bool.and_eq_true] at l
    rcases List.mem_cons.mp h with e | h
    · subst e; exact l.1
    · exact ih l.2 h
theorem minD_mem : ∀ (xs : List Da) (x : Da), PySem.W.minD x xs ∈ x :: xs
  | [], x => List.mem_cons_self
  | y :: xs, x => by
    show PySem.W.minD (if PySem.W.dataLt y x then y else x) xs ∈ _
    have := minD_mem xs (if PySem.W.dataLt y x then y else x)
    rcases List.mem_cons.mp this with e | h
    · rw [e]; split
      · exact List.mem_cons_of_mem _ List.mem_cons_self
      · exact List.mem_cons_self
    · exact List.mem_cons_of_mem _ (List.mem_cons_of_mem _ h)
theorem maxD_mem : ∀ (xs : List Da) (x : Da), PySem.W.maxD x xs ∈ x :: xs
  | [], x => List.mem_cons_self
  | y :: xs, x => by
    show PySem.W.maxD (if PySem.W.dataLt x y then y else x) xs ∈ _
    have := maxD_mem xs (if PySem.W.dataLt x y then y else x)
    rcases List.mem_cons.mp this with e | h
    · rw [e]; split
      · exact List.mem_cons_of_mem _ List.mem_cons_self
      · exact List.mem_cons_self
    · exact List.mem_cons_of_mem _ (List.mem_cons_of_mem _ h)
section
variable {X : Cx} {W : WX} {Γ : List Nat} {e : Expr} {fl : Fl} {se : SE} {pos p : Pos}
theorem Vals.at : ∀ {xs : List V} {us : List Value} {i : Nat} {u : Value}, Vals xs us → us[i]? = some u → ∃ x, xs[i]? = some x ∧ RelV x u
  | _, _, _, _, .nil, h => by simp at h
  | _, _, 0, _, .cons r t, h => by
    have := Option.some.inj h
    subst this
    exact ⟨_, rfl, r⟩
  | _, _, i + 1, _, .cons r t, h => by
    obtain ⟨x, a, b⟩ := Vals.at t (i := i) (by simpa using h)
    exact ⟨x, by simpa using a, b⟩
/-- min, max of a list or tuple of data: an item that reads so -/
def rBest (K : PySem.W.Frag) (f : Da → List Da → Da) : List V → Hp → VK → Prop := fun vs H Q => ∃ (a : Addr) (ws : List V) (x : Da) (xs : List Da), vs = [V.ref a] ∧ (SqL K H a ws ∨ SqT K H a ws) ∧ DpAll K H ws (x :: xs) ∧ alkB (x :: xs) = true ∧
  ∀ (i : Nat) (v : V), ws[i]? = some v → (x :: xs)[i]? = some (f x xs) → Q v H
theorem reads_at {h : Heap} {its : List Value} {ds : List Da} {as : List Addr} (lay : PyData.canLayAll0 ds = true) (r : ReadsAll h its ds as) {i : Nat} {v : Value} {d : Da} {bs : List Addr} (hv : its[i]? = some v) (hr : Reads h v d bs) (hd : d ∈ ds) : ds[i]? = some d := by
  have e1 := SeqAt.readsAll_map ds its as lay r
  have e2 : SeqAt.readOf h v = d := SeqAt.readOf_eq (lay_mem lay hd) hr
  rw [← e1, List.getElem?_map, hv, ← e2]
  rfl
theorem keepsAll {h h' : Heap} (k : ∀ b o, h.get? b = some o → h'.get? b = some o) : ∀ {its : List Value} {ds : List Da} {as : List Addr}, ReadsAll h its ds as → ReadsAll h' its ds as
  | _, _, _, .nil => .nil
  | _, _, _, .cons r t => .cons (PyProof.Rows.Reads.keeps k r) (keepsAll k t)
theorem cr_minG (hc : X.calm = true) (hu : X.A.units + 64 < cLine) : CallR X (.builtin "min") (rBest X.K PySem.W.minD) := by
  intro pins s σ H vs us Q I r h
  obtain ⟨a, ws, x, xs, rfl, hs, dp, ab, q⟩ := h
  obtain ⟨al, dep, lay⟩ := alkB_ok ab
  rw [Vals.ref1 r]
  rcases hs with hs | hs
  · obtain ⟨its, rv, hl, _⟩ := I.list hs
    obtain ⟨as, rd⟩ := Dp.readsAll I (x :: xs) ws its dp rv
    refine PySem.W.min_list_data (I.ok.hd hc) hl.isList rd al (by omega) fun i v h' tk bs hv hr hk => ?_
    have hv' : its[i]? = some v := by simpa using hv
    obtain ⟨w, hw, rw_⟩ := Vals.at rv hv'
    exact ⟨w, H, I.kept hk, rw_, q i w hw (reads_at lay (keepsAll hk rd) hv' hr (minD_mem xs x))⟩
  · obtain ⟨its, rv, hl, _⟩ := I.tuple hs
    obtain ⟨as, rd⟩ := Dp.readsAll I (x :: xs) ws its dp rv
    refine PySem.W.min_tuple_data (I.ok.hd hc) hl rd al (by omega) fun i v h' tk bs hv hr hk => ?_
    have hv' : its[i]? = some v := by simpa using hv
    obtain ⟨w, hw, rw_⟩ := Vals.at rv hv'
    exact ⟨w, H, I.kept hk, rw_, q i w hw (reads_at lay (keepsAll hk rd) hv' hr (minD_mem xs x))⟩
theorem cr_maxG (hc : X.calm = true) (hu : X.A.units + 64 < cLine) : CallR X (.builtin "max") (rBest X.K PySem.W.maxD) := by
  intro pins s σ H vs us Q I r h
  obtain ⟨a, ws, x, xs, rfl, hs, dp, ab, q⟩ := h
  obtain ⟨al, dep, lay⟩ := alkB_ok ab
  rw [Vals.ref1 r]
  rcases hs with hs | hs
  · obtain ⟨its, rv, hl, _⟩ := I.list hs
    obtain ⟨as, rd⟩ := Dp.readsAll I (x :: xs) ws its dp rv
    refine PySem.W.max_list_data (I.ok.hd hc) hl.isList rd al (by omega) fun i v h' tk bs hv hr hk => ?_
    have hv' : its[i]? = some v := by simpa using hv
    obtain ⟨w, hw, rw_⟩ := Vals.at rv hv'
    exact ⟨w, H, I.kept hk, rw_, q i w hw (reads_at lay (keepsAll hk rd) hv' hr (maxD_mem xs x))⟩
  · obtain ⟨its, rv, hl, _⟩ := I.tuple hs
    obtain ⟨as, rd⟩ := Dp.readsAll I (x :: xs) ws its dp rv
    refine PySem.W.max_tuple_data (I.ok.hd hc) hl rd al (by omega) fun i v h' tk bs hv hr hk => ?_
    have hv' : its[i]? = some v := by simpa using hv
    obtain ⟨w, hw, rw_⟩ := Vals.at rv hv'
    exact ⟨w, H, I.kept hk, rw_, q i w hw (reads_at lay (keepsAll hk rd) hv' hr (maxD_mem xs x))⟩
theorem alkB_lay {xs : List Da} (h : alkB xs = true) : PyData.canLayAll0 xs = true :=
  (Bool.and_eq_true_iff.mp (Bool.and_eq_true_iff.mp (Bool.and_eq_true_iff.mp h).2).2).2
theorem best_s {mg : MG} {W : WX} {σ : L2.St} {O : List Addr} {H0 H : Hp} {fl : Fl} {v : V} {a : Da} {xs : List Da} {Q : VK} {f : Da → List Da → Da} {g : List Da → R Da} (hg0 : g [] = .bad) (hg : ∀ x xs, g (x :: xs) = if alkB (x :: xs) then .ok (f x xs) else .bad)
    (hx : Res X.K H0 H O fl v a) (ha : a = .list xs ∨ a = .tuple xs) (h : FinG mg W σ H (g xs) (PE_ X.K H O .sh Q)) : rBest X.K f [v] H Q := by
  cases xs with
  | nil => rw [hg0] at h; exact h.elim
  | cons x xs =>
    rw [hg] at h
    split at h
    · rename_i c
      have fin : ∀ {ws : List V}, RpAll X.K H O ws (x :: xs) → ∀ (i : Nat) (v : V), ws[i]? = some v → (x :: xs)[i]? = some (f x xs) → Q v H := fun r i v hv hd => by
        obtain ⟨d, e, rd⟩ := r.getV hv
        rw [hd] at e
        cases e
        exact PE_.now h rd
      rcases ha with rfl | rfl
      · obtain ⟨p, vs, rfl, s1, r1, n1⟩ := hx.list
        exact ⟨p, vs, x, xs, rfl, .inl s1, RpAll.dp (alkB_lay c) r1, c, fin r1⟩
      · obtain ⟨p, vs, rfl, s1, r1, n1⟩ := hx.tuple
        exact ⟨p, vs, x, xs, rfl, .inr s1, RpAll.dp (alkB_lay c) r1, c, fin r1⟩
    · exact h.elim
theorem cs_minG : CallS X (rBest X.K PySem.W.minD) .sh dMinG := by
  intro mg W σ O H0 H fls xs as Q nw hx h
  unfold dMinG at h
  split at h
  · cases hx with
    | cons h1 t => cases t; exact best_s rfl (fun _ _ => rfl) h1 (.inl rfl) h
  · cases hx with
    | cons h1 t => cases t; exact best_s rfl (fun _ _ => rfl) h1 (.inr rfl) h
  · exact h.elim
theorem cs_maxG : CallS X (rBest X.K PySem.W.maxD) .sh dMaxG := by
  intro mg W σ O H0 H fls xs as Q nw hx h
  unfold dMaxG at h
  split at h
  · cases hx with
    | cons h1 t => cases t; exact best_s rfl (fun _ _ => rfl) h1 (.inl rfl) h
  · cases hx with
    | cons h1 t => cases t; exact best_s rfl (fun _ _ => rfl) h1 (.inr rfl) h
  · exact h.elim
theorem de_minG (hc : X.calm = true) (hu : X.A.units + 64 < cLine) (m : X.mg "min" = none) (he : DE X W Γ e fl se) (hg : Gl X "min" := by show _ = _; kernel_rfl) (h1 : starEach [e] X.env = (false, eval e X.env) :: starEach [] X.env := by kernel_rfl) (h2 : (backTo pos (starEach [] X.env)).any (·.1) = false := by kernel_rfl) : DE X W Γ (.Call (.Name "min" p) [e] [] pos) .sh (eA dMinG (aCons se aNil)) :=
  de_callB (cr_minG hc hu) cs_minG hg m boot_min (da_cons he da_nil h1) (by decide) (by decide) h1 h2
theorem de_maxG (hc : X.calm = true) (hu : X.A.units + 64 < cLine) (m : X.mg "max" = none) (he : DE X W Γ e fl se) (hg : Gl X "max" := by show _ = _; kernel_rfl) (h1 : starEach [e] X.env = (false, eval e X.env) :: starEach [] X.env := by kernel_rfl) (h2 : (backTo pos (starEach [] X.env)).any (·.1) = false := by kernel_rfl) : DE X W Γ (.Call (.Name "max" p) [e] [] pos) .sh (eA dMaxG (aCons se aNil)) :=
  de_callB (cr_maxG hc hu) cs_maxG hg m boot_max (da_cons he da_nil h1) (by decide) (by decide) h1 h2
/-! sorted -/
def rSortG (K : PySem.W.Frag) : List V → Hp → VK → Prop := fun vs H Q => ∃ (a : Addr) (bs : List (V × Da)), vs = [V.ref a] ∧ SqL K H a (bs.map (·.1)) ∧ DpAll K H (bs.map (·.1)) (bs.map (·.2)) ∧ alkB (bs.map (·.2)) = true ∧ srtB (bs.map (·.2)) = true ∧
  ∀ p, H p = none → Q (.ref p) (upd H p (.lst ((bs.mergeSort (PySem.W.dataLe false (·.2))).map (·.1))))
theorem each_vals : ∀ {bs : List (V × Da)} {its : List Value}, Vals (bs.map (·.1)) its → PySem.W.EachIs (fun u b => RelV b.1 u) its bs
  | [], _, h => by cases h; exact .nil
  | b :: bs, _, h => by
    rw [List.map_cons] at h
    cases h with
    | cons r t => exact .cons r (each_vals t)
theorem vals_each : ∀ {bs : List (V × Da)} {its : List Value}, PySem.W.EachIs (fun u b => RelV b.1 u) its bs → Vals (bs.map (·.1)) its
  | _, _, .nil => .nil
  | _, _, .cons r t => .cons r (vals_each t)
theorem each_reads {h : Heap} : ∀ {bs : List (V × Da)} {its : List Value} {as : List Addr}, ReadsAll h its (bs.map (·.2)) as → PySem.W.EachIs (fun u b => ∃ as, Reads h u b.2 as) its bs
  | [], _, _, h => by cases h; exact .nil
  | b :: bs, _, _, h => by
    rw [List.map_cons] at h
    cases h with
    | cons r t => exact .cons ⟨_, r⟩ (each_reads t)
theorem cr_sortG (hu : X.A.units + 64 < cLine) : CallR X (.builtin "sorted") (rSortG X.K) := by
  intro pins s σ H vs us Q I r h
  obtain ⟨a, bs, rfl, hs, dp, ab, sb, q⟩ := h
  obtain ⟨al, dep, lay⟩ := alkB_ok ab
  rw [Vals.ref1 r]
  obtain ⟨its, rv, hl, hz⟩ := I.list hs
  obtain ⟨as, rd⟩ := Dp.readsAll I (bs.map (·.2)) _ its dp rv
  rw [List.length_map] at hz
  refine PySem.W.sorted_data (enc := fun b : V × Da => b.2) hl.isList (each_vals rv) (each_reads rd) (fun d hd d' hd' => al.1 d hd d' hd') (srtB_ok sb) hz (fun b hb => by
    have := depth_mem (List.mem_map.mpr ⟨b, hb, rfl⟩ : b.2 ∈ bs.map (·.2))
    omega) fun out ho eo => ?_
  obtain ⟨ep, he'⟩ := PyProof.Rows.sortedAll_at s.heap its out.toArray
  have hlen : ((bs.mergeSort (PySem.W.dataLe false (·.2))).map (·.1)).length ≤ sizeLine := by
    rw [List.length_map, List.length_mergeSort]
    exact hz
  exact ⟨.ref _, upd H (s.heap.objs.size + 1) (.lst ((bs.mergeSort (PySem.W.dataLe false (·.2))).map (·.1))), I.laid (t' := s.toks) (fun _ _ => PyProof.Rows.sortedAll_old) (Nat.le_succ _) ⟨hlen, out, ep, vals_each eo, he'⟩, rfl, q _ (I.hok.fresh (Nat.le_succ _))⟩
theorem RpAll.zip {K : PySem.W.Frag} {H : Hp} {O : List Addr} : ∀ {vs : List V} {ds : List Da}, RpAll K H O vs ds → ∃ bs : List (V × Da), vs = bs.map (·.1) ∧ ds = bs.map (·.2) ∧ ∀ b, b ∈ bs → Rp K H O b.1 b.2
  | _, _, .nil => ⟨[], rfl, rfl, fun _ h => nomatch h⟩
  | _, _, .cons (v := v) (d := d) h t => by
    obtain ⟨bs, e1, e2, e3⟩ := RpAll.zip t
    subst e1 e2
    exact ⟨(v, d) :: bs, rfl, rfl, fun b hb => by
      rcases List.mem_cons.mp hb with e | hb
      · subst e; exact h
      · exact e3 b hb⟩
theorem RpAll.unzip {K : PySem.W.Frag} {H : Hp} {O : List Addr} : ∀ {bs : List (V × Da)}, (∀ b, b ∈ bs → Rp K H O b.1 b.2) → RpAll K H O (bs.map (·.1)) (bs.map (·.2))
  | [], _ => .nil
  | b :: bs, h => .cons (h b List.mem_cons_self) (RpAll.unzip fun c hc => h c (List.mem_cons_of_mem _ hc))
theorem cs_sortG : CallS X (rSortG X.K) .fr dSortG := by
  intro mg W σ O H0 H fls xs as Q nw hx h
  unfold dSortG at h
  split at h
  · cases hx with
    | cons h1 t =>
      cases t
      obtain ⟨p, vs, rfl, s1, r1, n1⟩ := h1.list
      split at h
      · rename_i c
        obtain ⟨c1, c2⟩ := Bool.and_eq_true_iff.mp c
        obtain ⟨bs, e1, e2, e3⟩ := r1.zip
        subst e1 e2
        refine ⟨p, bs, rfl, s1, RpAll.dp (alkB_lay c1) r1, c1, c2, fun q hq => ?_⟩
        have em : (bs.mergeSort (PySem.W.dataLe false (·.2))).map (·.2) = (bs.map (·.2)).mergeSort (PySem.W.dataLe false id) := List.map_mergeSort fun a _ b _ => rfl
        have r2 : RpAll X.K H O ((bs.mergeSort (PySem.W.dataLe false (·.2))).map (·.1)) ((bs.map (·.2)).mergeSort (PySem.W.dataLe false id)) := by
          rw [← em]
          exact RpAll.unzip fun b hb => e3 b ((List.mergeSort_perm _ _).mem_iff.mp hb)
        exact PE_.newL h r2 (by rw [List.length_mergeSort]; exact n1) hq (nw q hq)
      · exact h.elim
  · exact h.elim
theorem de_sortG (hu : X.A.units + 64 < cLine) (m : X.mg "sorted" = none) (he : DE X W Γ e fl se) (hg : Gl X "sorted" := by show _ = _; kernel_rfl) (h1 : starEach [e] X.env = (false, eval e X.env) :: starEach [] X.env := by kernel_rfl) (h2 : (backTo pos (starEach [] X.env)).any (·.1) = false := by kernel_rfl) : DE X W Γ (.Call (.Name "sorted" p) [e] [] pos) .fr (eA dSortG (aCons se aNil)) :=
  de_callB (cr_sortG hu) cs_sortG hg m boot_sorted (da_cons he da_nil h1) (by decide) (by decide) h1 h2
/-! comparisons -/
def rCmpG (K : PySem.W.Frag) (f : Da → Da → Bool) : R2 := fun x y H Q => ∃ d e, Dp K H x d ∧ Dp K H y e ∧ alkB [d, e] = true ∧ Q (.bl (f d e)) H
theorem alk2 {a b : Da} (h : alkB [a, b] = true) : PySem.W.alike a b = true ∧ a ≠ .none ∧ min a.depth b.depth ≤ 50 := by
  obtain ⟨⟨h1, h2⟩, h3, _⟩ := alkB_ok h
  have := depth_mem (xs := [a, b]) (d := a) List.mem_cons_self
  exact ⟨h1 a List.mem_cons_self b (List.mem_cons_of_mem _ List.mem_cons_self), h2 a List.mem_cons_self, by omega⟩
theorem op_ltG (hu : X.A.units + 64 < cLine) : OpR X (compareOp .Lt) (rCmpG X.K fun a b => PySem.W.dataLt a b) := by
  intro pins s σ H x y v u Q I rx ry h
  obtain ⟨d, e, hd, he, ab, q⟩ := h
  obtain ⟨as, r1⟩ := Dp.reads I d x v hd rx
  obtain ⟨bs, r2⟩ := Dp.reads I e y u he ry
  obtain ⟨a1, a2, a3⟩ := alk2 ab
  exact PySem.W.lt_data r1 r2 a1 a2 (by omega) ⟨.bl _, H, I, rfl, q⟩
theorem op_gtG (hu : X.A.units + 64 < cLine) : OpR X (compareOp .Gt) (rCmpG X.K fun a b => PySem.W.dataLt b a) := by
  intro pins s σ H x y v u Q I rx ry h
  obtain ⟨d, e, hd, he, ab, q⟩ := h
  obtain ⟨as, r1⟩ := Dp.reads I d x v hd rx
  obtain ⟨bs, r2⟩ := Dp.reads I e y u he ry
  obtain ⟨a1, a2, a3⟩ := alk2 ab
  exact PySem.W.gt_data r1 r2 a1 a2 (by omega) ⟨.bl _, H, I, rfl, q⟩
theorem op_leG (hu : X.A.units + 64 < cLine) : OpR X (compareOp .LtE) (rCmpG X.K fun a b => !PySem.W.dataLt b a) := by
  intro pins s σ H x y v u Q I rx ry h
  obtain ⟨d, e, hd, he, ab, q⟩ := h
  obtain ⟨as, r1⟩ := Dp.reads I d x v hd rx
  obtain ⟨bs, r2⟩ := Dp.reads I e y u he ry
  obtain ⟨a1, a2, a3⟩ := alk2 ab
  exact PySem.W.le_data r1 r2 a1 a2 (by omega) ⟨.bl _, H, I, rfl, q⟩
theorem op_geG (hu : X.A.units + 64 < cLine) : OpR X (compareOp .GtE) (rCmpG X.K fun a b => !PySem.W.dataLt a b) := by
  intro pins s σ H x y v u Q I rx ry h
  obtain ⟨d, e, hd, he, ab, q⟩ := h
  obtain ⟨as, r1⟩ := Dp.reads I d x v hd rx
  obtain ⟨bs, r2⟩ := Dp.reads I e y u he ry
  obtain ⟨a1, a2, a3⟩ := alk2 ab
  exact PySem.W.ge_data r1 r2 a1 a2 (by omega) ⟨.bl _, H, I, rfl, q⟩
theorem os_cmpG {f : Da → Da → Bool} {g : Da → Da → R Da} (hg : ∀ a b, g a b = if alkB [a, b] then .ok (.bool (f a b)) else .bad) : OpS X (rCmpG X.K f) .fr g := by
  intro mg W σ O H0 H x y a b Q nw hx hy h
  rw [hg] at h
  split at h
  · rename_i c
    have l := alkB_lay c
    unfold PyData.canLayAll0 at l
    obtain ⟨l1, l2⟩ := Bool.and_eq_true_iff.mp l
    unfold PyData.canLayAll0 at l2
    exact ⟨a, b, hx.dp l1, hy.dp (Bool.and_eq_true_iff.mp l2).1, c, PE_.flat h (.bl _) rfl⟩
  · exact h.elim
theorem os_ltG : OpS X (rCmpG X.K fun a b => PySem.W.dataLt a b) .fr dLtG := os_cmpG fun _ _ => rfl
theorem os_gtG : OpS X (rCmpG X.K fun a b => PySem.W.dataLt b a) .fr dGtG := os_cmpG fun _ _ => rfl
theorem os_leG : OpS X (rCmpG X.K fun a b => !PySem.W.dataLt b a) .fr dLeG := os_cmpG fun _ _ => rfl
theorem os_geG : OpS X (rCmpG X.K fun a b => !PySem.W.dataLt a b) .fr dGeG := os_cmpG fun _ _ => rfl
theorem bl_G {f : Da → Da → Bool} {g : Da → Da → R Da} (hg : ∀ a b, g a b = if alkB [a, b] then .ok (.bool (f a b)) else .bad) (x y z : Da) (h : g x y = .ok z) : ∃ k, z = .bool k := by
  rw [hg] at h
  split at h
  · cases h; exact ⟨_, rfl⟩
  · cases h
theorem bl_ltG (x y z : Da) (h : dLtG x y = .ok z) : ∃ k, z = .bool k := bl_G (f := fun a b => PySem.W.dataLt a b) (g := dLtG) (fun _ _ => rfl) x y z h
theorem bl_gtG (x y z : Da) (h : dGtG x y = .ok z) : ∃ k, z = .bool k := bl_G (f := fun a b => PySem.W.dataLt b a) (g := dGtG) (fun _ _ => rfl) x y z h
theorem bl_leG (x y z : Da) (h : dLeG x y = .ok z) : ∃ k, z = .bool k := bl_G (f := fun a b => !PySem.W.dataLt b a) (g := dLeG) (fun _ _ => rfl) x y z h
theorem bl_geG (x y z : Da) (h : dGeG x y = .ok z) : ∃ k, z = .bool k := bl_G (f := fun a b => !PySem.W.dataLt a b) (g := dGeG) (fun _ _ => rfl) x y z h
end
end DL
set_option Elab.async false
set_option linter.all false
set_option maxRecDepth 100000
namespace DL
open PySem PySem.Spec PyProof.Rows L2
/-! ### e[::-1] -/
section
variable {prog : Program} {w : World} {A : Around} {E : Value → Shared → Prop} {s : Shared}
theorem adjust_back (n : Nat) : Builtin.Slice.sliceAdjust none none (-1) (n : Int) = ((n : Int) - 1, -1) := by
  first | rfl | simp [Builtin.Slice.sliceAdjust]
theorem places_back (n : Nat) : Builtin.Slice.slicePlaces ((n : Int) - 1) (-1) (-1) = n := by
  unfold Builtin.Slice.slicePlaces
  simp
  omega
theorem applied_back {sl : Addr} {t : Tok} {n : Nat} {Q : Int × Int × Nat → Shared → Prop} (hs : s.heap.IsSliceOf sl .none .none (.int (-1) t))
    (h : Q ((n : Int) - 1, -1, n) s) : wpAny (model prog w) A (Builtin.Slice.sliceApplied (.ref sl) (pure (n : Int))) Q E s := by
  obtain ⟨os, hos, hcs, hds⟩ := hs
  unfold Builtin.Slice.sliceApplied
  unfold Builtin.Slice.sliceFields
  refine wpAny_bind ?_
  refine wpAny_bind (wpAny_field hos hds (x := .none) rfl ?_)
  refine wpAny_bind (wpAny_field hos hds (x := .none) rfl ?_)
  refine wpAny_bind (wpAny_field hos hds (x := .int (-1) t) rfl (wpAny_pure ?_))
  refine wpAny_bind (slicePart_int ?_)
  show wpAny _ _ (if ((-1 : Int) == 0) = true then _ else _) _ _ s
  rw [if_neg (by decide)]
  refine wpAny_bind (slicePart_none (wpAny_bind (slicePart_none (wpAny_bind (wpAny_pure ?_)))))
  show wpAny _ _ (match Builtin.Slice.sliceAdjust none none (-1) (n : Int) with | (lo, hi) => pure (lo, (-1 : Int), Builtin.Slice.slicePlaces lo hi (-1))) _ _ s
  rw [adjust_back n]
  show wpAny _ _ (pure (((n : Int) - 1), (-1 : Int), Builtin.Slice.slicePlaces ((n : Int) - 1) (-1) (-1))) _ _ s
  rw [places_back]
  exact wpAny_pure h
theorem pick_back (xs : Array Value) : ((List.range xs.size).filterMap fun (m : Nat) => xs[(((xs.size : Int) - 1) + (m : Int) * -1).toNat]?).toArray = xs.toList.reverse.toArray := by
  have e : (List.range xs.size).filterMap (fun (m : Nat) => xs[(((xs.size : Int) - 1) + (m : Int) * -1).toNat]?) = ((List.range xs.size).map fun k => xs.size - 1 - k).filterMap (xs[·]?) := by
    rw [List.filterMap_map]
    congr 1
    funext m
    show xs[(((xs.size : Int) - 1) + (m : Int) * -1).toNat]? = xs[xs.size - 1 - m]?
    congr 1
    omega
  rw [e, PySem.W.krv_range, List.filterMap_reverse, PySem.W.krv_all]
theorem getItem_tuple_back {t sl : Addr} {items : Array Value} {tk : Tok} {Q : Value → Shared → Prop} (ht : IsTup s.heap t items) (hs : s.heap.IsSliceOf sl .none .none (.int (-1) tk))
    (h : Q (.ref s.heap.objs.size) { s with heap := s.heap.push { cls := .type "tuple", data := .seq items.toList.reverse.toArray } }) (hsz : items.size ≤ sizeLine) : wpAny (model prog w) A (getItem (.ref t) (.ref sl)) Q E s := by
  have hok : sizeOk (.seq items.toList.reverse.toArray) := by
    show items.toList.reverse.toArray.size ≤ sizeLine
    simpa using hsz
  obtain ⟨os, hos, hcs, hds⟩ := id hs
  have hT : s.TypeIs (.ref sl) "slice" := ⟨os, hos, hcs⟩
  unfold getItem
  try with_reducible refine wpAny_holding ?_
  first | refine wpAny_bind (wpAny_pure ?_) | skip
  refine wpAny_bind (wpAny_sequenceKey ht.typeIs (by decide) ?_)
  have se := PyProof.Rows.slot_tuple_getitem
  refine wpAny_bind (wpAny_callSpecial?_slot (name := Str.ofString "__getitem__") ht.typeIs se (wpAny_call_entry se ht.typeIs entry_tuple_getitem ?_ (args_tuple_getitem _ _)))
  show wpAny _ _ (Builtin.Tuple.tupleItemsOf (.ref t) >>= _) _ _ s
  refine wpAny_bind (tupleItemsOf_ ht (wpAny_bind (wpAny_typeOf hT ?_)))
  rw [if_pos (by decide)]
  refine wpAny_bind (applied_back hs ?_)
  show wpAny _ _ (if (((items.size : Int) - 1) == 0 && (-1 : Int) == 1 && items.size == items.size) = true then _ else _) _ _ s
  rw [if_neg (by simp), pick_back]
  first
    | exact wpAny_bind (m := Builtin.Tuple.tupleExact _) (wpAny_newObj_type (wpAny_pure ⟨_, rfl, wpAny_pure h⟩) hok)
    | exact wpAny_bind (m := Builtin.Tuple.tupleExact _) (wpAny_newObj_type (wpAny_bind (wpAny_pure (wpAny_pure ⟨_, rfl, wpAny_pure h⟩))) hok)
    | exact wpAny_bind (wpAny_bind (m := Builtin.Tuple.tupleExact _) (wpAny_newObj_type (wpAny_pure (wpAny_pure ⟨_, rfl, wpAny_pure h⟩)) hok))
    | exact wpAny_bind (wpAny_bind (m := Builtin.Tuple.tupleExact _) (wpAny_newObj_type (wpAny_pure ⟨_, rfl, wpAny_pure h⟩) hok))
end
section
variable {X : Cx} {W : WX} {Γ : List Nat} {e : Expr} {fl : Fl} {se : SE} {pos p p1 p2 p3 : Pos} {k : Nat}
/-- e[::-1], e a list or a tuple -/
def tRevA (K : PySem.W.Frag) (te : TE) : TE := fun σ H Q => te σ H fun x H1 => ∃ a xs, x = .ref a ∧
  ((SqL K H1 a xs ∧ ∀ q, H1 q = none → Q (.ref q) (upd H1 q (.lst xs.reverse))) ∨ (SqT K H1 a xs ∧ ∀ q, H1 q = none → Q (.ref q) (upd H1 q (.tup xs.reverse))))
theorem pe_revA {te : TE} (he : PE X e te) : PE X (.Subscript e (.Slice none none (some (.UnaryOp .USub (.Constant (.int 1) k p1) p2)) p3) pos) (tRevA X.K te) := by
  refine ⟨fun pins s σ H Q I h => Subscript_ (thn (he.run pins s σ H _ I h) fun v s1 ⟨x, H1, I1, r1, a, xs, ex, q⟩ => ?_)⟩
  subst ex
  cases r1
  have minus : PO X (some (.UnaryOp .USub (.Constant (.int 1) k p1) p2)) (tPart (tUn (rU fun i => .int (-i)) (tC (.int 1)))) := po_some (pe_un un_neg pe_int)
  have no1 := po_none.run pins s1 σ H1 (fun o H2 => o = none ∧ H2 = H1) I1 ⟨rfl, rfl⟩
  refine wpAny_Slice (thn no1 ?_)
  rintro vl s2 ⟨l, H2, I2, pl, rfl, rfl⟩
  have no2 := po_none.run pins s2 σ H2 (fun o H3 => o = none ∧ H3 = H2) I2 ⟨rfl, rfl⟩
  refine thn no2 ?_
  rintro vu s3 ⟨u, H3, I3, pu, rfl, rfl⟩
  have st := minus.run pins s3 σ H3 (fun o H4 => o = some (-1) ∧ H4 = H3) I3 ⟨1, rfl, -1, rfl, rfl, rfl⟩
  refine thn st ?_
  rintro vs s4 ⟨o, H4, I4, ps, rfl, rfl⟩
  have I5 : Inv X pins σ H4 { s4 with heap := s4.heap.push { cls := .type "slice", data := .fields #[vl, vu, vs] } } := I4.kept (t' := s4.toks) fun b ob q => Heap.get?_push_of_some _ q
  show wpAny (model X.prog X.w) X.A (subscriptTail e (.Slice none none (some (.UnaryOp .USub (.Constant (.int 1) k p1) p2)) p3) (.ref a) (.ref s4.heap.objs.size)) (EP X pins σ Q) X.xe { s4 with heap := s4.heap.push { cls := .type "slice", data := .fields #[vl, vu, vs] } }
  rcases q with ⟨hx, q⟩ | ⟨hx, q⟩
  · obtain ⟨its, r, ht, hz⟩ := I5.list hx
    have hlen := r.length
    refine tail_any (ops := [.ref a, .ref s4.heap.objs.size]) ht.isList.typeIs PySem.slot_list_getitem.lookup ?_ (by with_unfolding_all rfl)
    refine wpAny_getItem_list_slice ht.isList (Heap.IsSliceOf.new _ vl vu vs) pl pu ps (by decide) ?_ (by rw [List.size_toArray]; omega)
    rw [PySem.W.krv_pick]
    exact ⟨.ref _, _, I5.laid (t' := s4.toks) (o := .lst xs.reverse) (fun b ob q => Heap.get?_push_of_some _ q) (Nat.le_refl _) ⟨by rw [List.length_reverse]; exact hz, _, 0, r.reverse, Heap.get?_push_size _ rfl⟩, rfl, q _ (I5.hok.fresh (Nat.le_refl _))⟩
  · obtain ⟨its, r, ht, hz⟩ := I5.tuple hx
    have hlen := r.length
    cases pl
    cases pu
    cases ps
    refine tail_any (ops := [.ref a, .ref s4.heap.objs.size]) ht.typeIs PyProof.Rows.slot_tuple_getitem.lookup ?_ (by with_unfolding_all rfl)
    refine getItem_tuple_back ht (Heap.IsSliceOf.new _ _ _ _) ?_ (by rw [List.size_toArray]; omega)
    exact ⟨.ref _, _, I5.laid (t' := s4.toks) (o := .tup xs.reverse) (fun b ob q => Heap.get?_push_of_some _ q) (Nat.le_refl _) ⟨by rw [List.length_reverse]; exact hz, _, r.reverse, IsTup.new _ _⟩, rfl, q _ (I5.hok.fresh (Nat.le_refl _))⟩
theorem de_rev (he : DE X W Γ e fl se) : DE X W Γ (.Subscript e (.Slice none none (some (.UnaryOp .USub (.Constant (.int 1) k p1) p2)) p3) pos) .fr (e1 dRev se) :=
  pe_imp (pe_revA he) fun σ H Q h => by
    obtain ⟨ρ, F, GO, E, h⟩ := h
    refine at_e E h fun d v H1 s1 r1 E1 h1 => ?_
    cases d with
    | list ds =>
      obtain ⟨q, vs, rfl, sq, r, n⟩ := r1.list
      have h2 : FinG X.mg W σ H1 (R.ok (PyData.list ds.reverse)) (PE_ X.K H (Ads GO ++ F) .fr Q) := h1
      exact ⟨q, vs, rfl, .inl ⟨sq, fun t ht => PE_.newL (K := X.K) (Q := Q) (O := Ads GO ++ F) (PE_.mono s1 h2) r.reverse (by rw [List.length_reverse]; exact n) ht (E1.fresh t ht)⟩⟩
    | tuple ds =>
      obtain ⟨q, vs, rfl, sq, r, n⟩ := r1.tuple
      have h2 : FinG X.mg W σ H1 (R.ok (PyData.tuple ds.reverse)) (PE_ X.K H (Ads GO ++ F) .fr Q) := h1
      exact ⟨q, vs, rfl, .inr ⟨sq, fun t ht => PE_.newT (PE_.mono s1 h2) r.reverse (by rw [List.length_reverse]; exact n) ht⟩⟩
    | none => exact h1.elim
    | bool _ => exact h1.elim
    | int _ => exact h1.elim
    | str _ => exact h1.elim
    | dict _ => exact h1.elim
end
end DL
set_option Elab.async false
set_option linter.all false
set_option maxRecDepth 100000
namespace DL
open PySem PySem.Spec PyProof.Rows L2

/-- the own slots behind it -/
def oAdd (o : Bool) (i : Nat) (Γ : List Nat) : List Nat := match o with | true => i :: Γ | false => Γ
def flO (o : Bool) (fl : Fl) : Bool := match o, fl with | true, .fr => true | true, _ => false | false, .bo => false | false, _ => true

section
variable {X : Cx} {W : WX} {Γ Γ' : List Nat} {e1 e2 : Expr} {fa fb : Fl} {sa sb : SE}
theorem Own.perm {K : PySem.W.Frag} {H : Hp} {O O' : List Addr} {p : Addr} {d : Da} (hO : ∀ b, b ∈ O' → b ∈ O) (h : Own K H O p d) : Own K H O' p d := h.mono (.sub_ (.refl H) hO) List.not_mem_nil
/-- the first part is owned, the second runs above it -/
theorem par_s {oi oj : Bool} {i j : Nat} (hi : Γ.contains i = false) (hj : Γ.contains j = false) (hij : i ≠ j) (fa' : flO oi fa = true) (fb' : flO oj fb = true) {D : Ends} {σ : L2.St} {H : Hp}
    (h : tDS X.K X.mg W Γ (oAdd oj j (oAdd oi i Γ)) (sPr oi oj i j sa sb) D σ H) : tPar i j (tCons (tDE X.K X.mg W Γ fa sa) (tCons (tDE X.K X.mg W Γ fb sb) tNil)) D σ H := by
  obtain ⟨ρ, F, GO, E, h⟩ := h
  have hi' : i ∉ Γ := fun z => by rw [List.contains_iff_mem.mpr z] at hi; cases hi
  have hj' : j ∉ Γ := fun z => by rw [List.contains_iff_mem.mpr z] at hj; cases hj
  refine ⟨ρ, F, GO, E, FinG.imp (FinS.ofG h) fun d1 _ h1 v H1 s1 r1 => ?_⟩
  have E1 := E.mono s1
  cases oi with
  | true =>
    cases fa with
    | fr =>
      cases d1 with
      | list ds1 =>
        obtain ⟨p1, rfl, hp1, ho1⟩ := r1.2 ds1 rfl
        obtain ⟨o1, ho1', _⟩ := ho1.mut
        have EU := E.under hp1 s1 (by rw [ho1']; exact fun z => nomatch z)
        have h1 : FinS X.K X.mg W (oAdd oj j (i :: Γ)) F GO H ((sb ρ).bind fun y => (asO oj y).bind fun y => if i < ρ.length ∧ j < ρ.length then .ok (.nx ((ρ.set i (some (.list ds1))).set j (some y))) else .bad) D := h1
        have h1' := FinS.later (GO1 := GO) (.of_same s1) same_new h1
        refine ⟨ρ, p1 :: F, GO, EU, FinG.imp (FinS.ofG h1') fun d2 e2 _ w H2 s2 r2 => ⟨.ref p1, w, rfl, ?_⟩⟩
        have s12 := s1.trans s2
        have subs : ∀ b, b ∈ Ads ((i, p1) :: GO) ++ F → b ∈ Ads GO ++ (p1 :: F) := fun b hb => by
          rcases List.mem_cons.mp hb with e | hb
          · subst e; exact List.mem_append_right _ List.mem_cons_self
          · rcases List.mem_append.mp hb with hb | hb
            · exact List.mem_append_left _ hb
            · exact List.mem_append_right _ (List.mem_cons_of_mem _ hb)
        have hjΓ : j ∉ i :: Γ := fun z => by
          rcases List.mem_cons.mp z with e | z
          · exact hij e.symm
          · exact hj' z
        rw [e2] at h1
        cases oj with
        | true =>
          cases fb with
          | fr =>
            cases d2 with
            | list ds2 =>
              obtain ⟨p2, rfl, hp2, ho2⟩ := r2.2 ds2 rfl
              have h3 : FinS X.K X.mg W (j :: i :: Γ) F GO H (if i < ρ.length ∧ j < ρ.length then .ok (.nx ((ρ.set i (some (.list ds1))).set j (some (.list ds2)))) else .bad) D := h1
              split at h3
              · rename_i hl
                have EA := E.setO s1 hi' hl.1 hp1 ho1
                have EB := EA.setO s2 (i := j) (p := p2) (d := .list ds2) hjΓ (by rw [List.length_set]; exact hl.2) hp2 (ho2.perm fun b hb => by
                  rcases List.mem_cons.mp hb with e | hb
                  · subst e; exact List.mem_cons_self
                  · exact List.mem_cons_of_mem _ (subs b hb))
                exact h3 _ H2 _ EB (.of_same s12) (fun b hb => by
                  rcases List.mem_cons.mp hb with e | hb
                  · subst e; exact .inr (s1.free hp2)
                  · rcases List.mem_cons.mp hb with e | hb
                    · subst e; exact .inr hp1
                    · exact .inl hb)
              · exact h3.elim
            | _ => exact h1.elim
          | _ => cases fb'
        | false =>
          have rw' : Rp X.K H2 (Ads GO ++ (p1 :: F)) w d2 := by
            cases fb with
            | bo => cases fb'
            | sh => exact r2
            | fr => exact r2.1
            | fd => exact r2.1
          have h3 : FinS X.K X.mg W (i :: Γ) F GO H (if i < ρ.length ∧ j < ρ.length then .ok (.nx ((ρ.set i (some (.list ds1))).set j (some d2))) else .bad) D := h1
          split at h3
          · rename_i hl
            have EA := (E.setO s1 hi' hl.1 hp1 ho1).mono s2
            have EB := EA.setS (i := j) hjΓ (rw'.mono (.sub_ (.refl H2) subs))
            exact h3 _ H2 _ EB (.of_same s12) (fun b hb => by
              rcases List.mem_cons.mp hb with e | hb
              · subst e; exact .inr hp1
              · exact .inl hb)
          · exact h3.elim
      | _ => exact h1.elim
    | _ => cases fa'
  | false =>
    have rv : Rp X.K H1 (Ads GO ++ F) v d1 := by
      cases fa with
      | bo => cases fa'
      | sh => exact r1
      | fr => exact r1.1
      | fd => exact r1.1
    have h1 : FinS X.K X.mg W (oAdd oj j Γ) F GO H ((sb ρ).bind fun y => (asO oj y).bind fun y => if i < ρ.length ∧ j < ρ.length then .ok (.nx ((ρ.set i (some d1)).set j (some y))) else .bad) D := h1
    have h1' := FinS.later (GO1 := GO) (.of_same s1) same_new h1
    refine ⟨ρ, F, GO, E1, FinG.imp (FinS.ofG h1') fun d2 e2 _ w H2 s2 r2 => ⟨v, w, rfl, ?_⟩⟩
    have s12 := s1.trans s2
    rw [e2] at h1
    cases oj with
    | true =>
      cases fb with
      | fr =>
        cases d2 with
        | list ds2 =>
          obtain ⟨p2, rfl, hp2, ho2⟩ := r2.2 ds2 rfl
          have h3 : FinS X.K X.mg W (j :: Γ) F GO H (if i < ρ.length ∧ j < ρ.length then .ok (.nx ((ρ.set i (some d1)).set j (some (.list ds2)))) else .bad) D := h1
          split at h3
          · rename_i hl
            have EA := E1.setS hi' rv
            have EB := EA.setO s2 (i := j) (p := p2) (d := .list ds2) hj' (by rw [List.length_set]; exact hl.2) hp2 ho2
            exact h3 _ H2 _ EB (.of_same s12) (fun b hb => by
              rcases List.mem_cons.mp hb with e | hb
              · subst e; exact .inr (s1.free hp2)
              · exact .inl hb)
          · exact h3.elim
        | _ => exact h1.elim
      | _ => cases fb'
    | false =>
      have rw' : Rp X.K H2 (Ads GO ++ F) w d2 := by
        cases fb with
        | bo => cases fb'
        | sh => exact r2
        | fr => exact r2.1
        | fd => exact r2.1
      have h3 : FinS X.K X.mg W Γ F GO H (if i < ρ.length ∧ j < ρ.length then .ok (.nx ((ρ.set i (some d1)).set j (some d2))) else .bad) D := h1
      split at h3
      · exact h3 _ H2 _ ((E1.setS hi' rv).mono s2 |>.setS hj' rw') (.of_same s12) same_new
      · exact h3.elim
/-- a, b = x, y -/
theorem ds_par {oi oj : Bool} {i j : Nat} {x y : Str} {px py pt pos : Pos} {kt k2 pt2} (hc : X.calm = true) (hN : X.N.Nodup) (hxi : X.N[i]? = some x) (hyj : X.N[j]? = some y) (hij : i ≠ j)
    (hx : X.env.scope.names.lookup x = some .local) (hy : X.env.scope.names.lookup y = some .local) (hi : Γ.contains i = false) (hj : Γ.contains j = false)
    (ha : DE X W Γ e1 fa sa) (hb : DE X W Γ e2 fb sb) (fa' : flO oi fa = true) (fb' : flO oj fb = true)
    (hw : swappedStores [.Tuple [.Name x px, .Name y py] kt pt] (.Tuple [e1, e2] k2 pt2) X.env = pure (some [x, y]) := by kernel_rfl)
    (hs : swapsWithSole [.Tuple [.Name x px, .Name y py] kt pt] (.Tuple [e1, e2] k2 pt2) pos.line X.env = pure false := by kernel_rfl)
    (h1 : starEach [e1, e2] X.env = (false, eval e1 X.env) :: starEach [e2] X.env := by kernel_rfl) (h2 : starEach [e2] X.env = (false, eval e2 X.env) :: starEach [] X.env := by kernel_rfl) :
    DS X W Γ (.Assign [.Tuple [.Name x px, .Name y py] kt pt] (.Tuple [e1, e2] k2 pt2) pos) (oAdd oj j (oAdd oi i Γ)) (sPr oi oj i j sa sb) :=
  ps_imp (ps_par hc hN hxi hyj hij hx hy (pa_cons ha (pa_cons hb pa_nil h2) h1) hw hs) fun D σ H h => par_s hi hj hij fa' fb' h
end
end DL
set_option Elab.async false
set_option linter.all false
set_option maxRecDepth 100000
/-! dicts whose keys are integers (and tuples of integers): read, put, walked -/
namespace DL
open PySem PySem.Spec PyProof.Rows L2

theorem asD_ok {d : Da} {fz tk : Bool} {kvs : List (Da × Da)} (h : asD d = .ok (fz, tk, kvs)) : d = dD fz tk kvs := by
  unfold asD at h
  split at h
  · cases h; rfl
  · cases h
section
variable {K : PySem.W.Frag} {H0 H : Hp} {O : List Addr} {fl : Fl} {v : V} {d : Da} {fz tk : Bool} {kvs : List (Da × Da)}
theorem Res.dict (h : Res K H0 H O fl v (dD fz tk kvs)) : ∃ p u vs, v = .ref p ∧ Rd H p u ∧ DkO tk (kvs.map (·.1)) vs u ∧ RpAll K H O vs (kvs.map (·.2)) ∧ kvs.length ≤ big ∧ (fz = true → ∃ o, H p = some (.frz o u)) := by
  rcases h.bo (H1 := H0) with h' | ⟨p, e, hp, ho⟩
  · unfold dD at h'
    cases h' with
    | dct hk k n r =>
      cases fz with
      | true => obtain ⟨o, hk⟩ := hk; exact ⟨_, _, _, rfl, .inr ⟨o, hk⟩, k, r, n, fun _ => ⟨o, hk⟩⟩
      | false => exact ⟨_, _, _, rfl, hk.1, k, r, n, fun z => nomatch z⟩
  · obtain ⟨tk', kvs', u, vs, e0, h1, h2, h3, h4⟩ := ho
    cases e0
    exact ⟨p, u, vs, e, .inl h1, h2, h3, h4, fun z => nomatch z⟩
end
/-! the pairs: ours and the kit's -/
section
variable {κ : Type} [DecidableEq κ] {K : PySem.W.Frag} {H : Hp} {O : List Addr} (p : Da → Option κ)
theorem pairs_get {κ0 : κ} {k : Da} (hk : p k = some κ0) : ∀ {kvs : List (Da × Da)} {kk : List (κ × V)}, kvs.map (fun z => p z.1) = kk.map (fun z => some z.1) → RpAll K H O (kk.map (·.2)) (kvs.map (·.2)) →
    ((kvs.find? fun z => decide (p z.1 = p k)).map (·.2) = none ∧ valV kk κ0 = none) ∨ ∃ d v, (kvs.find? fun z => decide (p z.1 = p k)).map (·.2) = some d ∧ valV kk κ0 = some v ∧ Rp K H O v d
  | [], [], _, _ => .inl ⟨rfl, rfl⟩
  | [], _ :: _, e, _ => nomatch e
  | _ :: _, [], e, _ => nomatch e
  | z :: kvs, w :: kk, e, r => by
    rw [List.map_cons, List.map_cons] at e r
    obtain ⟨e1, e2⟩ := List.cons.inj e
    cases r with
    | cons r1 r2 =>
      by_cases q : w.1 = κ0
      · refine .inr ⟨z.2, w.2, ?_, by rw [valV_pos q], r1⟩
        rw [List.find?_cons, e1, hk, q, decide_eq_true rfl]
        rfl
      · rw [valV_neg q, List.find?_cons, e1, hk, decide_eq_false (fun z => q (Option.some.inj z))]
        have := pairs_get hk e2 r2
        rw [hk] at this
        exact this
theorem pairs_any {κ0 : κ} {k : Da} (hk : p k = some κ0) : ∀ {kvs : List (Da × Da)} {kk : List (κ × V)}, kvs.map (fun z => p z.1) = kk.map (fun z => some z.1) → (kvs.any fun z => decide (p z.1 = p k)) = kk.any fun z => decide (z.1 = κ0)
  | [], [], _ => rfl
  | [], _ :: _, e => nomatch e
  | _ :: _, [], e => nomatch e
  | z :: kvs, w :: kk, e => by
    rw [List.map_cons, List.map_cons] at e
    obtain ⟨e1, e2⟩ := List.cons.inj e
    rw [List.any_cons, List.any_cons, pairs_any hk e2, e1, hk]
    congr 1
    exact decide_eq_decide.mpr ⟨Option.some.inj, congrArg some⟩
theorem pairs_put {κ0 : κ} {k : Da} (hk : p k = some κ0) {d : Da} {v : V} (r : Rp K H O v d) {kvs : List (Da × Da)} {kk : List (κ × V)} (e : kvs.map (fun z => p z.1) = kk.map (fun z => some z.1)) (ra : RpAll K H O (kk.map (·.2)) (kvs.map (·.2))) :
    ((if (kvs.any fun z => decide (p z.1 = p k)) = true then kvs.map (fun z => if decide (p z.1 = p k) = true then (z.1, d) else z) else kvs ++ [(k, d)]).map fun z => p z.1) = (putK kk κ0 v).map (fun z => some z.1) ∧
    RpAll K H O ((putK kk κ0 v).map (·.2)) ((if (kvs.any fun z => decide (p z.1 = p k)) = true then kvs.map (fun z => if decide (p z.1 = p k) = true then (z.1, d) else z) else kvs ++ [(k, d)]).map (·.2)) := by
  unfold putK
  rw [pairs_any p hk e]
  by_cases q : (kk.any fun z => decide (z.1 = κ0)) = true
  · rw [if_pos q, if_pos q]
    clear q
    rw [hk]
    induction kvs generalizing kk with
    | nil =>
      cases kk with
      | nil => exact ⟨rfl, .nil⟩
      | cons w kk => cases e
    | cons z kvs ih =>
      cases kk with
      | nil => cases e
      | cons w kk =>
        rw [List.map_cons, List.map_cons] at e ra
        obtain ⟨e1, e2⟩ := List.cons.inj e
        cases ra with
        | cons r1 r2 =>
          obtain ⟨i1, i2⟩ := ih e2 r2
          simp only [List.map_cons]
          by_cases q : w.1 = κ0
          · rw [e1, q, decide_eq_true rfl, if_pos rfl, if_pos rfl]
            exact ⟨by show p z.1 :: _ = _; rw [i1, e1, q], .cons r i2⟩
          · rw [e1, decide_eq_false (fun z => q (Option.some.inj z)), if_neg Bool.false_ne_true, if_neg q]
            exact ⟨by show p z.1 :: _ = _; rw [i1, e1], .cons r1 i2⟩
  · rw [if_neg q, if_neg q]
    rw [List.map_append, List.map_append, List.map_append, List.map_append]
    exact ⟨by rw [e]; simp [hk], ra.append (.cons r .nil)⟩
end
theorem isK_f {k : Da} (h : isK false k = true) : ∃ i : Int, k = .int i := by
  unfold isK key1 at h
  cases k with
  | int i => exact ⟨i, rfl⟩
  | _ => cases h
theorem isK_t {k : Da} (h : isK true k = true) : ∃ xs ks, k = .tuple xs ∧ keyL xs = some ks := by
  unfold isK keyT at h
  cases k with
  | tuple xs =>
    have h : (keyL xs).isSome = true := h
    obtain ⟨ks, e⟩ := Option.isSome_iff_exists.mp h
    exact ⟨xs, ks, rfl, e⟩
  | _ => cases h
theorem keyL_rel {K : PySem.W.Frag} {H : Hp} {O : List Addr} : ∀ {xs : List Da} {ks : List Key} {vs : List V}, keyL xs = some ks → RpAll K H O vs xs → vs = ks.map kV
  | [], _, _, e, r => by
    unfold keyL at e
    cases e
    cases r
    rfl
  | x :: xs, ks, vs, e, r => by
    cases r with
    | cons h t =>
      unfold keyL at e
      cases x with
      | int i =>
        cases q : keyL xs with
        | none => rw [q] at e; cases e
        | some ks' =>
          rw [q] at e
          cases e
          cases h
          rw [keyL_rel q t]
          rfl
      | _ => cases e
/-! x[k], k in x -/
section
variable {X : Cx} {W : WX} {Γ : List Nat} {a b : Expr} {fa fb fl : Fl} {sa sb se sk : SE} {pos : Pos}
theorem asDT_or (tk : Bool) (d : Da) : (∃ fz kvs, d = dD fz tk kvs) ∨ asDT tk d = .bad := by
  unfold asDT asD
  split
  · next fz t kvs =>
    by_cases e : t = tk
    · subst e; exact .inl ⟨fz, kvs, rfl⟩
    · right
      show (if t = tk then _ else _) = _
      rw [if_neg e]
  · exact .inr rfl
/-- what a run of a dict's reading shows -/
theorem dgo {α : Type} {mg : MG} {σ : L2.St} {H : Hp} {P : α → Prop} {tk : Bool} {d k : Da} {f : Bool × Bool × List (Da × Da) → R α} (h : FinG mg W σ H ((asDT tk d).bind fun z => (isKR tk k).bind fun _ => f z) P) :
    ∃ fz kvs, d = dD fz tk kvs ∧ isK tk k = true ∧ FinG mg W σ H (f (fz, tk, kvs)) P := by
  rcases asDT_or tk d with ⟨fz, kvs, rfl⟩ | e
  · rw [asDT_dD] at h
    have h : FinG mg W σ H ((isKR tk k).bind fun _ => f (fz, tk, kvs)) P := h
    unfold isKR at h
    by_cases hk : isK tk k = true
    · rw [if_pos hk] at h
      exact ⟨fz, kvs, rfl, hk, h⟩
    · rw [if_neg hk] at h
      exact h.elim
  · rw [e] at h
    exact h.elim
theorem dict_get {K : PySem.W.Frag} {H0 H : Hp} {O : List Addr} {v y : V} {fz : Bool} {k : Da} {kvs : List (Da × Da)} (hi : isK false k = true) (r : Res K H0 H O fa v (dD fz false kvs)) (rk : Res K H0 H O fb y k) :
    ∃ p o, v = .ref p ∧ DGet H p y o ∧ ((kget false k kvs = none ∧ o = none) ∨ ∃ x w, kget false k kvs = some x ∧ o = some w ∧ Rp K H O w x) := by
  obtain ⟨i, rfl⟩ := isK_f hi
  cases rk.int
  obtain ⟨p, u, vs, rfl, hu, hk, hr, _⟩ := r.dict
  obtain ⟨kk, rfl, rfl, e⟩ := hk
  rw [List.map_map] at e
  refine ⟨p, valV kk (.inl i), rfl, .inl ⟨kk, .inl i, hu, rfl, rfl⟩, ?_⟩
  have := pairs_get key1 (k := .int i) rfl e hr
  rcases this with ⟨h1, h2⟩ | ⟨x, w, h1, h2, h3⟩
  · exact .inl ⟨h1, h2⟩
  · exact .inr ⟨x, w, h1, h2, h3⟩
theorem de_dget (hu : X.A.units + 64 < cLine) (ha : DE X W Γ a fa sa) (hb : DE X W Γ b fb sb) (hs : NoSl b := by intro _ _; rfl) : DE X W Γ (.Subscript a b pos) .sh (e2 (dDGet false) sa sb) :=
  pe_imp (pe_dget (by omega) ha hb hs) fun σ H Q h => by
    obtain ⟨ρ, F, GO, E, h⟩ := h
    refine at_e E h fun d v H1 s1 r1 E1 h1 => at_e E1 h1 fun d2 v2 H2 s2 r2 E2 h2 => ?_
    obtain ⟨fz, kvs, rfl, hk, h3⟩ := dgo h2
    obtain ⟨p, o, rfl, g, q⟩ := dict_get hk (r1.mono s2) (r2.back s1 : Res X.K H H2 (Ads GO ++ F) fb v2 d2)
    rcases q with ⟨q1, _⟩ | ⟨x, w, q1, rfl, rw'⟩
    · rw [show oR (kget false d2 (fz, false, kvs).2.2) = .bad by rw [show (fz, false, kvs).2.2 = kvs from rfl, q1]; rfl] at h3
      exact h3.elim
    · rw [show oR (kget false d2 (fz, false, kvs).2.2) = .ok x by rw [show (fz, false, kvs).2.2 = kvs from rfl, q1]; rfl] at h3
      exact ⟨p, w, rfl, g, PE_.now (PE_.mono (s1.trans s2) h3) rw'⟩
theorem de_din (hu : X.A.units + 64 < cLine) (ha : DE X W Γ a fa sa) (hb : DE X W Γ b fb sb) (hm : behindInMarks .In b = false := by kernel_rfl) : DE X W Γ (.Compare a [.In] [b] pos) .fr (e2 (dDIn false) sa sb) :=
  pe_imp (pe_cmp (pc_din (by omega) ha hb) hm) fun σ H Q h => by
    obtain ⟨ρ, F, GO, E, h⟩ := h
    refine at_e E h fun d v H1 s1 r1 E1 h1 => at_e E1 h1 fun d2 v2 H2 s2 r2 E2 h2 => ?_
    obtain ⟨fz, kvs, rfl, hk, h3⟩ := dgo h2
    obtain ⟨p, o, rfl, g, q⟩ := dict_get hk (r2.back s1 : Res X.K H H2 (Ads GO ++ F) fb v2 _) (r1.mono s2)
    have e : (kget false d kvs).isSome = o.isSome := by
      rcases q with ⟨q1, rfl⟩ | ⟨x, w, q1, rfl, _⟩
      · rw [q1]; rfl
      · rw [q1]; rfl
    have h3 : FinG X.mg W σ H2 (R.ok (PyData.bool (kget false d kvs).isSome)) (PE_ X.K H (Ads GO ++ F) Fl.fr Q) := h3
    rw [e] at h3
    exact ⟨p, o, rfl, g, PE_.flat (PE_.mono (s1.trans s2) h3) (.bl _) rfl⟩
theorem de_dnin (hu : X.A.units + 64 < cLine) (ha : DE X W Γ a fa sa) (hb : DE X W Γ b fb sb) (hm : behindInMarks .NotIn b = false := by kernel_rfl) : DE X W Γ (.Compare a [.NotIn] [b] pos) .fr (e2 (dDNotIn false) sa sb) :=
  pe_imp (pe_cmp (pc_dnotin (by omega) ha hb) hm) fun σ H Q h => by
    obtain ⟨ρ, F, GO, E, h⟩ := h
    refine at_e E h fun d v H1 s1 r1 E1 h1 => at_e E1 h1 fun d2 v2 H2 s2 r2 E2 h2 => ?_
    obtain ⟨fz, kvs, rfl, hk, h3⟩ := dgo h2
    obtain ⟨p, o, rfl, g, q⟩ := dict_get hk (r2.back s1 : Res X.K H H2 (Ads GO ++ F) fb v2 _) (r1.mono s2)
    have e : (kget false d kvs).isSome = o.isSome := by
      rcases q with ⟨q1, rfl⟩ | ⟨x, w, q1, rfl, _⟩
      · rw [q1]; rfl
      · rw [q1]; rfl
    have h3 : FinG X.mg W σ H2 (R.ok (PyData.bool (!(kget false d kvs).isSome))) (PE_ X.K H (Ads GO ++ F) Fl.fr Q) := h3
    rw [e] at h3
    exact ⟨p, o, rfl, g, PE_.flat (PE_.mono (s1.trans s2) h3) (.bl _) rfl⟩
theorem asD_or (d : Da) : (∃ fz tk kvs, d = dD fz tk kvs) ∨ asD d = .bad := by
  unfold asD
  split
  · exact .inl ⟨_, _, _, rfl⟩
  · exact .inr rfl
theorem asM_or (d : Da) : (∃ tk kvs, d = dD false tk kvs) ∨ asM d = .bad := by
  unfold asM
  rcases asD_or d with ⟨fz, tk, kvs, rfl⟩ | e
  · cases fz with
    | true => exact .inr rfl
    | false => exact .inl ⟨tk, kvs, rfl⟩
  · rw [e]; exact .inr rfl
theorem asM_dD (tk : Bool) (kvs : List (Da × Da)) : asM (dD false tk kvs) = .ok (dD false tk kvs) := rfl
theorem putD_or (k v d : Da) : (∃ kvs, d = dD false false kvs ∧ kvs.length < big ∧ isK false k = true ∧ putD false k v d = .ok (dD false false (kput false k v kvs))) ∨ putD false k v d = .bad := by
  unfold putD
  rcases asDT_or false d with ⟨fz, kvs, rfl⟩ | e
  · rw [asDT_dD, R.bind_ok]
    by_cases c : fz = false ∧ kvs.length < big
    · obtain ⟨rfl, hl⟩ := c
      by_cases hk : isK false k = true
      · refine .inl ⟨kvs, rfl, hl, hk, ?_⟩
        rw [if_pos ⟨rfl, hl⟩]
        unfold isKR
        rw [if_pos hk]
        rfl
      · refine .inr ?_
        rw [if_pos ⟨rfl, hl⟩]
        unfold isKR
        rw [if_neg hk]
        rfl
    · exact .inr (if_neg c)
  · rw [e]; exact .inr rfl
/-! {}, {k: v}; x = {..}: x owns it -/
theorem fresh_dict {K : PySem.W.Frag} {H0 H : Hp} {O : List Addr} {p : Addr} {tk : Bool} {u : HO} {vs : List V} {kvs : List (Da × Da)} (hp : H0 p = none) (hO : p ∉ O) (hu : H p = some u) (k : DkO tk (kvs.map (·.1)) vs u) (n : kvs.length ≤ big) (r : RpAll K H (p :: O) vs (kvs.map (·.2))) : Res K H0 H O .fd (.ref p) (dD false tk kvs) := by
  refine ⟨.dct (fz := false) ⟨.inl hu, hO⟩ k n (r.mono (.sub_ (.refl H) fun b hb => List.mem_cons_of_mem _ hb)), fun tk' kvs' e => ?_⟩
  unfold dD at e
  cases e
  exact ⟨p, rfl, hp, tk, kvs, u, vs, rfl, hu, k, r, n⟩
theorem de_dnewK : DE X W Γ (.Dict [] [] pos) .fd (eC (dD false false [])) :=
  pe_imp pe_dnewK fun σ H Q h => by
    obtain ⟨ρ, F, GO, E, h⟩ := h
    intro p hp
    have h : PE_ X.K H (Ads GO ++ F) .fd Q (dD false false []) := h
    exact h _ _ (same_upd hp) (fresh_dict hp (E.newp hp) upd_same ⟨[], rfl, rfl, rfl⟩ (Nat.zero_le _) .nil)
theorem de_dnewT : DE X W Γ (.Dict [] [] pos) .fd (eC (dD false true [])) :=
  pe_imp pe_dnewT fun σ H Q h => by
    obtain ⟨ρ, F, GO, E, h⟩ := h
    intro p hp
    have h : PE_ X.K H (Ads GO ++ F) .fd Q (dD false true []) := h
    exact h _ _ (same_upd hp) (fresh_dict hp (E.newp hp) upd_same ⟨[], rfl, rfl, rfl⟩ (Nat.zero_le _) .nil)
/-- x = e, e a new dict: x owns it -/
theorem ownD_s {i : Nat} {D : Ends} {σ : L2.St} {H : Hp} (hΓ : Γ.contains i = false) (h : tDS X.K X.mg W Γ (i :: Γ) (sOwnD i se) D σ H) : tDE X.K X.mg W Γ .fd se σ H fun x H1 => gName i x σ H1 D.nx := by
  obtain ⟨ρ, F, GO, E, h⟩ := h
  have hi' : i ∉ Γ := fun z => by rw [List.contains_iff_mem.mpr z] at hΓ; cases hΓ
  unfold sOwnD at h
  refine ⟨ρ, F, GO, E, h.ofG.imp fun d _ h1 v H1 s1 r1 => ?_⟩
  rcases asM_or d with ⟨tk, kvs, rfl⟩ | e
  · obtain ⟨p, rfl, hp, ho⟩ := r1.2 tk kvs rfl
    rw [asM_dD] at h1
    have h2 : FinS X.K X.mg W (i :: Γ) F GO H (if i < ρ.length then .ok (.nx (ρ.set i (some (dD false tk kvs)))) else .bad) D := h1
    split at h2
    · rename_i hl
      exact h2 _ H1 _ (E.setO s1 hi' hl hp ho) (.of_same s1) (fun b hb => by
        rcases List.mem_cons.mp hb with e | hb
        · subst e; exact .inr hp
        · exact .inl hb)
    · exact h2.elim
  · rw [e] at h1
    exact h1.elim
theorem ds_ownD {i : Nat} {x : Str} {e : Expr} {p : Pos} (hN : X.N.Nodup) (hi : X.N[i]? = some x) (hx : Loc X.env.scope x) (hΓ : Γ.contains i = false) (he : DE X W Γ e .fd se) (hs : swapsWith e (some (.Name x p)) pos.line X.env = pure false := by kernel_rfl) (hff : X.fn x = true ∨ X.env.scope.names.lookup x = some .local := by first | exact .inl rfl | exact .inr rfl | assumption) :
    DS X W Γ (.Assign [.Name x p] e pos) (i :: Γ) (sOwnD i se) :=
  ps_imp (ps_set hN hi hx he hs hff) fun D σ H h => ownD_s hΓ h
/-! x[k] = e -/
theorem kput_len (tk : Bool) (k v : Da) (kvs : List (Da × Da)) : (kput tk k v kvs).length ≤ kvs.length + 1 := by
  unfold kput
  split
  · rw [List.length_map]; omega
  · rw [List.length_append, List.length_singleton]; omega
theorem ds_putD {i : Nat} {x : Str} {k e : Expr} {p tpos : Pos} {fk : Fl} (hu : X.A.units + 64 < cLine) (hN : X.N[i]? = some x) (hv : Vis X.env.scope x) (hΓ : Γ.contains i = true) (he : DE X W Γ e fl se) (hk : DE X W Γ k fk sk) (hf : storable [fl] = true := by kernel_rfl)
    (hd : (x == ("__debug__" : Str)) = false := by decide) (hcd : (x == ("__classdict__" : Str)) = false := by decide)
    (hs : swapsWith e (some (.Subscript (.Name x p) k tpos)) pos.line X.env = pure false := by kernel_rfl) :
    DS X W Γ (.Assign [.Subscript (.Name x p) k tpos] e pos) Γ (sPutD false i sk se) :=
  ps_imp (ps_dput (by omega) (pe_var (i := i) hN hv hd hcd) hk he hs) fun D σ H h => by
    obtain ⟨ρ, F, GO, E, h⟩ := h
    unfold sPutD at h
    refine at_s F GO E h fun d v H1 s1 r1 E1 h4 => ?_
    obtain ⟨q, d0, hq, k1, k2, k3⟩ := E1.ownL hΓ
    refine ⟨.ref q, k1, ?_⟩
    refine at_s F GO E1 h4 fun j w H2 s2 r2 E2 h5 => ?_
    obtain ⟨q', d1, hq', k1', k2', k3'⟩ := E2.ownL hΓ
    have eq' : q' = q := by rw [k1] at k1'; cases k1'; rfl
    subst eq'
    unfold updE at h5
    rw [k2'] at h5
    have h6 : FinS X.K X.mg W Γ F GO H2 ((putD false j d d1).bind fun d' => .ok (.nx (ρ.set i (some d')))) D := h5
    rcases putD_or j d d1 with ⟨kvs, rfl, hlt, hk', e⟩ | e
    · rw [e] at h6
      obtain ⟨tk', kvs', u, vs, e0, g1, g2, g3, g4⟩ := k3'
      cases e0
      obtain ⟨kk, rfl, rfl, ek⟩ := g2
      rw [List.map_map] at ek
      have h7 : FinS X.K X.mg W Γ F GO H2 (.ok (.nx (ρ.set i (some (dD false false (kput false j d kvs)))))) D := h6
      obtain ⟨ii, rfl⟩ := isK_f hk'
      cases r2.int
      have rv := (r1.stored hf).mono (.same s2)
      obtain ⟨p1, p2⟩ := pairs_put key1 (k := .int ii) (κ0 := .inl ii) rfl rv ek g3
      have lk : kk.length = kvs.length := by
        have := congrArg List.length ek
        simpa using this.symm
      have kq : Keep [q'] H2 (upd H2 q' (.dK (putK kk (.inl ii) v))) := fun b u e hb => by
        by_cases z : b = q'
        · subst z
          rw [g1] at e
          cases e
          cases hb List.mem_cons_self
        · rw [upd_ne z]; exact e
      have g : Grow [q'] (Ads GO ++ F) (Ads GO ++ F) H2 (upd H2 q' (.dK (putK kk (.inl ii) v))) := ⟨kq, fun b hb => by
        rw [List.mem_singleton] at hb
        subst hb
        exact List.mem_append_left _ (List.mem_map.mpr ⟨_, hq', rfl⟩), fun b hb => .inl hb⟩
      obtain ⟨E3, K3⟩ := E2.write hq' (o := .dK (putK kk (.inl ii) v)) (d := dD false false (kput false (.int ii) d kvs)) ⟨false, _, _, _, rfl, upd_same, ⟨_, rfl, rfl, by rw [List.map_map]; exact p1⟩, p2.mono g, by have := kput_len false (.int ii) d kvs; omega⟩
      exact ⟨q', _, rfl, DPut.k (k := .inl ii) g1 (by rw [lk]; exact Nat.lt_of_lt_of_le hlt (big_le (Nat.le_refl _))), h7 σ _ GO E3 K3 same_new⟩
    · rw [e] at h6
      exact h6.elim
/-! an own dict given up for good, ahead of a statement -/
def tFrz (t : TS) : TS := fun D σ H => ∃ d u, H d = some u ∧ Mut (some u) ∧ ∀ od, t D σ (upd H d (.frz od u))
theorem ps_frz {st : Stmt} {t : TS} (h : PS X st t) : PS X st (tFrz t) := by
  refine ⟨fun pins s σ H D I hw => ?_⟩
  obtain ⟨d, u, hd, mu, hw⟩ := hw
  obtain ⟨od, I1⟩ := I.lock hd mu
  exact h.run pins s σ _ _ I1 (hw od)
theorem DkO.mut' {tk : Bool} {ks : List PyData} {vs : List V} {u : HO} (h : DkO tk ks vs u) : Mut (some u) := by
  cases tk with
  | false => obtain ⟨kk, rfl, _⟩ := h; exact True.intro
  | true => obtain ⟨kk, rfl, _⟩ := h; exact True.intro
theorem EnvR.frz {K : PySem.W.Frag} {F : List Addr} {GO : List (Nat × Addr)} {σ : L2.St} {H : Hp} {ρ : Ev} (E : EnvR K Γ F GO σ H ρ) {i : Nat} {q : Addr} {u : HO} {od : Obj} {tk : Bool} {kvs : List (Da × Da)} {vs : List V} (hi : (i, q) ∈ GO) (hu : H q = some u) (hk : DkO tk (kvs.map (·.1)) vs u) (hr : RpAll K H (Ads GO ++ F) vs (kvs.map (·.2))) (hn : kvs.length ≤ big) :
    EnvR K (Γ.filter fun j => j != i) F (GO.filter fun z => z.1 != i) σ (upd H q (.frz od u)) (ρ.set i (some (dD true tk kvs))) := by
  have sub : ∀ b, b ∈ Ads (GO.filter fun z => z.1 != i) ++ F → b ∈ Ads GO ++ F := fun b hb => by
    rcases List.mem_append.mp hb with hb | hb
    · obtain ⟨z, hz, rfl⟩ := List.mem_map.mp hb
      exact List.mem_append_left _ (List.mem_map.mpr ⟨z, (List.mem_filter.mp hz).1, rfl⟩)
    · exact List.mem_append_right _ hb
  have kq : Keep [q] H (upd H q (.frz od u)) := fun b o e hb => by
    by_cases z : b = q
    · subst z
      rw [hu] at e
      cases e
      have := hb List.mem_cons_self
      rw [hk.mut] at this
      cases this
    · rw [upd_ne z]; exact e
  have g : Grow [q] (Ads GO ++ F) (Ads (GO.filter fun z => z.1 != i) ++ F) H (upd H q (.frz od u)) := ⟨kq, fun b hb => by
    rw [List.mem_singleton] at hb
    subst hb
    exact List.mem_append_left _ (List.mem_map.mpr ⟨_, hi, rfl⟩), fun b hb => .inl (sub b hb)⟩
  have uniq : ∀ j r, (j, r) ∈ GO → r = q → j = i := fun j r hj e => by
    subst e
    obtain ⟨i1, hi1, e1⟩ := List.mem_iff_getElem.mp hi
    obtain ⟨i2, hi2, e2⟩ := List.mem_iff_getElem.mp hj
    have a1 : (Ads GO)[i1]? = some r := by rw [List.getElem?_map, List.getElem?_eq_getElem hi1, e1]; rfl
    have a2 : (Ads GO)[i2]? = some r := by rw [List.getElem?_map, List.getElem?_eq_getElem hi2, e2]; rfl
    have q12 : i1 = i2 := by
      obtain ⟨b1, c1⟩ := List.getElem?_eq_some_iff.mp a1
      obtain ⟨b2, c2⟩ := List.getElem?_eq_some_iff.mp a2
      exact (List.getElem_inj E.inj).mp (c1.trans c2.symm)
    subst q12
    rw [e1] at e2
    exact (congrArg Prod.fst e2).symm
  have hl : i < ρ.length := by
    obtain ⟨_, d', h2, _⟩ := E.own i q hi
    exact (List.getElem?_eq_some_iff.mp h2).1
  refine ⟨by rw [List.length_set, E.len], ?_, ?_, fun p hp => ?_, fun b hb z => ?_, fun j r hj => ?_, fun j d' hj hd => ?_⟩
  · rw [← E.dom, List.filter_map]; rfl
  · exact E.inj.sublist (List.filter_sublist.map _)
  · obtain ⟨z, hz, rfl⟩ := List.mem_map.mp hp
    exact E.dis _ (List.mem_map.mpr ⟨z, (List.mem_filter.mp hz).1, rfl⟩)
  · by_cases e : b = q
    · subst e; rw [upd_same] at z; cases z
    · rw [upd_ne e] at z; exact E.frn b hb z
  · obtain ⟨hj1, hj2⟩ := List.mem_filter.mp hj
    have ne : j ≠ i := by simpa using hj2
    obtain ⟨h1, d', h2, h3⟩ := E.own j r hj1
    exact ⟨h1, d', by rw [List.getElem?_set_ne fun z => ne z.symm]; exact h2, h3.mono g fun z => ne (uniq j r hj1 (by simpa using z))⟩
  · by_cases e : j = i
    · subst e
      rw [List.getElem?_set_self hl] at hd
      cases hd
      obtain ⟨h1, _⟩ := E.own j q hi
      exact ⟨.ref q, h1, .dct (fz := true) ⟨od, upd_same⟩ hk hn (hr.mono g)⟩
    · rw [List.getElem?_set_ne fun z => e z.symm] at hd
      obtain ⟨v, h1, h2⟩ := E.sh j d' (fun z => hj (List.mem_filter.mpr ⟨z, by simpa using e⟩)) hd
      exact ⟨v, h1, h2.mono g⟩
theorem ds_frz {i : Nat} {st : Stmt} {Γ' Γ1 : List Nat} {a : SS} (hΓ : Γ.contains i = true) (h1 : Γ.filter (fun j => j != i) = Γ1) (h : DS X W Γ1 st Γ' a) : DS X W Γ st Γ' (sFrz i a) :=
  ps_imp (ps_frz h) fun D σ H h => by
    obtain ⟨ρ, F, GO, E, h⟩ := h
    unfold sFrz at h
    obtain ⟨q, d, hq, k1, k2, k3⟩ := E.ownL hΓ
    rw [k2] at h
    have h : FinS X.K X.mg W Γ' F GO H ((frzD d).bind fun d' => a (ρ.set i (some d'))) D := h
    cases d with
    | dict w =>
      obtain ⟨tk, kvs, u, vs, rfl, g1, g2, g3, g4⟩ := k3
      have h : FinS X.K X.mg W Γ' F GO H (a (ρ.set i (some (dD true tk kvs)))) D := h
      refine ⟨q, u, g1, g2.mut', fun od => ?_⟩
      have E2 := E.frz (od := od) hq g1 g2 g3 g4
      rw [h1] at E2
      refine ⟨_, F, _, E2, FinS.later (fun b o e hb => ?_) (fun b hb => .inl ?_) h⟩
      · by_cases z : b = q
        · subst z
          rw [g1] at e
          cases e
          have := hb (List.mem_map.mpr ⟨_, hq, rfl⟩)
          rw [g2.mut] at this
          cases this
        · rw [upd_ne z]; exact e
      · obtain ⟨z, hz, rfl⟩ := List.mem_map.mp hb
        exact List.mem_map.mpr ⟨z, (List.mem_filter.mp hz).1, rfl⟩
    | _ => exact h.elim
end
end DL
set_option Elab.async false
set_option linter.all false
set_option maxRecDepth 100000
/-! dicts walked, counted, sorted, displayed -/
namespace DL
open PySem PySem.Spec PyProof.Rows L2

section
variable {X : Cx} {W : WX} {Γ : List Nat} {e a b tg : Expr} {fa fb fl : Fl} {sa sb se sk sv : SE} {pos p cpos apos : Pos}
theorem keysF_or (tk : Bool) (d : Da) : (∃ kvs, d = dD true tk kvs ∧ keysF tk d = .ok (kvs.map (·.1))) ∨ keysF tk d = .bad := by
  unfold keysF
  rcases asDT_or tk d with ⟨fz, kvs, rfl⟩ | e
  · rw [asDT_dD, R.bind_ok]
    cases fz with
    | true => exact .inl ⟨kvs, rfl, rfl⟩
    | false => exact .inr rfl
  · rw [e]; exact .inr rfl
theorem itemsF_or (d : Da) : (∃ kvs, d = dD true false kvs ∧ itemsF d = .ok (kvs.map fun q => .tuple [q.1, q.2])) ∨ itemsF d = .bad := by
  unfold itemsF
  rcases asDT_or false d with ⟨fz, kvs, rfl⟩ | e
  · rw [asDT_dD, R.bind_ok]
    cases fz with
    | true => exact .inl ⟨kvs, rfl, rfl⟩
    | false => exact .inr rfl
  · rw [e]; exact .inr rfl
theorem valsF_or (d : Da) : (∃ kvs, d = dD true false kvs ∧ valsF d = .ok (kvs.map (·.2))) ∨ valsF d = .bad := by
  unfold valsF
  rcases asDT_or false d with ⟨fz, kvs, rfl⟩ | e
  · rw [asDT_dD, R.bind_ok]
    cases fz with
    | true => exact .inl ⟨kvs, rfl, rfl⟩
    | false => exact .inr rfl
  · rw [e]; exact .inr rfl
/-- the frozen object behind it -/
theorem Res.frozen {K : PySem.W.Frag} {H0 H : Hp} {O : List Addr} {v : V} {tk : Bool} {kvs : List (Da × Da)} (h : Res K H0 H O fl v (dD true tk kvs)) : ∃ p u o vs, v = .ref p ∧ H p = some (.frz o u) ∧ DkO tk (kvs.map (·.1)) vs u ∧ RpAll K H O vs (kvs.map (·.2)) ∧ kvs.length ≤ big := by
  obtain ⟨p, u, vs, rfl, hu, hk, hr, hn, hf⟩ := h.dict
  obtain ⟨o, ho⟩ := hf rfl
  exact ⟨p, u, o, vs, rfl, ho, hk, hr, hn⟩
theorem key_at {κ : Type} {f : Da → Option κ} {kvs : List (Da × Da)} {kk : List (κ × V)} (ek : kvs.map (fun z => f z.1) = kk.map (fun z => some z.1)) {i : Nat} {k : κ} {v : V} (h : kk[i]? = some (k, v)) : ∃ z, kvs[i]? = some z ∧ f z.1 = some k := by
  have := congrArg (fun l => l[i]?) ek
  simp only [List.getElem?_map, h, Option.map_some] at this
  cases q : kvs[i]? with
  | none => rw [q] at this; cases this
  | some z => rw [q] at this; exact ⟨z, rfl, Option.some.inj this⟩
theorem key1_int {d : Da} {k : Key} (h : key1 d = some k) : ∃ i, d = .int i ∧ k = .inl i := by
  unfold key1 at h
  cases d with
  | int i => cases h; exact ⟨i, rfl, rfl⟩
  | _ => cases h
theorem len_of {κ : Type} {f : Da → Option κ} {kvs : List (Da × Da)} {kk : List (κ × V)} (ek : kvs.map (fun z => f z.1) = kk.map (fun z => some z.1)) : kk.length = kvs.length := by
  have := congrArg List.length ek
  simpa using this.symm
theorem di_keys (s : Bool) (he : DE X W Γ e fl se) : DI X W Γ tg e s (iKeys false se) :=
  pi_imp (pi_keys he) fun σ H Q h => by
    obtain ⟨ρ, F, GO, E, h⟩ := h
    refine at_e E h fun d v H1 s1 r1 E1 h1 => ?_
    rcases keysF_or false d with ⟨kvs, rfl, ek⟩ | ek
    · rw [ek] at h1
      obtain ⟨p, u, o, vs, rfl, ho, hk, hr, hn⟩ := r1.frozen
      obtain ⟨kk, rfl, rfl, e1⟩ := hk
      rw [List.map_map] at e1
      have lk := len_of e1
      refine ⟨p, o, rfl, .inl ⟨kk, ho, h1 (Itk p o kk) H1 s1 (fun i H' O' g => ?_) (by rw [List.length_map]; exact hn)⟩⟩
      have ho' : H' p = some (.frz o (.dK kk)) := g.keep _ _ ho fun _ => rfl
      refine ⟨fun x hx => ?_, fun hi => ⟨ho', by rw [hi, List.length_map, lk]; exact Nat.le_refl _⟩⟩
      have hl : i < kk.length := by
        rw [lk]
        have := (List.getElem?_eq_some_iff.mp hx).1
        simpa using this
      refine ⟨⟨ho', hl⟩, fun v' H'' hy => ?_⟩
      obtain ⟨rfl, k, v, h2, rfl⟩ := hy
      obtain ⟨z, h3, h4⟩ := key_at e1 h2
      obtain ⟨ii, e4, rfl⟩ := key1_int h4
      rw [List.getElem?_map, h3] at hx
      have hx : some z.1 = some x := hx
      cases hx
      rw [e4]
      exact ⟨.refl _, .int ii⟩
    · rw [ek] at h1
      exact h1.elim
theorem di_vals (s : Bool) (he : DE X W Γ e fl se) (hbase : attributeBase e "values" X.env (eval e X.env) = eval e X.env := by kernel_rfl) (hline : (apos.endLine == cpos.line) = true := by kernel_rfl) : DI X W Γ tg (.Call (.Attribute e "values" apos) [] [] cpos) s (iVals se) :=
  pi_imp (pi_values he hbase hline) fun σ H Q h => by
    obtain ⟨ρ, F, GO, E, h⟩ := h
    refine at_e E h fun d v H1 s1 r1 E1 h1 => ?_
    rcases valsF_or d with ⟨kvs, rfl, ek⟩ | ek
    · rw [ek] at h1
      obtain ⟨p, u, o, vs, rfl, ho, hk, hr, hn⟩ := r1.frozen
      obtain ⟨kk, rfl, rfl, e1⟩ := hk
      rw [List.map_map] at e1
      have lk := len_of e1
      refine ⟨p, o, kk, rfl, ho, h1 (Itd p o kk) H1 s1 (fun i H' O' g => ?_) (by rw [List.length_map]; exact hn)⟩
      have ho' : H' p = some (.frz o (.dK kk)) := g.keep _ _ ho fun _ => rfl
      refine ⟨fun x hx => ?_, fun hi => ⟨ho', by rw [hi, List.length_map, lk]; exact Nat.le_refl _⟩⟩
      have hl : i < kk.length := by
        rw [lk]
        have := (List.getElem?_eq_some_iff.mp hx).1
        simpa using this
      refine ⟨⟨ho', hl⟩, fun v' H'' hy => ?_⟩
      obtain ⟨rfl, k, h2⟩ := hy
      obtain ⟨w, h3, h4⟩ := (hr.mono g).get hx
      rw [List.getElem?_map, h2] at h3
      cases h3
      exact ⟨.refl _, h4⟩
    · rw [ek] at h1
      exact h1.elim
theorem di_items {elts : List Expr} {kk : Nat} {tpos : Pos} (s : Bool) (he : DE X W Γ e fl se) (hbase : attributeBase e "items" X.env (eval e X.env) = eval e X.env := by kernel_rfl) (hline : (apos.endLine == cpos.line) = true := by kernel_rfl) : DI X W Γ (.Tuple elts kk tpos) (.Call (.Attribute e "items" apos) [] [] cpos) s (iItems se) :=
  pi_imp (pi_items he hbase hline) fun σ H Q h => by
    obtain ⟨ρ, F, GO, E, h⟩ := h
    refine at_e E h fun d v H1 s1 r1 E1 h1 => ?_
    rcases itemsF_or d with ⟨kvs, rfl, ek⟩ | ek
    · rw [ek] at h1
      obtain ⟨p, u, o, vs, rfl, ho, hk, hr, hn⟩ := r1.frozen
      obtain ⟨kk, rfl, rfl, e1⟩ := hk
      rw [List.map_map] at e1
      have lk := len_of e1
      refine ⟨p, o, kk, rfl, ho, h1 (Iti p o kk) H1 s1 (fun i H' O' g => ?_) (by rw [List.length_map]; exact hn)⟩
      have ho' : H' p = some (.frz o (.dK kk)) := g.keep _ _ ho fun _ => rfl
      refine ⟨fun x hx => ?_, fun hi => ⟨ho', by rw [hi, List.length_map, lk]; exact Nat.le_refl _⟩⟩
      have hl : i < kk.length := by
        rw [lk]
        have := (List.getElem?_eq_some_iff.mp hx).1
        simpa using this
      refine ⟨⟨ho', hl⟩, fun v' H'' hy => ?_⟩
      obtain ⟨T, k, v, h2, rfl, hT, rfl⟩ := hy
      obtain ⟨z, h3, h4⟩ := key_at e1 h2
      obtain ⟨ii, e4, rfl⟩ := key1_int h4
      rw [List.getElem?_map, h3] at hx
      have hx : some (PyData.tuple [z.1, z.2]) = some x := hx
      cases hx
      obtain ⟨w, h5, h6⟩ := (hr.mono g).get (show (kvs.map (·.2))[i]? = some z.2 by rw [List.getElem?_map, h3]; rfl)
      rw [List.getElem?_map, h2] at h5
      cases h5
      rw [e4]
      have sm := same_upd (o := .tup [.int ii, v]) hT
      exact ⟨sm, .tup (SqT.of upd_same) (by show 2 ≤ big; decide) (.cons (.int ii) (.cons (h6.mono (.same sm)) .nil))⟩
    · rw [ek] at h1
      exact h1.elim
/-! len(x), sorted(x) -/
def rLenD : List V → Hp → VK → Prop := fun xs H Q => ∃ a kvs, xs = [V.ref a] ∧ Rd H a (.dK kvs) ∧ Q (.int kvs.length) H
theorem call_lenR : CallR X (.builtin "len") rLenD := by
  intro pins s σ H xs us Q I r h
  obtain ⟨a, kvs, rfl, ha, q⟩ := h
  obtain ⟨u, rfl, ru⟩ := vals1 r
  cases ru
  exact d_len I ha fun t s' I' => ⟨.int kvs.length, H, I', ⟨t, rfl⟩, q⟩
def rLenDT : List V → Hp → VK → Prop := fun xs H Q => ∃ a kvs, xs = [V.ref a] ∧ Rd H a (.dT kvs) ∧ Q (.int kvs.length) H
theorem call_lenRT : CallR X (.builtin "len") rLenDT := by
  intro pins s σ H xs us Q I r h
  obtain ⟨p, kvs, rfl, hp, q⟩ := h
  obtain ⟨u, rfl, rx⟩ := vals1 r
  obtain rfl : u = .ref p := rx
  obtain ⟨z, hd, ys, rel, dd⟩ := dt_rd I.hok hp
  have hl : kvs.length = ys.length := Paired.length rel
  refine call_len_dictH hd dd (by rw [← hl]; rw [sizeLine_eq] at z; omega) ?_
  rw [← hl]
  exact ⟨.int ((kvs.length : Nat) : Int), H, I.tok _, ⟨_, rfl⟩, q⟩
theorem cs_lenD : CallS X rLenD .fr (dDLen false) := by
  intro mg W σ O H0 H fls xs as Q nw hx h
  unfold dDLen at h
  split at h
  · rename_i d
    cases hx with
    | cons h1 t =>
      cases t
      rcases asDT_or false d with ⟨fz, kvs, rfl⟩ | e
      · rw [asDT_dD] at h
        obtain ⟨p, u, vs, rfl, hu, hk, hr, hn, _⟩ := h1.dict
        obtain ⟨kk, rfl, rfl, e1⟩ := hk
        rw [List.map_map] at e1
        refine ⟨p, kk, rfl, hu, ?_⟩
        rw [len_of e1]
        exact PE_.flat h (.int _) rfl
      · rw [e] at h; exact h.elim
  · exact h.elim
theorem cs_lenDT : CallS X rLenDT .fr (dDLen true) := by
  intro mg W σ O H0 H fls xs as Q nw hx h
  unfold dDLen at h
  split at h
  · rename_i d
    cases hx with
    | cons h1 t =>
      cases t
      rcases asDT_or true d with ⟨fz, kvs, rfl⟩ | e
      · rw [asDT_dD] at h
        obtain ⟨p, u, vs, rfl, hu, hk, hr, hn, _⟩ := h1.dict
        obtain ⟨kk, rfl, rfl, e1⟩ := hk
        rw [List.map_map] at e1
        refine ⟨p, kk, rfl, hu, ?_⟩
        rw [len_of e1]
        exact PE_.flat h (.int _) rfl
      · rw [e] at h; exact h.elim
  · exact h.elim
theorem de_lenD (m : X.mg "len" = none) (he : DE X W Γ e fl se) (hg : Gl X "len" := by show _ = _; kernel_rfl) (h1 : starEach [e] X.env = (false, eval e X.env) :: starEach [] X.env := by kernel_rfl) (h2 : (backTo pos (starEach [] X.env)).any (·.1) = false := by kernel_rfl) : DE X W Γ (.Call (.Name "len" p) [e] [] pos) .fr (eA (dDLen false) (aCons se aNil)) :=
  de_callB call_lenR cs_lenD hg m boot_len (da_cons he da_nil h1) (by decide) (by decide) h1 h2
theorem de_lenDT (m : X.mg "len" = none) (he : DE X W Γ e fl se) (hg : Gl X "len" := by show _ = _; kernel_rfl) (h1 : starEach [e] X.env = (false, eval e X.env) :: starEach [] X.env := by kernel_rfl) (h2 : (backTo pos (starEach [] X.env)).any (·.1) = false := by kernel_rfl) : DE X W Γ (.Call (.Name "len" p) [e] [] pos) .fr (eA (dDLen true) (aCons se aNil)) :=
  de_callB call_lenRT cs_lenDT hg m boot_len (da_cons he da_nil h1) (by decide) (by decide) h1 h2
def rSortD : List V → Hp → VK → Prop := fun xs H Q => ∃ (a : Addr) (kvs : List (Key × V)) (ks : List Int), xs = [.ref a] ∧ Rd H a (.dK kvs) ∧ kvs.map (·.1) = ks.map Sum.inl ∧ ks.length < 64 ∧
    ∀ (ys : List Int) (p : Addr), ys.Perm ks → ys.Pairwise (· ≤ ·) → H p = none → Q (.ref p) (upd H p (.lst (ys.map V.int)))
theorem keys_ints : ∀ {ks : List Da} {kk : List (Key × V)} {is : List Int}, ks.map key1 = kk.map (fun z => some z.1) → intsD ks = .ok is → kk.map (·.1) = is.map Sum.inl
  | [], [], is, _, h => by unfold intsD at h; cases h; rfl
  | [], _ :: _, _, e, _ => nomatch e
  | _ :: _, [], _, e, _ => nomatch e
  | k :: ks, w :: kk, is, e, h => by
    rw [List.map_cons, List.map_cons] at e
    obtain ⟨e1, e2⟩ := List.cons.inj e
    obtain ⟨i, rfl, e3⟩ := key1_int e1
    unfold intsD at h
    cases q : intsD ks with
    | ok js =>
      rw [q] at h
      cases h
      rw [List.map_cons, List.map_cons, keys_ints e2 q, e3]
    | exc c => rw [q] at h; cases h
    | bad => rw [q] at h; cases h
theorem cs_sortedD : CallS X rSortD .fr dDSorted := by
  intro mg W σ O H0 H fls xs as Q nw hx h
  unfold dDSorted at h
  split at h
  · rename_i d
    cases hx with
    | cons h1 t =>
      cases t
      rcases asDT_or false d with ⟨fz, kvs, rfl⟩ | e
      · rw [asDT_dD, R.bind_ok] at h
        obtain ⟨p, u, vs, rfl, hu, hk, hr, hn, _⟩ := h1.dict
        obtain ⟨kk, rfl, rfl, e1⟩ := hk
        by_cases c : kvs.length < 64
        · rw [if_pos c] at h
          obtain ⟨is, e2, h⟩ := FinG.bind_ok (intsD_nx _) h
          have e3 := keys_ints e1 e2
          have li : is.length = kvs.length := by
            have := intsD_len e2
            rw [List.length_map] at this
            exact this
          refine ⟨p, kk, is, rfl, hu, e3, by rw [li]; exact c, fun ns' r hp ho hr' => ?_⟩
          have hs : ns' = sortI is := sorted_one _ _ (hp.trans (sortI_perm is).symm) ho (sortI_sorted is)
          subst hs
          have hl : ((sortI is).map PyData.int).length ≤ big := by
            rw [List.length_map, (sortI_perm is).length_eq, li]
            exact hn
          exact PE_.newL h (RpAll.intsR _) hl hr' (nw r hr')
        · rw [if_neg c] at h
          exact h.elim
      · rw [e] at h; exact h.elim
  · exact h.elim
theorem de_sortedD (hc : X.calm = true) (m : X.mg "sorted" = none) (he : DE X W Γ e fl se) (hg : Gl X "sorted" := by show _ = _; kernel_rfl) (h1 : starEach [e] X.env = (false, eval e X.env) :: starEach [] X.env := by kernel_rfl) (h2 : (backTo pos (starEach [] X.env)).any (·.1) = false := by kernel_rfl) : DE X W Γ (.Call (.Name "sorted" p) [e] [] pos) .fr (eA dDSorted (aCons se aNil)) :=
  de_callB (call_sortedDI hc) cs_sortedD hg m boot_sorted (da_cons he da_nil h1) (by decide) (by decide) h1 h2
/-! {k: v} -/
theorem de_disp {k v : Expr} {fk fv : Fl} (hk : DE X W Γ k fk sk) (hv : DE X W Γ v fv sv) (hf : storable [fv] = true := by kernel_rfl) : DE X W Γ (.Dict [some k] [v] pos) .fd (eDisp sk sv) :=
  pe_imp (pe_disp (pps_cons hk hv pps_nil) rfl rfl (by intro z; cases z) (show 1 ≤ 15 by decide)) fun σ H Q h => by
    obtain ⟨ρ, F, GO, E, h⟩ := h
    intro p hp
    have hn : p ∉ Ads GO ++ F := E.newp hp
    have E0 := E.under hp (same_upd (o := .dK []) hp) (by rw [upd_same]; exact fun z => nomatch z)
    unfold eDisp at h
    have sub : ∀ b, b ∈ Ads GO ++ F → b ∈ Ads GO ++ (p :: F) := fun b hb => by
      rcases List.mem_append.mp hb with hb | hb
      · exact List.mem_append_left _ hb
      · exact List.mem_append_right _ (List.mem_cons_of_mem _ hb)
    have sub' : ∀ b, b ∈ p :: (Ads GO ++ F) → b ∈ Ads GO ++ (p :: F) := fun b hb => by
      rcases List.mem_cons.mp hb with e | hb
      · subst e; exact List.mem_append_right _ List.mem_cons_self
      · exact sub b hb
    have h' := h.mono (same_upd (o := .dK []) hp) (P' := fun d => PE_ X.K H (Ads GO ++ F) .fd Q d) fun _ _ z => z
    refine at_e E0 h' fun d1 v1 H1 s1 r1 E1 h1 => at_e E1 h1 fun d2 v2 H2 s2 r2 E2 h2 => ?_
    have s02 : Same (upd H p (.dK [])) H2 := s1.trans s2
    have hp2 : H2 p = some (.dK []) := s02 _ _ upd_same
    unfold isKR at h2
    by_cases hk' : isK false d1 = true
    · rw [if_pos hk'] at h2
      obtain ⟨i, rfl⟩ := isK_f hk'
      cases r1.int
      have h3 : PE_ X.K H (Ads GO ++ F) .fd Q (dD false false [(.int i, d2)]) := h2
      refine ⟨hp2, [(.inl i, v2)], rfl, (show 1 ≤ 15 by decide), ?_⟩
      have sH : Same H (upd H2 p (.dK (mergeK [] [(.inl i, v2)]))) := fun b x e => by
        rw [upd_ne (ne_of_none e hp)]
        exact s02 b x (by rw [upd_ne (ne_of_none e hp)]; exact e)
      have kq : Keep [p] H2 (upd H2 p (.dK (mergeK [] [(.inl i, v2)]))) := fun b u e hb => by
        by_cases z : b = p
        · subst z
          rw [hp2] at e
          cases e
          cases hb List.mem_cons_self
        · rw [upd_ne z]; exact e
      have g : Grow [p] (Ads GO ++ (p :: F)) (p :: (Ads GO ++ F)) H2 (upd H2 p (.dK (mergeK [] [(.inl i, v2)]))) := ⟨kq, fun b hb => by
        rw [List.mem_singleton] at hb
        subst hb
        exact List.mem_append_right _ List.mem_cons_self, fun b hb => .inl (sub' b hb)⟩
      exact h3 _ _ sH (fresh_dict hp hn upd_same ⟨[(.inl i, v2)], rfl, rfl, rfl⟩ (by show 1 ≤ big; decide) (.cons ((r2.stored hf).mono g) .nil))
    · rw [if_neg hk'] at h2
      exact h2.elim
end
end DL
set_option Elab.async false
set_option linter.all false
set_option maxRecDepth 100000
namespace DL
open PySem PySem.Spec PyProof.Rows L2

section
variable {X : Cx} {W : WX} {Γ : List Nat} {e a b tg : Expr} {fa fb fl : Fl} {sa sb se sk sv : SE} {pos p cpos apos : Pos}
theorem dt_din (hu : X.A.units + 64 < cLine) (ha : DE X W Γ a fa sa) (hb : DE X W Γ b fb sb) (hm : behindInMarks .In b = false := by kernel_rfl) : DT X W Γ (.Compare a [.In] [b] pos) (e2 (dDIn false) sa sb) :=
  pt_imp (pt_cmp (pc_din (by omega) ha hb) hm) fun σ H Q h => by
    obtain ⟨ρ, F, GO, E, h⟩ := h
    refine at_e E h fun d v H1 s1 r1 E1 h1 => at_e E1 h1 fun d2 v2 H2 s2 r2 E2 h2 => ?_
    obtain ⟨fz, kvs, rfl, hk, h3⟩ := dgo h2
    obtain ⟨p, o, rfl, g, q⟩ := dict_get hk (r2.back s1 : Res X.K H H2 (Ads GO ++ F) fb v2 _) (r1.mono s2)
    have e : (kget false d kvs).isSome = o.isSome := by
      rcases q with ⟨q1, rfl⟩ | ⟨x, w, q1, rfl, _⟩
      · rw [q1]; rfl
      · rw [q1]; rfl
    have h3 := h3 H2 (s1.trans s2)
    rw [show tru (PyData.bool (kget false d (fz, false, kvs).2.2).isSome) = (kget false d kvs).isSome from rfl, e] at h3
    exact ⟨p, o, rfl, g, _, rfl, h3⟩
theorem dt_dnin (hu : X.A.units + 64 < cLine) (ha : DE X W Γ a fa sa) (hb : DE X W Γ b fb sb) (hm : behindInMarks .NotIn b = false := by kernel_rfl) : DT X W Γ (.Compare a [.NotIn] [b] pos) (e2 (dDNotIn false) sa sb) :=
  pt_imp (pt_cmp (pc_dnotin (by omega) ha hb) hm) fun σ H Q h => by
    obtain ⟨ρ, F, GO, E, h⟩ := h
    refine at_e E h fun d v H1 s1 r1 E1 h1 => at_e E1 h1 fun d2 v2 H2 s2 r2 E2 h2 => ?_
    obtain ⟨fz, kvs, rfl, hk, h3⟩ := dgo h2
    obtain ⟨p, o, rfl, g, q⟩ := dict_get hk (r2.back s1 : Res X.K H H2 (Ads GO ++ F) fb v2 _) (r1.mono s2)
    have e : (kget false d kvs).isSome = o.isSome := by
      rcases q with ⟨q1, rfl⟩ | ⟨x, w, q1, rfl, _⟩
      · rw [q1]; rfl
      · rw [q1]; rfl
    have h3 := h3 H2 (s1.trans s2)
    rw [show tru (PyData.bool (!(kget false d (fz, false, kvs).2.2).isSome)) = !(kget false d kvs).isSome from rfl, e] at h3
    exact ⟨p, o, rfl, g, _, rfl, h3⟩
end
end DL
set_option Elab.async false
set_option linter.all false
set_option maxRecDepth 100000
/-! the least key of a dict; dict comprehensions -/
namespace DL
open PySem PySem.Spec PyProof.Rows L2

section
variable {X : Cx} {W : WX} {Γ : List Nat} {e a b tg : Expr} {fa fb fl fk : Fl} {sa sb se sk sv : SE} {pos p cpos apos : Pos}
/-- min(d), d a dict that may be locked: the walk over its keys -/
def rMinR : List V → Hp → VK → Prop := fun vs H Q => ∃ (d : Addr) (kk : List (Key × V)) (is : List Int), vs = [V.ref d] ∧ Rd H d (.dK kk) ∧ kk.map (·.1) = is.map Sum.inl ∧ is ≠ [] ∧ ∀ m, m ∈ is → (∀ j, j ∈ is → m ≤ j) → Q (.int m) H
theorem cr_minR (hc : X.calm = true) : CallR X (.builtin "min") rMinR := fun pins s σ H vs us Q I r h => by
  obtain ⟨d, kk, is, rfl, hd, hk, ne, q⟩ := h
  rw [Vals.ref1 r]
  obtain ⟨_, sys, ws, rel, dof⟩ := dk_rd I.hok hd
  obtain ⟨ep, at_⟩ := dof.dictAt
  have lt : d < s.heap.objs.size := by
    obtain ⟨ob, _, ho, _⟩ := id at_
    exact Heap.lt_size ho
  have keys : ws.map (·.1) = is.map Sum.inl := rel.keys.symm.trans hk
  have len : ws.length = is.length := by simpa using congrArg List.length keys
  have pos : 0 < ws.length := by rw [len]; exact List.length_pos_iff.mpr ne
  have isInt : ∀ (i : Nat) (v : Value), (∃ k x, ws[i]? = some (k, x) ∧ (mixKind X.prog X.w).is k v = true) → ∃ t, v = Value.int (is.getD i 0) t := by
    rintro i v ⟨k, x, h1, h2⟩
    have h3 : is[i]?.map Sum.inl = some k := by
      rw [← List.getElem?_map, ← keys, List.getElem?_map, h1]
      rfl
    obtain ⟨j, h4, rfl⟩ := Option.map_eq_some_iff.mp h3
    obtain ⟨t, rfl⟩ := Value.isInt_shape (k := j) (v := v) h2
    exact ⟨t, by rw [List.getD_eq_getElem?_getD, h4]; rfl⟩
  refine call_min_walk (wpAny_pyIter_dict (knd := mixKind X.prog X.w) sys at_ ⟨_, _, _, _, _, _, _, rfl, Walks.dictKeys (knd := mixKind X.prog X.w) (A := X.A.in1) (I.ok.hd hc) s.heap.objs.size d (Nat.ne_of_lt lt) ws ep,
    ⟨⟨_, Heap.get?_push_size _ rfl, rfl, rfl⟩, at_.keep fun b u e => Heap.get?_push_of_some _ e⟩, ?_, pos, CmpOf.ints_lt (fun i => is.getD i 0) isInt, ?_⟩)
  · intro b hb
    show b < (s.heap.push _).objs.size
    rw [Heap.size_push]
    rcases List.mem_cons.mp hb with e | hb
    · rw [e]; exact Nat.lt_succ_self _
    · rw [List.mem_singleton.mp hb]; exact Nat.lt_succ_of_lt lt
  · intro v h' tk hP hkp
    obtain ⟨t, rfl⟩ := isInt _ v hP
    obtain ⟨c1, c2⟩ := argBest_lt (fun i => is.getD i 0) (ws.length - 1)
    have cl : argBest (fun i j => decide (is.getD i 0 < is.getD j 0)) (ws.length - 1) < is.length := by omega
    refine ⟨.int _, H, I.kept (t' := tk) fun b u e => hkp b u (fun hm => ?_) (Heap.get?_push_of_some _ e), ⟨t, rfl⟩, q _ ?_ ?_⟩
    · have lb := Heap.lt_size e
      rw [List.mem_singleton.mp hm] at lb
      exact absurd lb (Nat.lt_irrefl _)
    · generalize argBest (fun i j => decide (is.getD i 0 < is.getD j 0)) (ws.length - 1) = best at *
      have : is.getD best 0 = is[best] := by simp [cl]
      rw [this]
      exact List.getElem_mem cl
    · intro j hj
      obtain ⟨i, hi, e⟩ := List.mem_iff_getElem.mp hj
      have := c2 i (by omega)
      rw [← e]
      simpa [hi] using this
theorem min_one : ∀ (l : List Int) (x m : Int), m ∈ x :: l → (∀ j, j ∈ x :: l → m ≤ j) → l.foldl min x = m
  | [], x, m, h, _ => by rw [List.mem_singleton] at h; rw [h]; rfl
  | y :: l, x, m, h, w => by
    rw [List.foldl_cons]
    refine min_one l (min x y) m ?_ fun j hj => ?_
    · have wx := w x List.mem_cons_self
      have wy := w y (List.mem_cons_of_mem _ List.mem_cons_self)
      rcases List.mem_cons.mp h with rfl | h
      · rw [show min m y = m by omega]; exact List.mem_cons_self
      · rcases List.mem_cons.mp h with rfl | h
        · rw [show min x m = m by omega]; exact List.mem_cons_self
        · exact List.mem_cons_of_mem _ h
    · rcases List.mem_cons.mp hj with rfl | hj
      · have wx := w x List.mem_cons_self
        have wy := w y (List.mem_cons_of_mem _ List.mem_cons_self)
        omega
      · exact w j (List.mem_cons_of_mem _ (List.mem_cons_of_mem _ hj))
theorem cs_minD : CallS X rMinR .fr dDMin := by
  intro mg W σ O H0 H fls xs as Q nw hx h
  unfold dDMin at h
  split at h
  · rename_i d
    cases hx with
    | cons h1 t =>
      cases t
      rcases asDT_or false d with ⟨fz, kvs, rfl⟩ | e
      · rw [asDT_dD, R.bind_ok] at h
        obtain ⟨p, u, vs, rfl, hu, hk, hr, hn, _⟩ := h1.dict
        obtain ⟨kk, rfl, rfl, e1⟩ := hk
        obtain ⟨is, e2, h⟩ := FinG.bind_ok (intsD_nx _) h
        have e3 := keys_ints e1 e2
        cases is with
        | nil => exact h.elim
        | cons i is =>
          have h : FinG mg W σ H (.ok (.int (is.foldl min i))) (PE_ X.K H O .fr Q) := h
          refine ⟨p, kk, i :: is, rfl, hu, e3, (fun z => nomatch z), fun m hm hj => ?_⟩
          rw [← min_one is i m hm hj]
          exact PE_.flat h (.int _) rfl
      · rw [e] at h; exact h.elim
  · exact h.elim
theorem de_minD (hc : X.calm = true) (m : X.mg "min" = none) (he : DE X W Γ e fl se) (hg : Gl X "min" := by show _ = _; kernel_rfl) (h1 : starEach [e] X.env = (false, eval e X.env) :: starEach [] X.env := by kernel_rfl) (h2 : (backTo pos (starEach [] X.env)).any (·.1) = false := by kernel_rfl) : DE X W Γ (.Call (.Name "min" p) [e] [] pos) .fr (eA dDMin (aCons se aNil)) :=
  de_callB (cr_minR hc) cs_minD hg m boot_min (da_cons he da_nil h1) (by decide) (by decide) h1 h2
/-! {k: v for ..} -/
theorem dcL_cons {f : Da → R (Option (Da × Da))} {x : Da} {xs : List Da} {acc ys : List (Da × Da)} (h : dcL f (x :: xs) acc = .ok ys) : (f x = .ok none ∧ dcL f xs acc = .ok ys) ∨ ∃ kv, f x = .ok (some kv) ∧ isK false kv.1 = true ∧ dcL f xs (kput false kv.1 kv.2 acc) = .ok ys := by
  unfold dcL at h
  cases q : f x with
  | ok o =>
    rw [q] at h
    cases o with
    | none => exact .inl ⟨rfl, h⟩
    | some kv =>
      have h : (if isK false kv.1 = true then dcL f xs (kput false kv.1 kv.2 acc) else .bad) = .ok ys := h
      split at h
      · rename_i c
        exact .inr ⟨kv, rfl, c, h⟩
      · cases h
  | exc c => rw [q] at h; cases h
  | bad => rw [q] at h; cases h
theorem dcL_nx (f : Da → R (Option (Da × Da))) : ∀ (xs : List Da) (acc : List (Da × Da)) (c : Str), dcL f xs acc ≠ .exc c
  | [], _, _, h => nomatch h
  | x :: xs, acc, c, h => by
    unfold dcL at h
    split at h
    · exact dcL_nx f xs acc c h
    · split at h
      · exact dcL_nx f xs _ c h
      · cases h
    · cases h
theorem dc_s {own : List Nat} {si : SI} {is : List Nat} {g : STg} {st : SE} (hown : own.all (fun i => !Γ.contains i) = true) (his : is.all (fun i => own.contains i) = true) (hf : storable [fl] = true)
    {σ : L2.St} {H0 : Hp} {Q : VK} (h : tDE X.K X.mg W Γ .fd (eDc si g own st sk sv) σ H0 Q) :
    tDc (tDI X.K X.mg W Γ false si) (tDG X.K Γ is g) (tDT X.K X.mg W0 Γ st) (tDE X.K X.mg W0 Γ fk sk) (tDE X.K X.mg W0 Γ fl sv) own σ H0 Q := by
  obtain ⟨ρ, F, GO, E, h⟩ := h
  have hown' : ∀ i, i ∈ own → i ∉ Γ := fun i hi hz => by
    have := List.all_eq_true.mp hown i hi
    rw [List.contains_iff_mem.mpr hz] at this
    cases this
  have his' : ∀ i, i ∈ is → i ∈ own := fun i hi => List.contains_iff_mem.mp (List.all_eq_true.mp his i hi)
  unfold eDc at h
  refine ⟨ρ, F, GO, E, h.bind.imp fun xs _ h J H1 s1 itd hlen D hD => ?_⟩
  obtain ⟨ys, hys, h⟩ := FinG.bind_ok (dcL_nx _ xs []) h
  have hq : PE_ X.K H0 (Ads GO ++ F) .fd Q (dD false false ys) := h
  have E1 := E.mono s1
  have hnD : D ∉ Ads GO ++ F := E1.newp hD
  have sub : ∀ b, b ∈ Ads GO ++ F → b ∈ Ads GO ++ (D :: F) := fun b hb => by
    rcases List.mem_append.mp hb with hb | hb
    · exact List.mem_append_left _ hb
    · exact List.mem_append_right _ (List.mem_cons_of_mem _ hb)
  refine ⟨fun i m H => i ≤ xs.length ∧ m = xs.length - i ∧ Same H1 H ∧ ∃ (kk : List (Key × V)) (kvs : List (Da × Da)), H D = some (.dK kk) ∧ kvs.map (fun z => key1 z.1) = kk.map (fun z => some z.1) ∧ RpAll X.K H (Ads GO ++ (D :: F)) (kk.map (·.2)) (kvs.map (·.2)) ∧ kvs.length ≤ i ∧ dcL (dcF g own st sk sv ρ) (xs.drop i) kvs = .ok ys,
    ⟨xs.length, Nat.zero_le _, rfl, Same.upd_new hD (.refl H1), [], [], upd_same, rfl, .nil, Nat.le_refl _, hys⟩, ?_⟩
  rintro i m H ⟨hi, rfl, sH, kk, kvs, hacc, ek, racc, hdl, hzs⟩
  have gr : Grow [] (Ads GO ++ F) (Ads GO ++ (D :: F)) H1 H := ⟨.of_same sH, fun _ z => (List.not_mem_nil z).elim, fun b hb => by
    rcases List.mem_append.mp hb with hb | hb
    · exact .inl (List.mem_append_left _ hb)
    · rcases List.mem_cons.mp hb with e | hb
      · subst e; exact .inr hD
      · exact .inl (List.mem_append_right _ hb)⟩
  obtain ⟨it1, it2⟩ := itd i H _ gr
  by_cases hlt : i < xs.length
  · refine .inr ?_
    have hx : xs[i]? = some xs[i] := List.getElem?_eq_getElem hlt
    obtain ⟨go, yld⟩ := it1 _ hx
    have hdrop : xs.drop i = xs[i] :: xs.drop (i + 1) := List.drop_eq_getElem_cons hlt
    rw [hdrop] at hzs
    have step := dcL_cons hzs
    refine ⟨go, fun H' => Same H1 H' ∧ ∃ (kk : List (Key × V)) (kvs : List (Da × Da)), H' D = some (.dK kk) ∧ kvs.map (fun z => key1 z.1) = kk.map (fun z => some z.1) ∧ RpAll X.K H' (Ads GO ++ (D :: F)) (kk.map (·.2)) (kvs.map (·.2)) ∧ kvs.length ≤ i + 1 ∧ dcL (dcF g own st sk sv ρ) (xs.drop (i + 1)) kvs = .ok ys, fun H' hw => ⟨xs.length - (i + 1), by omega, hlt, rfl, hw⟩, fun v H' hv => ?_⟩
    obtain ⟨s2, rv⟩ := yld v H' hv
    have sH' : Same H1 H' := sH.trans s2
    have hD' : H' D = some (.dK kk) := s2 _ _ hacc
    have EB : EnvR X.K Γ (D :: F) GO (wipe σ own) H' (kill ρ own) := (E1.under hD sH' (by rw [hD']; exact fun z => nomatch z)).wipeAll hown'
    have fx : ∃ o, dcF g own st sk sv ρ xs[i] = .ok o := by
      rcases step with ⟨q, _⟩ | ⟨kv, q, _⟩
      · exact ⟨_, q⟩
      · exact ⟨_, q⟩
    obtain ⟨o, fo⟩ := fx
    have e1 := fo
    unfold dcF at e1
    cases q1 : g xs[i] (kill ρ own) with
    | ok ρ1 =>
      rw [q1] at e1
      refine ⟨kill ρ own, D :: F, GO, xs[i], EB, rv, ?_⟩
      rw [q1]
      intro σ2 E2 w2
      refine ⟨(w2 own his').trans (wipe_ext (wipe_length _ _) fun j hj => ?_), ?_⟩
      · by_cases hl : j < σ.length
        · rw [wipe_get σ own j hl, if_neg hj]
        · rw [List.getElem?_eq_none (by rw [wipe_length]; omega), List.getElem?_eq_none (by omega)]
      have e1 : ((st ρ1).bind fun b => if tru b then (sk ρ1).bind fun k => (sv ρ1).bind fun v => R.ok (some (k, v)) else .ok none) = .ok o := e1
      cases q2 : st ρ1 with
      | ok b =>
        rw [q2] at e1
        have e1 : (if tru b then (sk ρ1).bind fun k => (sv ρ1).bind fun v => R.ok (some (k, v)) else .ok none) = .ok o := e1
        refine ⟨ρ1, D :: F, GO, E2, ok_of_fin ⟨b, q2, fun H3 s3 => ?_⟩⟩
        cases q3 : tru b with
        | true =>
          rw [if_pos rfl]
          rw [q3, if_pos rfl] at e1
          cases q4 : sk ρ1 with
          | ok k =>
            rw [q4] at e1
            have e1 : ((sv ρ1).bind fun v => R.ok (some (k, v))) = .ok o := e1
            cases q5 : sv ρ1 with
            | ok d =>
              rw [q5] at e1
              have ey : o = some (k, d) := (R.ok.inj e1).symm
              subst ey
              have nxt : isK false k = true ∧ dcL (dcF g own st sk sv ρ) (xs.drop (i + 1)) (kput false k d kvs) = .ok ys := by
                rcases step with ⟨q, _⟩ | ⟨kv, q, z1, z2⟩
                · rw [q] at fo; cases fo
                · rw [q] at fo; cases fo; exact ⟨z1, z2⟩
              obtain ⟨hk, nx⟩ := nxt
              obtain ⟨ii, rfl⟩ := isK_f hk
              have E3 := E2.mono s3
              refine ⟨ρ1, D :: F, GO, E3, ok_of_fin ⟨.int ii, q4, fun v4 H4 s4 r4 => ?_⟩⟩
              cases r4.int
              refine ⟨ρ1, D :: F, GO, E3.mono s4, ok_of_fin ⟨d, q5, fun v5 H5 s5 r5 => ?_⟩⟩
              have hD5 : H5 D = some (.dK kk) := s5 _ _ (s4 _ _ (s3 _ _ hD'))
              have sH5 : Same H1 H5 := ((sH'.trans s3).trans s4).trans s5
              have r5' := r5.stored hf
              have g5 : Grow [D] (Ads GO ++ (D :: F)) (Ads GO ++ (D :: F)) H5 (upd H5 D (.dK (putK kk (.inl ii) v5))) := ⟨fun b o e hb => by
                by_cases q : b = D
                · subst q
                  rw [hD5] at e
                  cases e
                  cases hb List.mem_cons_self
                · rw [upd_ne q]; exact e, fun b hb => by
                rw [List.mem_singleton] at hb
                subst hb
                exact List.mem_append_right _ List.mem_cons_self, fun b hb => .inl hb⟩
              have racc5 : RpAll X.K H5 (Ads GO ++ (D :: F)) (kk.map (·.2)) (kvs.map (·.2)) := racc.mono (.same (((s2.trans s3).trans s4).trans s5))
              obtain ⟨p1, p2⟩ := pairs_put key1 (k := .int ii) (κ0 := .inl ii) rfl r5' ek racc5
              have lk : kk.length = kvs.length := len_of ek
              refine ⟨kk, .inl ii, rfl, hD5, ?_, Same.upd_new hD sH5, putK kk (.inl ii) v5, kput false (.int ii) d kvs, upd_same, p1, p2.mono g5, ?_, nx⟩
              · rw [lk]
                exact Nat.lt_of_le_of_lt hdl (Nat.lt_of_lt_of_le hlt (big_le hlen))
              · have := kput_len false (.int ii) d kvs
                omega
            | exc _ => rw [q5] at e1; cases e1
            | bad => rw [q5] at e1; cases e1
          | exc _ => rw [q4] at e1; cases e1
          | bad => rw [q4] at e1; cases e1
        | false =>
          rw [if_neg Bool.false_ne_true]
          rw [q3, if_neg Bool.false_ne_true] at e1
          have ey : o = none := (R.ok.inj e1).symm
          subst ey
          have nx : dcL (dcF g own st sk sv ρ) (xs.drop (i + 1)) kvs = .ok ys := by
            rcases step with ⟨q, z⟩ | ⟨kv, q, _⟩
            · exact z
            · rw [q] at fo; cases fo
          exact ⟨sH'.trans s3, kk, kvs, s3 _ _ hD', ek, racc.mono (.same (s2.trans s3)), Nat.le_succ_of_le hdl, nx⟩
      | exc _ => rw [q2] at e1; cases e1
      | bad => rw [q2] at e1; cases e1
    | exc _ => rw [q1] at e1; cases e1
    | bad => rw [q1] at e1; cases e1
  · have hi' : i = xs.length := by omega
    refine .inl ⟨it2 (by omega), ?_⟩
    have ez : kvs = ys := by
      rw [List.drop_of_length_le (by omega)] at hzs
      cases hzs; rfl
    subst ez
    have g6 : Grow [] (Ads GO ++ (D :: F)) (D :: (Ads GO ++ F)) H H := .sub_ (.refl H) fun b hb => by
      rcases List.mem_cons.mp hb with e | hb
      · subst e; exact List.mem_append_right _ List.mem_cons_self
      · exact sub b hb
    have nl : kvs.length ≤ big := Nat.le_trans hdl (by omega)
    exact hq _ _ (s1.trans sH) (fresh_dict (s1.free hD) hnD hacc ⟨kk, rfl, rfl, by rw [List.map_map]; exact ek⟩ nl (racc.mono g6))
end
section
variable {X : Cx} {W : WX} {Γ : List Nat} {kx vx tg iter : Expr} {ifs : List Expr} {scope : Scope} {own : List (Str × Nat)} {si : SI} {is : List Nat} {g : STg} {st sk sv : SE} {fk fl : Fl} {pos : Pos}
theorem de_dc (hc : X.calm = true) (hN : X.N.Nodup) (hi : DI X W Γ tg iter false si) (ok : BlkOk X.N X.env.scope scope own)
    (hown : (own.map (·.2)).all (fun i => !Γ.contains i) = true) (his : is.all (fun i => (own.map (·.2)).contains i) = true)
    (hg : ∀ (s : Shared) (H : Hp) (C : Addr) (cl : List (Str × Addr)) (fp : List Addr), DG (X.blk s H scope (compEnvC scope cl C X.env) fp) Γ tg is g)
    (ht : ∀ (s : Shared) (H : Hp) (C : Addr) (cl : List (Str × Addr)) (fp : List Addr), DTs (X.blk s H scope (compEnvC scope cl C X.env) fp) W0 Γ ifs st)
    (hk : ∀ (s : Shared) (H : Hp) (C : Addr) (cl : List (Str × Addr)) (fp : List Addr), DE (X.blk s H scope (compEnvC scope cl C X.env) fp) W0 Γ kx fk sk)
    (he : ∀ (s : Shared) (H : Hp) (C : Addr) (cl : List (Str × Addr)) (fp : List Addr), DE (X.blk s H scope (compEnvC scope cl C X.env) fp) W0 Γ vx fl sv) (hf : storable [fl] = true := by kernel_rfl)
    (hs : ∀ x, foldedSetIterable iter X.env x = pure x := by intro _; rfl) :
    DE X W Γ (.DictComp kx vx [⟨tg, iter, ifs, 0⟩] scope pos) .fd (eDc si g (own.map (·.2)) st sk sv) :=
  pe_imp (pe_dc (wi := tDI X.K X.mg W Γ false si) (g := tDG X.K Γ is g) (tt := tDT X.K X.mg W0 Γ st) (tk := tDE X.K X.mg W0 Γ fk sk) (tv := tDE X.K X.mg W0 Γ fl sv) hc hN hi ok (fun s H C cl fp => (hg s H C cl fp).1) ht hk he hs) fun σ H Q h => dc_s hown his hf h
end
end DL
set_option Elab.async false
set_option linter.all false
set_option maxRecDepth 100000
/-! sum(d.values()); a list handed back; a comprehension over an own dict's items -/
namespace DL
open PySem PySem.Spec PyProof.Rows L2

/-! ### sum(d.values()) -/
section
variable {X : Cx} {W : WX} {Γ : List Nat} {o : Expr} {fl : Fl} {se : SE} {pos p apos mpos : Pos} {td : TE}
def tSumVals (td : TE) : TE := fun σ H Q => td σ H fun x H1 => ∃ (a : Addr) (kvs : List (Key × V)) (is : List Int), x = V.ref a ∧ Rd H1 a (.dK kvs) ∧ kvs.map (·.2) = is.map V.int ∧ Q (.int is.sum) H1
theorem pe_sumVals (hc : X.calm = true) (hm : X.mg "sum" = none) (hd : PE X o td) (hg : Gl X "sum" := by show _ = _; kernel_rfl) (hbase : attributeBase o "values" X.env (eval o X.env) = eval o X.env := by kernel_rfl) (hline : (apos.endLine == mpos.line) = true := by kernel_rfl)
    (hse : starEach [Expr.Call (.Attribute o "values" apos) [] [] mpos] X.env = [(false, eval (Expr.Call (.Attribute o "values" apos) [] [] mpos) X.env)] := by kernel_rfl) :
    PE X (.Call (.Name "sum" p) [.Call (.Attribute o "values" apos) [] [] mpos] [] pos) (tSumVals td) := by
  refine ⟨fun pins s σ H Q I h => ?_⟩
  refine wpAny_Call_Name_kw (ld_blt I hg hm (u := .builtin "sum") (by first | rfl | decide +kernel) ?_ (by first | decide +kernel | decide) (by first | decide +kernel | decide))
  rw [hse]
  refine PySem.callWith_builtin1 (wpAny_Call_method0_late hbase hline (thn (hd.run pins s σ H _ I h) fun v s1 ⟨x, H1, I1, r1, a, kvs, is, ex, ha, hv, q⟩ => ?_))
  subst ex
  obtain rfl : v = Value.ref a := r1
  obtain ⟨_, hsys, vs, rel, dof⟩ := dk_rd I1.hok ha
  obtain ⟨ep, dat⟩ := dof.dictAt
  have dat' := dat
  obtain ⟨ob, es, ho, ex, hdat, hko, hpr, hnd⟩ := dat'
  refine ⟨"dict", "dict.values", F.plainAttrs_dict, F.slot_dict_values, F.type_dict_values, ⟨ob, ho, ex.1⟩, fun b e => ?_, Calls.callWith_builtin rfl (PySem.evalArgs_none ?_)⟩
  · cases e
    exact ⟨ob, ho, ex.2.1⟩
  refine call_meetsIn F.slot_dict_values ⟨ob, ho, ex.1⟩ F.entry_dict_values (F.args_dict_values_1 _) (meets_dict_values (mixKind X.prog X.w) a hsys) ⟨⟨vs, dof⟩, ?_⟩
  have k1 : ∀ b u, s1.heap.get? b = some u → (s1.heap.push { cls := .type "dict_values", data := .fields #[.ref a] }).get? b = some u := fun b u e => Heap.get?_push_of_some _ e
  have dat1 : (s1.heap.push { cls := .type "dict_values", data := .fields #[.ref a] }).DictAt (mixKind X.prog X.w) a vs ep := dat.keep k1
  have hlv : vs.length = is.length := by
    have e1 := congrArg List.length hv
    rw [List.length_map, List.length_map] at e1
    rw [← e1]
    exact (KV.length rel).symm
  have hval : ∀ (i : Nat) (v : Value), (∃ k, vs[i]? = some (k, v)) → ∃ t, v = Value.int (is.getD i 0) t := fun i v ⟨k, hk⟩ => by
    obtain ⟨x, h1, h2⟩ := KV.at' rel hk
    have e1 : (kvs.map (·.2))[i]? = some x := by rw [List.getElem?_map, h1] <;> rfl
    rw [hv, List.getElem?_map] at e1
    obtain ⟨j, hj, e2⟩ := Option.map_eq_some_iff.mp e1
    subst e2
    obtain ⟨t, e3⟩ := h2
    refine ⟨t, ?_⟩
    rw [e3, List.getD_eq_getElem?_getD, hj] <;> rfl
  have hlt : a < s1.heap.objs.size := Heap.lt_size ho
  have hsz : (s1.heap.push { cls := .type "dict_values", data := .fields #[.ref a] }).objs.size = s1.heap.objs.size + 1 := Heap.size_push _ _
  refine call_sum_walkAnyS (wpAny_pyIter_values (v := s1.heap.objs.size) (d := a) ⟨_, Heap.get?_push_size _ rfl, rfl, rfl⟩ dat1 ?_)
  refine ⟨_, _, _, _, _, _, _, fun i => is.getD i 0, rfl, (Walks.dictValues (knd := mixKind X.prog X.w) (A := X.A.in1) (I.ok.hd hc) (s1.heap.push { cls := .type "dict_values", data := .fields #[.ref a] }).objs.size a (by rw [hsz]; exact Nat.ne_of_lt (Nat.lt_succ_of_lt hlt)) vs ep).toS,
    ⟨⟨_, Heap.get?_push_size _ rfl, rfl, rfl⟩, dat1.keep fun b u e => Heap.get?_push_of_some _ e⟩, fun b hb => ?_, hval, fun s' t' hm => ?_⟩
  · show b < ((s1.heap.push _).push _).objs.size
    rw [Heap.size_push, Heap.size_push]
    rw [hsz] at hb
    rcases List.mem_cons.mp hb with e | hb
    · rw [e]
      exact Nat.lt_succ_self _
    · have e : b = a := List.mem_singleton.mp hb
      rw [e]
      exact Nat.lt_succ_of_lt (Nat.lt_succ_of_lt hlt)
  · have e0 : preSum (fun i => is.getD i 0) vs.length = is.sum := by rw [preSum_getD, hlv, List.take_length]
    have hk : ∀ b u, s1.heap.get? b = some u → s'.heap.get? b = some u := fun b u e =>
      hm.heap b u (fun hmem => by
        have e1 : b = (s1.heap.push { cls := .type "dict_values", data := .fields #[.ref a] }).objs.size := List.mem_singleton.mp hmem
        have e2 := Heap.lt_size e
        rw [hsz] at e1
        rw [e1] at e2
        exact absurd e2 (Nat.not_lt.mpr (Nat.le_succ _))) (Heap.get?_push_of_some _ (k1 b u e))
    obtain ⟨h', g', d', tk', os'⟩ := s'
    have e1 : g' = s1.gens := hm.gens
    have e2 : d' = s1.drawn := hm.drawn
    have e3 : os' = s1.os := hm.os
    subst e1 e2 e3
    show ∃ v H', _
    rw [e0]
    exact ⟨.int _, H1, I1.kept (t' := tk') hk, ⟨t', rfl⟩, q⟩
theorem de_sumV (hc : X.calm = true) (hm : X.mg "sum" = none) (he : DE X W Γ o fl se) (hg : Gl X "sum" := by show _ = _; kernel_rfl) (hbase : attributeBase o "values" X.env (eval o X.env) = eval o X.env := by kernel_rfl) (hline : (apos.endLine == mpos.line) = true := by kernel_rfl)
    (hse : starEach [Expr.Call (.Attribute o "values" apos) [] [] mpos] X.env = [(false, eval (Expr.Call (.Attribute o "values" apos) [] [] mpos) X.env)] := by kernel_rfl) :
    DE X W Γ (.Call (.Name "sum" p) [.Call (.Attribute o "values" apos) [] [] mpos] [] pos) .fr (e1 dSumV se) :=
  pe_imp (pe_sumVals hc hm he hg hbase hline hse) fun σ H Q h => by
    obtain ⟨ρ, F, GO, E, h⟩ := h
    refine at_e E h fun d v H1 s1 r1 E1 h1 => ?_
    unfold dSumV at h1
    rcases asDT_or false d with ⟨fz, kvs, rfl⟩ | e
    · rw [asDT_dD, R.bind_ok] at h1
      obtain ⟨a, u, vs, rfl, hu, hk, hr, hn, _⟩ := r1.dict
      obtain ⟨kk, rfl, rfl, e1⟩ := hk
      obtain ⟨is, e2, h1⟩ := FinG.bind_ok (intsD_nx _) h1
      exact ⟨a, kk, is, rfl, hu, hr.ints e2, PE_.flat (PE_.mono s1 h1) (.int _) rfl⟩
    · rw [e] at h1; exact h1.elim
end

/-! ### a list of the def's own handed back -/
section
variable {X : Cx} {W : WX} {Γ Γ' : List Nat} {e : Expr} {es : List Expr} {fls : List Fl} {sa : SA} {pos p : Pos} {x : Str}
theorem ds_retO (i : Nat) (h : nameOk X.N X.env.scope i x = true := by kernel_rfl) (hΓ : Γ.contains i = true := by kernel_rfl) : DS X W Γ (.Return (some (.Name x p)) pos) Γ' (sRetO i) :=
  let h' := nameOk_of h
  ps_imp (ps_ret (pe_var h'.1 h'.2.1 h'.2.2.1 h'.2.2.2)) fun D σ H h => by
    obtain ⟨ρ, F, GO, E, h⟩ := h
    unfold sRetO at h
    obtain ⟨q, d, hq, k1, k2, k3⟩ := E.ownL hΓ
    rw [k2] at h
    have h : FinS X.K X.mg W Γ' F GO H ((asL d).bind fun d => .ok (.rf d)) D := h
    cases d with
    | list ds =>
      have h : FinS X.K X.mg W Γ' F GO H (.ok (.rf (.list ds))) D := h
      have mq : q ∈ Ads GO := List.mem_map.mpr ⟨_, hq, rfl⟩
      exact ⟨.ref q, k1, h q H (.refl H) (.inl mq) (k3.mono (.sub_ (.refl H) fun b hb => by
        rcases List.mem_cons.mp hb with e | hb
        · subst e; exact List.mem_append_left _ mq
        · exact List.mem_append_right _ hb) List.not_mem_nil)⟩
    | _ => exact h.elim
theorem ds_retF {se : SE} (he : DE X W Γ e .fr se) : DS X W Γ (.Return (some e) pos) Γ' (sRetF se) :=
  ps_imp (ps_ret he) fun D σ H h => by
    obtain ⟨ρ, F, GO, E, h⟩ := h
    unfold sRetF at h
    refine ⟨ρ, F, GO, E, h.ofG.imp fun d _ h1 v H1 s1 r1 => ?_⟩
    cases d with
    | list ds =>
      obtain ⟨p, rfl, hp, ho⟩ := r1.2 ds rfl
      have h1 : FinS X.K X.mg W Γ' F GO H (.ok (.rf (.list ds))) D := h1
      exact h1 p H1 (.of_same s1) (.inr hp) (ho.mono (.sub_ (.refl H1) fun b hb => by
        rcases List.mem_cons.mp hb with e | hb
        · subst e; exact List.mem_cons_self
        · exact List.mem_cons_of_mem _ (List.mem_append_right _ hb)) List.not_mem_nil)
    | _ => exact h1.elim
end
def spDF (K : PySem.W.Frag) (mg : MG) (n : Nat) (g : List Da → R Da) : Sp := fun vs H Q E => vs.length = n ∧ ∃ ds O, (∀ b, b ∈ O → H b ≠ none) ∧ RpAll K H O vs ds ∧ match g ds with
  | .ok d => ∀ v H', Same H H' → Res K H H' O .fr v d → Q v H'
  | .exc c => ∀ C H', mg c = some (.ref C) → Same H H' → E (.ref C) none H'
  | .bad => False
structure FnDF (P : Program) (w : World) (K : PySem.W.Frag) (mg : MG) (base : Heap) (x : Str) (k n : Nat) (g : List Da → R Da) : Prop where
  ex : ∃ f fd ps, FnOk P w K mg base (L2.CX P w) k f fd ps (spDF K mg n g) ∧ mg x = some (.ref f) ∧ PySem.W.keepIn K (.ref f) = true ∧ Binds K fd ps []
section
variable {P : Program} {w : World} {K : PySem.W.Frag} {mg : MG} {base : Heap}
theorem okFF {x qual : Str} {params : Arguments} {body : List Stmt} {scope : Scope} {f : Addr} {fd : FuncData} {N ps : List Str} {k n : Nat} {Γ' : List Nat} {b : SS} {g : List Da → R Da} (F : FunD K x qual params body scope [] [] f fd) (S : FnScope N ps scope) (hn : ps.length = n)
    (hbody : ∀ (cdv : Value) (A : Around) (outer : List Env) (s : Shared) (H : Hp) (E : XK), Room k (A.deeper (envOfC qual scope s.heap.objs.size f cdv)) → DSs (cxOf (L2.CX P w) P w K mg base N qual scope f cdv A outer s H E) (fun cls d _ H => E cls d H) [] body Γ' b)
    (hg : g = runDefF N.length b) : FnOk P w K mg base (L2.CX P w) (k + 1) f fd ps (spDF K mg n g) := by
  subst hn hg
  refine F.ok S (fun vs H Q E h => h.1) (fun cdv A outer s H vs Q E hr h => ⟨_, hbody cdv A outer s H E hr, ?_⟩)
  obtain ⟨hl, ds, O, al, r, h⟩ := h
  refine ⟨_, O, [], env_start r al N, ?_⟩
  unfold runDefF at h
  show FinS K mg _ Γ' O [] H (b (ds.map some ++ List.replicate (N.length - ds.length) none)) _
  cases q : b (ds.map some ++ List.replicate (N.length - ds.length) none) with
  | ok o =>
    rw [q] at h
    cases o with
    | nx ρ' => exact h.elim
    | rt d => exact h.elim
    | rf d =>
      intro p H' k' hp ho
      have hp' := hp.resolve_left List.not_mem_nil
      exact h (.ref p) H' k'.nil ⟨(ho.mono (.sub_ (.refl H') fun b hb => List.mem_cons_of_mem _ hb) List.not_mem_nil).rp fun z => al p z hp', fun ds' _ => ⟨p, rfl, hp', ho⟩⟩
  | exc c =>
    rw [q] at h
    exact fun C σ' H' hc k => h C H' hc k.nil
  | bad => rw [q] at h; exact h.elim
theorem okDF {x qual : Str} {params : Arguments} {body : List Stmt} {scope : Scope} {f : Addr} {fd : FuncData} {N ps : List Str} {k n : Nat} {Γ' : List Nat} {b : SS} {g : List Da → R Da} (F : FunD K x qual params body scope [] [] f fd) (S : FnScope N ps scope) (hn : ps.length = n)
    (hb : ∀ (kV doc pm : Value) (an : Option Addr) (cdv ct : Value) (us : List Value), us.length = ps.length → bindArgs (PySem.W.fnOf x qual params body scope .none kV doc pm an cdv ct) ⟨us, []⟩ = pure (ps.zip us)) (hm : mg x = some (.ref f))
    (hbody : ∀ (cdv : Value) (A : Around) (outer : List Env) (s : Shared) (H : Hp) (E : XK), Room k (A.deeper (envOfC qual scope s.heap.objs.size f cdv)) → DSs (cxOf (L2.CX P w) P w K mg base N qual scope f cdv A outer s H E) (fun cls d _ H => E cls d H) [] body Γ' b)
    (hg : g = runDefF N.length b) : FnDF P w K mg base x (k + 1) n g :=
  ⟨f, fd, ps, okFF F S hn hbody hg, hm, F.kp, F.bindsN hb⟩
end
section
variable {X : Cx} {W : WX} {Γ : List Nat} {e : Expr} {es : List Expr} {fls : List Fl} {sa : SA} {pos p : Pos} {x : Str}
theorem de_callF {k n : Nat} {g : List Da → R Da} (F : FnDF X.prog X.w X.K X.mg X.base x k n g) (hr : Room k X.A) (hg : Gl X x) (tk : Takes X W) (ha : DA X W Γ (e :: es) fls sa) (hn : fls.length = n := by kernel_rfl) (hf : storable fls = true := by kernel_rfl)
    (hdb : (x == ("__debug__" : Str)) = false := by decide) (he : starEach (e :: es) X.env = (false, eval e X.env) :: starEach es X.env := by kernel_rfl) (hpl : (backTo pos (starEach es X.env)).any (·.1) = false := by kernel_rfl) :
    DE X W Γ (.Call (.Name x p) (e :: es) [] pos) .fr (eA g sa) := by
  obtain ⟨f, fd, ps, G, hm, hk, hb⟩ := F.ex
  refine pe_imp (pe_callS G hr hg hm hk hb (fun σ => passAt tk σ) ha hdb he hpl) fun σ H Q h => ?_
  obtain ⟨ρ, F, GO, E, h⟩ := h
  refine at_a E h fun ds vs H1 s1 r1 E1 h1 => ⟨r1.lenV.trans hn, ds, Ads GO ++ F, E1.alive, r1.rp hf, ?_⟩
  cases q : g ds with
  | ok d => rw [q] at h1; exact fun v H' s' r' => h1 v H' (s1.trans s') (r'.back s1)
  | exc c => rw [q] at h1; exact fun C H' hc s' => h1 C H' hc s'
  | bad => rw [q] at h1; exact h1.elim
end

/-! ### x = [.. in d.items() ..], d an own dict, locked meanwhile -/
mutual
theorem Rp.unfrz {K : PySem.W.Frag} {H : Hp} {O O' : List Addr} {p : Addr} {od : Obj} {u : HO} (hp : H p = some (.frz od u)) (nl : ∀ xs, u ≠ .lst xs) (nt : ∀ xs, u ≠ .tup xs) (sub : ∀ b, b ∈ O' → b ∈ O ∨ b = p) : ∀ {d : Da} {v : V}, noD d = true → Rp K H O v d → Rp K (upd H p u) O' v d
  | .none, _, _, h => by cases h; exact .non
  | .bool _, _, _, h => by cases h; exact .bl _
  | .int _, _, _, h => by cases h; exact .int _
  | .str _, _, _, h => by cases h with | str x n => exact .str _ n
  | .tuple ds, _, f, h => by
    cases h with
    | @tup a _ _ h n r =>
      refine .tup ?_ n (RpAll.unfrz hp nl nt sub (by unfold noD at f; exact f) r)
      rcases h with h | h
      · refine .inl ?_
        rcases h with h | ⟨o, h⟩
        · have ne : a ≠ p := fun z => by rw [z, hp] at h; cases h
          exact .inl (by rw [upd_ne ne]; exact h)
        · have ne : a ≠ p := fun z => by rw [z, hp] at h; cases h; exact nt _ rfl
          exact .inr ⟨o, by rw [upd_ne ne]; exact h⟩
      · exact .inr h
  | .list ds, _, f, h => by
    cases h with
    | @lst a _ _ h n r =>
      refine .lst ?_ n (RpAll.unfrz hp nl nt sub (by unfold noD at f; exact f) r)
      rcases h with ⟨h, hO⟩ | h
      · refine .inl ?_
        rcases h with h | ⟨o, h⟩
        · have ne : a ≠ p := fun z => by rw [z, hp] at h; cases h
          exact ⟨.inl (by rw [upd_ne ne]; exact h), fun hb => (sub _ hb).elim hO ne⟩
        · have ne : a ≠ p := fun z => by rw [z, hp] at h; cases h; exact nl _ rfl
          exact ⟨.inr ⟨o, by rw [upd_ne ne]; exact h⟩, fun hb => (sub _ hb).elim hO ne⟩
      · exact .inr h
  | .dict _, _, f, _ => by unfold noD at f; cases f
theorem RpAll.unfrz {K : PySem.W.Frag} {H : Hp} {O O' : List Addr} {p : Addr} {od : Obj} {u : HO} (hp : H p = some (.frz od u)) (nl : ∀ xs, u ≠ .lst xs) (nt : ∀ xs, u ≠ .tup xs) (sub : ∀ b, b ∈ O' → b ∈ O ∨ b = p) : ∀ {ds : List Da} {vs : List V}, noDs ds = true → RpAll K H O vs ds → RpAll K (upd H p u) O' vs ds
  | [], _, _, h => by cases h; exact .nil
  | d :: ds, _, f, h => by
    unfold noDs at f
    obtain ⟨f1, f2⟩ := Bool.and_eq_true_iff.mp f
    cases h with
    | cons h t => exact .cons (Rp.unfrz hp nl nt sub f1 h) (RpAll.unfrz hp nl nt sub f2 t)
end
section
variable {X : Cx} {W : WX} {Γ Γ1 : List Nat} {elt tg iter : Expr} {ifs : List Expr} {scope : Scope} {own : List (Str × Nat)} {si : SI} {is : List Nat} {g : STg} {ct se : SE} {fl : Fl} {pos : Pos}
theorem lk_s {i j : Nat} {e : SE} {D : Ends} {σ : L2.St} {H : Hp} (hΓ : Γ.contains i = true) (h1 : Γ.filter (fun k => k != i) = Γ1) (hj : Γ.contains j = false) (h : tDS X.K X.mg W Γ Γ (sLkLc i j e) D σ H) :
    ∃ d u, H d = some u ∧ Mut (some u) ∧ ∀ od, tDE X.K X.mg W0 Γ1 .fr e σ (upd H d (.frz od u)) fun x H1 => gName j x σ H1 fun σ' H' => H' d = some (.frz od u) ∧ D.nx σ' (upd H' d u) := by
  obtain ⟨ρ, F, GO, E, h⟩ := h
  unfold sLkLc at h
  obtain ⟨q, d, hq, k1, k2, k3⟩ := E.ownL hΓ
  rw [k2] at h
  have h : FinS X.K X.mg W Γ F GO H ((frzD d).bind fun d' => (nox (e (ρ.set i (some d')))).bind fun v => (noDR v).bind fun v => .ok (.nx (ρ.set j (some v)))) D := h
  cases d with
  | dict w =>
    obtain ⟨tk, kvs, u, vs, rfl, g1, g2, g3, g4⟩ := k3
    have h : FinS X.K X.mg W Γ F GO H ((nox (e (ρ.set i (some (dD true tk kvs))))).bind fun v => (noDR v).bind fun v => .ok (.nx (ρ.set j (some v)))) D := h
    refine ⟨q, u, g1, g2.mut', fun od => ?_⟩
    have E2 := E.frz (od := od) hq g1 g2 g3 g4
    rw [h1] at E2
    cases r : e (ρ.set i (some (dD true tk kvs))) with
    | ok v =>
      rw [r] at h
      have h : FinS X.K X.mg W Γ F GO H ((noDR v).bind fun v => .ok (.nx (ρ.set j (some v)))) D := h
      unfold noDR at h
      split at h
      · rename_i nd
        have h : FinS X.K X.mg W Γ F GO H (.ok (.nx (ρ.set j (some v)))) D := h
        refine ⟨_, F, _, E2, ok_of_fin ⟨v, r, fun v' H' s' r' => ?_⟩⟩
        have hq' : H' q = some (.frz od u) := s' _ _ upd_same
        have hj' : j ∉ Γ := fun z => by rw [List.contains_iff_mem.mpr z] at hj; cases hj
        have sm : Same H (upd H' q u) := fun b o eb => by
          by_cases z : b = q
          · subst z; rw [g1] at eb; cases eb; exact upd_same
          · rw [upd_ne z]; exact s' _ _ (by rw [upd_ne z]; exact eb)
        have rv : Rp X.K (upd H' q u) (Ads GO ++ F) v' v := by
          refine r'.1.unfrz hq' (fun xs z => ?_) (fun xs z => ?_) (fun b hb => ?_) nd
          · subst z; have := g2; cases tk with
            | false => obtain ⟨_, z, _⟩ := this; cases z
            | true => obtain ⟨_, z, _⟩ := this; cases z
          · subst z; have := g2; cases tk with
            | false => obtain ⟨_, z, _⟩ := this; cases z
            | true => obtain ⟨_, z, _⟩ := this; cases z
          · by_cases z : b = q
            · exact .inr z
            · left
              rcases List.mem_append.mp hb with hb | hb
              · obtain ⟨⟨a1, a2⟩, ha, rfl⟩ := List.mem_map.mp hb
                refine List.mem_append_left _ (List.mem_map.mpr ⟨(a1, a2), List.mem_filter.mpr ⟨ha, ?_⟩, rfl⟩)
                simp only [bne_iff_ne, ne_eq]
                intro hne
                subst hne
                obtain ⟨b1, d', b2, b3⟩ := E.own _ _ ha
                have b1' : σ[a1]? = some (some (V.ref a2)) := b1
                rw [k1] at b1'
                cases b1'
                exact z rfl
              · exact List.mem_append_right _ hb
        exact ⟨hq', h _ _ GO ((E.mono sm).setS hj' rv) (.of_same sm) fun b hb => .inl hb⟩
      · exact h.elim
    | exc c => rw [r] at h; exact h.elim
    | bad => rw [r] at h; exact h.elim
  | _ => exact h.elim
theorem ds_lkLc {i j : Nat} {y : Str} {py : Pos} {spos : Pos} (hΓi : Γ.contains i = true) (h1 : Γ.filter (fun k => k != i) = Γ1) (hc : X.calm = true) (hN : X.N.Nodup) (hy : X.N[j]? = some y) (hyl : X.env.scope.names.lookup y = some .local) (hΓ : Γ.contains j = false)
    (hsw : swapsWith (.ListComp elt [⟨tg, iter, ifs, 0⟩] scope pos) (some (.Name y py)) spos.line X.env = pure true) (hi : DI X W0 Γ1 tg iter false si) (ok : BlkOk X.N X.env.scope scope own)
    (hown : (own.map (·.2)).all (fun i => !Γ1.contains i) = true) (his : is.all (fun i => (own.map (·.2)).contains i) = true)
    (hg : ∀ (s : Shared) (H : Hp) (C : Addr) (cl : List (Str × Addr)) (fp : List Addr), DG (X.blk s H scope (compEnvC scope cl C X.env) fp) Γ1 tg is g)
    (ht : ∀ (s : Shared) (H : Hp) (C : Addr) (cl : List (Str × Addr)) (fp : List Addr), DTs (X.blk s H scope (compEnvC scope cl C X.env) fp) W0 Γ1 ifs ct)
    (he : ∀ (s : Shared) (H : Hp) (C : Addr) (cl : List (Str × Addr)) (fp : List Addr), DE (X.blk s H scope (compEnvC scope cl C X.env) fp) W0 Γ1 elt fl se) (hf : storable [fl] = true := by kernel_rfl)
    (hs : ∀ x, foldedSetIterable iter X.env x = pure x := by intro _; rfl) :
    DS X W Γ (.Assign [.Name y py] (.ListComp elt [⟨tg, iter, ifs, 0⟩] scope pos) spos) Γ (sLkLc i j (eLc si g (own.map (·.2)) ct se)) :=
  ps_imp (ps_lock (ps_setLc (wi := tDI X.K X.mg W0 Γ1 false si) (g := tDG X.K Γ1 is g) (tt := tDT X.K X.mg W0 Γ1 ct) (te := tDE X.K X.mg W0 Γ1 fl se) hc hN hy hyl hsw hi ok (fun s H C cl fp => (hg s H C cl fp).1) ht he hs)) fun D σ H h => by
    obtain ⟨d, u, e1, e2, h⟩ := lk_s hΓi h1 hΓ h
    exact ⟨d, u, e1, e2, fun od => lc_s hown his hf (h od)⟩
end
end DL
set_option Elab.async false
set_option linter.all false
set_option maxRecDepth 100000
/-! a new dict that is stored: given up for good at once -/
namespace DL
open PySem PySem.Spec PyProof.Rows L2
section
variable {X : Cx} {W : WX} {Γ : List Nat} {e : Expr} {se : SE} {t : TE}
def tFz (t : TE) : TE := fun σ H Q => t σ H fun v H1 => ∃ d u, v = V.ref d ∧ H1 d = some u ∧ Mut (some u) ∧ ∀ od, Q v (upd H1 d (.frz od u))
theorem pe_fz (h : PE X e t) : PE X e (tFz t) := ⟨fun pins s σ H Q I q =>
  thn (h.run pins s σ H _ I q) fun v s1 ⟨x, H1, I1, r1, d, u, ex, hd, mu, q⟩ => by
    obtain ⟨od, I2⟩ := I1.lock hd mu
    exact ⟨x, _, I2, r1, q od⟩⟩
theorem frzD_or (d : Da) : (∃ tk kvs, d = dD false tk kvs) ∨ frzD d = .bad := by
  unfold frzD
  rcases asD_or d with ⟨fz, tk, kvs, rfl⟩ | e
  · cases fz with
    | true => exact .inr rfl
    | false => exact .inl ⟨tk, kvs, rfl⟩
  · rw [e]; exact .inr rfl
theorem de_fz (he : DE X W Γ e .fd se) : DE X W Γ e .sh (e1 frzD se) :=
  pe_imp (pe_fz he) fun σ H Q h => by
    obtain ⟨ρ, F, GO, E, h⟩ := h
    refine at_e E h fun d v H1 s1 r1 E1 h1 => ?_
    rcases frzD_or d with ⟨tk, kvs, rfl⟩ | e
    · obtain ⟨p, rfl, hp, ho⟩ := r1.2 tk kvs rfl
      unfold dD at ho
      obtain ⟨tk', kvs', u, vs, e0, g1, g2, g3, g4⟩ := ho
      cases e0
      have h1 : PE_ X.K H (Ads GO ++ F) .sh Q (dD true tk kvs) := h1
      refine ⟨p, u, rfl, g1, g2.mut', fun od => ?_⟩
      have g : Grow [p] (p :: (Ads GO ++ F)) (Ads GO ++ F) H1 (upd H1 p (.frz od u)) := ⟨fun b o eb hb => by
        by_cases z : b = p
        · subst z
          rw [g1] at eb
          cases eb
          have := hb List.mem_cons_self
          rw [g2.mut] at this
          cases this
        · rw [upd_ne z]; exact eb, fun b hb => by rw [List.mem_singleton.mp hb]; exact List.mem_cons_self, fun b hb => .inl (List.mem_cons_of_mem _ hb)⟩
      exact h1 _ _ (Same.upd_new hp s1) (.dct (fz := true) ⟨od, upd_same⟩ g2 g4 (g3.mono g))
    · rw [e] at h1
      exact h1.elim
end
/-! x.pop() -/
section
variable {X : Cx} {W : WX} {Γ : List Nat} {pos p : Pos}
theorem ds_pop {i : Nat} {x : Str} {apos cpos : Pos} (hN : X.N[i]? = some x) (hv : Vis X.env.scope x) (hΓ : Γ.contains i = true)
    (hd : (x == ("__debug__" : Str)) = false := by decide) (hcd : (x == ("__classdict__" : Str)) = false := by decide)
    (hsw : swapsWith (.Call (.Attribute (.Name x p) "pop" apos) [] [] cpos) none pos.line X.env = pure false := by kernel_rfl)
    (hb : attributeBase (.Name x p) "pop" X.env (eval (.Name x p) X.env) = eval (.Name x p) X.env := by kernel_rfl) (hl : (apos.endLine == cpos.line) = true := by kernel_rfl) :
    DS X W Γ (.Expr (.Call (.Attribute (.Name x p) "pop" apos) [] [] cpos) pos) Γ (sPop i) :=
  ps_imp (ps_expr (pe_bm0 PySem.F.plainAttrs_list PySem.F.slot_list_pop PySem.F.type_list_pop mt_pop (pe_var (i := i) hN hv hd hcd) hb hl) hsw) fun D σ H h => by
    obtain ⟨ρ, F, GO, E, h⟩ := h
    obtain ⟨q, d0, hq, h1, h2, h3⟩ := E.ownL hΓ
    unfold sPop updE at h
    rw [h2] at h
    cases d0 with
    | list ds =>
      obtain ⟨vs, g1, g2, g3⟩ := h3
      cases ds with
      | nil => exact h.elim
      | cons d ds =>
        have h : FinS X.K X.mg W Γ F GO H (.ok (.nx (ρ.set i (some (.list (d :: ds).dropLast))))) D := h
        have lv := g2.length
        have pos : 0 < vs.length := by rw [lv, List.length_cons]; omega
        have dl : RpAll X.K H (Ads GO ++ F) vs.dropLast (d :: ds).dropLast := by
          rw [List.dropLast_eq_take, List.dropLast_eq_take, lv]
          exact g2.take _
        obtain ⟨E2, K2⟩ := E.writeL hq g1 dl (by rw [List.length_dropLast]; omega)
        exact ⟨.ref q, h1, .inl ⟨rfl, _, .inl (.inl g1)⟩, q, vs, vs[vs.length - 1], rfl, rfl, g1, List.getElem?_eq_getElem (by omega), h σ _ GO E2 K2 same_new⟩
    | dict _ => exact h.elim
    | _ => exact h3.elim
end
end DL
set_option Elab.async false
set_option linter.all false
set_option maxRecDepth 100000
namespace DL
open PySem PySem.Spec PyProof.Rows L2

def locB (sc : Scope) (x : Str) : Bool := match sc.names.lookup x with
  | some .local => true
  | some .cell => true
  | _ => false
theorem locK {sc : Scope} {x : Str} (h : locB sc x = true) : Loc sc x := by
  unfold locB at h
  split at h
  · exact .inl (by assumption)
  · exact .inr (by assumption)
  · cases h
theorem glK {X : Cx} {x : Str} (h : X.env.kindOf x = some .globalImplicit) : Gl X x := h
def lclB (sc : Scope) (x : Str) : Bool := match sc.names.lookup x with
  | some .local => true
  | _ => false
theorem fnK {X : Cx} {x : Str} (h : (X.fn x || lclB X.env.scope x) = true) : X.fn x = true ∨ X.env.scope.names.lookup x = some .local := by
  rcases Bool.or_eq_true_iff.mp h with h | h
  · exact .inl h
  · refine .inr ?_
    unfold lclB at h
    split at h
    · assumption
    · cases h
theorem bt_int : bootBuiltins "int" = some (.type "int") := by decide +kernel
theorem bt_bool : bootBuiltins "bool" = some (.type "bool") := by decide +kernel
theorem bt_str : bootBuiltins "str" = some (.type "str") := by decide +kernel
theorem bt_tuple : bootBuiltins "tuple" = some (.type "tuple") := by decide +kernel
theorem bt_list : bootBuiltins "list" = some (.type "list") := by decide +kernel
theorem bt_dict : bootBuiltins "dict" = some (.type "dict") := by decide +kernel

section
variable {X : Cx} {W : WX} {Γ Γ' Γ1 : List Nat} {e a b c d : Expr} {es : List Expr} {fls : List Fl} {fl fa fb fc : Fl} {se sa sb sc : SE} {pos p p2 p3 : Pos}
section
variable {elt tg iter : Expr} {ifs : List Expr} {scope : Scope} {own : List (Str × Nat)} {si : SI} {is : List Nat} {g : STg} {ct : SE}
theorem ds_setLcS {i : Nat} {y : Str} {py : Pos} {spos : Pos} (hc : X.calm = true) (hN : X.N.Nodup) (hy : X.N[i]? = some y) (hyl : X.env.scope.names.lookup y = some .local) (hΓ : Γ.contains i = false)
    (hsw : swapsWith (.ListComp elt [⟨tg, iter, ifs, 0⟩] scope pos) (some (.Name y py)) spos.line X.env = pure true) (hi : DI X W Γ tg iter false si) (ok : BlkOk X.N X.env.scope scope own)
    (hown : (own.map (·.2)).all (fun i => !Γ.contains i) = true) (his : is.all (fun i => (own.map (·.2)).contains i) = true)
    (hg : ∀ (s : Shared) (H : Hp) (C : Addr) (cl : List (Str × Addr)) (fp : List Addr), DG (X.blk s H scope (compEnvC scope cl C X.env) fp) Γ tg is g)
    (ht : ∀ (s : Shared) (H : Hp) (C : Addr) (cl : List (Str × Addr)) (fp : List Addr), DTs (X.blk s H scope (compEnvC scope cl C X.env) fp) W0 Γ ifs ct)
    (he : ∀ (s : Shared) (H : Hp) (C : Addr) (cl : List (Str × Addr)) (fp : List Addr), DE (X.blk s H scope (compEnvC scope cl C X.env) fp) W0 Γ elt fl se) (hf : storable [fl] = true := by kernel_rfl)
    (hs : ∀ x, foldedSetIterable iter X.env x = pure x := by intro _; rfl) :
    DS X W Γ (.Assign [.Name y py] (.ListComp elt [⟨tg, iter, ifs, 0⟩] scope pos) spos) Γ (sAsg (gVar i) (eLc si g (own.map (·.2)) ct se)) :=
  ps_imp (ps_setLc (wi := tDI X.K X.mg W Γ false si) (g := tDG X.K Γ is g) (tt := tDT X.K X.mg W0 Γ ct) (te := tDE X.K X.mg W0 Γ fl se) hc hN hy hyl hsw hi ok (fun s H C cl fp => (hg s H C cl fp).1) ht he hs) fun D σ H h =>
    lc_s hown his hf (name_s (fl := .fr) hΓ rfl h)
end
end
theorem exn_of {K : PySem.W.Frag} {h : Heap} {mg : MG} {x : Str} (X : K.In h) (G : h.Ns mainGlobals mg) (c : (He.Fa.exc x).ok K = true) (c2 : (He.Fa.glo x).ok K = true) : Exn K mg x :=
  let ⟨a, b, d, e⟩ := He.exc_ok c
  ⟨_, He.glo_ok X G c2, a, b, d, e⟩

/-! ### the head's facts and one more Bool -/
abbrev AlE : Type := He.AlD × Bool
def SaysE (fa : List He.Fa) (fn : List He.DefD) (ex : PySem.W.Frag → Bool) (K : PySem.W.Frag) : Prop := He.SaysD fa fn K ∧ ex K = true
def obsEG (n : Nat) (fa : List He.Fa) (fn : List He.DefD) (ex : PySem.W.Frag → Bool) (g : Addr → Option Obj) : AlE := (He.obsD fa fn (He.frG g (He.asD g n)), ex (He.frG g (He.asD g n)))
def hookE (n : Nat) (fa : List He.Fa) (fn : List He.DefD) (ex : PySem.W.Frag → Bool) : PySem.W.Hook where
  α := AlE
  obs := fun s => obsEG n fa fn ex s.heap.get?
  val := fun _ => (He.valD fn, true)
  says := fun _ h => ∃ K : PySem.W.Frag, K.In h ∧ SaysE fa fn ex K
  of := fun _ _ e => ⟨_, He.frG_in, congrArg (fun z : AlE => z.1) e, congrArg (fun z : AlE => z.2) e⟩
  keeps := fun _ _ _ ⟨K, hK, c⟩ k => ⟨K, PySem.W.Frag.In.keeps hK k, c⟩
theorem obsEG_eq {n : Nat} {fa : List He.Fa} {fn : List He.DefD} {ex : PySem.W.Frag → Bool} {g : Addr → Option Obj} {s : Shared} (h : ∀ a, g a = s.heap.get? a) : obsEG n fa fn ex g = (hookE n fa fn ex).obs s := by
  have e : g = s.heap.get? := funext h
  rw [e] <;> rfl
theorem walk_ofX {l : PySem.W.OpenLaw} {n k : Nat} {q : Program} {loose : List Str} {XP : (Str → Option Value) → Heap → Prop} {YP : World → Heap → Prop} {d : DefRec} {x : Str}
    (hn : l.most = some n) (hn2 : n ≤ sizeLine) (hdf : d.params.defaults = []) (hr : Room k callerA)
    (F : ∀ (w : World) (mg : Str → Option Value) (fa : Addr) (h : Heap), YP w h → h.Ns mainGlobals mg → mg d.name = some (.ref fa) →
      ∃ (K : PySem.W.Frag) (fd : FuncData) (sp : Sp), K.In h ∧ (∀ (s : Shared) (u : Value), BindsTo s fd ⟨[u], []⟩ [(x, u)]) ∧
        (∀ (H : Hp) (a : Addr) (ns : List Int), ns.length ≤ n → Only H → SqL K H a (ns.map V.int) → sp [.ref a] H (fun v _ => v = .bl true) fun _ _ _ => False) ∧
        ∀ base : Heap, K.In base → base.Ns mainGlobals mg → FnOk l.prog w K mg base (L2.CX l.prog w) k fa fd [x] sp) :
    PySem.W.WalkO q loose XP YP l.row.toRowW d [] (fun f vs => PySem.call f vs) := by
  refine Att.attach_call hn hdf fun w s₀ s₁ mg mb fa o pm cd doc a vs ns G Y ho hd hcd hmg hobj hints hlen hg => ?_
  obtain ⟨K, fd, sp, KX, hb, hsp, hF⟩ := F w mg fa _ Y G.T.g hmg
  exact law_call KX G.T.g G.T.b G.T.builtins G.T.nolimit hg hobj hints (Nat.le_trans hlen hn2) hr hF hb (fun H hO hS => hsp H a ns hlen hO hS) fun H e s' ⟨_, _, _, _, _, _, _, _, _, _, _, _, hE⟩ => hE.elim
theorem law_sp {K : PySem.W.Frag} {mg : MG} {g : List Da → R Da} {n : Nat} (hn : n ≤ big) (hg : ∀ ns : List Int, ns.length ≤ n → g [.list (ns.map PyData.int)] = .ok (.bool true)) (H : Hp) (a : Addr) (ns : List Int) (hl : ns.length ≤ n) (hO : Only H) (hS : SqL K H a (ns.map V.int)) :
    spD K mg 1 g [.ref a] H (fun v _ => v = .bl true) fun _ _ _ => False := by
  refine ⟨rfl, [.list (ns.map PyData.int)], [], fun b hb => (List.not_mem_nil hb).elim, .cons (.lst (xs := ns.map V.int) ?_ (by rw [List.length_map]; omega) ?_) .nil, ?_⟩
  · rcases hS with h | h
    · exact .inl ⟨h, fun z => (List.not_mem_nil z).elim⟩
    · exact .inr h
  · clear hl hS
    induction ns with
    | nil => exact .nil
    | cons i ns ih => exact .cons (.int i) ih
  · rw [hg ns hl]
    intro v H' _ r
    cases r; rfl
end DL
set_option Elab.async false
set_option linter.all false
/-! Plain lemmas on the D semantics: loops, comprehensions, ranges. -/
namespace DL
open PySem

/-- the end of a def -/
def finO : Out → Da
  | .nx _ => .none
  | .rt d => d
  | .rf d => d
@[simp] theorem finO_nx (ρ : Ev) : finO (.nx ρ) = .none := rfl
@[simp] theorem finO_rt (d : Da) : finO (.rt d) = d := rfl
@[simp] theorem finO_rf (d : Da) : finO (.rf d) = d := rfl
theorem runDef_ (n : Nat) (body : SS) (ds : List Da) : runDef n body ds = (body (ds.map some ++ List.replicate (n - ds.length) none)).bind fun o => .ok (finO o) := by
  unfold runDef
  congr 1
  funext o
  cases o <;> rfl
/-! the operators at their kinds -/
def di (k : Nat) : Da := .int (k : Int)
@[simp] theorem dAdd_int (i j : Int) : dAdd (.int i) (.int j) = .ok (.int (i + j)) := rfl
@[simp] theorem addI_int (i j : Int) : addI (.int i) (.int j) = .ok (.int (i + j)) := rfl
@[simp] theorem dSub_int (i j : Int) : dSub (.int i) (.int j) = .ok (.int (i - j)) := rfl
theorem mulI_int (i j : Int) : mulI (.int i) (.int j) = if mulOk i j then .ok (.int (i * j)) else .bad := rfl
theorem mulI_l (i j : Int) (h1 : -(2 ^ 64) < i) (h2 : i < 2 ^ 64) : mulI (.int i) (.int j) = .ok (.int (i * j)) := by
  rw [mulI_int]
  have : mulOk i j = true := by unfold mulOk; simp; omega
  rw [if_pos this]
theorem mulI_r (i j : Int) (h1 : -(2 ^ 64) < j) (h2 : j < 2 ^ 64) : mulI (.int i) (.int j) = .ok (.int (i * j)) := by
  rw [mulI_int]
  have : mulOk i j = true := by unfold mulOk; simp; omega
  rw [if_pos this]
theorem mulI_big (i j : Int) (a b : Nat) (ha : i.natAbs < 2 ^ a) (hb : j.natAbs < 2 ^ b) (h0 : 0 < a) (h1 : 0 < b) (h : a + b ≤ 1000000) : mulI (.int i) (.int j) = .ok (.int (i * j)) := by
  have l1 : ∀ (x c : Nat), x < 2 ^ c → 0 < c → x.log2 < c := fun x c h h0 => by
    by_cases z : x = 0
    · subst z; simpa using h0
    · exact (Nat.log2_lt z).mpr h
  have g1 := l1 _ _ ha h0
  have g2 := l1 _ _ hb h1
  have : mulOk i j = true := by unfold mulOk; simp; omega
  rw [mulI_int, if_pos this]
theorem s64a (m : Int) (h : -1073741824 < m) : -(2 ^ 64) < m := by omega
theorem s64b (m : Int) (h : m < 1073741824) : m < 2 ^ 64 := by omega
/-- a small factor -/
theorem mulI_sr (i j : Int) (h1 : -1073741824 < j) (h2 : j < 1073741824) : mulI (.int i) (.int j) = .ok (.int (i * j)) := mulI_r i j (s64a _ h1) (s64b _ h2)
theorem mulI_sl (i j : Int) (h1 : -1073741824 < i) (h2 : i < 1073741824) : mulI (.int i) (.int j) = .ok (.int (i * j)) := mulI_l i j (s64a _ h1) (s64b _ h2)
theorem dDiv_int (i j : Int) : dDiv (.int i) (.int j) = if j ≠ 0 ∧ j.natAbs < 1073741824 then .ok (.int (i.fdiv j)) else .bad := rfl
theorem dMod_int (i j : Int) : dMod (.int i) (.int j) = if j ≠ 0 then .ok (.int (i.fmod j)) else .bad := rfl
theorem dDiv_pos (i j : Int) (h : 0 < j) (h2 : j < 1073741824) : dDiv (.int i) (.int j) = .ok (.int (i / j)) := by
  rw [dDiv_int, if_pos ⟨by omega, by omega⟩, Int.fdiv_eq_ediv_of_nonneg _ (by omega)]
theorem dMod_pos (i j : Int) (h : 0 < j) : dMod (.int i) (.int j) = .ok (.int (i % j)) := by
  rw [dMod_int, if_pos (by omega), Int.fmod_eq_emod_of_nonneg _ (by omega)]
theorem dDiv_nat (a b : Nat) (h : 0 < b) (h2 : b < 1073741824) : dDiv (di a) (di b) = .ok (di (a / b)) := by
  have h3 : (0 : Int) < (b : Int) := by omega
  have h4 : (b : Int) < 1073741824 := by omega
  exact (dDiv_pos a b h3 h4).trans (congrArg (fun z => R.ok (PyData.int z)) (Int.natCast_ediv a b).symm)
theorem dMod_nat (a b : Nat) (h : 0 < b) : dMod (di a) (di b) = .ok (di (a % b)) := by
  have h3 : (0 : Int) < (b : Int) := by omega
  exact (dMod_pos a b h3).trans (congrArg (fun z => R.ok (PyData.int z)) (Int.natCast_emod a b).symm)
theorem mulI_nat (a b : Nat) (h : b < 1073741824) : mulI (di a) (di b) = .ok (di (a * b)) := by
  have h3 : -1073741824 < (b : Int) := by omega
  have h4 : (b : Int) < 1073741824 := by omega
  exact (mulI_sr a b h3 h4).trans (congrArg (fun z => R.ok (PyData.int z)) (Int.natCast_mul a b).symm)
theorem dAdd_nat (a b : Nat) : dAdd (di a) (di b) = .ok (di (a + b)) := congrArg (fun z => R.ok (PyData.int z)) (Int.natCast_add a b).symm
theorem addI_nat (a b : Nat) : addI (di a) (di b) = .ok (di (a + b)) := congrArg (fun z => R.ok (PyData.int z)) (Int.natCast_add a b).symm
theorem dEq_nat (a b : Nat) : dEq (di a) (di b) = .ok (.bool (decide (a = b))) := by
  show R.ok (PyData.bool (decide ((a : Int) = b))) = _
  congr 2
  exact decide_eq_decide.mpr (by omega)
theorem dNe_nat (a b : Nat) : dNe (di a) (di b) = .ok (.bool (!decide (a = b))) := by
  unfold dNe
  rw [dEq_nat]
  rfl
theorem dLt_nat (a b : Nat) : dLt (di a) (di b) = .ok (.bool (decide (a < b))) := by
  show R.ok (PyData.bool (decide ((a : Int) < b))) = _
  congr 2
  exact decide_eq_decide.mpr (by omega)
theorem dLe_nat (a b : Nat) : dLe (di a) (di b) = .ok (.bool (decide (a ≤ b))) := by
  show R.ok (PyData.bool (decide ((a : Int) ≤ b))) = _
  congr 2
  exact decide_eq_decide.mpr (by omega)
theorem dGt_nat (a b : Nat) : dGt (di a) (di b) = .ok (.bool (decide (b < a))) := by
  show R.ok (PyData.bool (decide ((b : Int) < a))) = _
  congr 2
  exact decide_eq_decide.mpr (by omega)
theorem dGe_nat (a b : Nat) : dGe (di a) (di b) = .ok (.bool (decide (b ≤ a))) := by
  show R.ok (PyData.bool (decide ((b : Int) ≤ a))) = _
  congr 2
  exact decide_eq_decide.mpr (by omega)
theorem dSub_nat (a b : Nat) (h : b ≤ a) : dSub (di a) (di b) = .ok (di (a - b)) := congrArg (fun z => R.ok (PyData.int z)) (Int.natCast_sub h).symm
theorem dMin2_nat (a b : Nat) : dMin2 [di a, di b] = .ok (di (min b a)) := by
  show R.ok (PyData.int (if (b : Int) < a then (b : Int) else a)) = _
  congr 2
  split <;> omega
theorem dMax2_nat (a b : Nat) : dMax2 [di a, di b] = .ok (di (max b a)) := by
  show R.ok (PyData.int (if (b : Int) > a then (b : Int) else a)) = _
  congr 2
  split <;> omega
theorem dGcd_nat (a b : Nat) : dGcd [di a, di b] = .ok (di (Nat.gcd a b)) := rfl
@[simp] theorem dInt_nat (a : Nat) : dInt [di a] = .ok (di a) := rfl
theorem dIx_list_nat (xs : List Da) (n : Nat) : dIx (.list xs) (di n) = oR xs[n]? := by
  show oR (atD xs (n : Int)) = _
  unfold atD
  rw [if_pos (Int.natCast_nonneg n)]
  rfl
theorem dIx_tuple_nat (xs : List Da) (n : Nat) : dIx (.tuple xs) (di n) = oR xs[n]? := by
  show oR (atD xs (n : Int)) = _
  unfold atD
  rw [if_pos (Int.natCast_nonneg n)]
  rfl
theorem dLen_list_nat (xs : List Da) : dLen [.list xs] = .ok (di xs.length) := rfl
theorem dLen_tuple_nat (xs : List Da) : dLen [.tuple xs] = .ok (di xs.length) := rfl
@[simp] theorem tru_di (n : Nat) : tru (di n) = decide (n ≠ 0) := by
  show ((n : Int) != 0) = _
  cases n <;> simp
  omega
@[simp] theorem toI_di (n : Nat) : toI (di n) = .ok (n : Int) := rfl
@[simp] theorem isNone_di (i : Nat) : isNone (di i) = false := rfl
@[simp] theorem isTy_int_di (i : Nat) : isTy .int (di i) = true := rfl
@[simp] theorem isTy_bool_di (i : Nat) : isTy .bool (di i) = false := rfl
@[simp] theorem isTy_tuple_di (i : Nat) : isTy .tuple (di i) = false := rfl
@[simp] theorem dNeg_int (i : Int) : dNeg (.int i) = .ok (.int (-i)) := rfl
@[simp] theorem dCmp_int (p : Int → Int → Bool) (i j : Int) : dCmp p (.int i) (.int j) = .ok (.bool (p i j)) := rfl
@[simp] theorem dEq_int (i j : Int) : dEq (.int i) (.int j) = .ok (.bool (decide (i = j))) := rfl
@[simp] theorem dEq_bool (i j : Bool) : dEq (.bool i) (.bool j) = .ok (.bool (decide (i = j))) := rfl
@[simp] theorem dEq_str (i j : Str) : dEq (.str i) (.str j) = .ok (.bool (decide (i = j))) := rfl
@[simp] theorem dEq_none : dEq .none .none = .ok (.bool true) := rfl
@[simp] theorem dEq_none_int (i : Int) : dEq .none (.int i) = .ok (.bool false) := rfl
@[simp] theorem dEq_int_none (i : Int) : dEq (.int i) .none = .ok (.bool false) := rfl
@[simp] theorem rNot_bool (b : Bool) : rNot (.ok (.bool b)) = .ok (.bool (!b)) := rfl
@[simp] theorem dNe_int (i j : Int) : dNe (.int i) (.int j) = .ok (.bool (!decide (i = j))) := rfl
@[simp] theorem dNe_str (i j : Str) : dNe (.str i) (.str j) = .ok (.bool (!decide (i = j))) := rfl
@[simp] theorem dNe_none : dNe .none .none = .ok (.bool false) := rfl
@[simp] theorem dNe_none_int (i : Int) : dNe .none (.int i) = .ok (.bool true) := rfl
@[simp] theorem dNe_int_none (i : Int) : dNe (.int i) .none = .ok (.bool true) := rfl
@[simp] theorem isNone_none : isNone .none = true := rfl
@[simp] theorem isNone_int (i : Int) : isNone (.int i) = false := rfl
@[simp] theorem isNone_bool (i : Bool) : isNone (.bool i) = false := rfl
@[simp] theorem isNone_str (i : Str) : isNone (.str i) = false := rfl
@[simp] theorem isNone_tuple (i : List Da) : isNone (.tuple i) = false := rfl
@[simp] theorem isNone_list (i : List Da) : isNone (.list i) = false := rfl
@[simp] theorem dIsN_ (a : Da) : dIsN a = .ok (.bool (isNone a)) := rfl
@[simp] theorem dNotN_ (a : Da) : dNotN a = .ok (.bool (!isNone a)) := rfl
@[simp] theorem dNot_ (a : Da) : dNot a = .ok (.bool (!tru a)) := rfl
@[simp] theorem dIsB_bool (k b : Bool) : dIsB k (.bool b) = .ok (.bool (decide (b = k))) := rfl
@[simp] theorem dIsNotB_bool (k b : Bool) : dIsNotB k (.bool b) = .ok (.bool (!decide (b = k))) := rfl
theorem dIx_list (xs : List Da) (i : Int) : dIx (.list xs) (.int i) = oR (atD xs i) := rfl
theorem dIx_tuple (xs : List Da) (i : Int) : dIx (.tuple xs) (.int i) = oR (atD xs i) := rfl
theorem dLen_list (xs : List Da) : dLen [.list xs] = .ok (.int xs.length) := rfl
theorem dLen_tuple (xs : List Da) : dLen [.tuple xs] = .ok (.int xs.length) := rfl
theorem dAbs_int (i : Int) : dAbs [.int i] = .ok (.int (if i < 0 then -i else i)) := rfl
theorem dMax2_int (i j : Int) : dMax2 [.int i, .int j] = .ok (.int (if j > i then j else i)) := rfl
theorem dMin2_int (i j : Int) : dMin2 [.int i, .int j] = .ok (.int (if j < i then j else i)) := rfl
theorem dSumL_list (xs : List Da) : dSumL [.list xs] = (intsD xs).bind fun is => .ok (.int is.sum) := rfl
theorem dMinL_list (xs : List Da) : dMinL [.list xs] = (intsD xs).bind fun is => (minI is).bind fun m => .ok (.int m) := rfl
theorem dMaxL_list (xs : List Da) : dMaxL [.list xs] = (intsD xs).bind fun is => (maxI is).bind fun m => .ok (.int m) := rfl
@[simp] theorem dAll_list (xs : List Da) : dAll [.list xs] = (blsD xs).bind fun bs => .ok (.bool (bs.all id)) := rfl
@[simp] theorem dAny_list (xs : List Da) : dAny [.list xs] = (blsD xs).bind fun bs => .ok (.bool (bs.any id)) := rfl
@[simp] theorem dInt_int (i : Int) : dInt [.int i] = .ok (.int i) := rfl
@[simp] theorem dInt_bool (b : Bool) : dInt [.bool b] = .ok (.int (if b then 1 else 0)) := rfl
@[simp] theorem dTuple_list (xs : List Da) : dTuple [.list xs] = .ok (.tuple xs) := rfl
@[simp] theorem dTuple_tuple (xs : List Da) : dTuple [.tuple xs] = .ok (.tuple xs) := rfl
@[simp] theorem dList_list (xs : List Da) : dList [.list xs] = .ok (.list xs) := rfl
@[simp] theorem dList_tuple (xs : List Da) : dList [.tuple xs] = .ok (.list xs) := rfl
@[simp] theorem dGcd_int (i j : Int) : dGcd [.int i, .int j] = .ok (.int (Nat.gcd i.natAbs j.natAbs : Nat)) := rfl
@[simp] theorem isTy_int_int (i : Int) : isTy .int (.int i) = true := rfl
@[simp] theorem isTy_int_bool (i : Bool) : isTy .int (.bool i) = true := rfl
@[simp] theorem isTy_bool_int (i : Int) : isTy .bool (.int i) = false := rfl
@[simp] theorem isTy_bool_bool (i : Bool) : isTy .bool (.bool i) = true := rfl
@[simp] theorem isTy_tuple_tuple (i : List Da) : isTy .tuple (.tuple i) = true := rfl
@[simp] theorem isTy_list_list (i : List Da) : isTy .list (.list i) = true := rfl
@[simp] theorem isTy_tuple_list (i : List Da) : isTy .tuple (.list i) = false := rfl
@[simp] theorem isTy_list_tuple (i : List Da) : isTy .list (.tuple i) = false := rfl
@[simp] theorem isTy_tuple_int (i : Int) : isTy .tuple (.int i) = false := rfl
@[simp] theorem isTy_tuple_none : isTy .tuple .none = false := rfl
@[simp] theorem isTy_int_none : isTy .int .none = false := rfl
@[simp] theorem isTy_int_tuple (i : List Da) : isTy .int (.tuple i) = false := rfl
theorem dIsi_ (t : Ty) (a : Da) (h : isDct a = false) : dIsi t a = .ok (.bool (isTy t a)) := by unfold dIsi; rw [h]; rfl
@[simp] theorem dIsi_none (t : Ty) : dIsi t .none = .ok (.bool (isTy t .none)) := rfl
@[simp] theorem dIsi_int (t : Ty) (i : Int) : dIsi t (.int i) = .ok (.bool (isTy t (.int i))) := rfl
@[simp] theorem dIsi_bool (t : Ty) (b : Bool) : dIsi t (.bool b) = .ok (.bool (isTy t (.bool b))) := rfl
@[simp] theorem dIsi_str (t : Ty) (x : Str) : dIsi t (.str x) = .ok (.bool (isTy t (.str x))) := rfl
@[simp] theorem dIsi_list (t : Ty) (xs : List Da) : dIsi t (.list xs) = .ok (.bool (isTy t (.list xs))) := rfl
@[simp] theorem dIsi_tuple (t : Ty) (xs : List Da) : dIsi t (.tuple xs) = .ok (.bool (isTy t (.tuple xs))) := rfl
@[simp] theorem dIsi_di (t : Ty) (k : Nat) : dIsi t (di k) = .ok (.bool (isTy t (di k))) := rfl
@[simp] theorem isDct_di (k : Nat) : isDct (di k) = false := rfl
@[simp] theorem atD_0 {α : Type} (x : α) (xs : List α) : atD (x :: xs) 0 = some x := rfl
@[simp] theorem atD_1 {α : Type} (x y : α) (xs : List α) : atD (x :: y :: xs) 1 = some y := rfl
@[simp] theorem atD_2 {α : Type} (x y z : α) (xs : List α) : atD (x :: y :: z :: xs) 2 = some z := rfl
@[simp] theorem atD_3 {α : Type} (x y z u : α) (xs : List α) : atD (x :: y :: z :: u :: xs) 3 = some u := rfl
@[simp] theorem atD_4 {α : Type} (x y z u v : α) (xs : List α) : atD (x :: y :: z :: u :: v :: xs) 4 = some v := rfl
theorem atD_nat {α : Type} (xs : List α) (n : Nat) : atD xs (n : Int) = xs[n]? := by
  unfold atD
  rw [if_pos (Int.natCast_nonneg n)]
  rfl
theorem atD_pos {α : Type} (xs : List α) (i : Int) (h : 0 ≤ i) : atD xs i = xs[i.toNat]? := by
  unfold atD
  rw [if_pos h]
@[simp] theorem appD_list (x : Da) (xs : List Da) : appD x (.list xs) = if xs.length < big then .ok (.list (xs ++ [x])) else .bad := rfl
@[simp] theorem dSl_list (lo hi : Option Int) (xs : List Da) : dSl lo hi (.list xs) = .ok (.list (cutD xs lo hi)) := rfl
@[simp] theorem dSl_tuple (lo hi : Option Int) (xs : List Da) : dSl lo hi (.tuple xs) = .ok (.tuple (cutD xs lo hi)) := rfl
theorem sIxD_some (l d n : Nat) : sIxD l d (some (n : Int)) = min n l := by
  show (if (n : Int) < 0 then ((n : Int) + (l : Int)).toNat else min (n : Int).toNat l) = _
  rw [if_neg (by omega)]
  rfl
theorem sIxD_none (l d : Nat) : sIxD l d none = d := rfl
theorem cutD_from {α : Type} (xs : List α) (n : Nat) : cutD xs (some (n : Int)) none = xs.drop n := by
  unfold cutD
  rw [sIxD_some, sIxD_none]
  by_cases h : n ≤ xs.length
  · rw [show min n xs.length = n by omega, List.take_of_length_le (by rw [List.length_drop]; exact Nat.le_refl _)]
  · rw [show min n xs.length = xs.length by omega, Nat.sub_self, List.take_zero, List.drop_of_length_le (by omega)]
theorem cutD_to {α : Type} (xs : List α) (n : Nat) : cutD xs none (some (n : Int)) = xs.take n := by
  unfold cutD
  rw [sIxD_some, sIxD_none, List.drop_zero, Nat.sub_zero]
  by_cases h : n ≤ xs.length
  · rw [show min n xs.length = n by omega]
  · rw [show min n xs.length = xs.length by omega, List.take_of_length_le (Nat.le_refl _), List.take_of_length_le (by omega)]
@[simp] theorem cutD_from1 {α : Type} (xs : List α) : cutD xs (some 1) none = xs.drop 1 := cutD_from xs 1
@[simp] theorem cutD_to1 {α : Type} (xs : List α) : cutD xs none (some 1) = xs.take 1 := cutD_to xs 1
theorem bls_map {α : Type} (p : α → Bool) : ∀ l : List α, blsD (l.map fun x => .bool (p x)) = .ok (l.map p)
  | [] => rfl
  | x :: l => by simp [blsD, bls_map p l]
theorem ints_map {α : Type} (p : α → Int) : ∀ l : List α, intsD (l.map fun x => .int (p x)) = .ok (l.map p)
  | [] => rfl
  | x :: l => by simp [intsD, ints_map p l]

theorem forL_nil (g : STg) (body : SS) (ρ : Ev) : forL g body [] ρ = .ok (.nx ρ) := rfl
theorem forL_cons (g : STg) (body : SS) (x : Da) (xs : List Da) (ρ : Ev) : forL g body (x :: xs) ρ = (g x ρ).bind fun ρ1 => (body ρ1).bind fun o => andThen o (forL g body xs) := rfl
theorem whileF_succ' (c : SE) (body : SS) (n : Nat) (ρ : Ev) : whileF c body (n + 1) ρ = (c ρ).bind fun x => if tru x then (body ρ).bind fun o => andThen o (whileF c body n) else .ok (.nx ρ) := rfl
/-- a loop that goes through: a fold -/
theorem forL_fold {α S : Type} (e : α → Da) (V : S → Ev) (step : S → α → S) (I : S → Prop) {g : STg} {body : SS} : ∀ (xs : List α) (s : S), I s → (∀ s x, x ∈ xs → I s → I (step s x) ∧ ((g (e x) (V s)).bind fun ρ1 => body ρ1) = .ok (.nx (V (step s x)))) →
    forL g body (xs.map e) (V s) = .ok (.nx (V (xs.foldl step s))) ∧ I (xs.foldl step s)
  | [], s, hs, _ => ⟨rfl, hs⟩
  | x :: xs, s, hs, h => by
    obtain ⟨h1, h2⟩ := h s x List.mem_cons_self hs
    obtain ⟨h3, h4⟩ := forL_fold e V step I xs (step s x) h1 fun s y hy => h s y (List.mem_cons_of_mem _ hy)
    refine ⟨?_, h4⟩
    show (g (e x) (V s)).bind (fun ρ1 => (body ρ1).bind fun o => andThen o (forL g body (xs.map e))) = _
    rw [← R.bind_assoc, h2]
    exact h3
/-- a loop that may hand back: the first that does -/
def retFold {α S : Type} (step : S → α → S ⊕ Da) : S → List α → S ⊕ Da
  | s, [] => .inl s
  | s, x :: xs => match step s x with
    | .inl s' => retFold step s' xs
    | .inr d => .inr d
/-- a loop by an invariant of what is done -/
theorem forL_inv {α S : Type} (e : α → Da) (V : S → Ev) (I : List α → S → Prop) {g : STg} {body : SS} : ∀ (xs don : List α) (s : S), I don s →
    (∀ (don' : List α) (x : α) (s : S), (∃ rest, don ++ xs = don' ++ x :: rest) → I don' s → ∃ s', I (don' ++ [x]) s' ∧ ((g (e x) (V s)).bind fun ρ1 => body ρ1) = .ok (.nx (V s'))) →
    ∃ s', I (don ++ xs) s' ∧ forL g body (xs.map e) (V s) = .ok (.nx (V s'))
  | [], don, s, hs, _ => ⟨s, by rw [List.append_nil]; exact hs, rfl⟩
  | x :: xs, don, s, hs, h => by
    obtain ⟨s1, h1, h2⟩ := h don x s ⟨xs, rfl⟩ hs
    have ea : don ++ x :: xs = (don ++ [x]) ++ xs := by rw [List.append_assoc]; rfl
    obtain ⟨s2, h3, h4⟩ := forL_inv e V I xs (don ++ [x]) s1 h1 fun d y s' hy => h d y s' (by rw [ea]; exact hy)
    refine ⟨s2, by rw [ea]; exact h3, ?_⟩
    show (g (e x) (V s)).bind (fun ρ1 => (body ρ1).bind fun o => andThen o (forL g body (xs.map e))) = _
    rw [← R.bind_assoc, h2]
    exact h4
theorem sWhile_inv {S : Type} (V : S → Ev) (go : S → Bool) (I : S → Prop) (m : S → Nat) {c : SE} {body : SS}
    (hc : ∀ s, I s → c (V s) = .ok (.bool (go s))) (hb : ∀ s, I s → go s = true → ∃ s', body (V s) = .ok (.nx (V s')) ∧ I s' ∧ m s' < m s) :
    ∀ (n : Nat) (s : S), I s → m s < n → ∃ s', I s' ∧ go s' = false ∧ whileF c body n (V s) = .ok (.nx (V s'))
  | 0, s, _, h => absurd h (Nat.not_lt_zero _)
  | n + 1, s, hs, h => by
    rw [whileF_succ', hc s hs]
    cases q : go s with
    | false => exact ⟨s, hs, q, rfl⟩
    | true =>
      obtain ⟨s1, h1, h2, h3⟩ := hb s hs q
      obtain ⟨s', g1, g2, g3⟩ := sWhile_inv V go I m hc hb n s1 h2 (by omega)
      refine ⟨s', g1, g2, ?_⟩
      show (if tru (.bool true) then (body (V s)).bind (fun o => andThen o (whileF c body n)) else .ok (.nx (V s))) = _
      rw [tru_bool, if_pos rfl, h1]
      exact g3
theorem forL_ret {α S : Type} (e : α → Da) (V : S → Ev) (step : S → α → S ⊕ Da) (I : S → Prop) {g : STg} {body : SS} : ∀ (xs : List α) (s : S), I s →
    (∀ s x, x ∈ xs → I s → ((g (e x) (V s)).bind fun ρ1 => body ρ1) = .ok (match step s x with
      | .inl s' => .nx (V s')
      | .inr d => .rt d) ∧ ∀ s', step s x = .inl s' → I s') →
    forL g body (xs.map e) (V s) = .ok (match retFold step s xs with
      | .inl s' => .nx (V s')
      | .inr d => .rt d)
  | [], s, hs, _ => rfl
  | x :: xs, s, hs, h => by
    obtain ⟨h1, h2⟩ := h s x List.mem_cons_self hs
    show (g (e x) (V s)).bind (fun ρ1 => (body ρ1).bind fun o => andThen o (forL g body (xs.map e))) = _
    rw [← R.bind_assoc, h1]
    unfold retFold
    cases q : step s x with
    | inl s' => exact forL_ret e V step I xs s' (h2 s' q) fun s y hy => h s y (List.mem_cons_of_mem _ hy)
    | inr d => rfl
/-- .. with nothing carried: the first place where it hands back -/
def foundO {α : Type} (o : Option α) (r : α → Da) (ρ : Ev) : Out := match o with
  | some x => .rt (r x)
  | none => .nx ρ
@[simp] theorem foundO_some {α : Type} (x : α) (r : α → Da) (ρ : Ev) : foundO (some x) r ρ = .rt (r x) := rfl
@[simp] theorem foundO_none {α : Type} (r : α → Da) (ρ : Ev) : foundO (none : Option α) r ρ = .nx ρ := rfl
theorem forL_find {α : Type} (e : α → Da) (p : α → Bool) (r : α → Da) {g : STg} {body : SS} {ρ : Ev} : ∀ (xs : List α),
    (∀ x, x ∈ xs → ((g (e x) ρ).bind fun ρ1 => body ρ1) = .ok (if p x then .rt (r x) else .nx ρ)) →
    forL g body (xs.map e) ρ = .ok (foundO (xs.find? p) r ρ)
  | [], _ => rfl
  | x :: xs, h => by
    show (g (e x) ρ).bind (fun ρ1 => (body ρ1).bind fun o => andThen o (forL g body (xs.map e))) = _
    rw [← R.bind_assoc, h x List.mem_cons_self, List.find?_cons]
    cases q : p x with
    | true => rfl
    | false => exact forL_find e p r xs fun y hy => h y (List.mem_cons_of_mem _ hy)
theorem forL_same {α : Type} (e : α → Da) {g : STg} {body : SS} {ρ : Ev} : ∀ (xs : List α), (∀ x, x ∈ xs → ((g (e x) ρ).bind fun ρ1 => body ρ1) = .ok (.nx ρ)) → forL g body (xs.map e) ρ = .ok (.nx ρ)
  | [], _ => rfl
  | x :: xs, h => by
    show (g (e x) ρ).bind (fun ρ1 => (body ρ1).bind fun o => andThen o (forL g body (xs.map e))) = _
    rw [← R.bind_assoc, h x List.mem_cons_self]
    exact forL_same e xs fun y hy => h y (List.mem_cons_of_mem _ hy)
/-! while -/
theorem whileF_succ (c : SE) (body : SS) (n : Nat) (ρ : Ev) : whileF c body (n + 1) ρ = (c ρ).bind fun x => if tru x then (body ρ).bind fun o => andThen o (whileF c body n) else .ok (.nx ρ) := rfl
theorem sWhile_run {S : Type} (V : S → Ev) (go : S → Bool) (step : S → S) (I : S → Prop) (m : S → Nat) {c : SE} {body : SS}
    (hc : ∀ s, I s → c (V s) = .ok (.bool (go s))) (hb : ∀ s, I s → go s = true → body (V s) = .ok (.nx (V (step s))) ∧ I (step s) ∧ m (step s) < m s) :
    ∀ (n : Nat) (s : S), I s → m s < n → ∃ s', I s' ∧ go s' = false ∧ whileF c body n (V s) = .ok (.nx (V s')) ∧ ∃ k, s' = (Nat.repeat step k s)
  | 0, s, _, h => absurd h (Nat.not_lt_zero _)
  | n + 1, s, hs, h => by
    rw [whileF_succ, hc s hs]
    cases q : go s with
    | false => exact ⟨s, hs, q, rfl, 0, rfl⟩
    | true =>
      obtain ⟨h1, h2, h3⟩ := hb s hs q
      obtain ⟨s', g1, g2, g3, k, g4⟩ := sWhile_run V go step I m hc hb n (step s) h2 (by omega)
      refine ⟨s', g1, g2, ?_, k + 1, ?_⟩
      · show (if tru (.bool true) then (body (V s)).bind (fun o => andThen o (whileF c body n)) else .ok (.nx (V s))) = _
        rw [tru_bool, if_pos rfl, h1]
        exact g3
      · rw [g4]
        clear g1 g2 g3 g4 h1 h2 h3
        induction k with
        | zero => rfl
        | succ k ih => exact congrArg step ih
/-! comprehensions -/
theorem lcL_fm {α : Type} (e : α → Da) (h : α → Option Da) {f : Da → R (Option Da)} : ∀ (xs : List α), (∀ x, x ∈ xs → f (e x) = .ok (h x)) → lcL f (xs.map e) = .ok (xs.filterMap h)
  | [], _ => rfl
  | x :: xs, w => by
    have i := lcL_fm e h xs fun y hy => w y (List.mem_cons_of_mem _ hy)
    show (match f (e x) with
      | .ok y => (match lcL f (xs.map e) with
        | .ok ys => R.ok (match y with
          | none => ys
          | some v => v :: ys)
        | _ => .bad)
      | _ => .bad) = _
    rw [w x List.mem_cons_self, i, List.filterMap_cons]
    cases h x <;> rfl
theorem lcL_map {α : Type} (e : α → Da) (h : α → Da) {f : Da → R (Option Da)} (xs : List α) (w : ∀ x, x ∈ xs → f (e x) = .ok (some (h x))) : lcL f (xs.map e) = .ok (xs.map h) := by
  rw [lcL_fm e (fun x => some (h x)) xs w, List.filterMap_eq_map']
theorem lcL_filter {α : Type} (e : α → Da) (p : α → Bool) (h : α → Da) {f : Da → R (Option Da)} (xs : List α) (w : ∀ x, x ∈ xs → f (e x) = .ok (if p x then some (h x) else none)) : lcL f (xs.map e) = .ok ((xs.filter p).map h) := by
  rw [lcL_fm e (fun x => if p x then some (h x) else none) xs w]
  congr 1
  induction xs with
  | nil => rfl
  | cons x xs ih =>
    rw [List.filterMap_cons, List.filter_cons]
    cases p x with
    | true => simp [ih fun y hy => w y (List.mem_cons_of_mem _ hy)]
    | false => simp [ih fun y hy => w y (List.mem_cons_of_mem _ hy)]
/-! ranges, enumerations -/
theorem rngD_0 (n : Nat) : rngD 0 n = (List.range n).map di := by
  unfold rngD
  refine List.map_congr_left fun k _ => ?_
  show PyData.int (0 + (k : Int)) = .int (k : Int)
  rw [Int.zero_add]
theorem rngD_at (a n : Nat) : rngD (a : Int) n = (List.range' a n).map di := by
  unfold rngD
  rw [List.range'_eq_map_range, List.map_map]
  refine List.map_congr_left fun k _ => ?_
  show PyData.int ((a : Int) + (k : Int)) = .int ((a + k : Nat) : Int)
  rw [Int.natCast_add]
theorem dRng_0 (n : Nat) (h : n ≤ big) : dRng 0 (n : Int) = .ok ((List.range n).map di) := by
  unfold dRng
  have e : ((n : Int) - 0).toNat = n := by omega
  unfold big at h ⊢
  rw [if_pos ⟨by decide, by omega, by omega⟩, e, rngD_0]
theorem dRng_at (a b : Nat) (h0 : a ≤ b) (h : b ≤ big) : dRng (a : Int) (b : Int) = .ok ((List.range' a (b - a)).map di) := by
  unfold dRng
  unfold big at h ⊢
  have e : ((b : Int) - (a : Int)).toNat = b - a := by omega
  rw [if_pos ⟨by omega, by omega, by omega⟩, e, rngD_at]
theorem atD_mr {α : Type} (n : Nat) (f : Nat → α) (i : Int) (h0 : 0 ≤ i) (h : i < n) : atD ((List.range n).map f) i = some (f i.toNat) := by
  rw [atD_pos _ _ h0, List.getElem?_map, List.getElem?_range (by omega)]
  rfl
theorem atD_map {α β : Type} (f : α → β) (l : List α) (i : Nat) (h : i < l.length) : atD (l.map f) (i : Int) = some (f l[i]) := by
  rw [atD_nat, List.getElem?_map, List.getElem?_eq_getElem h]
  rfl
/-! numbers -/
theorem bezout (a b : Nat) : ∃ x y : Int, (Nat.gcd a b : Int) = x * a + y * b := by
  induction a, b using Nat.gcd.induction with
  | H0 n => exact ⟨0, 1, by simp⟩
  | H1 m n hm ih =>
    obtain ⟨x, y, e⟩ := ih
    refine ⟨y - x * ((n / m : Nat) : Int), x, ?_⟩
    rw [Nat.gcd_rec m n, e]
    have q : ((n % m : Nat) : Int) = n - m * ((n / m : Nat) : Int) := by
      have := Nat.div_add_mod n m
      omega
    rw [q]
    grind
/-- a common number's common part: gcd goes over lcm -/
theorem gcd_lcm_dvd {m n k : Nat} {z : Int} (hm : 0 < m) (h1 : ((Nat.gcd m k : Nat) : Int) ∣ z) (h2 : ((Nat.gcd n k : Nat) : Int) ∣ z) : ((Nat.gcd (Nat.lcm m n) k : Nat) : Int) ∣ z := by
  obtain ⟨u, v, e⟩ := bezout m n
  have hg : 0 < Nat.gcd m n := Nat.gcd_pos_of_pos_left _ hm
  obtain ⟨m', em⟩ := Nat.gcd_dvd_left m n
  obtain ⟨n', en⟩ := Nat.gcd_dvd_right m n
  have e1 : u * m' + v * n' = 1 := by
    have : (Nat.gcd m n : Int) * (u * m' + v * n') = Nat.gcd m n * 1 := by
      have em' : (m : Int) = (Nat.gcd m n : Int) * m' := by exact_mod_cast em
      have en' : (n : Int) = (Nat.gcd m n : Int) * n' := by exact_mod_cast en
      have e' : (Nat.gcd m n : Int) = u * ((Nat.gcd m n : Int) * m') + v * ((Nat.gcd m n : Int) * n') := by
        rw [← em', ← en']; exact e
      grind
    exact Int.eq_of_mul_eq_mul_left (by omega) this
  have l1 : m * n' = Nat.lcm m n := by
    have := Nat.gcd_mul_lcm m n
    have h3 : Nat.gcd m n * (m * n') = Nat.gcd m n * Nat.lcm m n := by rw [this, ← Nat.mul_assoc, Nat.mul_comm (Nat.gcd m n) m, Nat.mul_assoc, ← en]
    exact Nat.eq_of_mul_eq_mul_left hg h3
  have l2 : n * m' = Nat.lcm m n := by
    have := Nat.gcd_mul_lcm m n
    have h3 : Nat.gcd m n * (n * m') = Nat.gcd m n * Nat.lcm m n := by rw [this, ← Nat.mul_assoc, Nat.mul_comm (Nat.gcd m n) n, Nat.mul_assoc, ← em, Nat.mul_comm]
    exact Nat.eq_of_mul_eq_mul_left hg h3
  have key : ∀ (m n' : Nat), m * n' = Nat.lcm m' n' ∨ True → ((Nat.gcd m k : Nat) : Int) ∣ z → ((Nat.gcd (m * n') k : Nat) : Int) ∣ z * n' := fun m n' _ h => by
    obtain ⟨t, ht⟩ := h
    obtain ⟨x, y, ex⟩ := bezout m k
    have d1 : ((Nat.gcd (m * n') k : Nat) : Int) ∣ ((m * n' : Nat) : Int) := Int.natCast_dvd_natCast.mpr (Nat.gcd_dvd_left _ _)
    have d2 : ((Nat.gcd (m * n') k : Nat) : Int) ∣ (k : Int) := Int.natCast_dvd_natCast.mpr (Nat.gcd_dvd_right _ _)
    have : z * n' = ((m * n' : Nat) : Int) * (x * t) + (k : Int) * (y * t * n') := by
      rw [ht, ex]
      push_cast
      grind
    rw [this]
    exact Int.dvd_add (Int.dvd_mul_of_dvd_left d1) (Int.dvd_mul_of_dvd_left d2)
  have k1 := key m n' (.inr trivial) h1
  have k2 := key n m' (.inr trivial) h2
  rw [l1] at k1
  rw [l2] at k2
  have : z = z * n' * v + z * m' * u := by
    have : z * (u * m' + v * n') = z * 1 := by rw [e1]
    grind
  rw [this]
  exact Int.dvd_add (Int.dvd_mul_of_dvd_left k1) (Int.dvd_mul_of_dvd_left k2)
/-! plain data: no dict, not deep -/
mutual
def plD : Nat → Da → Bool
  | _, .none => true
  | _, .bool _ => true
  | _, .int _ => true
  | _, .str x => PyData.canLay0 (.str x)
  | 0, .list _ => false
  | n + 1, .list xs => plL n xs
  | 0, .tuple _ => false
  | n + 1, .tuple xs => plL n xs
  | _, .dict _ => false
def plL : Nat → List Da → Bool
  | _, [] => true
  | n, x :: xs => plD n x && plL n xs
end
mutual
theorem plD_can : ∀ {n : Nat} {d : Da}, plD n d = true → PyData.canLay0 d = true ∧ d.depth ≤ n + 1
  | n, .none, _ => by simp [PyData.canLay0, PyData.depth]
  | n, .bool _, _ => by simp [PyData.canLay0, PyData.depth]
  | n, .int _, _ => by simp [PyData.canLay0, PyData.depth]
  | n, .str x, h => by
    refine ⟨by simpa [plD] using h, by simp [PyData.depth]⟩
  | 0, .list xs, h => by simp [plD] at h
  | n + 1, .list xs, h => by
    have := plL_can (n := n) (xs := xs) (by simpa [plD] using h)
    simp [PyData.canLay0, PyData.depth, this.1]
    omega
  | 0, .tuple xs, h => by simp [plD] at h
  | n + 1, .tuple xs, h => by
    have := plL_can (n := n) (xs := xs) (by simpa [plD] using h)
    simp [PyData.canLay0, PyData.depth, this.1]
    omega
  | n, .dict _, h => by simp [plD] at h
theorem plL_can : ∀ {n : Nat} {xs : List Da}, plL n xs = true → PyData.canLayAll0 xs = true ∧ PyData.depthAll xs ≤ n + 1
  | n, [], _ => by simp [PyData.canLayAll0, PyData.depthAll]
  | n, x :: xs, h => by
    simp only [plL, Bool.and_eq_true] at h
    have h1 := plD_can h.1
    have h2 := plL_can h.2
    simp [PyData.canLayAll0, PyData.depthAll, h1.1, h2.1]
    omega
end
theorem shaped_pl {d : Da} (n : Nat) (hn : n ≤ 60) (h : plD n d = true) : SeqAt.shaped d = true := by
  have := plD_can h
  unfold SeqAt.shaped
  simp [this.1]
  omega
theorem plL_all {n : Nat} {xs : List Da} (h : ∀ x, x ∈ xs → plD n x = true) : plL n xs = true := by
  induction xs with
  | nil => simp [plL]
  | cons x xs ih => simp [plL, h x List.mem_cons_self, ih fun y hy => h y (List.mem_cons_of_mem _ hy)]
theorem plL_map {α : Type} {e : α → Da} {n : Nat} (h : ∀ x, plD n (e x) = true) (l : List α) : plL n (l.map e) = true := plL_all fun y hy => by
  obtain ⟨x, _, rfl⟩ := List.mem_map.mp hy
  exact h x
mutual
theorem eqv_refl : ∀ {n : Nat} {d : Da}, plD n d = true → PyData.eqv d d = true
  | n, .none, _ => by simp [PyData.eqv]
  | n, .bool _, _ => by simp [PyData.eqv]
  | n, .int _, _ => by simp [PyData.eqv]
  | n, .str x, h => by simp [PyData.eqv]
  | 0, .list xs, h => by simp [plD] at h
  | n + 1, .list xs, h => by
    simp only [PyData.eqv]
    exact eqvAll_refl (n := n) (by simpa [plD] using h)
  | 0, .tuple xs, h => by simp [plD] at h
  | n + 1, .tuple xs, h => by
    simp only [PyData.eqv]
    exact eqvAll_refl (n := n) (by simpa [plD] using h)
  | n, .dict _, h => by simp [plD] at h
theorem eqvAll_refl : ∀ {n : Nat} {xs : List Da}, plL n xs = true → PyData.eqvAll xs xs = true
  | n, [], _ => by simp [PyData.eqvAll]
  | n, x :: xs, h => by
    simp only [plL, Bool.and_eq_true] at h
    simp [PyData.eqvAll, eqv_refl h.1, eqvAll_refl h.2]
end
theorem dEq_eqv {a b : Da} (ha : SeqAt.shaped a = true) (hb : SeqAt.shaped b = true) : dEq a b = .ok (.bool (PyData.eqv a b)) := by
  have g : (eqD a b).bind (fun k => R.ok (PyData.bool k)) = .ok (.bool (PyData.eqv a b)) := by
    unfold eqD
    rw [ha, hb]
    simp
  unfold dEq
  split <;> first | exact g | (simp [PyData.eqv]; try rfl)
theorem dEq_refl {a : Da} (n : Nat) (hn : n ≤ 60) (h : plD n a = true) : dEq a a = .ok (.bool true) := by
  rw [dEq_eqv (shaped_pl n hn h) (shaped_pl n hn h), eqv_refl h]
theorem dNe_refl {a : Da} (n : Nat) (hn : n ≤ 60) (h : plD n a = true) : dNe a a = .ok (.bool false) := by
  unfold dNe
  rw [dEq_refl n hn h]
  rfl
/-- an encoding whose == tells unlike values apart -/
structure EqE {α : Type} [DecidableEq α] (n : Nat) (e : α → Da) : Prop where
  pl : ∀ x, plD n (e x) = true
  eq : ∀ x y, PyData.eqv (e x) (e y) = decide (x = y)
theorem EqE.di {n : Nat} : EqE n di := ⟨fun x => by simp [DL.di, plD], fun x y => by
  simp only [DL.di, PyData.eqv]
  by_cases h : x = y
  · subst h; simp
  · have : ¬ (x : Int) = y := by omega
    simp [h, this]⟩
theorem EqE.int {n : Nat} : EqE n PyData.int := ⟨fun x => by simp [plD], fun x y => by
  simp only [PyData.eqv]
  by_cases h : x = y
  · subst h; simp
  · simp [h]⟩
theorem eqvAll_map {α : Type} [DecidableEq α] {n : Nat} {e : α → Da} (h : EqE n e) : ∀ l m : List α, PyData.eqvAll (l.map e) (m.map e) = decide (l = m)
  | [], [] => by simp [PyData.eqvAll]
  | [], y :: m => by simp [PyData.eqvAll]
  | x :: l, [] => by simp [PyData.eqvAll]
  | x :: l, y :: m => by
    simp only [List.map_cons, PyData.eqvAll, h.eq, eqvAll_map h l m, List.cons.injEq]
    by_cases h1 : x = y <;> by_cases h2 : l = m <;> simp [h1, h2]
theorem EqE.tup {α : Type} [DecidableEq α] {n : Nat} {e : α → Da} (h : EqE n e) : EqE (n + 1) fun l : List α => .tuple (l.map e) :=
  ⟨fun l => by simp only [plD]; exact plL_map h.pl l, fun l m => by simp only [PyData.eqv]; exact eqvAll_map h l m⟩
theorem EqE.lst {α : Type} [DecidableEq α] {n : Nat} {e : α → Da} (h : EqE n e) : EqE (n + 1) fun l : List α => .list (l.map e) :=
  ⟨fun l => by simp only [plD]; exact plL_map h.pl l, fun l m => by simp only [PyData.eqv]; exact eqvAll_map h l m⟩
theorem EqE.pair {α β : Type} [DecidableEq α] [DecidableEq β] {n : Nat} {e : α → Da} {f : β → Da} (h : EqE n e) (g : EqE n f) : EqE (n + 1) fun p : α × β => .tuple [e p.1, f p.2] :=
  ⟨fun p => by simp [plD, plL, h.pl, g.pl], fun p q => by
    obtain ⟨a, b⟩ := p
    obtain ⟨c, d⟩ := q
    simp only [PyData.eqv, PyData.eqvAll, h.eq, g.eq, Prod.mk.injEq]
    by_cases h1 : a = c <;> by_cases h2 : b = d <;> simp [h1, h2]⟩
theorem EqE.dEq {α : Type} [DecidableEq α] {n : Nat} {e : α → Da} (h : EqE n e) (hn : n ≤ 60) (x y : α) : dEq (e x) (e y) = .ok (.bool (decide (x = y))) := by
  rw [dEq_eqv (shaped_pl n hn (h.pl x)) (shaped_pl n hn (h.pl y)), h.eq]
theorem EqE.dNe {α : Type} [DecidableEq α] {n : Nat} {e : α → Da} (h : EqE n e) (hn : n ≤ 60) (x y : α) : dNe (e x) (e y) = .ok (.bool (!decide (x = y))) := by
  unfold DL.dNe
  rw [h.dEq hn]
  rfl
/-! literals as numbers -/
theorem int_lit (n : Nat) : PyData.int (no_index (OfNat.ofNat n)) = di (OfNat.ofNat n) := rfl
theorem dIx_list_map {α : Type} (e : α → Da) (d : α) (l : List α) (k : Nat) (h : k < l.length) : dIx (.list (l.map e)) (di k) = .ok (e (l.getD k d)) := by
  rw [dIx_list_nat, List.getElem?_map, List.getElem?_eq_getElem h]
  simp [h]
theorem dIx_tuple_map {α : Type} (e : α → Da) (d : α) (l : List α) (k : Nat) (h : k < l.length) : dIx (.tuple (l.map e)) (di k) = .ok (e (l.getD k d)) := by
  rw [dIx_tuple_nat, List.getElem?_map, List.getElem?_eq_getElem h]
  simp [h]
theorem enumD_map' {α : Type} (e : α → Da) (d : α) : ∀ (l : List α) (k : Nat), enumD k (l.map e) = (List.range l.length).map fun i => .tuple [di (k + i), e (l.getD i d)]
  | [], k => rfl
  | x :: l, k => by
    rw [List.map_cons, enumD, enumD_map' e d l (k + 1), List.length_cons, List.range_succ_eq_map, List.map_cons, List.map_map]
    congr 1
    refine List.map_congr_left fun i _ => ?_
    simp [Nat.add_assoc, Nat.add_comm 1 i]
theorem EqE.dIn {α : Type} [DecidableEq α] {n : Nat} {e : α → Da} (h : EqE n e) (hn : n < 60) (x : α) (l : List α) : DL.dIn (e x) (.list (l.map e)) = .ok (.bool (decide (x ∈ l))) := by
  have s1 := shaped_pl n (by omega) (h.pl x)
  have s2 : SeqAt.shaped (.list (l.map e)) = true := shaped_pl (n + 1) (by omega) (by simp only [plD]; exact plL_map h.pl l)
  show (inD (e x) (l.map e)).bind _ = _
  unfold inD
  rw [s1, s2]
  simp only [Bool.and_self, if_true, R.bind_ok]
  congr 2
  rw [List.any_map]
  induction l with
  | nil => rfl
  | cons y l ih =>
    rw [List.any_cons, ih (shaped_pl (n + 1) (by omega) (by simp only [plD]; exact plL_map h.pl l))]
    simp only [Function.comp, h.eq, List.mem_cons]
    by_cases q1 : y = x
    · subst q1; simp
    · have : ¬ x = y := fun z => q1 z.symm
      simp [q1, this]
theorem EqE.dInT {α : Type} [DecidableEq α] {n : Nat} {e : α → Da} (h : EqE n e) (hn : n < 60) (x : α) (l : List α) : DL.dIn (e x) (.tuple (l.map e)) = .ok (.bool (decide (x ∈ l))) := h.dIn hn x l
theorem EqE.dNotIn {α : Type} [DecidableEq α] {n : Nat} {e : α → Da} (h : EqE n e) (hn : n < 60) (x : α) (l : List α) : DL.dNotIn (e x) (.list (l.map e)) = .ok (.bool (!decide (x ∈ l))) := by
  unfold DL.dNotIn
  rw [h.dIn hn]
  rfl
theorem EqE.dNotInT {α : Type} [DecidableEq α] {n : Nat} {e : α → Da} (h : EqE n e) (hn : n < 60) (x : α) (l : List α) : DL.dNotIn (e x) (.tuple (l.map e)) = .ok (.bool (!decide (x ∈ l))) := by
  unfold DL.dNotIn
  rw [h.dInT hn]
  rfl
/-! sorting whole numbers -/
def insN (x : Nat) : List Nat → List Nat
  | [] => [x]
  | y :: ys => if x ≤ y then x :: y :: ys else y :: insN x ys
def sortN (l : List Nat) : List Nat := l.foldr insN []
theorem insI_cast (x : Nat) : ∀ l : List Nat, insI (x : Int) (l.map fun n : Nat => (n : Int)) = (insN x l).map fun n : Nat => (n : Int)
  | [] => rfl
  | y :: l => by
    rw [List.map_cons, insI, insN]
    by_cases q : x ≤ y
    · rw [if_pos q, if_pos (by omega)]; rfl
    · rw [if_neg q, if_neg (by omega), insI_cast x l]; rfl
theorem sortI_cast : ∀ l : List Nat, sortI (l.map fun n : Nat => (n : Int)) = (sortN l).map fun n : Nat => (n : Int)
  | [] => rfl
  | x :: l => by
    show insI (x : Int) (sortI (l.map fun n : Nat => (n : Int))) = (insN x (sortN l)).map _
    rw [sortI_cast l, insI_cast]
theorem dSorted_di (l : List Nat) : dSorted [.list (l.map di)] = .ok (.list ((sortN l).map di)) := by
  have e : intsD (l.map di) = .ok (l.map fun n : Nat => (n : Int)) := ints_map (fun n : Nat => (n : Int)) l
  show (intsD (l.map di)).bind _ = _
  rw [e]
  show R.ok (PyData.list ((sortI _).map PyData.int)) = _
  rw [sortI_cast, List.map_map]
  rfl
theorem insN_perm (x : Nat) : ∀ l : List Nat, (insN x l).Perm (x :: l)
  | [] => List.Perm.refl _
  | y :: l => by
    unfold insN
    split
    · exact List.Perm.refl _
    · exact ((insN_perm x l).cons y).trans (List.Perm.swap x y l)
theorem insN_sorted (x : Nat) : ∀ l : List Nat, l.Pairwise (· ≤ ·) → (insN x l).Pairwise (· ≤ ·)
  | [], _ => List.pairwise_singleton _ _
  | y :: l, h => by
    unfold insN
    obtain ⟨h1, h2⟩ := List.pairwise_cons.mp h
    split
    · rename_i q
      exact List.pairwise_cons.mpr ⟨fun z hz => by
        rcases List.mem_cons.mp hz with e | hz
        · subst e; exact q
        · have := h1 z hz; omega, h⟩
    · rename_i q
      exact List.pairwise_cons.mpr ⟨fun z hz => by
        rcases List.mem_cons.mp ((insN_perm x l).mem_iff.mp hz) with e | hz
        · subst e; omega
        · exact h1 z hz, insN_sorted x l h2⟩
theorem sortN_perm : ∀ l : List Nat, (sortN l).Perm l
  | [] => List.Perm.refl _
  | x :: l => (insN_perm x (sortN l)).trans ((sortN_perm l).cons x)
theorem sortN_sorted : ∀ l : List Nat, (sortN l).Pairwise (· ≤ ·)
  | [] => List.Pairwise.nil
  | x :: l => insN_sorted x _ (sortN_sorted l)
theorem sortN_lt {l : List Nat} (h : l.Nodup) : (sortN l).Pairwise (· < ·) := by
  have h1 := sortN_sorted l
  have h2 : (sortN l).Nodup := (sortN_perm l).nodup_iff.mpr h
  exact (h1.and h2).imp fun ⟨a, b⟩ => Nat.lt_of_le_of_ne a b
end DL
set_option Elab.async false
set_option linter.all false
/-! Rows of numbers as data; the operators on numbers in one statement. -/
namespace DL
open PySem
/-! statements one behind another -/
theorem seq_nx {a b : SS} {ρ ρ' : Ev} {r : R Out} (h : a ρ = .ok (.nx ρ')) (k : b ρ' = r) : sSeq a b ρ = r := by
  show (a ρ).bind (fun o => andThen o b) = r
  rw [h]
  exact k
theorem seq_assoc (a b c : SS) : sSeq a (sSeq b c) = sSeq (sSeq a b) c := by
  funext ρ
  show (a ρ).bind (fun o => andThen o (sSeq b c)) = ((a ρ).bind fun o => andThen o b).bind fun o => andThen o c
  cases a ρ with
  | ok o => cases o <;> simp
  | exc _ => simp
  | bad => simp
theorem run_rt {n : Nat} {body : SS} {ds : List Da} {d : Da} (h : body (ds.map some ++ List.replicate (n - ds.length) none) = .ok (.rt d)) : runDef n body ds = .ok d := by
  rw [runDef_, h]
  rfl
/-- a row of numbers -/
def nl (l : List Nat) : List Da := l.map di
/-- a row of integers -/
def il (l : List Int) : List Da := l.map PyData.int
/-- a row of flags -/
def bl (l : List Bool) : List Da := l.map PyData.bool
@[simp] theorem nl_nil : nl [] = [] := rfl
@[simp] theorem nl_cons (x : Nat) (l : List Nat) : nl (x :: l) = di x :: nl l := rfl
@[simp] theorem nl_append (l m : List Nat) : nl (l ++ m) = nl l ++ nl m := by simp [nl]
@[simp] theorem nl_length (l : List Nat) : (nl l).length = l.length := by simp [nl]
@[simp] theorem nl_isEmpty (l : List Nat) : (nl l).isEmpty = l.isEmpty := by cases l <;> rfl
@[simp] theorem il_isEmpty (l : List Int) : (il l).isEmpty = l.isEmpty := by cases l <;> rfl
theorem nl_reverse (l : List Nat) : (nl l).reverse = nl l.reverse := by simp [nl, List.map_reverse]
theorem il_reverse (l : List Int) : (il l).reverse = il l.reverse := by simp [il, List.map_reverse]
theorem nl_take (l : List Nat) (n : Nat) : (nl l).take n = nl (l.take n) := by simp [nl, List.map_take]
theorem nl_drop (l : List Nat) (n : Nat) : (nl l).drop n = nl (l.drop n) := by simp [nl, List.map_drop]
theorem nl_set (l : List Nat) (n x : Nat) : (nl l).set n (di x) = nl (l.set n x) := by simp [nl, List.map_set]
@[simp] theorem il_nil : il [] = [] := rfl
@[simp] theorem il_cons (x : Int) (l : List Int) : il (x :: l) = .int x :: il l := rfl
@[simp] theorem il_append (l m : List Int) : il (l ++ m) = il l ++ il m := by simp [il]
@[simp] theorem il_length (l : List Int) : (il l).length = l.length := by simp [il]
theorem nl_il (l : List Nat) : nl l = il (l.map fun n : Nat => (n : Int)) := by
  unfold nl il
  rw [List.map_map]
  rfl
theorem getD_nl (l : List Nat) (k : Nat) (h : k < l.length) : (nl l)[k]? = some (di (l.getD k 0)) := by
  unfold nl
  rw [List.getElem?_map, List.getElem?_eq_getElem h]
  simp [h]
theorem getD_il (l : List Int) (k : Nat) (h : k < l.length) : (il l)[k]? = some (.int (l.getD k 0)) := by
  unfold il
  rw [List.getElem?_map, List.getElem?_eq_getElem h]
  simp [h]
@[simp] theorem bls_bl (l : List Bool) : blsD (bl l) = .ok l := by
  induction l with
  | nil => rfl
  | cons b l ih =>
    show (blsD (bl l)).bind _ = _
    rw [ih]
    rfl
@[simp] theorem ints_il (l : List Int) : intsD (il l) = .ok l := by
  have := ints_map (fun i : Int => i) l
  rw [List.map_id'] at this
  exact this
@[simp] theorem ints_nl (l : List Nat) : intsD (nl l) = .ok (l.map fun n : Nat => (n : Int)) := ints_map (fun n : Nat => (n : Int)) l
def sumN (l : List Nat) : Nat := l.foldr (· + ·) 0
@[simp] theorem sumN_nil : sumN [] = 0 := rfl
@[simp] theorem sumN_cons (x : Nat) (l : List Nat) : sumN (x :: l) = x + sumN l := rfl
theorem sumN_append : ∀ l m : List Nat, sumN (l ++ m) = sumN l + sumN m
  | [], m => by simp
  | x :: l, m => by rw [List.cons_append, sumN_cons, sumN_cons, sumN_append l m]; omega
theorem sumN_cast : ∀ l : List Nat, (l.map fun n : Nat => (n : Int)).sum = ((sumN l : Nat) : Int)
  | [] => rfl
  | x :: l => by
    rw [List.map_cons, List.sum_cons, sumN_cast l]
    simp
theorem int_cast (n : Nat) : PyData.int (n : Int) = di n := rfl
theorem dAbs_sub (a b : Nat) : dAbs [.int ((a : Int) - b)] = .ok (di ((a - b) + (b - a))) := by
  show R.ok (PyData.int _) = R.ok (PyData.int _)
  congr 2
  split <;> omega
theorem dSub_cast (a b : Nat) : dSub (di a) (di b) = .ok (.int ((a : Int) - b)) := rfl
/-- the operators on numbers -/
theorem dn : (∀ a b : Nat, dAdd (di a) (di b) = .ok (di (a + b))) ∧ (∀ a b : Nat, addI (di a) (di b) = .ok (di (a + b))) ∧
    (∀ a b : Nat, dEq (di a) (di b) = .ok (.bool (decide (a = b)))) ∧ (∀ a b : Nat, dNe (di a) (di b) = .ok (.bool (!decide (a = b)))) ∧
    (∀ a b : Nat, dLt (di a) (di b) = .ok (.bool (decide (a < b)))) ∧ (∀ a b : Nat, dLe (di a) (di b) = .ok (.bool (decide (a ≤ b)))) ∧
    (∀ a b : Nat, dGt (di a) (di b) = .ok (.bool (decide (b < a)))) ∧ (∀ a b : Nat, dGe (di a) (di b) = .ok (.bool (decide (b ≤ a)))) ∧
    (∀ a b : Nat, b ≤ a → dSub (di a) (di b) = .ok (di (a - b))) ∧
    (∀ a b : Nat, 0 < b → dMod (di a) (di b) = .ok (di (a % b))) ∧ (∀ a b : Nat, 0 < b → b < 1073741824 → dDiv (di a) (di b) = .ok (di (a / b))) ∧
    (∀ a b : Nat, b < 1073741824 → mulI (di a) (di b) = .ok (di (a * b))) ∧
    (∀ a b : Nat, dMin2 [di a, di b] = .ok (di (min b a))) ∧ (∀ a b : Nat, dMax2 [di a, di b] = .ok (di (max b a))) ∧
    (∀ a : Nat, dAbs [di a] = .ok (di a)) ∧ (∀ n : Nat, PyData.int (n : Int) = di n) :=
  ⟨dAdd_nat, addI_nat, dEq_nat, dNe_nat, dLt_nat, dLe_nat, dGt_nat, dGe_nat, dSub_nat, dMod_nat, dDiv_nat, mulI_nat, dMin2_nat, dMax2_nat, fun a => by
    show R.ok (PyData.int (if (a : Int) < 0 then -(a : Int) else a)) = _
    rw [if_neg (by omega)]; rfl, fun _ => rfl⟩
/-- rows of numbers: places, lengths -/
theorem dl : (∀ (l : List Nat) (k : Nat), k < l.length → dIx (.list (nl l)) (di k) = .ok (di (l.getD k 0))) ∧
    (∀ (l : List Nat) (k : Nat), k < l.length → dIx (.tuple (nl l)) (di k) = .ok (di (l.getD k 0))) ∧
    (∀ (l : List Int) (k : Nat), k < l.length → dIx (.list (il l)) (di k) = .ok (.int (l.getD k 0))) ∧
    (∀ (l : List Int) (k : Nat), k < l.length → dIx (.tuple (il l)) (di k) = .ok (.int (l.getD k 0))) ∧
    (∀ (l : List Nat), dLen [.list (nl l)] = .ok (di l.length)) ∧ (∀ (l : List Nat), dLen [.tuple (nl l)] = .ok (di l.length)) ∧
    (∀ (l : List Int), dLen [.list (il l)] = .ok (di l.length)) ∧ (∀ (l : List Int), dLen [.tuple (il l)] = .ok (di l.length)) ∧
    (∀ (l : List Nat), dSumL [.list (nl l)] = .ok (di (sumN l))) ∧ (∀ (l : List Nat), dSumL [.tuple (nl l)] = .ok (di (sumN l))) := by
  refine ⟨fun l k h => ?_, fun l k h => ?_, fun l k h => ?_, fun l k h => ?_, fun l => ?_, fun l => ?_, fun l => ?_, fun l => ?_, fun l => ?_, fun l => ?_⟩
  · rw [dIx_list_nat, getD_nl l k h]; rfl
  · rw [dIx_tuple_nat, getD_nl l k h]; rfl
  · rw [dIx_list_nat, getD_il l k h]; rfl
  · rw [dIx_tuple_nat, getD_il l k h]; rfl
  · rw [dLen_list_nat, nl_length]
  · rw [dLen_tuple_nat, nl_length]
  · rw [dLen_list_nat, il_length]
  · rw [dLen_tuple_nat, il_length]
  · rw [dSumL_list, ints_nl, R.bind_ok, sumN_cast]; rfl
  · show (intsD (nl l)).bind _ = _
    rw [ints_nl, R.bind_ok, sumN_cast]; rfl
/-- a comprehension over numbers -/
theorem lc_nl {f : Da → R (Option Da)} (g : Nat → Nat) (l : List Nat) (w : ∀ x, x ∈ l → f (di x) = .ok (some (di (g x)))) : lcL f (nl l) = .ok (nl (l.map g)) := by
  unfold nl
  rw [lcL_map di (fun x => di (g x)) l w, List.map_map]
  rfl
theorem lc_nlI {f : Da → R (Option Da)} (g : Nat → Int) (l : List Nat) (w : ∀ x, x ∈ l → f (di x) = .ok (some (.int (g x)))) : lcL f (nl l) = .ok (il (l.map g)) := by
  unfold nl il
  rw [lcL_map di (fun x => .int (g x)) l w, List.map_map]
  rfl
theorem lc_nlB {f : Da → R (Option Da)} (p : Nat → Bool) (l : List Nat) (w : ∀ x, x ∈ l → f (di x) = .ok (some (.bool (p x)))) : lcL f (nl l) = .ok (bl (l.map p)) := by
  unfold nl bl
  rw [lcL_map di (fun x => .bool (p x)) l w, List.map_map]
  rfl
theorem lc_nlF {f : Da → R (Option Da)} (p : Nat → Bool) (g : Nat → Nat) (l : List Nat) (w : ∀ x, x ∈ l → f (di x) = .ok (if p x then some (di (g x)) else none)) : lcL f (nl l) = .ok (nl ((l.filter p).map g)) := by
  unfold nl
  rw [lcL_filter di p (fun x => di (g x)) l w, List.map_map]
  rfl
theorem lc_nlFB {f : Da → R (Option Da)} (p q : Nat → Bool) (l : List Nat) (w : ∀ x, x ∈ l → f (di x) = .ok (if p x then some (.bool (q x)) else none)) : lcL f (nl l) = .ok (bl ((l.filter p).map q)) := by
  unfold nl bl
  rw [lcL_filter di p (fun x => .bool (q x)) l w, List.map_map]
  rfl
theorem rng_nl (n : Nat) (h : n ≤ big) : dRng 0 (n : Int) = .ok (nl (List.range n)) := dRng_0 n h
theorem rng_nl2 (a b : Nat) (ha : a ≤ big) (hb : b ≤ big) : dRng (a : Int) (b : Int) = .ok (nl (List.range' a (b - a))) := by
  by_cases h : a ≤ b
  · exact dRng_at a b h hb
  · unfold dRng
    unfold big at ha hb ⊢
    have e : ((b : Int) - (a : Int)).toNat = 0 := by omega
    have e2 : b - a = 0 := by omega
    rw [if_pos ⟨by omega, by omega, by omega⟩, e, e2]
    rfl
theorem dAbs_na (i : Int) : dAbs [.int i] = .ok (di i.natAbs) := by
  show R.ok (PyData.int _) = R.ok (PyData.int _)
  congr 2
  split <;> omega
theorem zipD_nl : ∀ B H : List Nat, zipD (nl B) (nl H) = (List.range (min B.length H.length)).map fun k => .tuple [di (B.getD k 0), di (H.getD k 0)]
  | [], _ => by simp [zipD]
  | _ :: _, [] => by simp [zipD]
  | b :: B, h :: H => by
    have e : min (b :: B).length (h :: H).length = min B.length H.length + 1 := by simp
    rw [e, List.range_succ_eq_map, List.map_cons, List.map_map, nl_cons, nl_cons]
    show PyData.tuple [di b, di h] :: zipD (nl B) (nl H) = _
    rw [zipD_nl B H]
    rfl
/-- pairs of integers -/
def p2 (z : Int × Int) : Da := .tuple [.int z.1, .int z.2]
theorem alike_p2 (x y : Int × Int) : PySem.W.alike (p2 x) (p2 y) = true := by simp [p2, PySem.W.alike, PySem.W.alikeAll]
theorem depth_p2 (x : Int × Int) : (p2 x).depth = 1 := by simp [p2, PyData.depth, PyData.depthAll]
theorem lay_p2 (x : Int × Int) : (p2 x).canLay0 = true := by simp [p2, PyData.canLay0, PyData.canLayAll0]
theorem alkB_map {α : Type} (e : α → Da) (n : Nat) (hn : n ≤ 50) (h1 : ∀ x y, PySem.W.alike (e x) (e y) = true) (h2 : ∀ x, (e x).depth ≤ n) (h3 : ∀ x, (e x).canLay0 = true) (h4 : ∀ x, someD (e x) = true) (l : List α) : alkB (l.map e) = true := by
  have d : PyData.depthAll (l.map e) ≤ n := by
    induction l with
    | nil => simp [PyData.depthAll]
    | cons x l ih => simp only [List.map_cons, PyData.depthAll]; have := h2 x; omega
  have c : PyData.canLayAll0 (l.map e) = true := by
    induction l with
    | nil => simp [PyData.canLayAll0]
    | cons x l ih =>
      simp only [List.map_cons, PyData.canLayAll0, h3, Bool.true_and]
      exact ih (by simp only [List.map_cons, PyData.depthAll] at d; omega)
  unfold alkB
  simp only [Bool.and_eq_true, List.all_eq_true, decide_eq_true_eq]
  refine ⟨fun x hx y hy => ?_, fun x hx => ?_, by omega, c⟩
  · obtain ⟨a, _, rfl⟩ := List.mem_map.mp hx
    obtain ⟨b, _, rfl⟩ := List.mem_map.mp hy
    exact h1 a b
  · obtain ⟨a, _, rfl⟩ := List.mem_map.mp hx
    exact h4 a
theorem alk_p2 (l : List (Int × Int)) : alkB (l.map p2) = true := alkB_map p2 1 (by decide) alike_p2 (fun x => by rw [depth_p2]; exact Nat.le_refl _) lay_p2 (fun _ => rfl) l
theorem srt_p2 (l : List (Int × Int)) : srtB (l.map p2) = true := by
  unfold srtB
  have : (l.map p2).all tupD1 = true := by
    rw [List.all_eq_true]
    intro x hx
    obtain ⟨a, _, rfl⟩ := List.mem_map.mp hx
    rfl
  rw [this]
  rfl
theorem lt_p2 (x y : Int × Int) : PySem.W.dataLt (p2 x) (p2 y) = decide (x.1 < y.1 ∨ (x.1 = y.1 ∧ x.2 < y.2)) := PySem.W.dataLt_ii _ _ _ _
/-- the first of the least -/
def mn2 (z : Int × Int) (l : List (Int × Int)) : Int × Int := l.foldl (fun a y => if decide (y.1 < a.1 ∨ (y.1 = a.1 ∧ y.2 < a.2)) then y else a) z
theorem minD_p2 : ∀ (l : List (Int × Int)) (z : Int × Int), PySem.W.minD (p2 z) (l.map p2) = p2 (mn2 z l)
  | [], z => rfl
  | y :: l, z => by
    show PySem.W.minD (if PySem.W.dataLt (p2 y) (p2 z) then p2 y else p2 z) (l.map p2) = p2 (mn2 (if decide (y.1 < z.1 ∨ (y.1 = z.1 ∧ y.2 < z.2)) then y else z) l)
    rw [lt_p2, ← minD_p2 l]
    split <;> rfl
theorem mn2_le : ∀ (l : List (Int × Int)) (z : Int × Int), mn2 z l ∈ z :: l ∧ ∀ y, y ∈ z :: l → (mn2 z l).1 < y.1 ∨ ((mn2 z l).1 = y.1 ∧ (mn2 z l).2 ≤ y.2)
  | [], z => ⟨List.mem_cons_self, fun y hy => by
    rw [List.mem_singleton] at hy; subst hy
    exact .inr ⟨rfl, Int.le_refl _⟩⟩
  | x :: l, z => by
    have e : mn2 z (x :: l) = mn2 (if decide (x.1 < z.1 ∨ (x.1 = z.1 ∧ x.2 < z.2)) then x else z) l := rfl
    obtain ⟨h1, h2⟩ := mn2_le l (if decide (x.1 < z.1 ∨ (x.1 = z.1 ∧ x.2 < z.2)) then x else z)
    rw [e]
    generalize hc : (if decide (x.1 < z.1 ∨ (x.1 = z.1 ∧ x.2 < z.2)) then x else z) = c at h1 h2
    have hcz : (c = x ∧ (x.1 < z.1 ∨ (x.1 = z.1 ∧ x.2 < z.2))) ∨ (c = z ∧ ¬(x.1 < z.1 ∨ (x.1 = z.1 ∧ x.2 < z.2))) := by
      by_cases q : x.1 < z.1 ∨ (x.1 = z.1 ∧ x.2 < z.2)
      · rw [decide_eq_true q, if_pos rfl] at hc
        exact .inl ⟨hc.symm, q⟩
      · rw [decide_eq_false q, if_neg Bool.false_ne_true] at hc
        exact .inr ⟨hc.symm, q⟩
    have hm := h2 c List.mem_cons_self
    refine ⟨?_, fun y hy => ?_⟩
    · rcases List.mem_cons.mp h1 with q | q
      · rw [q]
        rcases hcz with ⟨e1, _⟩ | ⟨e1, _⟩
        · rw [e1]; exact List.mem_cons_of_mem _ List.mem_cons_self
        · rw [e1]; exact List.mem_cons_self
      · exact List.mem_cons_of_mem _ (List.mem_cons_of_mem _ q)
    · rcases List.mem_cons.mp hy with q | hy
      · subst q
        rcases hcz with ⟨e1, e2⟩ | ⟨e1, e2⟩
        · subst e1; omega
        · subst e1; exact hm
      · rcases List.mem_cons.mp hy with q | hy
        · subst q
          rcases hcz with ⟨e1, e2⟩ | ⟨e1, e2⟩
          · subst e1; exact hm
          · subst e1; omega
        · exact h2 y (List.mem_cons_of_mem _ hy)
theorem minG_p2 (z : Int × Int) (l : List (Int × Int)) : minG (p2 z :: l.map p2) = .ok (p2 (mn2 z l)) := by
  have a : alkB (p2 z :: l.map p2) = true := alk_p2 (z :: l)
  show (if alkB (p2 z :: l.map p2) then R.ok (PySem.W.minD (p2 z) (l.map p2)) else .bad) = _
  rw [if_pos a, minD_p2]
theorem ltG_p2 (x y : Int × Int) : dLtG (p2 x) (p2 y) = .ok (.bool (decide (x.1 < y.1 ∨ (x.1 = y.1 ∧ x.2 < y.2)))) := by
  have a : alkB [p2 x, p2 y] = true := alk_p2 [x, y]
  unfold dLtG
  rw [if_pos a, lt_p2]
theorem eqE_p2 {n : Nat} : EqE (n + 1) p2 := EqE.pair EqE.int EqE.int
theorem maxI_cast : ∀ (xs : List Nat) (x : Nat), (xs.map fun n : Nat => (n : Int)).foldl max (x : Int) = ((xs.foldl max x : Nat) : Int)
  | [], x => rfl
  | y :: xs, x => by
    rw [List.map_cons, List.foldl_cons, List.foldl_cons, ← maxI_cast xs (max x y)]
    congr 1
    omega
theorem minI_castN : ∀ (xs : List Nat) (x : Nat), (xs.map fun n : Nat => (n : Int)).foldl min (x : Int) = ((xs.foldl min x : Nat) : Int)
  | [], x => rfl
  | y :: xs, x => by
    rw [List.map_cons, List.foldl_cons, List.foldl_cons, ← minI_castN xs (min x y)]
    congr 1
    omega
theorem dMaxL_nl (x : Nat) (l : List Nat) : dMaxL [.list (nl (x :: l))] = .ok (di (l.foldl max x)) := by
  rw [dMaxL_list, ints_nl, R.bind_ok]
  show R.ok (PyData.int _) = _
  rw [maxI_cast]
  rfl
theorem dMinL_nl (x : Nat) (l : List Nat) : dMinL [.list (nl (x :: l))] = .ok (di (l.foldl min x)) := by
  rw [dMinL_list, ints_nl, R.bind_ok]
  show R.ok (PyData.int _) = _
  rw [minI_castN]
  rfl
theorem foldl_max_leN : ∀ (l : List Nat) (x b : Nat), x ≤ b → (∀ y, y ∈ l → y ≤ b) → l.foldl max x ≤ b
  | [], _, _, h, _ => h
  | y :: l, x, b, h, h2 => foldl_max_leN l (max x y) b (by have := h2 y List.mem_cons_self; omega) fun z hz => h2 z (List.mem_cons_of_mem _ hz)
theorem foldl_max_geN : ∀ (l : List Nat) (x : Nat), ∀ y, y ∈ x :: l → y ≤ l.foldl max x
  | [], x, y, h => by rw [List.mem_singleton] at h; subst h; exact Nat.le_refl _
  | z :: l, x, y, h => by
    have g := foldl_max_geN l (max x z)
    rw [List.foldl_cons]
    rcases List.mem_cons.mp h with e | h
    · subst e
      have := g (max y z) List.mem_cons_self
      omega
    · rcases List.mem_cons.mp h with e | h
      · subst e
        have := g (max x y) List.mem_cons_self
        omega
      · exact g y (List.mem_cons_of_mem _ h)
theorem le_foldl_minN : ∀ (l : List Nat) (x b : Nat), b ≤ x → (∀ y, y ∈ l → b ≤ y) → b ≤ l.foldl min x
  | [], _, _, h, _ => h
  | y :: l, x, b, h, h2 => le_foldl_minN l (min x y) b (by have := h2 y List.mem_cons_self; omega) fun z hz => h2 z (List.mem_cons_of_mem _ hz)
theorem all_map_id {α : Type} (p : α → Bool) (l : List α) : (l.map p).all id = l.all p := by simp [List.all_map]
end DL
set_option Elab.async false
set_option linter.all false
set_option maxRecDepth 100000
/-! What the defs of the row compute, printed by gen.py. -/
namespace K83
open PySem DL
def b_is_integer : SS :=
    (sRet (eAnd (eT (e1 (dIsi .int) (eVar 0))) (e1 dNot (eT (e1 (dIsi .bool) (eVar 0))))))
def f_is_integer (ds : List Da) : R Da := runDef 1 b_is_integer ds

def b_is_between : SS :=
    (sRet (eAnd (eT (eA f_is_integer (aCons (eVar 0) aNil))) (eChain dLe dLe (eVar 1) (eVar 0) (eVar 2))))
def f_is_between (ds : List Da) : R Da := runDef 3 b_is_between ds

def b_is_under : SS :=
    (sRet (eAnd (eT (eA f_is_integer (aCons (eVar 0) aNil))) (eChain dLe dLt (eC (.int 0)) (eVar 0) (eVar 1))))
def f_is_under (ds : List Da) : R Da := runDef 2 b_is_under ds

def b_is_tuple_of : SS :=
    (sRet (eAnd (eT (e1 (dIsi .tuple) (eVar 0))) (e2 dEq (eA dLen (aCons (eVar 0) aNil)) (eVar 1))))
def f_is_tuple_of (ds : List Da) : R Da := runDef 2 b_is_tuple_of ds

def b_are_under : SS :=
    (sRet (eAnd (eT (e1 (dIsi .tuple) (eVar 0))) (eA dAll (aCons (eLc (iL (eVar 0)) (gVar 2) [2] eYes (eA f_is_under (aCons (eVar 2) (aCons (eVar 1) aNil)))) aNil))))
def f_are_under (ds : List Da) : R Da := runDef 3 b_are_under ds

def b_is_lot : SS :=
    (sRet (eAnd (eT (eA f_are_under (aCons (eVar 0) (aCons (eVar 1) aNil)))) (eA dAll (aCons (eLc (iRng2 (eC (.int 1)) (eA dLen (aCons (eVar 0) aNil))) (gVar 2) [2] eYes (e2 dLt (e2 dIx (eVar 0) (e2 dSub (eVar 2) (eC (.int 1)))) (e2 dIx (eVar 0) (eVar 2)))) aNil))))
def f_is_lot (ds : List Da) : R Da := runDef 3 b_is_lot ds

def b_are_bodies : SS :=
    (sSeq (sIf (eOr (e1 dNot (eT (e1 (dIsi .tuple) (eVar 0)))) (e2 dGt (eA dLen (aCons (eVar 0) aNil)) (eC (.int 12)))) (sRet (eC (.bool false))) sNx)
    (sSeq (sIf (e1 dNot (eT (eA dAll (aCons (eLc (iL (eVar 0)) (gVar 2) [2] eYes (eA f_is_between (aCons (eVar 2) (aCons (eC (.int 0)) (aCons (eC (.int 200)) aNil))))) aNil)))) (sRet (eC (.bool false))) sNx)
    (sRet (eA dAll (aCons (eLc (iRng2 (eC (.int 1)) (eA dLen (aCons (eVar 0) aNil))) (gVar 1) [1] eYes (e2 dLe (e2 dIx (eVar 0) (e2 dSub (eVar 1) (eC (.int 1)))) (e2 dIx (eVar 0) (eVar 1)))) aNil)))))
def f_are_bodies (ds : List Da) : R Da := runDef 3 b_are_bodies ds

def b_need_bodies : SS :=
    (sSeq (sIf (e1 dNot (eT (eA f_are_bodies (aCons (eVar 0) aNil)))) (sRaise "NoSizes") sNx)
    (sIf (e1 dNot (eT (eA f_is_between (aCons (eVar 1) (aCons (eC (.int 0)) (aCons (eC (.int 50)) aNil)))))) (sRaise "NoNumber") sNx))
def f_need_bodies (ds : List Da) : R Da := runDef 2 b_need_bodies ds

def b_fits : SS :=
    (sRet (e2 dLe (eA dAbs (aCons (e2 dSub (eVar 0) (eVar 1)) aNil)) (eVar 2)))
def f_fits (ds : List Da) : R Da := runDef 3 b_fits ds

def l_cover_of_0 : SS :=
    (sPost [4, 5] (sIf (e1 dNot (eT (eA dAny (aCons (eLc (iL (eVar 2)) (gVar 6) [6] eYes (eA f_fits (aCons (eVar 6) (aCons (eVar 5) (aCons (eVar 1) aNil))))) aNil)))) (sSeq (sAppend 2 (e2 dAdd (eVar 5) (eVar 1)))
    (sAppend 3 (eVar 4))) sNx))
def b_cover_of : SS :=
    (sSeq (sPr true true 2 3 (eLst aNil) (eLst aNil))
    (sSeq (sWk [4, 5] (sNox (sFor (iEnum (eVar 0)) (gTupD [(gVar 4), (gVar 5)]) l_cover_of_0)))
    (sRet (eTup (aCons (eA dTuple (aCons (eVar 2) aNil)) (aCons (eA dTuple (aCons (eVar 3) aNil)) aNil))))))
def f_cover_of (ds : List Da) : R Da := runDef 7 b_cover_of ds

def b_size_fewest : SS :=
    (sSeq (sExpr (eA f_need_bodies (aCons (eVar 0) (aCons (eVar 1) aNil))))
    (sRet (eA dLen (aCons (e2 dIx (eA f_cover_of (aCons (eVar 0) (aCons (eVar 1) aNil))) (eC (.int 0))) aNil))))
def f_size_fewest (ds : List Da) : R Da := runDef 2 b_size_fewest ds

def b_are_offers : SS :=
    (sSeq (sIf (eOr (e1 dNot (eT (e1 (dIsi .tuple) (eVar 0)))) (e2 dGt (eA dLen (aCons (eVar 0) aNil)) (eC (.int 10)))) (sRet (eC (.bool false))) sNx)
    (sSeq (sIf (e1 dNot (eT (eA dAll (aCons (eLc (iL (eVar 0)) (gVar 2) [2] eYes (eAnd (eT (eA f_is_tuple_of (aCons (eVar 2) (aCons (eC (.int 2)) aNil)))) (eAnd (eT (eA f_is_between (aCons (e2 dIx (eVar 2) (eC (.int 0))) (aCons (eC (.int 0)) (aCons (e2 dAdd (eC (.int 200)) (eC (.int 50))) aNil))))) (eA f_is_between (aCons (e2 dIx (eVar 2) (eC (.int 1))) (aCons (eC (.int 1)) (aCons (eC (.int 100)) aNil))))))) aNil)))) (sRet (eC (.bool false))) sNx)
    (sRet (eA dAll (aCons (eLc (iRng2 (eC (.int 1)) (eA dLen (aCons (eVar 0) aNil))) (gVar 1) [1] eYes (e2 dLt (e2 dIx (e2 dIx (eVar 0) (e2 dSub (eVar 1) (eC (.int 1)))) (eC (.int 0))) (e2 dIx (e2 dIx (eVar 0) (eVar 1)) (eC (.int 0))))) aNil)))))
def f_are_offers (ds : List Da) : R Da := runDef 3 b_are_offers ds

def b_need_offers : SS :=
    (sSeq (sExpr (eA f_need_bodies (aCons (eVar 0) (aCons (eVar 1) aNil))))
    (sIf (e1 dNot (eT (eA f_are_offers (aCons (eVar 2) aNil)))) (sRaise "NoPrices") sNx))
def f_need_offers (ds : List Da) : R Da := runDef 3 b_need_offers ds

def b_bare_body : SS :=
    (sSeq (sAsg (gVar 3) (eLc (iEnum (eVar 0)) (gTupD [(gVar 4), (gVar 5)]) [4, 5] (e1 dNot (eT (eA dAny (aCons (eLc (iL (eVar 2)) (gVar 6) [6] eYes (eA f_fits (aCons (e2 dIx (eVar 6) (eC (.int 0))) (aCons (eVar 5) (aCons (eVar 1) aNil))))) aNil)))) (eVar 4)))
    (sRet (eIf (eT (eVar 3)) (e2 dIx (eVar 3) (eC (.int 0))) (eC .none))))
def f_bare_body (ds : List Da) : R Da := runDef 7 b_bare_body ds

def l_chosen_of_0 : SS :=
    (sPost [4, 5, 6, 7, 8, 9, 10, 11, 12] (sSeq (sAsg (gVar 7) (eA dLen (aCons (eLc (iL (eVar 0)) (gVar 14) [14] (e2 dLt (eVar 14) (e2 dSub (eVar 5) (eVar 1))) (eVar 14)) aNil)))
    (sSeq (sAsg (gVar 8) (eA dLen (aCons (eLc (iL (eVar 0)) (gVar 14) [14] (e2 dLe (eVar 14) (e2 dAdd (eVar 5) (eVar 1))) (eVar 14)) aNil)))
    (sSeq (sLkLc 3 9 (eLc (iItems (eVar 3)) (gTupD [(gVar 13), (gVar 12)]) [13, 12] (e2 dGe (eVar 13) (eVar 7)) (eVar 12)))
    (sIf (eT (eVar 9)) (sSeq (sAsg (gTupD [(gVar 10), (gVar 11)]) (eA dMinG (aCons (eVar 9) aNil)))
    (sSeq (sAsg (gVar 12) (eTup (aCons (e2 dAdd (eVar 10) (eVar 6)) (aCons (e2 dAdd (eVar 11) (eTup (aCons (eVar 4) aNil))) aNil))))
    (sIf (eOr (e2 (dDNotIn false) (eVar 8) (eVar 3)) (e2 dLtG (eVar 12) (e2 (dDGet false) (eVar 3) (eVar 8)))) (sPutD false 3 (eVar 8) (eVar 12)) sNx))) sNx)))))
def b_chosen_of : SS :=
    (sSeq (sOwnD 3 (eDisp (eC (.int 0)) (eTup (aCons (eC (.int 0)) (aCons (eTup aNil) aNil)))))
    (sSeq (sWk [4, 5, 6, 7, 8, 9, 10, 11, 12] (sNox (sFor (iEnum (eVar 2)) (gTupD [(gVar 4), (gTupD [(gVar 5), (gVar 6)])]) l_chosen_of_0)))
    (sRet (eIf (e2 (dDIn false) (eA dLen (aCons (eVar 0) aNil)) (eVar 3)) (e2 (dDGet false) (eVar 3) (eA dLen (aCons (eVar 0) aNil))) (eC .none)))))
def f_chosen_of (ds : List Da) : R Da := runDef 15 b_chosen_of ds

def l_dues_of_0 : SS :=
    (sPost [7, 8, 9] (sIf (eT (eA f_fits (aCons (eVar 7) (aCons (eVar 5) (aCons (eVar 1) aNil))))) (sSeq (sAsg (gVar 9) (eA dSumL (aCons (eLc (iRng1 (eVar 4)) (gVar 10) [10] (eT (eA f_fits (aCons (eVar 7) (aCons (e2 dIx (eVar 0) (eVar 10)) (aCons (eVar 1) aNil))))) (e2 dIx (eVar 3) (eVar 10))) aNil)))
    (sAppend 6 (e2 dSub (eVar 8) (eVar 9)))) sNx))
def l_dues_of_1 : SS :=
    (sPost [4, 5, 6, 7, 8, 9] (sSeq (sOwn 6 (eLst aNil))
    (sSeq (sWk [7, 8, 9] (sFor (iL (eVar 2)) (gTupD [(gVar 7), (gVar 8)]) l_dues_of_0))
    (sSet 3 (eVar 4) (eA dMinL (aCons (eVar 6) aNil))))))
def b_dues_of : SS :=
    (sSeq (sOwn 3 (e2 repD (eLst (aCons (eC (.int 0)) aNil)) (eA dLen (aCons (eVar 0) aNil))))
    (sSeq (sWk [4, 5, 6, 7, 8, 9] (sNox (sFor (iEnum (eVar 0)) (gTupD [(gVar 4), (gVar 5)]) l_dues_of_1)))
    (sRet (eVar 3))))
def f_dues_of (ds : List Da) : R Da := runDef 11 b_dues_of ds

def b_size_best : SS :=
    (sSeq (sExpr (eA f_need_offers (aCons (eVar 0) (aCons (eVar 1) (aCons (eVar 2) aNil)))))
    (sSeq (sAsg (gVar 3) (eA f_bare_body (aCons (eVar 0) (aCons (eVar 1) (aCons (eVar 2) aNil)))))
    (sSeq (sIf (e1 dNotN (eVar 3)) (sRet (eTup (aCons (eC (.str "body")) (aCons (eVar 3) aNil)))) sNx)
    (sRet (eTup (aCons (eC (.str "sizes")) (aCons (e2 dIx (eA f_chosen_of (aCons (eVar 0) (aCons (eVar 1) (aCons (eVar 2) aNil)))) (eC (.int 1))) (aCons (eA dTuple (aCons (eA f_dues_of (aCons (eVar 0) (aCons (eVar 1) (aCons (eVar 2) aNil)))) aNil)) aNil))))))))
def f_size_best (ds : List Da) : R Da := runDef 4 b_size_best ds

def b_cost_of : SS :=
    (sRet (eA dSumL (aCons (eLc (iL (eVar 1)) (gVar 2) [2] eYes (e2 dIx (e2 dIx (eVar 0) (eVar 2)) (eC (.int 1)))) aNil)))
def f_cost_of (ds : List Da) : R Da := runDef 3 b_cost_of ds

def b_are_dues : SS :=
    (sSeq (sIf (eOr (e1 dNot (eT (eA f_is_tuple_of (aCons (eVar 3) (aCons (eA dLen (aCons (eVar 0) aNil)) aNil))))) (e1 dNot (eT (eA dAll (aCons (eLc (iL (eVar 3)) (gVar 6) [6] eYes (eA f_is_between (aCons (eVar 6) (aCons (eC (.int 0)) (aCons (eC (.int 10000)) aNil))))) aNil))))) (sRet (eC (.bool false))) sNx)
    (sRet (eA dAll (aCons (eLc (iL (eVar 2)) (gTupD [(gVar 4), (gVar 5)]) [4, 5] eYes (e2 dLe (eA dSumL (aCons (eLc (iZip (eVar 0) (eVar 3)) (gTupD [(gVar 7), (gVar 8)]) [7, 8] (eT (eA f_fits (aCons (eVar 4) (aCons (eVar 7) (aCons (eVar 1) aNil))))) (eVar 8)) aNil)) (eVar 5))) aNil))))
def f_are_dues (ds : List Da) : R Da := runDef 9 b_are_dues ds

def b_is_size_best : SS :=
    (sSeq (sExpr (eA f_need_offers (aCons (eVar 0) (aCons (eVar 1) (aCons (eVar 2) aNil)))))
    (sSeq (sIf (eOr (e1 dNot (eT (e1 (dIsi .tuple) (eVar 3)))) (eOr (e2 dLt (eA dLen (aCons (eVar 3) aNil)) (eC (.int 2))) (e1 dNot (eT (e1 (dIsi .str) (e2 dIx (eVar 3) (eC (.int 0)))))))) (sRet (eC (.bool false))) sNx)
    (sSeq (sIf (e2 dEq (e2 dIx (eVar 3) (eC (.int 0))) (eC (.str "body"))) (sSeq (sAsg (gVar 4) (eAnd (eT (e2 dEq (eA dLen (aCons (eVar 3) aNil)) (eC (.int 2)))) (eA f_is_between (aCons (e2 dIx (eVar 3) (eC (.int 1))) (aCons (eC (.int 0)) (aCons (e2 dSub (eA dLen (aCons (eVar 0) aNil)) (eC (.int 1))) aNil))))))
    (sRet (eAnd (eT (eVar 4)) (e1 dNot (eT (eA dAny (aCons (eLc (iL (eVar 2)) (gVar 6) [6] eYes (eA f_fits (aCons (e2 dIx (eVar 6) (eC (.int 0))) (aCons (e2 dIx (eVar 0) (e2 dIx (eVar 3) (eC (.int 1)))) (aCons (eVar 1) aNil))))) aNil))))))) sNx)
    (sSeq (sIf (eOr (e2 dNe (e2 dIx (eVar 3) (eC (.int 0))) (eC (.str "sizes"))) (eOr (e2 dNe (eA dLen (aCons (eVar 3) aNil)) (eC (.int 3))) (e1 dNot (eT (eA f_is_lot (aCons (e2 dIx (eVar 3) (eC (.int 1))) (aCons (eA dLen (aCons (eVar 2) aNil)) aNil))))))) (sRet (eC (.bool false))) sNx)
    (sSeq (sIf (e1 dNot (eT (eA dAll (aCons (eLc (iL (eVar 0)) (gVar 5) [5] eYes (eA dAny (aCons (eLc (iL (e2 dIx (eVar 3) (eC (.int 1)))) (gVar 6) [6] eYes (eA f_fits (aCons (e2 dIx (e2 dIx (eVar 2) (eVar 6)) (eC (.int 0))) (aCons (eVar 5) (aCons (eVar 1) aNil))))) aNil))) aNil)))) (sRet (eC (.bool false))) sNx)
    (sRet (eAnd (eT (eA f_are_dues (aCons (eVar 0) (aCons (eVar 1) (aCons (eVar 2) (aCons (e2 dIx (eVar 3) (eC (.int 2))) aNil)))))) (e2 dEq (eA f_cost_of (aCons (eVar 2) (aCons (e2 dIx (eVar 3) (eC (.int 1))) aNil))) (eA dSumL (aCons (e2 dIx (eVar 3) (eC (.int 2))) aNil))))))))))
def f_is_size_best (ds : List Da) : R Da := runDef 7 b_is_size_best ds

def b_size_least : SS :=
    (sSeq (sExpr (eA f_need_offers (aCons (eVar 0) (aCons (eVar 1) (aCons (eVar 2) aNil)))))
    (sSeq (sIf (e1 dNotN (eA f_bare_body (aCons (eVar 0) (aCons (eVar 1) (aCons (eVar 2) aNil))))) (sRet (eC .none)) sNx)
    (sRet (e2 dIx (eA f_chosen_of (aCons (eVar 0) (aCons (eVar 1) (aCons (eVar 2) aNil)))) (eC (.int 0))))))
def f_size_least (ds : List Da) : R Da := runDef 3 b_size_least ds

def b__law_mixed : SS :=
    (sSeq (sAsg (gVar 2) (e2 dAdd (e2 dAdd (e2 mulI (eA dInt (aCons (eVar 0) aNil)) (eC (.int 48271))) (e2 mulI (eVar 1) (eC (.int 69621)))) (eC (.int 11))))
    (sRet (e2 dMod (eA dInt (aCons (e2 dAdd (e2 mulI (eVar 2) (eC (.int 16807))) (e2 dDiv (eVar 2) (eC (.int 8191)))) aNil)) (eC (.int 2147483647)))))
def f__law_mixed (ds : List Da) : R Da := runDef 3 b__law_mixed ds

def l__law_row_0 : SS :=
    (sPost [6] (sIf (eT (eVar 5)) (sSeq (sAppend 3 (e2 dMod (eA dInt (aCons (eVar 4) aNil)) (eVar 2)))
    (sAsg (gVar 4) (e2 dDiv (eVar 4) (eVar 2)))) (sAppend 3 (e2 dMod (e2 dDiv (eA f__law_mixed (aCons (eVar 0) (aCons (eVar 6) aNil))) (eC (.int 7))) (eVar 2)))))
def b__law_row : SS :=
    (sSeq (sOwn 3 (eLst aNil))
    (sSeq (sAsg (gVar 4) (eA dInt (aCons (eVar 0) aNil)))
    (sSeq (sAsg (gVar 5) (e2 dGe (eVar 4) (eC (.int 1000000000000000000))))
    (sSeq (sWk [6] (sNox (sFor (iRng1 (eVar 1)) (gVar 6) l__law_row_0)))
    (sRet (eVar 3))))))
def f__law_row (ds : List Da) : R Da := runDef 7 b__law_row ds

def b__law_bodies : SS :=
    (sSeq (sAsg (gVar 2) (eA f__law_row (aCons (eVar 0) (aCons (e2 dAdd (eVar 1) (eC (.int 3))) (aCons (eC (.int 1000)) aNil)))))
    (sSeq (sAsg (gVar 3) (e2 dIx (eLst (aCons (eC (.int 10)) (aCons (eC (.int 60)) (aCons (eC (.int 201)) aNil)))) (e2 dMod (e2 dIx (eVar 2) (eC (.int 1))) (eC (.int 3)))))
    (sSeq (sAsg (gVar 4) (eA dTuple (aCons (eA dSorted (aCons (eLc (iRng1 (e2 dMod (e2 dIx (eVar 2) (eC (.int 0))) (e2 dAdd (eVar 1) (eC (.int 1))))) (gVar 5) [5] eYes (e2 dMod (e2 dIx (eVar 2) (e2 dAdd (eC (.int 3)) (eVar 5))) (eVar 3))) aNil)) aNil)))
    (sRet (eTup (aCons (eVar 4) (aCons (e2 dMod (e2 dIx (eVar 2) (eC (.int 2))) (e2 dIx (eLst (aCons (eC (.int 4)) (aCons (eC (.int 12)) (aCons (eC (.int 51)) aNil)))) (e2 dMod (e2 dIx (eVar 2) (eC (.int 1))) (eC (.int 3))))) aNil)))))))
def f__law_bodies (ds : List Da) : R Da := runDef 6 b__law_bodies ds

def b__law_at : SS :=
    (sSeq (sIf (e2 dLt (eVar 1) (eA dLen (aCons (eVar 0) aNil))) (sRet (eA dInt (aCons (e2 dIx (eVar 0) (eVar 1)) aNil))) sNx)
    (sRet (e2 dAdd (eC (.int 5)) (e2 mulI (eC (.int 3)) (eVar 1)))))
def f__law_at (ds : List Da) : R Da := runDef 2 b__law_at ds

def l__law_offers_0 : SS :=
    (sPost [0, 4] (sPutD false 3 (e2 dMod (e2 dIx (eVar 2) (e2 dAdd (eC (.int 2)) (e2 mulI (eC (.int 2)) (eVar 4)))) (e2 dAdd (eVar 1) (eC (.int 1)))) (e2 dAdd (eC (.int 1)) (e2 dMod (e2 dIx (eVar 2) (e2 dAdd (eC (.int 3)) (e2 mulI (eC (.int 2)) (eVar 4)))) (e2 dIx (eLst (aCons (eC (.int 3)) (aCons (eC (.int 20)) (aCons (eC (.int 100)) aNil)))) (e2 dMod (e2 dIx (eVar 2) (eC (.int 1))) (eC (.int 3))))))))
def b__law_offers : SS :=
    (sSeq (sAsg (gVar 2) (eA f__law_row (aCons (eVar 0) (aCons (eC (.int 22)) (aCons (eC (.int 1000)) aNil)))))
    (sSeq (sOwnD 3 (eC (dD false false [])))
    (sSeq (sWk [0, 4] (sNox (sFor (iRng1 (e2 dMod (e2 dIx (eVar 2) (eC (.int 0))) (eC (.int 11)))) (gVar 4) l__law_offers_0)))
    (sRet (eA dTuple (aCons (eLc (iL (eA dDSorted (aCons (eVar 3) aNil))) (gVar 5) [5] eYes (eTup (aCons (eVar 5) (aCons (e2 (dDGet false) (eVar 3) (eVar 5)) aNil)))) aNil))))))
def f__law_offers (ds : List Da) : R Da := runDef 6 b__law_offers ds

def t_law_0 : SS :=
    (sAsg (gTupD [(gVar 1), (gVar 2)]) (eA f__law_bodies (aCons (eA f__law_at (aCons (eVar 0) (aCons (eC (.int 0)) aNil))) (aCons (eC (.int 8)) aNil))))
def t_law_1 : SS :=
    (sAsg (gVar 3) (e2 dAdd (eC (.int 1)) (e2 dIx (eA f__law_row (aCons (eA f__law_at (aCons (eVar 0) (aCons (eC (.int 1)) aNil))) (aCons (eC (.int 1)) (aCons (eC (.int 30)) aNil)))) (eC (.int 0)))))
def l_law_0 : SS :=
    (sPost [5, 6, 7, 8, 9, 10, 11, 12, 13, 14, 15] (sPutD false 4 (e2 dAdd (eVar 5) (eVar 2)) (eC (.bool true))))
def t_law_3 : SS :=
    (sWk [5, 6, 7, 8, 9, 10, 11, 12, 13, 14, 15] (sNox (sFor (iL (eVar 1)) (gVar 5) l_law_0)))
def t_law_4 : SS :=
    (sAsg (gVar 6) (eA dTuple (aCons (eLc (iL (eA dDSorted (aCons (eVar 4) aNil))) (gVar 16) [16] eYes (eTup (aCons (eVar 16) (aCons (eVar 3) aNil)))) aNil)))
def t_law_5 : SS :=
    (sAsg (gVar 7) (eA f_size_fewest (aCons (eVar 1) (aCons (eVar 2) aNil))))
def t_law_6 : SS :=
    (sIf (e2 dNe (eA f_size_least (aCons (eVar 1) (aCons (eVar 2) (aCons (eVar 6) aNil)))) (e2 mulI (eVar 7) (eVar 3))) (sRet (eC (.bool false))) sNx)
def t_law_7 : SS :=
    (sAsg (gVar 8) (eA f_size_best (aCons (eVar 1) (aCons (eVar 2) (aCons (eVar 6) aNil)))))
def t_law_8 : SS :=
    (sIf (eOr (e2 dNe (e2 dIx (eVar 8) (eC (.int 0))) (eC (.str "sizes"))) (eOr (e2 dNe (eA dLen (aCons (e2 dIx (eVar 8) (eC (.int 1))) aNil)) (eVar 7)) (e2 dNe (eA dSumL (aCons (e2 dIx (eVar 8) (eC (.int 2))) aNil)) (e2 mulI (eVar 7) (eVar 3))))) (sRet (eC (.bool false))) sNx)
def t_law_9 : SS :=
    (sAsg (gVar 9) (eA f__law_offers (aCons (eA f__law_at (aCons (eVar 0) (aCons (eC (.int 2)) aNil))) (aCons (eA dMaxG (aCons (e2 dAdd (eVar 1) (eTup (aCons (eC (.int 10)) aNil))) aNil)) aNil))))
def t_law_10 : SS :=
    (sAsg (gVar 10) (eA dTuple (aCons (eLc (iL (eVar 9)) (gVar 17) [17] eYes (eTup (aCons (e2 dIx (eVar 17) (eC (.int 0))) (aCons (e2 dAdd (eC (.int 1)) (e2 dMod (e2 dIx (eVar 17) (eC (.int 1))) (eC (.int 20)))) aNil)))) aNil)))
def t_law_11 : SS :=
    (sAsg (gVar 11) (eA f_size_least (aCons (eVar 1) (aCons (eVar 2) (aCons (eVar 10) aNil)))))
def t_law_12 : SS :=
    (sAsg (gVar 12) (eA dTuple (aCons (eLc (iL (eVar 10)) (gVar 17) [17] eYes (eTup (aCons (e2 dIx (eVar 17) (eC (.int 0))) (aCons (e2 mulI (eC (.int 3)) (e2 dIx (eVar 17) (eC (.int 1)))) aNil)))) aNil)))
def t_law_13 : SS :=
    (sIf (e2 dNe (eA f_size_least (aCons (eVar 1) (aCons (eVar 2) (aCons (eVar 12) aNil)))) (eIf (e1 dIsN (eVar 11)) (eC .none) (e2 mulI (eC (.int 3)) (eVar 11)))) (sRet (eC (.bool false))) sNx)
def l_law_1 : SS :=
    (sPost [0, 3, 4, 5, 6, 8, 9, 12, 13, 14, 15] (sSeq (sAsg (gVar 15) (eA f_size_least (aCons (eVar 1) (aCons (eVar 2) (aCons (e2 dAdd (eSl (eVar 10) oNone (oSome (eVar 14))) (eSl (eVar 10) (oSome (e2 dAdd (eVar 14) (eC (.int 1)))) oNone)) aNil)))))
    (sIf (eAnd (e1 dNotN (eVar 15)) (e2 dLt (eVar 15) (eVar 11))) (sRet (eC (.bool false))) sNx)))
def t_law_14 : SS :=
    (sIf (e1 dNotN (eVar 11)) (sSeq (sAsg (gVar 13) (eA f_size_best (aCons (eVar 1) (aCons (eVar 2) (aCons (eVar 10) aNil)))))
    (sSeq (sIf (e1 (dIsNotB true) (eA f_is_size_best (aCons (eVar 1) (aCons (eVar 2) (aCons (eVar 12) (aCons (eTup (aCons (eC (.str "sizes")) (aCons (e2 dIx (eVar 13) (eC (.int 1))) (aCons (eA dTuple (aCons (eLc (iL (e2 dIx (eVar 13) (eC (.int 2)))) (gVar 18) [18] eYes (e2 mulI (eC (.int 3)) (eVar 18))) aNil)) aNil)))) aNil)))))) (sRet (eC (.bool false))) sNx)
    (sSeq (sIf (eAnd (e2 dLt (eVar 2) (eC (.int 50))) (e2 dGt (eA f_size_least (aCons (eVar 1) (aCons (e2 dAdd (eVar 2) (eC (.int 1))) (aCons (eVar 10) aNil)))) (eVar 11))) (sRet (eC (.bool false))) sNx)
    (sWk [0, 3, 4, 5, 6, 8, 9, 12, 13, 14, 15] (sNox (sFor (iRng1 (eA dLen (aCons (eVar 10) aNil))) (gVar 14) l_law_1)))))) sNx)
def t_law_15 : SS :=
    (sRet (eOr (eT (e1 dIsN (eVar 11))) (e2 dGe (eVar 11) (eVar 7))))
def b_law : SS :=
    (sSeq t_law_0
    (sSeq t_law_1
    (sSeq (sOwnD 4 (eC (dD false false [])))
    (sSeq t_law_3
    (sSeq t_law_4
    (sSeq t_law_5
    (sSeq t_law_6
    (sSeq t_law_7
    (sSeq t_law_8
    (sSeq t_law_9
    (sSeq t_law_10
    (sSeq t_law_11
    (sSeq t_law_12
    (sSeq t_law_13
    (sSeq t_law_14
    t_law_15)))))))))))))))
def f_law (ds : List Da) : R Da := runDef 19 b_law ds
end K83
set_option Elab.async false
set_option linter.all false
/-! What hangs together by edges; spanning trees with values, found in breadth. -/
namespace DL
open PySem
theorem len_le_of_sub {α : Type} [DecidableEq α] : ∀ {l m : List α}, l.Nodup → (∀ x, x ∈ l → x ∈ m) → l.length ≤ m.length
  | [], m, _, _ => Nat.zero_le _
  | x :: l, m, h, s => by
    obtain ⟨h1, h2⟩ := List.nodup_cons.mp h
    have hx := s x List.mem_cons_self
    have := len_le_of_sub (m := m.erase x) h2 fun y hy => (List.mem_erase_of_ne fun (e : y = x) => h1 (e ▸ hy)).mpr (s y (List.mem_cons_of_mem _ hy))
    have l1 := List.length_erase_of_mem hx
    have l0 := List.length_pos_of_mem hx
    rw [List.length_cons]
    omega
theorem nd_lt_len {l : List Nat} {n : Nat} (h : l.Nodup) (hl : ∀ x, x ∈ l → x < n) : l.length ≤ n := by
  have := len_le_of_sub (m := List.range n) h fun x hx => List.mem_range.mpr (hl x hx)
  simpa using this
/-- pairwise unlike ones, each with one of its own there -/
theorem cover_le {R R' : List Nat} (rel : Nat → Nat → Prop) (hp : R.Pairwise fun a b => ∀ c, rel a c → rel b c → False) (hc : ∀ a, a ∈ R → ∃ c, c ∈ R' ∧ rel a c) : R.length ≤ R'.length := by
  induction R generalizing R' with
  | nil => exact Nat.zero_le _
  | cons a R ih =>
    obtain ⟨h1, h2⟩ := List.pairwise_cons.mp hp
    obtain ⟨c, hc1, hc2⟩ := hc a List.mem_cons_self
    have := ih (R' := R'.erase c) h2 fun b hb => by
      obtain ⟨d, hd1, hd2⟩ := hc b (List.mem_cons_of_mem _ hb)
      exact ⟨d, (List.mem_erase_of_ne fun (e : d = c) => h1 b hb c hc2 (e ▸ hd2)).mpr hd1, hd2⟩
    have l1 := List.length_erase_of_mem hc1
    have l0 := List.length_pos_of_mem hc1
    rw [List.length_cons]
    omega
theorem perm_of_nd {l m : List Nat} (hl : l.Nodup) (hm : m.Nodup) (h : ∀ x, x ∈ l ↔ x ∈ m) : l.Perm m := by
  induction l generalizing m with
  | nil =>
    cases m with
    | nil => exact .nil
    | cons y m => exact absurd ((h y).mpr List.mem_cons_self) (fun z => nomatch z)
  | cons x l ih =>
    obtain ⟨h1, h2⟩ := List.nodup_cons.mp hl
    have hx := (h x).mp List.mem_cons_self
    refine .trans (.cons x (ih (m := m.erase x) h2 (hm.erase x) fun y => ⟨fun hy => ?_, fun hy => ?_⟩)) (List.perm_cons_erase hx).symm
    · exact (List.mem_erase_of_ne fun (e : y = x) => h1 (e ▸ hy)).mpr ((h y).mp (List.mem_cons_of_mem _ hy))
    · have hne : y ≠ x := fun e => by
        subst e
        exact (List.Nodup.mem_erase_iff hm).mp hy |>.1 rfl
      rcases List.mem_cons.mp ((h y).mpr (List.mem_of_mem_erase hy)) with e | hy'
      · exact absurd e hne
      · exact hy'
/-! what hangs together -/
inductive Cn {ε : Type} (ends : ε → Nat × Nat) (E : List ε) : Nat → Nat → Prop
  | refl (a : Nat) : Cn ends E a a
  | fw {a : Nat} {e : ε} (h : Cn ends E a (ends e).1) (m : e ∈ E) : Cn ends E a (ends e).2
  | bw {a : Nat} {e : ε} (h : Cn ends E a (ends e).2) (m : e ∈ E) : Cn ends E a (ends e).1
section
variable {ε : Type} {ends : ε → Nat × Nat} {E : List ε} {a b c : Nat}
theorem Cn.trans (h1 : Cn ends E a b) (h2 : Cn ends E b c) : Cn ends E a c := by
  induction h2 with
  | refl => exact h1
  | fw h m ih => exact .fw ih m
  | bw h m ih => exact .bw ih m
theorem Cn.symm (h : Cn ends E a b) : Cn ends E b a := by
  induction h with
  | refl => exact .refl _
  | fw h m ih => exact (Cn.bw (.refl _) m).trans ih
  | bw h m ih => exact (Cn.fw (.refl _) m).trans ih
theorem Cn.edge {e : ε} (m : e ∈ E) : Cn ends E (ends e).1 (ends e).2 := .fw (.refl _) m
/-- renamed, or other edges with the same ends -/
theorem Cn.map {ε' : Type} {ends' : ε' → Nat × Nat} {E' : List ε'} (f : Nat → Nat) (w : ∀ e, e ∈ E → Cn ends' E' (f (ends e).1) (f (ends e).2)) (h : Cn ends E a b) : Cn ends' E' (f a) (f b) := by
  induction h with
  | refl => exact .refl _
  | fw h m ih => exact ih.trans (w _ m)
  | bw h m ih => exact ih.trans (w _ m).symm
theorem Cn.lt {P : Nat} (w : ∀ e, e ∈ E → (ends e).1 < P ∧ (ends e).2 < P) (h : Cn ends E a b) (ha : a < P) : b < P := by
  induction h with
  | refl => exact ha
  | fw h m _ => exact (w _ m).2
  | bw h m _ => exact (w _ m).1
end
/-! trees with values -/
/-- an edge leads on from one of its ends, with a new value -/
structure NxOk {ε α : Type} (ends : ε → Nat × Nat) (nxt : ε → Nat → α → Option (Nat × α)) : Prop where
  fst : ∀ e v, ∃ w, nxt e (ends e).1 v = some ((ends e).2, w)
  snd : ∀ e v, (ends e).2 ≠ (ends e).1 → ∃ w, nxt e (ends e).2 v = some ((ends e).1, w)
  only : ∀ e k v c w, nxt e k v = some (c, w) → (k = (ends e).1 ∧ c = (ends e).2) ∨ (k = (ends e).2 ∧ c = (ends e).1)
inductive Tree {ε α : Type} (nxt : ε → Nat → α → Option (Nat × α)) (E : List ε) (b : Nat) (v0 : α) : List (Nat × α) → Prop
  | one : Tree nxt E b v0 [(b, v0)]
  | snoc {F : List (Nat × α)} {k c : Nat} {v w : α} {e : ε} (h : Tree nxt E b v0 F) (m : (k, v) ∈ F) (he : e ∈ E) (hn : nxt e k v = some (c, w)) (hc : c ∉ F.map (·.1)) : Tree nxt E b v0 (F ++ [(c, w)])
section
variable {ε α : Type} {ends : ε → Nat × Nat} {nxt : ε → Nat → α → Option (Nat × α)} {E : List ε} {b : Nat} {v0 : α} {F : List (Nat × α)} {P : Nat}
theorem Tree.nd (h : Tree nxt E b v0 F) : (F.map (·.1)).Nodup := by
  induction h with
  | one => simp
  | snoc h m he hn hc ih =>
    rw [List.map_append]
    refine List.nodup_append.mpr ⟨ih, by simp, fun x hx y hy e => ?_⟩
    simp at hy
    exact hc (by rw [← hy, ← e]; exact hx)
theorem Tree.hd (h : Tree nxt E b v0 F) : (b, v0) ∈ F := by
  induction h with
  | one => exact List.mem_singleton.mpr rfl
  | snoc h m he hn hc ih => exact List.mem_append_left _ ih
theorem Tree.conn (ok : NxOk ends nxt) (h : Tree nxt E b v0 F) : ∀ x, x ∈ F → Cn ends E b x.1 := by
  induction h with
  | one => intro x hx; rw [List.mem_singleton] at hx; subst hx; exact .refl _
  | snoc h m he hn hc ih =>
    intro x hx
    rcases List.mem_append.mp hx with hx | hx
    · exact ih x hx
    · rw [List.mem_singleton] at hx
      subst hx
      have := ih _ m
      rcases ok.only _ _ _ _ _ hn with ⟨h1, h2⟩ | ⟨h1, h2⟩
      · have t : Cn ends E b (ends _).1 := h1 ▸ this
        exact h2 ▸ t.fw he
      · have t : Cn ends E b (ends _).2 := h1 ▸ this
        exact h2 ▸ t.bw he
theorem Tree.lt (ok : NxOk ends nxt) (w : ∀ e, e ∈ E → (ends e).1 < P ∧ (ends e).2 < P) (hb : b < P) (h : Tree nxt E b v0 F) : ∀ x, x ∈ F → x.1 < P := fun x hx => (h.conn ok x hx).lt w hb
theorem Tree.len (ok : NxOk ends nxt) (w : ∀ e, e ∈ E → (ends e).1 < P ∧ (ends e).2 < P) (hb : b < P) (h : Tree nxt E b v0 F) : F.length ≤ P := by
  have := nd_lt_len h.nd (n := P) fun x hx => by
    obtain ⟨y, hy, rfl⟩ := List.mem_map.mp hx
    exact h.lt ok w hb y hy
  simpa using this
/-- a tree closed under its edges -/
structure Span (nxt : ε → Nat → α → Option (Nat × α)) (E : List ε) (b : Nat) (v0 : α) (F : List (Nat × α)) : Prop where
  tree : Tree nxt E b v0 F
  closed : ∀ x, x ∈ F → ∀ e, e ∈ E → ∀ c w, nxt e x.1 x.2 = some (c, w) → c ∈ F.map (·.1)
theorem Span.mem (ok : NxOk ends nxt) (ne : ∀ e, e ∈ E → (ends e).2 ≠ (ends e).1) (h : Span nxt E b v0 F) (c : Nat) : c ∈ F.map (·.1) ↔ Cn ends E b c := by
  refine ⟨fun hc => ?_, fun hc => ?_⟩
  · obtain ⟨x, hx, rfl⟩ := List.mem_map.mp hc
    exact h.tree.conn ok x hx
  · induction hc with
    | refl => exact List.mem_map.mpr ⟨_, h.tree.hd, rfl⟩
    | fw _ m ih =>
      obtain ⟨x, hx, e⟩ := List.mem_map.mp ih
      obtain ⟨w, hw⟩ := ok.fst _ x.2
      have e : x.1 = _ := e
      rw [← e] at hw
      exact h.closed x hx _ m _ _ hw
    | bw _ m ih =>
      obtain ⟨x, hx, e⟩ := List.mem_map.mp ih
      obtain ⟨w, hw⟩ := ok.snd _ x.2 (ne _ m)
      have e : x.1 = _ := e
      rw [← e] at hw
      exact h.closed x hx _ m _ _ hw
/-! the search -/
def sc1 (nxt : ε → Nat → α → Option (Nat × α)) (k : Nat) (v : α) (F : List (Nat × α)) (e : ε) : List (Nat × α) := match nxt e k v with
  | some (c, w) => if c ∈ F.map (·.1) then F else F ++ [(c, w)]
  | none => F
def scan (nxt : ε → Nat → α → Option (Nat × α)) (E : List ε) (k : Nat) (v : α) (F : List (Nat × α)) : List (Nat × α) := E.foldl (sc1 nxt k v) F
theorem sc1_pre (k : Nat) (v : α) (F : List (Nat × α)) (e : ε) : ∃ G, sc1 nxt k v F e = F ++ G := by
  unfold sc1
  split
  · split
    · exact ⟨[], by simp⟩
    · exact ⟨_, rfl⟩
  · exact ⟨[], by simp⟩
theorem fold_pre (k : Nat) (v : α) : ∀ (es : List ε) (F : List (Nat × α)), ∃ G, es.foldl (sc1 nxt k v) F = F ++ G
  | [], F => ⟨[], by simp⟩
  | e :: es, F => by
    obtain ⟨G, hG⟩ := sc1_pre (nxt := nxt) k v F e
    obtain ⟨G', hG'⟩ := fold_pre k v es (F ++ G)
    exact ⟨G ++ G', by rw [List.foldl_cons, hG, hG', List.append_assoc]⟩
theorem sc1_tree {k : Nat} {v : α} {e : ε} (h : Tree nxt E b v0 F) (m : (k, v) ∈ F) (he : e ∈ E) : Tree nxt E b v0 (sc1 nxt k v F e) ∧ ∀ c w, nxt e k v = some (c, w) → c ∈ (sc1 nxt k v F e).map (·.1) := by
  unfold sc1
  cases q : nxt e k v with
  | none => exact ⟨h, fun _ _ z => nomatch z⟩
  | some z =>
    obtain ⟨c, w⟩ := z
    by_cases hc : c ∈ F.map (·.1)
    · simp only [hc, if_true]
      refine ⟨h, fun c' w' z => ?_⟩
      cases z
      exact hc
    · simp only [hc, if_false]
      refine ⟨h.snoc m he q hc, fun c' w' z => ?_⟩
      cases z
      simp
theorem scan_tree {k : Nat} {v : α} : ∀ (es : List ε) {F : List (Nat × α)}, (∀ e, e ∈ es → e ∈ E) → Tree nxt E b v0 F → (k, v) ∈ F → Tree nxt E b v0 (es.foldl (sc1 nxt k v) F) ∧ ∀ e, e ∈ es → ∀ c w, nxt e k v = some (c, w) → c ∈ (es.foldl (sc1 nxt k v) F).map (·.1)
  | [], F, _, h, _ => ⟨h, fun _ z => nomatch z⟩
  | e :: es, F, s, h, m => by
    obtain ⟨h1, h2⟩ := sc1_tree h m (s e List.mem_cons_self)
    obtain ⟨G, hG⟩ := sc1_pre (nxt := nxt) k v F e
    have m' : (k, v) ∈ sc1 nxt k v F e := by rw [hG]; exact List.mem_append_left _ m
    obtain ⟨h3, h4⟩ := scan_tree es (fun x hx => s x (List.mem_cons_of_mem _ hx)) h1 m'
    refine ⟨h3, fun x hx c w hn => ?_⟩
    rcases List.mem_cons.mp hx with rfl | hx
    · obtain ⟨G', hG'⟩ := fold_pre (nxt := nxt) k v es (sc1 nxt k v F x)
      have := h2 c w hn
      rw [List.foldl_cons, hG', List.map_append]
      exact List.mem_append_left _ this
    · exact h4 x hx c w hn
/-- what the search has when so many are done -/
structure Bfs (nxt : ε → Nat → α → Option (Nat × α)) (E : List ε) (b : Nat) (v0 : α) (F : List (Nat × α)) (at_ : Nat) : Prop where
  tree : Tree nxt E b v0 F
  le : at_ ≤ F.length
  done : ∀ i x, i < at_ → F[i]? = some x → ∀ e, e ∈ E → ∀ c w, nxt e x.1 x.2 = some (c, w) → c ∈ F.map (·.1)
theorem Bfs.start : Bfs nxt E b v0 [(b, v0)] 0 := ⟨.one, Nat.zero_le _, fun i _ h => absurd h (Nat.not_lt_zero _)⟩
theorem Bfs.step {i : Nat} {x : Nat × α} (h : Bfs nxt E b v0 F i) (hx : F[i]? = some x) : Bfs nxt E b v0 (scan nxt E x.1 x.2 F) (i + 1) := by
  obtain ⟨G, hG⟩ := fold_pre (nxt := nxt) x.1 x.2 E F
  have m : (x.1, x.2) ∈ F := List.mem_of_getElem? hx
  obtain ⟨h1, h2⟩ := scan_tree E (fun _ z => z) h.tree m
  have hl := (List.getElem?_eq_some_iff.mp hx).1
  refine ⟨h1, by unfold scan; rw [hG, List.length_append]; omega, fun j y hj hy e he c w hn => ?_⟩
  have hj' : F[j]? = some y := by
    unfold scan at hy
    rw [hG, List.getElem?_append_left (by omega)] at hy
    exact hy
  by_cases e1 : j = i
  · subst e1
    rw [hx] at hj'
    cases hj'
    exact h2 e he c w hn
  · have := h.done j y (by omega) hj' e he c w hn
    unfold scan
    rw [hG, List.map_append]
    exact List.mem_append_left _ this
theorem Bfs.end_ (h : Bfs nxt E b v0 F F.length) : Span nxt E b v0 F := ⟨h.tree, fun x hx e he c w hn => by
  obtain ⟨i, hi⟩ := List.mem_iff_getElem?.mp hx
  exact h.done i x (List.getElem?_eq_some_iff.mp hi).1 hi e he c w hn⟩
/-! all of them -/
structure Lots (nxt : ε → Nat → α → Option (Nat × α)) (E : List ε) (v0 : α) (k : Nat) (R : List Nat) (L : List (List (Nat × α))) : Prop where
  len : L.length = R.length
  span : ∀ (i b : Nat) (F : List (Nat × α)), R[i]? = some b → L[i]? = some F → Span nxt E b v0 F
  lt : ∀ b, b ∈ R → b < k
  cov : ∀ p, p < k → ∃ F, F ∈ L ∧ p ∈ F.map (·.1)
  new : ∀ (i j : Nat) (F : List (Nat × α)) (b : Nat), i < j → L[i]? = some F → R[j]? = some b → b ∉ F.map (·.1)
theorem Lots.nil : Lots nxt E v0 0 [] ([] : List (List (Nat × α))) := ⟨rfl, (fun i b F h => nomatch h), (fun b h => nomatch h), (fun p h => absurd h (Nat.not_lt_zero _)), (fun i j F b _ h => nomatch h)⟩
theorem Lots.old {k : Nat} {R : List Nat} {L : List (List (Nat × α))} (h : Lots nxt E v0 k R L) (hk : ∃ F, F ∈ L ∧ k ∈ F.map (·.1)) : Lots nxt E v0 (k + 1) R L :=
  ⟨h.len, h.span, fun b hb => Nat.lt_succ_of_lt (h.lt b hb), fun p hp => by
    by_cases e : p = k
    · subst e; exact hk
    · exact h.cov p (by omega), h.new⟩
theorem Lots.add {k : Nat} {R : List Nat} {L : List (List (Nat × α))} {F : List (Nat × α)} (h : Lots nxt E v0 k R L) (hk : ∀ F, F ∈ L → k ∉ F.map (·.1)) (s : Span nxt E k v0 F) : Lots nxt E v0 (k + 1) (R ++ [k]) (L ++ [F]) := by
  refine ⟨by simp [h.len], fun i b G h1 h2 => ?_, fun b hb => ?_, fun p hp => ?_, fun i j G b hij h1 h2 => ?_⟩
  · by_cases hi : i < R.length
    · rw [List.getElem?_append_left hi] at h1
      rw [List.getElem?_append_left (by rw [h.len]; exact hi)] at h2
      exact h.span i b G h1 h2
    · rw [List.getElem?_append_right (by omega)] at h1
      rw [List.getElem?_append_right (by rw [h.len]; omega), h.len] at h2
      by_cases e : i - R.length = 0
      · rw [e] at h1 h2
        cases h1; cases h2
        exact s
      · rw [List.getElem?_eq_none (by simp; omega)] at h1; cases h1
  · rcases List.mem_append.mp hb with hb | hb
    · exact Nat.lt_succ_of_lt (h.lt b hb)
    · rw [List.mem_singleton] at hb; omega
  · by_cases e : p = k
    · subst e; exact ⟨F, List.mem_append_right _ (List.mem_singleton.mpr rfl), List.mem_map.mpr ⟨_, s.tree.hd, rfl⟩⟩
    · obtain ⟨G, hG, hp'⟩ := h.cov p (by omega)
      exact ⟨G, List.mem_append_left _ hG, hp'⟩
  · by_cases hj : j < R.length
    · rw [List.getElem?_append_left hj] at h2
      rw [List.getElem?_append_left (by rw [h.len]; omega)] at h1
      exact h.new i j G b hij h1 h2
    · rw [List.getElem?_append_right (by omega)] at h2
      have ej : j = R.length := by
        have := (List.getElem?_eq_some_iff.mp h2).1
        simp at this
        omega
      subst ej
      rw [Nat.sub_self] at h2
      cases h2
      rw [List.getElem?_append_left (by rw [h.len]; exact hij)] at h1
      exact hk G (List.mem_of_getElem? h1)
section
variable {k : Nat} {R : List Nat} {L : List (List (Nat × α))}
theorem Lots.rep (h : Lots nxt E v0 k R L) {F : List (Nat × α)} (hF : F ∈ L) : ∃ b, b ∈ R ∧ Span nxt E b v0 F := by
  obtain ⟨i, hi⟩ := List.mem_iff_getElem?.mp hF
  have hl := (List.getElem?_eq_some_iff.mp hi).1
  have hr : i < R.length := by rw [← h.len]; exact hl
  exact ⟨R[i], List.getElem_mem hr, h.span i _ F (List.getElem?_eq_getElem hr) hi⟩
theorem Lots.covR (ok : NxOk ends nxt) (h : Lots nxt E v0 k R L) {p : Nat} (hp : p < k) : ∃ b, b ∈ R ∧ Cn ends E b p := by
  obtain ⟨F, hF, hm⟩ := h.cov p hp
  obtain ⟨b, hb, s⟩ := h.rep hF
  obtain ⟨x, hx, rfl⟩ := List.mem_map.mp hm
  exact ⟨b, hb, s.tree.conn ok x hx⟩
theorem Lots.apart (ok : NxOk ends nxt) (ne : ∀ e, e ∈ E → (ends e).2 ≠ (ends e).1) (h : Lots nxt E v0 k R L) : R.Pairwise fun a b => ¬ Cn ends E a b := by
  refine List.pairwise_iff_getElem.mpr fun i j hi hj hij z => ?_
  have hl : i < L.length := by rw [h.len]; exact hi
  have s := h.span i _ _ (List.getElem?_eq_getElem hi) (List.getElem?_eq_getElem hl)
  exact h.new i j _ _ hij (List.getElem?_eq_getElem hl) (List.getElem?_eq_getElem hj) ((s.mem ok ne _).mpr z)
/-- as many lots where what hangs together is the same, pieces renamed -/
theorem Lots.le (ok : NxOk ends nxt) (ne : ∀ e, e ∈ E → (ends e).2 ≠ (ends e).1) (h : Lots nxt E v0 k R L) {ε' β : Type} {ends' : ε' → Nat × Nat} {nxt' : ε' → Nat → β → Option (Nat × β)} {E' : List ε'} {v1 : β} {k' : Nat} {R' : List Nat} {L' : List (List (Nat × β))} (ok' : NxOk ends' nxt') (h' : Lots nxt' E' v1 k' R' L')
    (f : Nat → Nat) (hf : ∀ p, p < k → f p < k') (w : ∀ a b, a < k → b < k → Cn ends' E' (f a) (f b) → Cn ends E a b) : L.length ≤ L'.length := by
  rw [h.len, h'.len]
  refine cover_le (fun a c => a < k ∧ Cn ends' E' c (f a)) ((h.apart ok ne).imp fun hab c h1 h2 => hab (w _ _ h1.1 h2.1 (h1.2.symm.trans h2.2))) fun a ha => ?_
  have lt := h.lt a ha
  obtain ⟨c, hc, hcn⟩ := h'.covR ok' (hf a lt)
  exact ⟨c, hc, lt, hcn⟩
/-- the lots part the pieces -/
theorem Lots.disj (ok : NxOk ends nxt) (ne : ∀ e, e ∈ E → (ends e).2 ≠ (ends e).1) (h : Lots nxt E v0 k R L) : L.Pairwise fun F G => ∀ p, p ∈ F.map (·.1) → p ∈ G.map (·.1) → False := by
  refine List.pairwise_iff_getElem.mpr fun i j hi hj hij p hp hq => ?_
  have ri : i < R.length := by rw [← h.len]; exact hi
  have rj : j < R.length := by rw [← h.len]; exact hj
  have s := h.span i _ _ (List.getElem?_eq_getElem ri) (List.getElem?_eq_getElem hi)
  have t := h.span j _ _ (List.getElem?_eq_getElem rj) (List.getElem?_eq_getElem hj)
  exact h.new i j _ _ hij (List.getElem?_eq_getElem hi) (List.getElem?_eq_getElem rj) ((s.mem ok ne _).mpr (((s.mem ok ne _).mp hp).trans ((t.mem ok ne _).mp hq).symm))
theorem Lots.perm (ok : NxOk ends nxt) (ne : ∀ e, e ∈ E → (ends e).2 ≠ (ends e).1) (w : ∀ e, e ∈ E → (ends e).1 < k ∧ (ends e).2 < k) (h : Lots nxt E v0 k R L) : (L.flatMap fun F => F.map (·.1)).Perm (List.range k) := by
  refine perm_of_nd ?_ List.nodup_range fun p => ?_
  · have d := h.disj ok ne
    have nd : ∀ F, F ∈ L → (F.map (·.1)).Nodup := fun F hF => let ⟨_, _, s⟩ := h.rep hF; s.tree.nd
    clear h
    induction L with
    | nil => simp
    | cons F L ih =>
      obtain ⟨d1, d2⟩ := List.pairwise_cons.mp d
      rw [List.flatMap_cons]
      refine List.nodup_append.mpr ⟨nd F List.mem_cons_self, ih d2 fun G hG => nd G (List.mem_cons_of_mem _ hG), fun x hx y hy e => ?_⟩
      subst e
      obtain ⟨G, hG, hy'⟩ := List.mem_flatMap.mp hy
      exact d1 G hG x hx hy'
  · rw [List.mem_flatMap, List.mem_range]
    refine ⟨fun ⟨F, hF, hp⟩ => ?_, fun hp => h.cov p hp⟩
    obtain ⟨b, hb, s⟩ := h.rep hF
    obtain ⟨x, hx, rfl⟩ := List.mem_map.mp hp
    exact s.tree.lt ok w (h.lt b hb) x hx
end
end
end DL
set_option Elab.async false
set_option linter.all false
/-! Dicts with numbers for keys, by an encoder of their values. -/
namespace DL
open PySem
def nD {α : Type} (fz : Bool) (e : α → Da) (F : List (Nat × α)) : Da := dD fz false (F.map fun x => (di x.1, e x.2))
section
variable {α : Type} {e : α → Da} {F : List (Nat × α)} {fz : Bool}
theorem key1_di (k : Nat) : key1 (di k) = some (.inl (k : Int)) := rfl
theorem kq_di (a b : Nat) : kq false (di a) (di b) = decide (a = b) := by
  show decide (key1 (di a) = key1 (di b)) = _
  rw [key1_di, key1_di]
  refine decide_eq_decide.mpr ⟨fun h => ?_, fun h => by rw [h]⟩
  injection h with h
  injection h with h
  omega
@[simp] theorem isKR_di (k : Nat) : isKR false (di k) = .ok () := rfl
theorem kget_di (k : Nat) : kget false (di k) (F.map fun x => (di x.1, e x.2)) = (F.find? fun x => decide (x.1 = k)).map fun x => e x.2 := by
  unfold kget
  rw [List.find?_map, Option.map_map]
  have : ((fun z : Da × Da => kq false z.1 (di k)) ∘ fun x : Nat × α => (di x.1, e x.2)) = fun x => decide (x.1 = k) := by
    funext x
    exact kq_di x.1 k
  rw [this]
  rfl
theorem find_mem {k : Nat} {v : α} (nd : (F.map (·.1)).Nodup) (h : (k, v) ∈ F) : F.find? (fun x => decide (x.1 = k)) = some (k, v) := by
  induction F with
  | nil => exact nomatch h
  | cons x F ih =>
    rw [List.map_cons] at nd
    obtain ⟨h1, h2⟩ := List.nodup_cons.mp nd
    rw [List.find?_cons]
    rcases List.mem_cons.mp h with e | h
    · rw [← e]; simp
    · have : x.1 ≠ k := fun e => h1 (by rw [e]; exact List.mem_map.mpr ⟨_, h, rfl⟩)
      rw [decide_eq_false this]
      exact ih h2 h
theorem find_some (k : Nat) : (F.find? fun x => decide (x.1 = k)).isSome = decide (k ∈ F.map (·.1)) := by
  induction F with
  | nil => rfl
  | cons x F ih =>
    rw [List.find?_cons, List.map_cons]
    by_cases h : x.1 = k
    · rw [decide_eq_true h, ← h]; simp
    · have : ¬ k = x.1 := fun z => h z.symm
      rw [decide_eq_false h]
      simp only [ih, List.mem_cons, this, false_or]
theorem dDGet_n {k : Nat} {v : α} (nd : (F.map (·.1)).Nodup) (h : (k, v) ∈ F) : dDGet false (nD fz e F) (di k) = .ok (e v) := by
  unfold dDGet nD
  rw [asDT_dD, R.bind_ok, isKR_di, R.bind_ok, kget_di, find_mem nd h]
  rfl
theorem dDIn_n (k : Nat) : dDIn false (di k) (nD fz e F) = .ok (.bool (decide (k ∈ F.map (·.1)))) := by
  unfold dDIn nD
  rw [asDT_dD, R.bind_ok, isKR_di, R.bind_ok, kget_di, Option.isSome_map, find_some]
theorem dDNotIn_n (k : Nat) : dDNotIn false (di k) (nD fz e F) = .ok (.bool (!decide (k ∈ F.map (·.1)))) := by
  unfold dDNotIn nD
  rw [asDT_dD, R.bind_ok, isKR_di, R.bind_ok, kget_di, Option.isSome_map, find_some]
theorem putD_n {k : Nat} {v : α} (hk : k ∉ F.map (·.1)) (hl : F.length < big) : putD false (di k) (e v) (nD false e F) = .ok (nD false e (F ++ [(k, v)])) := by
  unfold putD nD
  rw [asDT_dD, R.bind_ok]
  rw [if_pos ⟨rfl, by rw [List.length_map]; exact hl⟩, isKR_di, R.bind_ok]
  unfold kput
  have : ((F.map fun x => (di x.1, e x.2)).any fun z => kq false z.1 (di k)) = false := by
    rw [List.any_map]
    refine List.any_eq_false.mpr fun x hx z => ?_
    have z : kq false (di x.1) (di k) = true := z
    rw [kq_di] at z
    exact hk (List.mem_map.mpr ⟨x, hx, of_decide_eq_true z⟩)
  rw [this, if_neg Bool.false_ne_true, List.map_append]
  rfl
theorem keysF_n : keysF false (nD true e F) = .ok (nl (F.map (·.1))) := by
  unfold keysF nD
  rw [asDT_dD, R.bind_ok, if_pos rfl, List.map_map]
  unfold nl
  rw [List.map_map]
  rfl
theorem dDLen_n : dDLen false [nD fz e F] = .ok (di F.length) := by
  show (asDT false (dD fz false (F.map fun x => (di x.1, e x.2)))).bind (fun z => R.ok (PyData.int z.2.2.length)) = _
  rw [asDT_dD, R.bind_ok, List.length_map]
  rfl
theorem frzD_n : frzD (nD false e F) = .ok (nD true e F) := rfl
theorem asM_n : asM (nD false e F) = .ok (nD false e F) := rfl
end
end DL
set_option Elab.async false
set_option linter.all false
set_option maxRecDepth 10000
namespace K83
open PySem DL
/-! the defs that all laws share -/
theorem is_integer (i : Int) : f_is_integer [.int i] = .ok (.bool true) := by
  simp [f_is_integer, runDef, b_is_integer]
theorem is_between (i a b : Int) : f_is_between [.int i, .int a, .int b] = .ok (.bool (decide (a ≤ i) && decide (i ≤ b))) := by
  simp [f_is_between, runDef, b_is_between, is_integer]
  by_cases h : a ≤ i <;> simp [h]
theorem law_at' (ns : List Int) (k : Nat) : ∃ c : Int, f__law_at [.list (ns.map PyData.int), di k] = .ok (.int c) := by
  by_cases h : k < ns.length
  · have h1 : (k : Int) < (ns.length : Int) := by omega
    have e : dIx (.list (ns.map PyData.int)) (di k) = .ok (.int ns[k]) := by
      rw [dIx_list_nat, List.getElem?_map, List.getElem?_eq_getElem h]
      rfl
    have e2 : dLt (di k) (.int ns.length) = .ok (.bool true) := by simp [di, h]
    exact ⟨ns[k], by simp [f__law_at, runDef_, b__law_at, e, e2, dLen_list]⟩
  · have e2 : dLt (di k) (.int ns.length) = .ok (.bool false) := by simp [di]; omega
    have e3 : mulI (.int 3) (di k) = .ok (.int (3 * k)) := mulI_sl 3 k (by decide) (by decide)
    exact ⟨5 + 3 * k, by simp [f__law_at, runDef_, b__law_at, e2, e3, dLen_list]⟩
theorem law_at (ns : List Int) (k : Nat) : ∃ c : Int, f__law_at [.list (il ns), di k] = .ok (.int c) := law_at' ns k
theorem law_mixed (c : Int) (k : Nat) : ∃ v : Int, f__law_mixed [.int c, di k] = .ok (.int v) := by
  have m1 : mulI (.int c) (.int 48271) = .ok (.int (c * 48271)) := mulI_sr _ _ (by decide) (by decide)
  have m2 : mulI (di k) (.int 69621) = .ok (.int (k * 69621)) := mulI_sr _ _ (by decide) (by decide)
  have m3 : mulI (.int (c * 48271 + k * 69621 + 11)) (.int 16807) = .ok (.int ((c * 48271 + k * 69621 + 11) * 16807)) := mulI_sr _ _ (by decide) (by decide)
  have d1 := dDiv_pos (c * 48271 + k * 69621 + 11) 8191 (by decide) (by decide)
  have d2 := dMod_pos ((c * 48271 + k * 69621 + 11) * 16807 + (c * 48271 + k * 69621 + 11) / 8191) 2147483647 (by decide)
  refine ⟨((c * 48271 + k * 69621 + 11) * 16807 + (c * 48271 + k * 69621 + 11) / 8191) % 2147483647, ?_⟩
  simp [f__law_mixed, runDef_, b__law_mixed, m1, m2]
  simp [m3, d1]
  rw [d2]
  simp
/-- a script's number gives so many digits below top -/
theorem law_row' (c : Int) (many top : Nat) (hm : many ≤ big) (h0 : 0 < top) (h1 : top < 1073741824) : ∃ ds : List Nat, ds.length = many ∧ (∀ d, d ∈ ds → d < top) ∧ f__law_row [.int c, di many, di top] = .ok (.list (ds.map di)) := by
  let great : Bool := decide ((1000000000000000000 : Int) ≤ c)
  have t0 : (0 : Int) < top := by omega
  have t1 : (top : Int) < 1073741824 := by omega
  have dig : ∀ z : Int, ∃ d : Nat, d < top ∧ z % (top : Int) = d := fun z => by
    have a := Int.emod_nonneg z (show (top : Int) ≠ 0 by omega)
    have b := Int.emod_lt_of_pos z t0
    exact ⟨(z % (top : Int)).toNat, by omega, by omega⟩
  have key := forL_inv (g := gVar 6) (body := l__law_row_0) di (fun s : List Nat × Int => [some (.int c), some (di many), some (di top), some (.list (s.1.map di)), some (.int s.2), some (.bool great), none])
    (fun don s => s.1.length = don.length ∧ ∀ d, d ∈ s.1 → d < top) (List.range many) [] ([], c) ⟨rfl, fun _ h => nomatch h⟩ ?_
  · obtain ⟨s, ⟨e1, e2⟩, k⟩ := key
    refine ⟨s.1, by simpa using e1, e2, ?_⟩
    have g1 : dGe (.int c) (.int 1000000000000000000) = .ok (.bool great) := rfl
    have r := dRng_0 many hm
    simp [f__law_row, runDef_, b__law_row, g1]
    rw [r]
    simp
    simp at k
    rw [k]
    simp
  · rintro don x ⟨ds, left⟩ ⟨rest, er⟩ ⟨e1, e2⟩
    have lx : don.length < many := by
      have := congrArg List.length er
      simp at this
      omega
    have la : ds.length < big := by
      have : ds.length = don.length := e1
      omega
    cases hg : great with
    | true =>
      obtain ⟨d, hd, ed⟩ := dig left
      have q1 : dMod (.int left) (di top) = .ok (di d) := (dMod_pos left top t0).trans (by rw [ed]; rfl)
      have q2 : dDiv (.int left) (di top) = .ok (.int (left / top)) := dDiv_pos left top t0 t1
      refine ⟨(ds ++ [d], left / top), ⟨by simp; exact e1, fun y hy => ?_⟩, ?_⟩
      · rcases List.mem_append.mp hy with hy | hy
        · exact e2 y hy
        · rw [List.mem_singleton] at hy; subst hy; exact hd
      · simp [l__law_row_0, q1, q2, updE, la]
    | false =>
      obtain ⟨v, hv⟩ := law_mixed c x
      obtain ⟨d, hd, ed⟩ := dig (v / 7)
      have q1 : dDiv (.int v) (.int 7) = .ok (.int (v / 7)) := dDiv_pos v 7 (by decide) (by decide)
      have q2 : dMod (.int (v / 7)) (di top) = .ok (di d) := (dMod_pos (v / 7) top t0).trans (by rw [ed]; rfl)
      refine ⟨(ds ++ [d], left), ⟨by simp; exact e1, fun y hy => ?_⟩, ?_⟩
      · rcases List.mem_append.mp hy with hy | hy
        · exact e2 y hy
        · rw [List.mem_singleton] at hy; subst hy; exact hd
      · simp [l__law_row_0, hv, q1, q2, updE, la]
theorem law_row (c : Int) (many top : Nat) (hm : many ≤ big) (h0 : 0 < top) (h1 : top < 1073741824) : ∃ ds : List Nat, ds.length = many ∧ (∀ d, d ∈ ds → d < top) ∧ f__law_row [.int c, di many, di top] = .ok (.list (nl ds)) := law_row' c many top hm h0 h1
/-! sizes: plain -/
def fit (s b e : Nat) : Bool := decide ((s - b) + (b - s) ≤ e)
theorem fit_iff {s b e : Nat} : fit s b e = true ↔ s ≤ b + e ∧ b ≤ s + e := by unfold fit; rw [decide_eq_true_iff]; omega
/-- the bodies chosen among the first so many: (number, body) -/
def pks (e : Nat) (B : List Nat) : Nat → List (Nat × Nat)
  | 0 => []
  | n + 1 => if (pks e B n).any (fun p => fit (p.2 + e) (B.getD n 0) e) then pks e B n else pks e B n ++ [(n, B.getD n 0)]
theorem pks_at (e : Nat) (B : List Nat) : ∀ n p, p ∈ pks e B n → p.1 < n ∧ p.2 = B.getD p.1 0
  | 0, p, h => nomatch h
  | n + 1, p, h => by
    unfold pks at h
    split at h
    · have := pks_at e B n p h; omega
    · rcases List.mem_append.mp h with h | h
      · have := pks_at e B n p h; omega
      · rw [List.mem_singleton] at h; subst h; exact ⟨by show n < n + 1; omega, rfl⟩
theorem pks_apart (e : Nat) {B : List Nat} (hB : B.Pairwise (· ≤ ·)) : ∀ n, n ≤ B.length → (pks e B n).Pairwise fun p q => p.1 < q.1 ∧ p.2 + 2 * e < q.2
  | 0, _ => List.Pairwise.nil
  | n + 1, hn => by
    unfold pks
    have ih := pks_apart e hB n (by omega)
    split
    · exact ih
    · rename_i hq
      refine List.pairwise_append.mpr ⟨ih, List.pairwise_singleton _ _, fun p hp q hq' => ?_⟩
      rw [List.mem_singleton] at hq'
      subst hq'
      obtain ⟨h1, h2⟩ := pks_at e B n p hp
      refine ⟨h1, ?_⟩
      have nf : ¬ fit (p.2 + e) (B.getD n 0) e = true := fun z => hq (List.any_eq_true.mpr ⟨p, hp, z⟩)
      rw [fit_iff] at nf
      have le : B.getD p.1 0 ≤ B.getD n 0 := by
        have := List.pairwise_iff_getElem.mp hB p.1 n (by omega) (by omega) h1
        have g1 : p.1 < B.length := by omega
        have g2 : n < B.length := by omega
        simpa [g1, g2] using this
      show p.2 + 2 * e < B.getD n 0
      omega
theorem pks_fit (e : Nat) (B : List Nat) : ∀ n k, k < n → ∃ p, p ∈ pks e B n ∧ fit (p.2 + e) (B.getD k 0) e = true
  | 0, k, h => absurd h (Nat.not_lt_zero _)
  | n + 1, k, h => by
    unfold pks
    split
    · rename_i hq
      by_cases hk : k = n
      · subst hk
        obtain ⟨p, hp, hf⟩ := List.any_eq_true.mp hq
        exact ⟨p, hp, hf⟩
      · exact pks_fit e B n k (by omega)
    · by_cases hk : k = n
      · subst hk
        exact ⟨_, List.mem_append_right _ (List.mem_singleton.mpr rfl), fit_iff.mpr ⟨Nat.le_refl _, by show B.getD k 0 ≤ B.getD k 0 + e + e; omega⟩⟩
      · obtain ⟨p, hp, hf⟩ := pks_fit e B n k (by omega)
        exact ⟨p, List.mem_append_left _ hp, hf⟩
theorem pks_len (e : Nat) (B : List Nat) : ∀ n, (pks e B n).length ≤ n
  | 0 => Nat.le_refl _
  | n + 1 => by
    have := pks_len e B n
    unfold pks
    split
    · omega
    · simp; omega
def cnt (e : Nat) (B : List Nat) : Nat := (pks e B B.length).length
def szs (e : Nat) (B : List Nat) : List Nat := (pks e B B.length).map fun p => p.2 + e
def aps (e : Nat) (B : List Nat) : List Nat := (pks e B B.length).map fun p => p.1
theorem szs_len (e : Nat) (B : List Nat) : (szs e B).length = cnt e B := by simp [szs, cnt]
theorem aps_len (e : Nat) (B : List Nat) : (aps e B).length = cnt e B := by simp [aps, cnt]
/-- so many apart need as many sizes -/
theorem apart_le {e : Nat} : ∀ (X L : List Nat), X.Pairwise (fun x y => x + 2 * e < y) → (∀ x, x ∈ X → ∃ s, s ∈ L ∧ fit s x e = true) → X.length ≤ L.length
  | [], L, _, _ => Nat.zero_le _
  | x :: X, L, h, w => by
    obtain ⟨s, hs, hf⟩ := w x List.mem_cons_self
    obtain ⟨h1, h2⟩ := List.pairwise_cons.mp h
    have := apart_le X (L.erase s) h2 fun y hy => by
      obtain ⟨t, ht, hg⟩ := w y (List.mem_cons_of_mem _ hy)
      have := h1 y hy
      rw [fit_iff] at hf hg
      refine ⟨t, (List.mem_erase_of_ne ?_).mpr ht, fit_iff.mpr hg⟩
      omega
    have l := List.length_erase_of_mem hs
    have l0 : 0 < L.length := List.length_pos_of_mem hs
    rw [List.length_cons]
    omega
theorem cnt_le {e : Nat} {B L : List Nat} (hB : B.Pairwise (· ≤ ·)) (w : ∀ k, k < B.length → ∃ s, s ∈ L ∧ fit s (B.getD k 0) e = true) : cnt e B ≤ L.length := by
  have h := pks_apart e hB B.length (Nat.le_refl _)
  have := apart_le ((pks e B B.length).map (·.2)) L (List.pairwise_map.mpr (h.imp fun h => h.2)) fun x hx => by
    obtain ⟨p, hp, rfl⟩ := List.mem_map.mp hx
    obtain ⟨h1, h2⟩ := pks_at e B _ p hp
    rw [h2]
    exact w _ h1
  simpa [cnt] using this
theorem szs_fit (e : Nat) (B : List Nat) (k : Nat) (hk : k < B.length) : ∃ s, s ∈ szs e B ∧ fit s (B.getD k 0) e = true := by
  obtain ⟨p, hp, hf⟩ := pks_fit e B B.length k hk
  exact ⟨_, List.mem_map.mpr ⟨p, hp, rfl⟩, hf⟩
/-! bodies -/
structure Bo (l : List Nat) (b : Nat) : Prop where
  len : l.length ≤ b
  bd : ∀ x, x ∈ l → x ≤ 200
  srt : l.Pairwise (· ≤ ·)
theorem btwN (n a b : Nat) : f_is_between [di n, di a, di b] = .ok (.bool (decide (a ≤ n) && decide (n ≤ b))) := by
  have q := is_between n a b
  have e1 : decide ((a : Int) ≤ n) = decide (a ≤ n) := decide_eq_decide.mpr (by omega)
  have e2 : decide ((n : Int) ≤ b) = decide (n ≤ b) := decide_eq_decide.mpr (by omega)
  rw [e1, e2] at q
  exact q
theorem isT_nl (l : List Nat) : isTy .tuple (.tuple (nl l)) = true := rfl
theorem are_bodies {l : List Nat} (h : Bo l 12) : f_are_bodies [.tuple (nl l)] = .ok (.bool true) := by
  have hl := h.len
  have h1 : ¬ 12 < l.length := by omega
  simp [f_are_bodies, runDef_, b_are_bodies, int_lit, dl, dn, h1, eLc]
  rw [lc_nlB (fun _ => true) l fun x hx => by
    have := h.bd x hx
    simp [lcF, int_lit, btwN, this]]
  have rg := rng_nl2 1 l.length (by decide) (by unfold big; omega)
  have i1 : ((1 : Nat) : Int) = 1 := rfl
  rw [i1] at rg
  have al : (List.map (fun _ : Nat => true) l).all id = true := by simp
  simp [al, rg, eLc, dl, int_lit]
  rw [lc_nlB (fun _ => true) _ fun k hk => by
    have hk' := List.mem_range'_1.mp hk
    have lt := List.pairwise_iff_getElem.mp h.srt (k - 1) k (by omega) (by omega) (by omega)
    have g1 : k - 1 < l.length := by omega
    have g2 : k < l.length := by omega
    have d1 : dSub (di k) (di 1) = .ok (di (k - 1)) := dSub_nat k 1 (by omega)
    simp [lcF, int_lit, d1, dl, dn, g1, g2, lt]]
  simp
theorem need_bodies {l : List Nat} (h : Bo l 12) {e : Nat} (he : e ≤ 50) : f_need_bodies [.tuple (nl l), di e] = .ok .none := by
  simp [f_need_bodies, runDef_, b_need_bodies, int_lit, are_bodies h, btwN, he]
theorem fits (s b e : Nat) : f_fits [di s, di b, di e] = .ok (.bool (fit s b e)) := by
  have d1 := dSub_cast s b
  have d2 := dAbs_sub s b
  simp [f_fits, runDef_, b_fits, d1, d2, dn, fit]
theorem enum_nl (H : List Nat) : enumD 0 (nl H) = (List.range H.length).map fun i => .tuple [di i, di (H.getD i 0)] := by
  have := enumD_map' di 0 H 0
  rw [show nl H = H.map di from rfl, this]
  refine List.map_congr_left fun i _ => ?_
  rw [Nat.zero_add]
theorem range_split {n : Nat} {don rest : List Nat} {x : Nat} (h : List.range n = don ++ x :: rest) : x = don.length ∧ don.length < n := by
  have hl := congrArg List.length h
  simp at hl
  have hx := congrArg (fun l => l[don.length]?) h
  simp at hx
  have lt : don.length < n := by omega
  rw [List.getElem?_range lt] at hx
  simp at hx
  omega
theorem cover_of {B : List Nat} (hB : B.length ≤ 12) (e : Nat) : f_cover_of [.tuple (nl B), di e] = .ok (.tuple [.tuple (nl (szs e B)), .tuple (nl (aps e B))]) := by
  have en := enum_nl B
  obtain ⟨C, hC, lp⟩ := forL_inv (g := gTupD [(gVar 4), (gVar 5)]) (body := l_cover_of_0) (fun i : Nat => PyData.tuple [di i, di (B.getD i 0)])
    (fun C : List (Nat × Nat) => [some (.tuple (nl B)), some (di e), some (.list (nl (C.map fun p => p.2 + e))), some (.list (nl (C.map fun p => p.1))), none, none, none])
    (fun don C => C = pks e B don.length) (List.range B.length) [] [] rfl (by
      rintro don x C ⟨rest, er⟩ rfl
      obtain ⟨hx, hlt⟩ := range_split er
      rw [hx]
      have lb : (pks e B don.length).length < big := by
        have := pks_len e B don.length
        unfold big; omega
      refine ⟨_, by rw [List.length_append], ?_⟩
      have lc : lcL (lcF (gVar 6) [6] eYes (eA f_fits (aCons (eVar 6) (aCons (eVar 5) (aCons (eVar 1) aNil)))) [some (.tuple (nl B)), some (di e), some (.list (nl ((pks e B don.length).map fun p => p.2 + e))), some (.list (nl ((pks e B don.length).map fun p => p.1))), some (di don.length), some (di (B.getD don.length 0)), none]) (nl ((pks e B don.length).map fun p => p.2 + e)) = .ok (bl (((pks e B don.length).map fun p => p.2 + e).map fun s => fit s (B.getD don.length 0) e)) :=
        lc_nlB _ _ fun s _ => by simp [lcF, fits]
      have an : (pks e B don.length).any ((fun s => fit s (B.getD don.length 0) e) ∘ fun p => p.2 + e) = (pks e B don.length).any (fun p => fit (p.2 + e) (B.getD don.length 0) e) := rfl
      cases q : (pks e B don.length).any (fun p => fit (p.2 + e) (B.getD don.length 0) e) with
      | true =>
        rw [q] at an
        have p1 : pks e B (don.length + 1) = pks e B don.length := by
          show (if _ then _ else _) = _
          rw [q, if_pos rfl]
        simp only [List.length_singleton, p1]
        generalize pks e B don.length = C at *
        simp [l_cover_of_0, eLc, lc, an, -List.getD_eq_getElem?_getD]
      | false =>
        rw [q] at an
        have p1 : pks e B (don.length + 1) = pks e B don.length ++ [(don.length, B.getD don.length 0)] := by
          show (if _ then _ else _) = _
          rw [q]; rfl
        simp only [List.length_singleton, p1]
        generalize pks e B don.length = C at *
        simp [l_cover_of_0, eLc, lc, an, updE, lb, dn, -List.getD_eq_getElem?_getD])
  have hC' : C = pks e B B.length := by rw [hC]; simp
  subst hC'
  simp at lp
  simp [f_cover_of, runDef_, b_cover_of, en, lp, szs, aps]
theorem size_fewest {B : List Nat} (h : Bo B 12) {e : Nat} (he : e ≤ 50) : f_size_fewest [.tuple (nl B), di e] = .ok (di (cnt e B)) := by
  have c := cover_of h.len e
  have ix : dIx (.tuple [.tuple (nl (szs e B)), .tuple (nl (aps e B))]) (di 0) = .ok (.tuple (nl (szs e B))) := rfl
  simp [f_size_fewest, runDef_, b_size_fewest, need_bodies h he, c, int_lit, ix, dl, szs_len]
/-! offers: plain -/
abbrev Of := Nat × Nat
def ofD (o : Of) : Da := .tuple [di o.1, di o.2]
structure Os (O : List Of) : Prop where
  len : O.length ≤ 10
  bd : ∀ o, o ∈ O → o.1 ≤ 250 ∧ 1 ≤ o.2 ∧ o.2 ≤ 100
  srt : O.Pairwise fun a b => a.1 < b.1
def oq (O : List Of) (k : Nat) : Of := O.getD k (0, 0)
theorem oq_at {O : List Of} {k : Nat} (h : k < O.length) : oq O k = O[k] := by simp [oq, h]
theorem oq_mem {O : List Of} {k : Nat} (h : k < O.length) : oq O k ∈ O := by rw [oq_at h]; exact List.getElem_mem h
/-- offer o fits body j -/
def ft (B : List Nat) (e : Nat) (o : Of) (j : Nat) : Bool := fit o.1 (B.getD j 0) e
/-- how many bodies lie ahead; how many ahead or within -/
def fst_ (B : List Nat) (e : Nat) (o : Of) : Nat := (B.filter fun b => decide (b + e < o.1)).length
def bhd (B : List Nat) (e : Nat) (o : Of) : Nat := (B.filter fun b => decide (b ≤ o.1 + e)).length
theorem cnt_pre {p : Nat → Bool} : ∀ {B : List Nat}, B.Pairwise (· ≤ ·) → (∀ x y, p x = true → y ≤ x → p y = true) → ∀ j, j < B.length → (j < (B.filter p).length ↔ p (B.getD j 0) = true)
  | [], _, _, j, h => absurd h (Nat.not_lt_zero _)
  | b :: B, hB, dn, j, h => by
    obtain ⟨h1, h2⟩ := List.pairwise_cons.mp hB
    cases q : p b with
    | true =>
      rw [List.filter_cons_of_pos q, List.length_cons]
      cases j with
      | zero =>
        show 0 < _ + 1 ↔ p b = true
        rw [q]
        simp
      | succ j =>
        have := cnt_pre h2 dn j (by simpa using h)
        show j + 1 < _ + 1 ↔ p (B.getD j 0) = true
        rw [← this]
        omega
    | false =>
      have none : ∀ x, x ∈ b :: B → p x = false := fun x hx => by
        rcases List.mem_cons.mp hx with e | hx
        · subst e; exact q
        · cases z : p x with
          | false => rfl
          | true => rw [dn x b z (h1 x hx)] at q; cases q
      have e : (b :: B).filter p = [] := List.filter_eq_nil_iff.mpr fun x hx => by rw [none x hx]; simp
      rw [e, List.length_nil]
      have : p ((b :: B).getD j 0) = false := none _ (by
        rw [List.getD_eq_getElem?_getD, List.getElem?_eq_getElem h]
        exact List.getElem_mem h)
      rw [this]
      simp
section
variable {B : List Nat} {e : Nat}
theorem ft_iff (hB : B.Pairwise (· ≤ ·)) (o : Of) {j : Nat} (hj : j < B.length) : ft B e o j = true ↔ fst_ B e o ≤ j ∧ j < bhd B e o := by
  have a := cnt_pre (p := fun b => decide (b + e < o.1)) hB (fun x y hx hy => decide_eq_true (by have := of_decide_eq_true hx; omega)) j hj
  have b := cnt_pre (p := fun b => decide (b ≤ o.1 + e)) hB (fun x y hx hy => decide_eq_true (by have := of_decide_eq_true hx; omega)) j hj
  unfold ft
  rw [fit_iff]
  have a' : j < fst_ B e o ↔ B.getD j 0 + e < o.1 := by rw [decide_eq_true_iff] at a; exact a
  have b' : j < bhd B e o ↔ B.getD j 0 ≤ o.1 + e := by rw [decide_eq_true_iff] at b; exact b
  omega
theorem fst_le (o : Of) : fst_ B e o ≤ B.length := List.length_filter_le _ _
theorem bhd_le (o : Of) : bhd B e o ≤ B.length := List.length_filter_le _ _
theorem filter_len_mono {p q : Nat → Bool} (h : ∀ x, p x = true → q x = true) : ∀ l : List Nat, (l.filter p).length ≤ (l.filter q).length
  | [] => Nat.le_refl _
  | x :: l => by
    have := filter_len_mono h l
    cases a : p x with
    | true => rw [List.filter_cons_of_pos a, List.filter_cons_of_pos (h x a), List.length_cons, List.length_cons]; omega
    | false =>
      rw [List.filter_cons_of_neg (by rw [a]; simp)]
      cases b : q x with
      | true => rw [List.filter_cons_of_pos b, List.length_cons]; omega
      | false => rw [List.filter_cons_of_neg (by rw [b]; simp)]; exact this
theorem fst_mono {a b : Of} (h : a.1 ≤ b.1) : fst_ B e a ≤ fst_ B e b := filter_len_mono (fun x hx => decide_eq_true (by have := of_decide_eq_true hx; omega)) B
/-! what bodies come to -/
/-- what so many first bodies come to within an offer -/
def tk (B : List Nat) (e : Nat) (Y : List Nat) (o : Of) (j : Nat) : Nat := sumN (((List.range j).filter (ft B e o)).map fun i => Y.getD i 0)
def pre (Y : List Nat) (j : Nat) : Nat := sumN ((List.range j).map fun i => Y.getD i 0)
theorem tk_succ (Y : List Nat) (o : Of) (j : Nat) : tk B e Y o (j + 1) = tk B e Y o j + if ft B e o j then Y.getD j 0 else 0 := by
  unfold tk
  rw [List.range_succ, List.filter_append, List.map_append, sumN_append]
  congr 1
  cases q : ft B e o j <;> simp [q]
theorem pre_succ (Y : List Nat) (j : Nat) : pre Y (j + 1) = pre Y j + Y.getD j 0 := by
  unfold pre
  rw [List.range_succ, List.map_append, sumN_append]
  rfl
theorem pre_len (Y : List Nat) : pre Y Y.length = sumN Y := by
  unfold pre
  congr 1
  refine List.ext_getElem (by simp) fun i h1 h2 => ?_
  simp [h2]
theorem tk_congr {Y Z : List Nat} (o : Of) : ∀ j, (∀ i, i < j → Y.getD i 0 = Z.getD i 0) → tk B e Y o j = tk B e Z o j
  | 0, _ => rfl
  | j + 1, h => by rw [tk_succ, tk_succ, tk_congr o j fun i hi => h i (by omega), h j (by omega)]
theorem pre_congr {Y Z : List Nat} : ∀ j, (∀ i, i < j → Y.getD i 0 = Z.getD i 0) → pre Y j = pre Z j
  | 0, _ => rfl
  | j + 1, h => by rw [pre_succ, pre_succ, pre_congr j fun i hi => h i (by omega), h j (by omega)]
/-- no lot that fits the first ones costs less than they come to -/
theorem weak (Y : List Nat) (X : List Of) : ∀ d, (∀ j, j < d → ∃ o, o ∈ X ∧ ft B e o j = true) → pre Y d ≤ sumN (X.map fun o => tk B e Y o d)
  | 0, _ => by show 0 ≤ _; exact Nat.zero_le _
  | d + 1, h => by
    have i := weak Y X d fun j hj => h j (by omega)
    have s : sumN (X.map fun o => tk B e Y o (d + 1)) = sumN (X.map fun o => tk B e Y o d) + sumN (X.map fun o => if ft B e o d then Y.getD d 0 else 0) := by
      clear i h
      induction X with
      | nil => rfl
      | cons o X ih =>
        rw [List.map_cons, List.map_cons, List.map_cons, sumN_cons, sumN_cons, sumN_cons, ih, tk_succ]
        omega
    obtain ⟨o, ho, hf⟩ := h d (Nat.lt_succ_self d)
    have ge : Y.getD d 0 ≤ sumN (X.map fun o => if ft B e o d then Y.getD d 0 else 0) := by
      clear i s h
      induction X with
      | nil => exact nomatch ho
      | cons x X ih =>
        rw [List.map_cons, sumN_cons]
        rcases List.mem_cons.mp ho with q | ho
        · subst q
          rw [hf, if_pos rfl]
          omega
        · have := ih ho
          omega
    rw [pre_succ, s]
    omega
theorem sum_le {α : Type} {f g : α → Nat} : ∀ {X : List α}, (∀ x, x ∈ X → f x ≤ g x) → sumN (X.map f) ≤ sumN (X.map g)
  | [], _ => Nat.le_refl _
  | x :: X, h => by
    rw [List.map_cons, List.map_cons, sumN_cons, sumN_cons]
    have := h x List.mem_cons_self
    have := sum_le fun y hy => h y (List.mem_cons_of_mem x hy)
    omega
theorem tk_mono (Y : List Nat) (o : Of) {i : Nat} : ∀ d, tk B e Y o i ≤ tk B e Y o (i + d)
  | 0 => Nat.le_refl _
  | d + 1 => by
    have := tk_mono Y o (i := i) d
    rw [← Nat.add_assoc, tk_succ]
    omega
/-! the dues told -/
def mnL : List Nat → Nat
  | [] => 0
  | x :: l => l.foldl min x
theorem mnL_mem {l : List Nat} (h : l ≠ []) : mnL l ∈ l := by
  cases l with
  | nil => exact absurd rfl h
  | cons x l =>
    have key : ∀ (l : List Nat) (x : Nat), l.foldl min x ∈ x :: l := fun l => by
      induction l with
      | nil => intro x; exact List.mem_singleton.mpr rfl
      | cons y l ih =>
        intro x
        rw [List.foldl_cons]
        rcases List.mem_cons.mp (ih (min x y)) with q | q
        · rw [q]
          by_cases z : x ≤ y
          · rw [Nat.min_eq_left z]; exact List.mem_cons_self
          · rw [Nat.min_eq_right (by omega)]; exact List.mem_cons_of_mem _ List.mem_cons_self
        · exact List.mem_cons_of_mem _ (List.mem_cons_of_mem _ q)
    exact key l x
theorem mnL_le {l : List Nat} {x : Nat} (h : x ∈ l) : mnL l ≤ x := by
  cases l with
  | nil => exact nomatch h
  | cons y l =>
    have key : ∀ (l : List Nat) (y x : Nat), x ∈ y :: l → l.foldl min y ≤ x := fun l => by
      induction l with
      | nil => intro y x h; rw [List.mem_singleton] at h; subst h; exact Nat.le_refl _
      | cons z l ih =>
        intro y x h
        rw [List.foldl_cons]
        rcases List.mem_cons.mp h with q | h
        · subst q
          have := ih (min x z) _ List.mem_cons_self
          omega
        · rcases List.mem_cons.mp h with q | h
          · subst q
            have := ih (min y x) _ List.mem_cons_self
            omega
          · exact ih _ _ (List.mem_cons_of_mem _ h)
    exact key l y x h
def rooms (B : List Nat) (e : Nat) (O : List Of) (Y : List Nat) (j : Nat) : List Nat := (O.filter fun o => ft B e o j).map fun o => o.2 - tk B e Y o j
def dus (B : List Nat) (e : Nat) (O : List Of) : Nat → List Nat
  | 0 => []
  | j + 1 => dus B e O j ++ [mnL (rooms B e O (dus B e O j) j)]
variable {O : List Of}
theorem dus_len : ∀ j, (dus B e O j).length = j
  | 0 => rfl
  | j + 1 => by rw [dus, List.length_append, dus_len j]; rfl
theorem dus_old (j : Nat) {i : Nat} (h : i < j) : (dus B e O (j + 1)).getD i 0 = (dus B e O j).getD i 0 := by
  rw [dus, List.getD_eq_getElem?_getD, List.getElem?_append_left (by rw [dus_len]; exact h), ← List.getD_eq_getElem?_getD]
theorem dus_new (j : Nat) : (dus B e O (j + 1)).getD j 0 = mnL (rooms B e O (dus B e O j) j) := by
  rw [dus, List.getD_eq_getElem?_getD, List.getElem?_append_right (by rw [dus_len]; exact Nat.le_refl _), dus_len]
  simp
/-- no offer's bodies come to more than its price -/
theorem dus_ok : ∀ j o, o ∈ O → tk B e (dus B e O j) o j ≤ o.2
  | 0, o, _ => by show 0 ≤ _; exact Nat.zero_le _
  | j + 1, o, ho => by
    have i := dus_ok j o ho
    rw [tk_succ, tk_congr o j (Z := dus B e O j) fun i hi => dus_old j hi]
    cases q : ft B e o j with
    | false => rw [if_neg Bool.false_ne_true]; omega
    | true =>
      rw [if_pos rfl, dus_new]
      have := mnL_le (l := rooms B e O (dus B e O j) j) (x := o.2 - tk B e (dus B e O j) o j) (List.mem_map.mpr ⟨o, List.mem_filter.mpr ⟨ho, q⟩, rfl⟩)
      omega
theorem dus_pre (n j : Nat) (h : j ≤ n) {i : Nat} (hi : i < j) : (dus B e O n).getD i 0 = (dus B e O j).getD i 0 := by
  induction n with
  | zero => omega
  | succ n ih =>
    by_cases q : j = n + 1
    · rw [q]
    · rw [dus_old n (by omega), ih (by omega)]
/-- what the first so many bodies come to -/
def dd (B : List Nat) (e : Nat) (O : List Of) (j : Nat) : Nat := pre (dus B e O j) j
theorem dd_pre (n j : Nat) (h : j ≤ n) : pre (dus B e O n) j = dd B e O j := pre_congr j fun i hi => dus_pre n j h hi
theorem dd_succ (j : Nat) : dd B e O (j + 1) = dd B e O j + mnL (rooms B e O (dus B e O j) j) := by
  unfold dd
  rw [pre_succ, dus_new, pre_congr j (Z := dus B e O j) fun i hi => dus_old j hi]
/-- within an offer: from where it begins -/
theorem tk_dd (hB : B.Pairwise (· ≤ ·)) (o : Of) : ∀ j, j ≤ bhd B e o → j ≤ B.length → fst_ B e o ≤ j → tk B e (dus B e O j) o j + dd B e O (fst_ B e o) = dd B e O j
  | 0, _, _, h3 => by
    have : fst_ B e o = 0 := by omega
    rw [this]
    show 0 + _ = _
    omega
  | j + 1, h1, h2, h3 => by
    by_cases q : fst_ B e o = j + 1
    · rw [q]
      have z : ∀ i, i ≤ j + 1 → tk B e (dus B e O (j + 1)) o i = 0 := fun i => by
        induction i with
        | zero => intro _; rfl
        | succ i ih =>
          intro hi
          rw [tk_succ, ih (by omega)]
          have : ft B e o i = false := by
            cases w : ft B e o i with
            | false => rfl
            | true =>
              have := ((ft_iff hB o (by omega)).mp w).1
              omega
          rw [this]
          rfl
      rw [z _ (Nat.le_refl _)]
      omega
    · have f : ft B e o j = true := (ft_iff hB o (by omega)).mpr ⟨by omega, by omega⟩
      have i := tk_dd hB o j (by omega) (by omega) (by omega)
      rw [tk_succ, f, if_pos rfl, dus_new, tk_congr o j (Z := dus B e O j) fun i hi => dus_old j hi, dd_succ]
      omega
/-- the dues as a cheapest way on -/
theorem dd_le (hB : B.Pairwise (· ≤ ·)) {j : Nat} (hj : j < B.length) {o : Of} (ho : o ∈ O) (hf : ft B e o j = true) : dd B e O (j + 1) ≤ o.2 + dd B e O (fst_ B e o) := by
  obtain ⟨f1, f2⟩ := (ft_iff hB o hj).mp hf
  have a := tk_dd (O := O) hB o j (by omega) (by omega) f1
  have b := dus_ok (B := B) (e := e) j o ho
  have c := mnL_le (l := rooms B e O (dus B e O j) j) (x := o.2 - tk B e (dus B e O j) o j) (List.mem_map.mpr ⟨o, List.mem_filter.mpr ⟨ho, hf⟩, rfl⟩)
  rw [dd_succ]
  omega
theorem dd_at (hB : B.Pairwise (· ≤ ·)) {j : Nat} (hj : j < B.length) (hc : ∃ o, o ∈ O ∧ ft B e o j = true) : ∃ o, o ∈ O ∧ ft B e o j = true ∧ dd B e O (j + 1) = o.2 + dd B e O (fst_ B e o) := by
  obtain ⟨o0, h0, f0⟩ := hc
  have ne : rooms B e O (dus B e O j) j ≠ [] := fun z => by
    have : o0.2 - tk B e (dus B e O j) o0 j ∈ rooms B e O (dus B e O j) j := List.mem_map.mpr ⟨o0, List.mem_filter.mpr ⟨h0, f0⟩, rfl⟩
    rw [z] at this
    exact nomatch this
  obtain ⟨o, ho, q⟩ := List.mem_map.mp (mnL_mem ne)
  obtain ⟨ho, hf⟩ := List.mem_filter.mp ho
  obtain ⟨f1, f2⟩ := (ft_iff hB o hj).mp hf
  have a := tk_dd (O := O) hB o j (by omega) (by omega) f1
  have b := dus_ok (B := B) (e := e) j o ho
  have q : o.2 - tk B e (dus B e O j) o j = mnL (rooms B e O (dus B e O j) j) := q
  exact ⟨o, ho, hf, by rw [dd_succ]; omega⟩
end
end K83
set_option Elab.async false
set_option linter.all false
set_option maxRecDepth 10000
namespace K83
open PySem DL
/-! the cheapest ones, bodies gone through -/
abbrev Cl := Nat × List Nat
def eCl (x : Cl) : Da := .tuple [di x.1, .tuple (nl x.2)]
theorem alike_nl : ∀ a b : List Nat, PySem.W.alikeAll (nl a) (nl b) = true
  | [], _ => by simp [PySem.W.alikeAll]
  | x :: a, [] => by simp [PySem.W.alikeAll]
  | x :: a, y :: b => by simp [PySem.W.alikeAll, PySem.W.alike, di, alike_nl a b]
theorem alike_eCl (x y : Cl) : PySem.W.alike (eCl x) (eCl y) = true := by simp [eCl, PySem.W.alike, PySem.W.alikeAll, di, alike_nl]
theorem depth_nl : ∀ a : List Nat, PyData.depthAll (nl a) = 0
  | [] => by simp [PyData.depthAll]
  | x :: a => by simp [PyData.depthAll, PyData.depth, di, depth_nl a]
theorem depth_eCl (x : Cl) : (eCl x).depth ≤ 2 := by simp [eCl, PyData.depth, PyData.depthAll, di, depth_nl]
theorem lay_nl : ∀ a : List Nat, PyData.canLayAll0 (nl a) = true
  | [] => by simp [PyData.canLayAll0]
  | x :: a => by simp [PyData.canLayAll0, PyData.canLay0, di, lay_nl a]
theorem lay_eCl (x : Cl) : (eCl x).canLay0 = true := by simp [eCl, PyData.canLay0, PyData.canLayAll0, di, lay_nl]
theorem alk_eCl (l : List Cl) : alkB (l.map eCl) = true := alkB_map eCl 2 (by decide) alike_eCl depth_eCl lay_eCl (fun _ => rfl) l
def ltC (x y : Cl) : Bool := PySem.W.dataLt (eCl x) (eCl y)
theorem ltC_le {x y : Cl} : (ltC x y = true → x.1 ≤ y.1) ∧ (ltC x y = false → y.1 ≤ x.1) := by
  unfold ltC eCl
  rw [PySem.W.dataLt_pair (by simp [PySem.W.alike, di]) (by simp [PySem.W.alike, alike_nl])]
  by_cases q : x.1 = y.1
  · exact ⟨fun _ => by omega, fun _ => by omega⟩
  · have e : PyData.eqv (di x.1) (di y.1) = false := by
      simp only [di, PyData.eqv]
      have : ¬ (x.1 : Int) = y.1 := by omega
      simp [this]
    rw [e, if_neg Bool.false_ne_true]
    show (PySem.W.dataLt (.int x.1) (.int y.1) = true → _) ∧ (PySem.W.dataLt (.int x.1) (.int y.1) = false → _)
    rw [PySem.W.dataLt_int]
    exact ⟨fun h => by have := of_decide_eq_true h; omega, fun h => by have := of_decide_eq_false h; omega⟩
def mnC (z : Cl) (l : List Cl) : Cl := l.foldl (fun a y => if ltC y a = true then y else a) z
theorem minD_eCl : ∀ (l : List Cl) (z : Cl), PySem.W.minD (eCl z) (l.map eCl) = eCl (mnC z l)
  | [], z => rfl
  | y :: l, z => by
    show PySem.W.minD (if PySem.W.dataLt (eCl y) (eCl z) then eCl y else eCl z) (l.map eCl) = eCl (mnC (if ltC y z = true then y else z) l)
    rw [← minD_eCl l]
    unfold ltC
    split <;> rfl
theorem mnC_le : ∀ (l : List Cl) (z : Cl), mnC z l ∈ z :: l ∧ ∀ y, y ∈ z :: l → (mnC z l).1 ≤ y.1
  | [], z => ⟨List.mem_cons_self, fun y hy => by
    rw [List.mem_singleton] at hy; subst hy; exact Nat.le_refl _⟩
  | x :: l, z => by
    have e : mnC z (x :: l) = mnC (if ltC x z = true then x else z) l := rfl
    rw [e]
    cases q : ltC x z with
    | true =>
      rw [if_pos rfl]
      obtain ⟨h1, h2⟩ := mnC_le l x
      have := (ltC_le (x := x) (y := z)).1 q
      refine ⟨List.mem_cons_of_mem _ h1, fun y hy => ?_⟩
      rcases List.mem_cons.mp hy with r | hy
      · subst r
        have := h2 x List.mem_cons_self
        omega
      · exact h2 y hy
    | false =>
      rw [if_neg Bool.false_ne_true]
      obtain ⟨h1, h2⟩ := mnC_le l z
      have := (ltC_le (x := x) (y := z)).2 q
      refine ⟨?_, fun y hy => ?_⟩
      · rcases List.mem_cons.mp h1 with r | r
        · rw [r]; exact List.mem_cons_self
        · exact List.mem_cons_of_mem _ (List.mem_cons_of_mem _ r)
      · rcases List.mem_cons.mp hy with r | hy
        · subst r; exact h2 y List.mem_cons_self
        · rcases List.mem_cons.mp hy with r | hy
          · subst r
            have := h2 z List.mem_cons_self
            omega
          · exact h2 y (List.mem_cons_of_mem _ hy)
theorem minG_eCl (z : Cl) (l : List Cl) : dMinG [.list ((z :: l).map eCl)] = .ok (eCl (mnC z l)) := by
  have a : alkB (eCl z :: l.map eCl) = true := alk_eCl (z :: l)
  show (if alkB (eCl z :: l.map eCl) then R.ok (PySem.W.minD (eCl z) (l.map eCl)) else .bad) = _
  rw [if_pos a, minD_eCl]
theorem ltG_eCl (x y : Cl) : dLtG (eCl x) (eCl y) = .ok (.bool (ltC x y)) := by
  have a : alkB [eCl x, eCl y] = true := alk_eCl [x, y]
  unfold dLtG
  rw [if_pos a]
  rfl
def cst (O : List Of) (l : List Nat) : Nat := sumN (l.map fun k => (oq O k).2)
abbrev En := Nat × Cl
structure J (B : List Nat) (e : Nat) (O : List Of) (t : Nat) (F : List En) : Prop where
  nd : (F.map (·.1)).Nodup
  z : ((0, (0, [])) : En) ∈ F
  key : ∀ x, x ∈ F → x.1 ≤ B.length
  lt : ∀ x, x ∈ F → ∀ k, k ∈ x.2.2 → k < t
  up : ∀ x, x ∈ F → x.2.2.Pairwise (· < ·)
  co : ∀ x, x ∈ F → x.2.1 = cst O x.2.2
  cov : ∀ x, x ∈ F → ∀ j, j < x.1 → ∃ k, k ∈ x.2.2 ∧ ft B e (oq O k) j = true
  opt : ∀ d k, d < B.length → k < t → ft B e (oq O k) d = true → dd B e O (d + 1) = (oq O k).2 + dd B e O (fst_ B e (oq O k)) → ∃ x, x ∈ F ∧ d + 1 ≤ x.1 ∧ x.2.1 ≤ dd B e O (d + 1)
  len : F.length ≤ t + 1
section
variable {B : List Nat} {e : Nat} {O : List Of} {t : Nat} {F : List En}
theorem J.start : J B e O 0 [(0, (0, []))] := by
  refine ⟨by simp, List.mem_singleton.mpr rfl, fun x hx => ?_, fun x hx => ?_, fun x hx => ?_, fun x hx => ?_, fun x hx => ?_, fun d k _ hk => absurd hk (Nat.not_lt_zero _), by simp⟩
  all_goals rw [List.mem_singleton] at hx; subst hx
  · exact Nat.zero_le _
  · exact fun k hk => nomatch hk
  · exact List.Pairwise.nil
  · rfl
  · exact fun j hj => absurd hj (Nat.not_lt_zero _)
/-- there is one to go on from -/
theorem J.from_ (h : J B e O t F) (hB : B.Pairwise (· ≤ ·)) (hO : Os O) (hc : ∀ j, j < B.length → ∃ o, o ∈ O ∧ ft B e o j = true) (ht : t < O.length) : ∃ x, x ∈ F ∧ fst_ B e (oq O t) ≤ x.1 ∧ x.2.1 ≤ dd B e O (fst_ B e (oq O t)) := by
  cases q : fst_ B e (oq O t) with
  | zero => exact ⟨_, h.z, Nat.zero_le _, Nat.zero_le _⟩
  | succ d =>
    have hd : d < B.length := by have := fst_le (B := B) (e := e) (oq O t); omega
    obtain ⟨o, ho, f, eq⟩ := dd_at (O := O) hB hd (hc d hd)
    obtain ⟨k, hk, rfl⟩ := List.mem_iff_getElem.mp ho
    rw [← oq_at hk] at f eq
    have f1 := (ft_iff hB _ hd).mp f
    have kt : k < t := by
      rcases Nat.lt_or_ge k t with z | z
      · exact z
      · have le : (oq O t).1 ≤ (oq O k).1 := by
          by_cases s : t = k
          · rw [s]; exact Nat.le_refl _
          · have := List.pairwise_iff_getElem.mp hO.srt t k ht hk (by omega)
            rw [oq_at ht, oq_at hk]
            omega
        have := fst_mono (B := B) (e := e) le
        omega
    exact h.opt d k hd kt f eq
theorem J.upd (h : J B e O t F) (hB : B.Pairwise (· ≤ ·)) {m : En} (hm : m ∈ F) (hm1 : fst_ B e (oq O t) ≤ m.1) (hm2 : m.2.1 ≤ dd B e O (fst_ B e (oq O t))) {F' : List En} (nd : (F'.map (·.1)).Nodup) (z : ((0, (0, [])) : En) ∈ F')
    (sub : ∀ x, x ∈ F' → x ∈ F ∨ x = (bhd B e (oq O t), (m.2.1 + (oq O t).2, m.2.2 ++ [t]))) (old : ∀ x, x ∈ F → ∃ y, y ∈ F' ∧ y.1 = x.1 ∧ y.2.1 ≤ x.2.1) (new : ∃ y, y ∈ F' ∧ y.1 = bhd B e (oq O t) ∧ y.2.1 ≤ m.2.1 + (oq O t).2) (len : F'.length ≤ t + 1 + 1) : J B e O (t + 1) F' := by
  refine ⟨nd, z, fun x hx => ?_, fun x hx k hk => ?_, fun x hx => ?_, fun x hx => ?_, fun x hx j hj => ?_, fun d k hd hk f eq => ?_, len⟩
  · rcases sub x hx with q | q
    · exact h.key x q
    · rw [q]; exact bhd_le _
  · rcases sub x hx with q | q
    · have := h.lt x q k hk; omega
    · rw [q] at hk
      rcases List.mem_append.mp hk with hk | hk
      · have := h.lt m hm k hk; omega
      · rw [List.mem_singleton] at hk; omega
  · rcases sub x hx with q | q
    · exact h.up x q
    · rw [q]
      refine List.pairwise_append.mpr ⟨h.up m hm, List.pairwise_singleton _ _, fun a ha b hb => ?_⟩
      rw [List.mem_singleton] at hb
      subst hb
      exact h.lt m hm a ha
  · rcases sub x hx with q | q
    · exact h.co x q
    · rw [q]
      show m.2.1 + (oq O t).2 = cst O (m.2.2 ++ [t])
      unfold cst
      rw [List.map_append, sumN_append, h.co m hm]
      rfl
  · rcases sub x hx with q | q
    · exact h.cov x q j hj
    · rw [q] at hj ⊢
      have hj : j < bhd B e (oq O t) := hj
      by_cases w : j < m.1
      · obtain ⟨k, hk, f⟩ := h.cov m hm j w
        exact ⟨k, List.mem_append_left _ hk, f⟩
      · exact ⟨t, List.mem_append_right _ (List.mem_singleton.mpr rfl), (ft_iff hB _ (by have := bhd_le (B := B) (e := e) (oq O t); omega)).mpr ⟨by omega, hj⟩⟩
  · by_cases w : k < t
    · obtain ⟨x, hx, x1, x2⟩ := h.opt d k hd w f eq
      obtain ⟨y, hy, y1, y2⟩ := old x hx
      exact ⟨y, hy, by omega, by omega⟩
    · have : k = t := by omega
      subst this
      obtain ⟨y, hy, y1, y2⟩ := new
      have := ((ft_iff hB _ hd).mp f).2
      exact ⟨y, hy, by omega, by omega⟩
/-- at the end -/
theorem J.done (h : J B e O O.length F) (hB : B.Pairwise (· ≤ ·)) (hc : ∀ j, j < B.length → ∃ o, o ∈ O ∧ ft B e o j = true) : ∃ x, x ∈ F ∧ x.1 = B.length ∧ x.2.1 = dd B e O B.length := by
  have up : ∃ x, x ∈ F ∧ B.length ≤ x.1 ∧ x.2.1 ≤ dd B e O B.length := by
    cases q : B.length with
    | zero => exact ⟨_, h.z, Nat.zero_le _, Nat.zero_le _⟩
    | succ d =>
      obtain ⟨o, ho, f, eq⟩ := dd_at (O := O) hB (show d < B.length by omega) (hc d (by omega))
      obtain ⟨k, hk, rfl⟩ := List.mem_iff_getElem.mp ho
      rw [← oq_at hk] at f eq
      exact h.opt d k (by omega) hk f eq
  obtain ⟨x, hx, x1, x2⟩ := up
  have k1 := h.key x hx
  refine ⟨x, hx, by omega, ?_⟩
  have w := weak (B := B) (e := e) (dus B e O B.length) (x.2.2.map (oq O)) B.length fun j hj => by
    obtain ⟨k, hk, f⟩ := h.cov x hx j (by omega)
    exact ⟨_, List.mem_map.mpr ⟨k, hk, rfl⟩, f⟩
  have w2 : sumN ((x.2.2.map (oq O)).map fun o => tk B e (dus B e O B.length) o B.length) ≤ sumN ((x.2.2.map (oq O)).map fun o => o.2) := sum_le fun o ho => by
    obtain ⟨k, hk, rfl⟩ := List.mem_map.mp ho
    exact dus_ok B.length _ (oq_mem (h.lt x hx k hk))
  have co := h.co x hx
  unfold cst at co
  rw [List.map_map] at w2
  have w2 : sumN ((x.2.2.map (oq O)).map fun o => tk B e (dus B e O B.length) o B.length) ≤ sumN (x.2.2.map fun k => (oq O k).2) := by
    refine Nat.le_trans (sum_le (g := fun o => o.2) fun o ho => ?_) ?_
    · obtain ⟨k, hk, rfl⟩ := List.mem_map.mp ho
      exact dus_ok B.length _ (oq_mem (h.lt x hx k hk))
    · rw [List.map_map]
      exact Nat.le_refl _
  have : pre (dus B e O B.length) B.length = dd B e O B.length := rfl
  omega
end
end K83
set_option Elab.async false
set_option linter.all false
set_option maxRecDepth 10000
namespace K83
open PySem DL
/-! covers and lots judged -/
theorem dGt_i (a b : Int) : dGt (.int a) (.int b) = .ok (.bool (decide (a > b))) := rfl
theorem gt_cast (a b c : Nat) : dGt (.int ((a : Int) - b)) (di c) = .ok (.bool (decide (b + c < a))) := by
  show R.ok (PyData.bool (decide ((a : Int) - b > (c : Int)))) = _
  rw [show decide ((a : Int) - b > (c : Int)) = decide (b + c < a) from decide_eq_decide.mpr (by omega)]
theorem is_underN (a b : Nat) : f_is_under [di a, di b] = .ok (.bool (decide (a < b))) := by
  have ii := is_integer a
  have ii' : f_is_integer [di a] = .ok (.bool true) := ii
  have l1 : dLe (di 0) (di a) = .ok (.bool true) := by rw [dLe_nat]; simp
  simp [f_is_under, runDef_, b_is_under, ii', int_lit, l1, dLt_nat]
def rising (S : List Nat) : Bool := (List.range' 1 (S.length - 1)).all fun k => decide (S.getD (k - 1) 0 < S.getD k 0)
theorem rising_pw {S : List Nat} (h : S.Pairwise (· < ·)) : rising S = true := by
  refine List.all_eq_true.mpr fun k hk => decide_eq_true ?_
  have := List.mem_range'_1.mp hk
  have g1 : k - 1 < S.length := by omega
  have g2 : k < S.length := by omega
  have := List.pairwise_iff_getElem.mp h (k - 1) k (by omega) (by omega) (by omega)
  simpa [g1, g2] using this
theorem rng1 (n : Nat) (h : n ≤ big) : dRng 1 (n : Int) = .ok (nl (List.range' 1 (n - 1))) := rng_nl2 1 n (by decide) h
/-- [S[at - 1] < S[at] ..] -/
theorem lc_rise {S : List Nat} {ρ : Ev} {g : STg} {own : List Nat} {se : SE} (h : ∀ k, 1 ≤ k → k < S.length → lcF g own eYes se ρ (di k) = .ok (some (.bool (decide (S.getD (k - 1) 0 < S.getD k 0))))) : lcL (lcF g own eYes se ρ) (nl (List.range' 1 (S.length - 1))) = .ok (bl ((List.range' 1 (S.length - 1)).map fun k => decide (S.getD (k - 1) 0 < S.getD k 0))) :=
  lc_nlB _ _ fun k hk => by
    have := List.mem_range'_1.mp hk
    exact h k (by omega) (by omega)
theorem sub1 (k : Nat) (h : 1 ≤ k) : dSub (di k) (di 1) = .ok (di (k - 1)) := dSub_nat k 1 h
theorem are_under (A : List Nat) (n : Nat) : f_are_under [.tuple (nl A), di n] = .ok (.bool (A.all fun k => decide (k < n))) := by
  have lc : lcL (lcF (gVar 2) [2] eYes (eA f_is_under (aCons (eVar 2) (aCons (eVar 1) aNil))) [some (.tuple (nl A)), some (di n), none]) (nl A) = .ok (bl (A.map fun k => decide (k < n))) := lc_nlB _ A fun k _ => by simp [lcF, is_underN]
  simp [f_are_under, runDef_, b_are_under, eLc, lc, List.all_map]
theorem is_lot {A : List Nat} (hA : A.length ≤ big) (n : Nat) : f_is_lot [.tuple (nl A), di n] = .ok (.bool ((A.all fun k => decide (k < n)) && rising A)) := by
  have rg := rng1 A.length hA
  have lc : lcL (lcF (gVar 2) [2] eYes (e2 dLt (e2 dIx (eVar 0) (e2 dSub (eVar 2) (eC (di 1)))) (e2 dIx (eVar 0) (eVar 2))) [some (.tuple (nl A)), some (di n), none]) (nl (List.range' 1 (A.length - 1))) = .ok (bl ((List.range' 1 (A.length - 1)).map fun k => decide (A.getD (k - 1) 0 < A.getD k 0))) :=
    lc_rise fun k h1 h2 => by
      have g : k - 1 < A.length := by omega
      simp [lcF, sub1 k h1, dl.2.1 A _ g, dl.2.1 A _ h2, dn, -List.getD_eq_getElem?_getD]
  have au := are_under A n
  cases q : A.all fun k => decide (k < n) with
  | false =>
    rw [q] at au
    simp [f_is_lot, runDef_, b_is_lot, au]
  | true =>
    rw [q] at au
    simp [f_is_lot, runDef_, b_is_lot, au, int_lit, dl, rg, eLc, lc, rising, List.all_map, -List.getD_eq_getElem?_getD]
/-! offers read -/
theorem of0 (o : Of) : dIx (ofD o) (di 0) = .ok (di o.1) := rfl
theorem of1 (o : Of) : dIx (ofD o) (di 1) = .ok (di o.2) := rfl
theorem oIx (O : List Of) {k : Nat} (h : k < O.length) : dIx (.tuple (O.map ofD)) (di k) = .ok (ofD (oq O k)) := dIx_tuple_map ofD (0, 0) O k h
theorem oLen (O : List Of) : dLen [.tuple (O.map ofD)] = .ok (di O.length) := by rw [dLen_tuple_nat, List.length_map]
theorem oTup (o : Of) : f_is_tuple_of [ofD o, di 2] = .ok (.bool true) := rfl
theorem lc_ofB {f : Da → R (Option Da)} (p : Of → Bool) (l : List Of) (w : ∀ x, x ∈ l → f (ofD x) = .ok (some (.bool (p x)))) : lcL f (l.map ofD) = .ok (bl (l.map p)) := by
  unfold bl
  rw [lcL_map ofD (fun x => .bool (p x)) l w, List.map_map]
  rfl
theorem dAll_b (l : List Bool) : dAll [.list (bl l)] = .ok (.bool (l.all id)) := by simp
theorem dAny_b (l : List Bool) : dAny [.list (bl l)] = .ok (.bool (l.any id)) := by simp
theorem are_offers {O : List Of} (h : Os O) : f_are_offers [.tuple (O.map ofD)] = .ok (.bool true) := by
  have h1 : ¬ 10 < O.length := by have := h.len; omega
  have ln := oLen O
  have l1 : lcL (lcF (gVar 2) [2] eYes (eAnd (eT (eA f_is_tuple_of (aCons (eVar 2) (aCons (eC (di 2)) aNil)))) (eAnd (eT (eA f_is_between (aCons (e2 dIx (eVar 2) (eC (di 0))) (aCons (eC (di 0)) (aCons (e2 dAdd (eC (di 200)) (eC (di 50))) aNil))))) (eA f_is_between (aCons (e2 dIx (eVar 2) (eC (di 1))) (aCons (eC (di 1)) (aCons (eC (di 100)) aNil)))))) [some (.tuple (O.map ofD)), none, none]) (O.map ofD) = .ok (bl (O.map fun _ => true)) := lc_ofB _ O fun o ho => by
    obtain ⟨b1, b2, b3⟩ := h.bd o ho
    simp [lcF, oTup, of0, of1, dn, btwN, b1, b2, b3]
  have al : (O.map fun _ => true).all id = true := by simp
  have rg := rng1 O.length (by have := h.len; unfold big; omega)
  have l2 : lcL (lcF (gVar 1) [1] eYes (e2 dLt (e2 dIx (e2 dIx (eVar 0) (e2 dSub (eVar 1) (eC (di 1)))) (eC (di 0))) (e2 dIx (e2 dIx (eVar 0) (eVar 1)) (eC (di 0)))) [some (.tuple (O.map ofD)), none, none]) (nl (List.range' 1 (O.length - 1))) = .ok (bl ((List.range' 1 (O.length - 1)).map fun _ => true)) := lc_nlB _ _ fun k hk => by
    have := List.mem_range'_1.mp hk
    have g1 : k - 1 < O.length := by omega
    have g2 : k < O.length := by omega
    have lt := List.pairwise_iff_getElem.mp h.srt (k - 1) k g1 g2 (by omega)
    rw [← oq_at g1, ← oq_at g2] at lt
    simp [lcF, sub1 k this.1, oIx O g1, oIx O g2, of0, dn, lt]
  have al2 : ((List.range' 1 (O.length - 1)).map fun _ => true).all id = true := by simp
  have d1 := dAll_b (O.map fun _ => true)
  have d2 := dAll_b ((List.range' 1 (O.length - 1)).map fun _ => true)
  rw [al] at d1
  rw [al2] at d2
  simp only [f_are_offers, runDef_, b_are_offers, int_lit]
  simp [ln, dn, h1, eLc, l1, d1, rg, l2, d2, -dAll_list]
theorem need_offers {B : List Nat} (h : Bo B 12) {e : Nat} (he : e ≤ 50) {O : List Of} (hO : Os O) : f_need_offers [.tuple (nl B), di e, .tuple (O.map ofD)] = .ok .none := by
  simp [f_need_offers, runDef_, b_need_offers, need_bodies h he, are_offers hO]
/-- the bodies that no offer fits -/
def bare (B : List Nat) (e : Nat) (O : List Of) : List Nat := (List.range B.length).filter fun j => !O.any fun o => ft B e o j
theorem bare_body (B : List Nat) (e : Nat) (O : List Of) : f_bare_body [.tuple (nl B), di e, .tuple (O.map ofD)] = .ok (match bare B e O with
    | [] => .none
    | k :: _ => di k) := by
  have l1 : lcL (lcF (gTupD [(gVar 4), (gVar 5)]) [4, 5] (e1 dNot (eT (eA dAny (aCons (eLc (iL (eVar 2)) (gVar 6) [6] eYes (eA f_fits (aCons (e2 dIx (eVar 6) (eC (di 0))) (aCons (eVar 5) (aCons (eVar 1) aNil))))) aNil)))) (eVar 4) [some (.tuple (nl B)), some (di e), some (.tuple (O.map ofD)), none, none, none, none]) ((List.range B.length).map fun i => PyData.tuple [di i, di (B.getD i 0)]) = .ok (nl (bare B e O)) := by
    refine lcL_filter (fun i => PyData.tuple [di i, di (B.getD i 0)]) _ di _ fun j hj => ?_
    have l2 : lcL (lcF (gVar 6) [6] eYes (eA f_fits (aCons (e2 dIx (eVar 6) (eC (di 0))) (aCons (eVar 5) (aCons (eVar 1) aNil)))) [some (.tuple (nl B)), some (di e), some (.tuple (O.map ofD)), none, some (di j), some (di (B.getD j 0)), none]) (O.map ofD) = .ok (bl (O.map fun o => ft B e o j)) := lc_ofB _ O fun o _ => by
      simp [lcF, of0, fits, ft, -List.getD_eq_getElem?_getD]
    have d := dAny_b (O.map fun o => ft B e o j)
    rw [List.any_map] at d
    have d' : dAny [.list (bl (O.map fun o => ft B e o j))] = .ok (.bool (O.any fun o => ft B e o j)) := d
    cases q : O.any fun o => ft B e o j with
    | false =>
      rw [q] at d'
      simp [lcF, eLc, l2, d', q, -dAny_list, -List.getD_eq_getElem?_getD]
    | true =>
      rw [q] at d'
      simp [lcF, eLc, l2, d', q, -dAny_list, -List.getD_eq_getElem?_getD]
  have en := enum_nl B
  simp only [f_bare_body, runDef_, b_bare_body, int_lit]
  cases q : bare B e O with
  | nil =>
    rw [q] at l1
    simp [en, eLc, l1, -List.getD_eq_getElem?_getD]
  | cons k r =>
    rw [q] at l1
    have x0 := dl.1 (k :: r) 0 (by simp)
    have x0' : dIx (.list (di k :: nl r)) (di 0) = .ok (di k) := x0
    simp [en, eLc, l1, x0', -List.getD_eq_getElem?_getD]
theorem bare_nil {B : List Nat} {e : Nat} {O : List Of} (h : bare B e O = []) : ∀ j, j < B.length → ∃ o, o ∈ O ∧ ft B e o j = true := fun j hj => by
  have := List.filter_eq_nil_iff.mp h j (List.mem_range.mpr hj)
  cases q : O.any fun o => ft B e o j with
  | true => exact List.any_eq_true.mp q
  | false => rw [q] at this; exact absurd rfl this
end K83
set_option Elab.async false
set_option linter.all false
set_option maxRecDepth 10000
namespace K83
open PySem DL
/-! lots -/
def tl (l : List Nat) : Da := .tuple (nl l)
theorem dAdd_tup (xs ys : List Da) (h : xs.length + ys.length ≤ big) : dAdd (.tuple xs) (.tuple ys) = .ok (.tuple (xs ++ ys)) := if_pos h
theorem dAdd_lst (xs ys : List Da) (h : xs.length + ys.length ≤ big) : dAdd (.list xs) (.list ys) = .ok (.list (xs ++ ys)) := if_pos h
/-! the cheapest lots read -/
theorem up_len : ∀ (l : List Nat) (a t : Nat), l.Pairwise (· < ·) → (∀ k, k ∈ l → a ≤ k ∧ k < t) → l.length ≤ t - a
  | [], _, _, _, _ => Nat.zero_le _
  | x :: l, a, t, h, b => by
    obtain ⟨h1, h2⟩ := List.pairwise_cons.mp h
    have := up_len l (x + 1) t h2 fun k hk => ⟨h1 k hk, (b k (List.mem_cons_of_mem _ hk)).2⟩
    have := b x List.mem_cons_self
    rw [List.length_cons]
    omega
theorem noD_nl : ∀ l : List Nat, noDs (nl l) = true
  | [] => by simp [noDs]
  | x :: l => by simp [noDs, noD, di, noD_nl l]
theorem noD_eCl (x : Cl) : noD (eCl x) = true := by simp [eCl, noD, noDs, di, noD_nl]
theorem noD_cls : ∀ l : List Cl, noD (.list (l.map eCl)) = true := fun l => by
  show noDs (l.map eCl) = true
  induction l with
  | nil => simp [noDs]
  | cons x l ih => simp [noDs, noD_eCl, ih]
theorem putD_old {α : Type} {e : α → Da} {F : List (Nat × α)} {k : Nat} {v : α} (hk : k ∈ F.map (·.1)) (hl : F.length < big) : putD false (di k) (e v) (nD false e F) = .ok (nD false e (F.map fun x => if x.1 = k then (x.1, v) else x)) := by
  unfold putD nD
  rw [asDT_dD, R.bind_ok]
  rw [if_pos ⟨rfl, by rw [List.length_map]; exact hl⟩, isKR_di, R.bind_ok]
  unfold kput
  have : ((F.map fun x => (di x.1, e x.2)).any fun z => kq false z.1 (di k)) = true := by
    obtain ⟨x, hx, ex⟩ := List.mem_map.mp hk
    refine List.any_eq_true.mpr ⟨_, List.mem_map.mpr ⟨x, hx, rfl⟩, ?_⟩
    show kq false (di x.1) (di k) = true
    rw [kq_di, ex]
    simp
  rw [this, if_pos rfl, List.map_map, List.map_map]
  congr 2
  refine List.map_congr_left fun x _ => ?_
  show (if kq false (di x.1) (di k) = true then (di x.1, e v) else (di x.1, e x.2)) = _
  rw [kq_di]
  by_cases q : x.1 = k
  · rw [decide_eq_true q, if_pos rfl]
    show _ = (di (if x.1 = k then (x.1, v) else x).1, e (if x.1 = k then (x.1, v) else x).2)
    rw [if_pos q]
  · rw [decide_eq_false q, if_neg Bool.false_ne_true]
    show _ = (di (if x.1 = k then (x.1, v) else x).1, e (if x.1 = k then (x.1, v) else x).2)
    rw [if_neg q]
/-- what stands for a key -/
theorem key_val {F : List En} {k : Nat} (hk : k ∈ F.map (·.1)) : ∃ v, (k, v) ∈ F := by
  obtain ⟨x, hx, ex⟩ := List.mem_map.mp hk
  exact ⟨x.2, by rw [← ex]; exact hx⟩
theorem val_one {F : List En} (nd : (F.map (·.1)).Nodup) {k : Nat} {v w : Cl} (h1 : (k, v) ∈ F) (h2 : (k, w) ∈ F) : v = w := by
  have a := find_mem nd h1
  rw [find_mem nd h2] at a
  injection a with a
  exact (Prod.mk.inj a).2.symm
section
variable {B : List Nat} {e : Nat} {O : List Of}
abbrev chE (B : List Nat) (e : Nat) (O : List Of) (F : List En) : Ev := [some (.tuple (nl B)), some (di e), some (.tuple (O.map ofD)), some (nD false eCl F), none, none, none, none, none, none, none, none, none, none, none]
theorem enum_of (O : List Of) : enumD 0 (O.map ofD) = (List.range O.length).map fun i => .tuple [di i, ofD (oq O i)] := by
  rw [enumD_map' ofD (0, 0) O 0]
  refine List.map_congr_left fun i _ => ?_
  rw [Nat.zero_add]
  rfl
theorem ch_lens (x3 x4 x5 x6 x7 x8 : Option Da) (o : Of) : lcL (lcF (gVar 14) [14] (e2 dLt (eVar 14) (e2 dSub (eVar 5) (eVar 1))) (eVar 14) [some (.tuple (nl B)), some (di e), x3, x4, x5, some (di o.1), some (di o.2), x6, none, none, none, none, none, none, none]) (nl B) = .ok (nl (B.filter fun b => decide (b + e < o.1))) ∧
    lcL (lcF (gVar 14) [14] (e2 dLe (eVar 14) (e2 dAdd (eVar 5) (eVar 1))) (eVar 14) [some (.tuple (nl B)), some (di e), x3, x4, x5, some (di o.1), some (di o.2), x7, x8, none, none, none, none, none, none]) (nl B) = .ok (nl (B.filter fun b => decide (b ≤ o.1 + e))) := by
  have a := fun (f : Da → R (Option Da)) (p : Nat → Bool) (w : ∀ x, x ∈ B → f (di x) = .ok (if p x then some (di x) else none)) => lc_nlF p (fun x => x) B w
  simp only [List.map_id'] at a
  refine ⟨a _ _ fun b _ => ?_, a _ _ fun b _ => ?_⟩
  · have sb := dSub_cast o.1 e
    have lt : dLt (di b) (.int ((o.1 : Int) - e)) = .ok (.bool (decide (b + e < o.1))) := by
      show R.ok (PyData.bool (decide ((b : Int) < (o.1 : Int) - e))) = _
      rw [show decide ((b : Int) < (o.1 : Int) - e) = decide (b + e < o.1) from decide_eq_decide.mpr (by omega)]
    by_cases q : b + e < o.1 <;> simp [lcF, sb, lt, q]
  · by_cases q : b ≤ o.1 + e <;> simp [lcF, dn, q]
theorem ch_step (hB : B.Pairwise (· ≤ ·)) (hO : Os O) (hc : ∀ j, j < B.length → ∃ o, o ∈ O ∧ ft B e o j = true) {t : Nat} (ht : t < O.length) {F : List En} (h : J B e O t F) : ∃ F', J B e O (t + 1) F' ∧ ((gTupD [(gVar 4), (gTupD [(gVar 5), (gVar 6)])] (.tuple [di t, ofD (oq O t)]) (chE B e O F)).bind fun ρ1 => l_chosen_of_0 ρ1) = .ok (.nx (chE B e O F')) := by
  obtain ⟨m0, hm0, k0, c0⟩ := h.from_ hB hO hc ht
  have b1 := (ch_lens (B := B) (e := e) (some (.tuple (O.map ofD))) (some (nD false eCl F)) (some (di t)) none none none (oq O t)).1
  have b2 := (ch_lens (B := B) (e := e) (some (.tuple (O.map ofD))) (some (nD false eCl F)) (some (di t)) none (some (di (fst_ B e (oq O t)))) none (oq O t)).2
  have l1 := dl.2.2.2.2.1 (B.filter fun b => decide (b + e < (oq O t).1))
  have l2 := dl.2.2.2.2.1 (B.filter fun b => decide (b ≤ (oq O t).1 + e))
  have lc : lcL (lcF (gTupD [(gVar 13), (gVar 12)]) [13, 12] (e2 dGe (eVar 13) (eVar 7)) (eVar 12) [some (.tuple (nl B)), some (di e), some (.tuple (O.map ofD)), some (nD true eCl F), some (di t), some (di (oq O t).1), some (di (oq O t).2), some (di (fst_ B e (oq O t))), some (di (bhd B e (oq O t))), none, none, none, none, none, none]) (F.map fun x => PyData.tuple [di x.1, eCl x.2]) = .ok (((F.filter fun x => decide (fst_ B e (oq O t) ≤ x.1)).map (·.2)).map eCl) := by
    rw [List.map_map]
    refine lcL_filter (fun x : En => PyData.tuple [di x.1, eCl x.2]) _ (fun x => eCl x.2) _ fun x _ => ?_
    by_cases q : fst_ B e (oq O t) ≤ x.1 <;> simp [lcF, dn, q]
  have mem : ∀ c, c ∈ (F.filter fun x => decide (fst_ B e (oq O t) ≤ x.1)).map (·.2) ↔ ∃ k, (k, c) ∈ F ∧ fst_ B e (oq O t) ≤ k := fun c => by
    constructor
    · intro hc
      obtain ⟨x, hx, rfl⟩ := List.mem_map.mp hc
      obtain ⟨h1, h2⟩ := List.mem_filter.mp hx
      exact ⟨x.1, h1, of_decide_eq_true h2⟩
    · rintro ⟨k, h1, h2⟩
      exact List.mem_map.mpr ⟨(k, c), List.mem_filter.mpr ⟨h1, decide_eq_true h2⟩, rfl⟩
  have it : itemsF (nD true eCl F) = .ok (F.map fun x => PyData.tuple [di x.1, eCl x.2]) := by
    unfold itemsF nD
    rw [asDT_dD, R.bind_ok, if_pos rfl, List.map_map]
    rfl
  have fz := frzD_n (e := eCl) (F := F)
  generalize hG : (F.filter fun x => decide (fst_ B e (oq O t) ≤ x.1)).map (·.2) = G at lc mem
  have in0 := (mem m0.2).mpr ⟨m0.1, hm0, k0⟩
  cases G with
  | nil => exact nomatch in0
  | cons z G =>
    have nod : noDR (.list ((z :: G).map eCl)) = .ok (.list ((z :: G).map eCl)) := by
      unfold noDR
      rw [noD_cls, if_pos rfl]
    have mn := minG_eCl z G
    obtain ⟨in1, le1⟩ := mnC_le G z
    obtain ⟨k, hk, hk2⟩ := (mem _).mp in1
    have c1 := le1 m0.2 in0
    generalize mnC z G = m at mn in1 le1 hk c1
    generalize hp : fst_ B e (oq O t) = a at *
    generalize hq : bhd B e (oq O t) = b at *
    have le : m.2.length ≤ t := by
      have := up_len m.2 0 t (h.up _ hk) fun i hi => ⟨Nat.zero_le _, h.lt _ hk i hi⟩
      omega
    have ad : dAdd (.tuple (nl m.2)) (.tuple [di t]) = .ok (.tuple (nl (m.2 ++ [t]))) := by
      rw [dAdd_tup _ _ (by simp; have := hO.len; unfold big; omega)]
      simp
    have pz : 1 ≤ (oq O t).2 := (hO.bd _ (oq_mem ht)).2.1
    have main : ∀ F', (∀ x6 x7 x8 x9 x10 : Option Da, (sIf (eOr (e2 (dDNotIn false) (eVar 8) (eVar 3)) (e2 dLtG (eVar 12) (e2 (dDGet false) (eVar 3) (eVar 8)))) (sPutD false 3 (eVar 8) (eVar 12)) sNx) [some (.tuple (nl B)), some (di e), some (.tuple (O.map ofD)), some (nD false eCl F), some (di t), x6, x7, x8, some (di b), x9, x10, some (.tuple (nl m.2)), some (eCl (m.1 + (oq O t).2, m.2 ++ [t])), none, none] = .ok (.nx [some (.tuple (nl B)), some (di e), some (.tuple (O.map ofD)), some (nD false eCl F'), some (di t), x6, x7, x8, some (di b), x9, x10, some (.tuple (nl m.2)), some (eCl (m.1 + (oq O t).2, m.2 ++ [t])), none, none])) →
        ((gTupD [(gVar 4), (gTupD [(gVar 5), (gVar 6)])] (.tuple [di t, ofD (oq O t)]) (chE B e O F)).bind fun ρ1 => l_chosen_of_0 ρ1) = .ok (.nx (chE B e O F')) := fun F' hF' => by
      have e1 : eCl m = .tuple [di m.1, .tuple (nl m.2)] := rfl
      have e2' : eCl (m.1 + (oq O t).2, m.2 ++ [t]) = .tuple [di (m.1 + (oq O t).2), .tuple (nl (m.2 ++ [t]))] := rfl
      have e3 : ofD (oq O t) = .tuple [di (oq O t).1, di (oq O t).2] := rfl
      have fl1 : (B.filter fun b => decide (b + e < (oq O t).1)).length = a := hp
      have fl2 : (B.filter fun b => decide (b ≤ (oq O t).1 + e)).length = b := hq
      rw [fl1] at l1
      rw [fl2] at l2
      rw [e2'] at hF'
      rw [e1] at mn
      unfold chE l_chosen_of_0
      rw [e3]
      generalize (F.map fun x => PyData.tuple [di x.1, eCl x.2]) = items at *
      generalize (B.filter fun b => decide (b + e < (oq O t).1)) = f1 at *
      generalize (B.filter fun b => decide (b ≤ (oq O t).1 + e)) = f2 at *
      have em : ((z :: G).map eCl).isEmpty = false := rfl
      generalize (z :: G).map eCl = lst at *
      generalize nD true eCl F = D1 at *
      generalize nD false eCl F = D0 at *
      generalize nD false eCl F' = D2 at *
      simp only [sIf, eOr, e2, eVar, sPutD] at hF'
      simp [eLc, b1, b2, l1, l2, fz, it, lc, nod, em, mn, ad, dn, -List.map_cons]
      try simp at hF'
      simp [hF']
    by_cases ex : b ∈ F.map (·.1)
    · obtain ⟨v, hv⟩ := key_val ex
      have gt := dDGet_n (fz := false) (e := eCl) h.nd hv
      have ni := dDNotIn_n (fz := false) (e := eCl) (F := F) b
      rw [decide_eq_true ex] at ni
      have cm := ltG_eCl (m.1 + (oq O t).2, m.2 ++ [t]) v
      have lv := ltC_le (x := (m.1 + (oq O t).2, m.2 ++ [t])) (y := v)
      cases w : ltC (m.1 + (oq O t).2, m.2 ++ [t]) v with
      | true =>
        rw [w] at cm
        have pu := putD_old (e := eCl) (v := (m.1 + (oq O t).2, m.2 ++ [t])) ex (by have := h.len; have := hO.len; unfold big; omega)
        have bz : b ≠ 0 := fun bz => by
          have := val_one h.nd hv (by rw [bz]; exact h.z)
          have l := lv.1 w
          rw [this] at l
          have l : m.1 + (oq O t).2 ≤ 0 := l
          omega
        have ks : (F.map fun x => if x.1 = b then (x.1, (m.1 + (oq O t).2, m.2 ++ [t])) else x).map (·.1) = F.map (·.1) := by
          rw [List.map_map]
          refine List.map_congr_left fun x _ => ?_
          show (if x.1 = b then (x.1, _) else x).1 = x.1
          split <;> rfl
        refine ⟨_, h.upd hB hk (by rw [hp]; exact hk2) (by rw [hp]; show m.1 ≤ _; omega) (F' := F.map fun x => if x.1 = b then (x.1, (m.1 + (oq O t).2, m.2 ++ [t])) else x) ?_ ?_ ?_ ?_ ?_ ?_, main _ fun x6 x7 x8 x9 x10 => ?_⟩
        · rw [ks]; exact h.nd
        · refine List.mem_map.mpr ⟨_, h.z, ?_⟩
          rw [if_neg (fun z => bz z.symm)]
        · intro x hx
          obtain ⟨y, hy, rfl⟩ := List.mem_map.mp hx
          by_cases s : y.1 = b
          · rw [if_pos s]
            exact .inr (by rw [hq, s])
          · rw [if_neg s]
            exact .inl hy
        · intro x hx
          refine ⟨_, List.mem_map.mpr ⟨x, hx, rfl⟩, ?_⟩
          by_cases s : x.1 = b
          · rw [if_pos s]
            refine ⟨rfl, ?_⟩
            have : v = x.2 := val_one h.nd hv (by rw [← s]; exact hx)
            rw [← this]
            exact lv.1 w
          · rw [if_neg s]
            exact ⟨rfl, Nat.le_refl _⟩
        · refine ⟨_, List.mem_map.mpr ⟨_, hv, rfl⟩, ?_⟩
          rw [if_pos rfl, hq]
          exact ⟨rfl, Nat.le_refl _⟩
        · rw [List.length_map]; have := h.len; omega
        · generalize nD false eCl F = D0 at *
          generalize nD false eCl (F.map _) = D2 at *
          generalize eCl (m.1 + (oq O t).2, m.2 ++ [t]) = c at *
          simp [ni, gt, cm, pu, updE]
      | false =>
        rw [w] at cm
        refine ⟨F, h.upd hB hk (by rw [hp]; exact hk2) (by rw [hp]; show m.1 ≤ _; omega) h.nd h.z (fun x hx => .inl hx) (fun x hx => ⟨x, hx, rfl, Nat.le_refl _⟩) ⟨_, hv, hq.symm, ?_⟩ (by have := h.len; omega), main _ fun x6 x7 x8 x9 x10 => ?_⟩
        · exact lv.2 w
        · generalize nD false eCl F = D0 at *
          generalize eCl (m.1 + (oq O t).2, m.2 ++ [t]) = c at *
          simp [ni, gt, cm]
    · have ni := dDNotIn_n (fz := false) (e := eCl) (F := F) b
      rw [decide_eq_false ex] at ni
      have pu := putD_n (e := eCl) (v := (m.1 + (oq O t).2, m.2 ++ [t])) ex (by have := h.len; have := hO.len; unfold big; omega)
      refine ⟨_, h.upd hB hk (by rw [hp]; exact hk2) (by rw [hp]; show m.1 ≤ _; omega) (F' := F ++ [(b, (m.1 + (oq O t).2, m.2 ++ [t]))]) ?_ (List.mem_append_left _ h.z) ?_ (fun x hx => ⟨x, List.mem_append_left _ hx, rfl, Nat.le_refl _⟩) ⟨_, List.mem_append_right _ (List.mem_singleton.mpr rfl), hq.symm, Nat.le_refl _⟩ ?_, main _ fun x6 x7 x8 x9 x10 => ?_⟩
      · rw [List.map_append]
        refine List.nodup_append.mpr ⟨h.nd, by simp, fun x hx y hy => ?_⟩
        have hy : y = b := by simpa using hy
        subst hy
        exact fun z => ex (z ▸ hx)
      · intro x hx
        rcases List.mem_append.mp hx with hx | hx
        · exact .inl hx
        · rw [List.mem_singleton] at hx
          exact .inr (by rw [hx, hq])
      · have := h.len
        simp
        omega
      · generalize nD false eCl F = D0 at *
        generalize nD false eCl (F ++ _) = D2 at *
        generalize eCl (m.1 + (oq O t).2, m.2 ++ [t]) = c at *
        simp [ni, pu, updE]
theorem chosen_of (hB : B.Pairwise (· ≤ ·)) (hO : Os O) (hc : ∀ j, j < B.length → ∃ o, o ∈ O ∧ ft B e o j = true) : ∃ L : List Nat, f_chosen_of [.tuple (nl B), di e, .tuple (O.map ofD)] = .ok (eCl (dd B e O B.length, L)) ∧ (∀ k, k ∈ L → k < O.length) ∧ L.Pairwise (· < ·) ∧ cst O L = dd B e O B.length ∧ ∀ j, j < B.length → ∃ k, k ∈ L ∧ ft B e (oq O k) j = true := by
  obtain ⟨F, hF, lp⟩ := forL_inv (g := gTupD [(gVar 4), (gTupD [(gVar 5), (gVar 6)])]) (body := l_chosen_of_0) (fun i => PyData.tuple [di i, ofD (oq O i)]) (chE B e O) (fun don F => J B e O don.length F) (List.range O.length) [] [(0, (0, []))] J.start (by
    rintro don x F ⟨rest, er⟩ hF
    obtain ⟨hx, hlt⟩ := range_split er
    rw [hx, List.length_append, List.length_singleton]
    exact ch_step hB hO hc hlt hF)
  have hF' : J B e O O.length F := by simpa using hF
  obtain ⟨x, hx, x1, x2⟩ := hF'.done hB hc
  obtain ⟨k, c, L⟩ := x
  have x1 : k = B.length := x1
  have x2 : c = dd B e O B.length := x2
  subst x1
  subst x2
  have gt := dDGet_n (fz := false) (e := eCl) hF'.nd hx
  have inn := dDIn_n (fz := false) (e := eCl) (F := F) B.length
  rw [decide_eq_true (List.mem_map.mpr ⟨_, hx, rfl⟩)] at inn
  refine ⟨L, ?_, hF'.lt _ hx, hF'.up _ hx, (hF'.co _ hx).symm, hF'.cov _ hx⟩
  have st : nD false eCl [(0, ((0, []) : Cl))] = dD false false [(di 0, .tuple [di 0, .tuple []])] := rfl
  unfold chE at lp
  rw [st] at lp
  have en := enum_of O
  have as : asM (dD false false [(di 0, .tuple [di 0, .tuple []])]) = .ok (dD false false [(di 0, .tuple [di 0, .tuple []])]) := rfl
  have ik : isKR false (di 0) = .ok () := rfl
  simp only [f_chosen_of, runDef_, b_chosen_of, int_lit]
  generalize nD false eCl F = D at *
  generalize eCl (dd B e O B.length, L) = c at *
  simp [as, ik, en, lp, dl, inn, gt]
end
end K83
set_option Elab.async false
set_option linter.all false
set_option maxRecDepth 10000
namespace K83
open PySem DL
theorem repD0 (k : Nat) (h : k ≤ 2000) : repD (.list [di 0]) (di k) = .ok (.list (nl (List.replicate k 0))) := by
  have c : ([di 0] : List Da).length * (k : Int).toNat ≤ big ∧ (k : Int).natAbs < 9223372036854775808 := by
    simp
    unfold big
    omega
  rw [show repD (.list [di 0]) (di k) = if ([di 0] : List Da).length * (k : Int).toNat ≤ big ∧ (k : Int).natAbs < 9223372036854775808 then .ok (.list (List.replicate (k : Int).toNat [di 0]).flatten) else .bad from rfl, if_pos c]
  congr 2
  have : (k : Int).toNat = k := by omega
  rw [this]
  clear c h this
  induction k with
  | zero => rfl
  | succ k ih => rw [List.replicate_succ, List.flatten_cons, ih, List.replicate_succ]; rfl
theorem setD_nl (l : List Nat) (k x : Nat) (h : k < l.length) : setD (di k) (di x) (.list (nl l)) = .ok (.list (nl (l.set k x))) := by
  have : ixD (nl l).length (k : Int) = some k := by
    unfold ixD
    rw [if_pos (by omega), if_pos (by rw [nl_length]; omega)]
    rfl
  simp only [setD, toI_di, R.bind_ok, this, oR_some, nl_set]
/-! dues read -/
section
variable {B : List Nat} {e : Nat} {O : List Of}
/-- a row of dues on the way -/
def pad (B : List Nat) (e : Nat) (O : List Of) (j : Nat) : List Nat := dus B e O j ++ List.replicate (B.length - j) 0
theorem pad_len {j : Nat} (h : j ≤ B.length) : (pad B e O j).length = B.length := by
  unfold pad
  rw [List.length_append, List.length_replicate, dus_len]
  omega
theorem pad_at {j i : Nat} (h : i < j) : (pad B e O j).getD i 0 = (dus B e O j).getD i 0 := by
  unfold pad
  rw [List.getD_eq_getElem?_getD, List.getElem?_append_left (by rw [dus_len]; exact h), ← List.getD_eq_getElem?_getD]
theorem pad_set {j : Nat} (h : j < B.length) : (pad B e O j).set j (mnL (rooms B e O (dus B e O j) j)) = pad B e O (j + 1) := by
  unfold pad
  obtain ⟨m, hm⟩ : ∃ m, B.length - j = m + 1 := ⟨B.length - j - 1, by omega⟩
  have : B.length - (j + 1) = m := by omega
  rw [this, hm, List.replicate_succ, List.set_append_right _ _ (by rw [dus_len]; exact Nat.le_refl _), dus_len, Nat.sub_self, dus, List.append_assoc]
  rfl
abbrev duE (B : List Nat) (e : Nat) (O : List Of) (Y : List Nat) (x4 x5 x6 : Option Da) : Ev := [some (.tuple (nl B)), some (di e), some (.tuple (O.map ofD)), some (.list (nl Y)), x4, x5, x6, none, none, none, none]
theorem du_in (hb : B.length ≤ 12) {j : Nat} (hj : j < B.length) {o : Of} (ho : o ∈ O) (R : List Nat) (hR : R.length < big) : ((gTupD [(gVar 7), (gVar 8)] (ofD o) (duE B e O (pad B e O j) (some (di j)) (some (di (B.getD j 0))) (some (.list (nl R))))).bind fun ρ1 => l_dues_of_0 ρ1) = .ok (.nx (duE B e O (pad B e O j) (some (di j)) (some (di (B.getD j 0))) (some (.list (nl (R ++ (if ft B e o j then [o.2 - tk B e (dus B e O j) o j] else []))))))) := by
  have ff : f_fits [di o.1, di (B.getD j 0), di e] = .ok (.bool (ft B e o j)) := fits _ _ _
  have e3 : ofD o = .tuple [di o.1, di o.2] := rfl
  have pl := pad_len (e := e) (O := O) (show j ≤ B.length by omega)
  have lc : lcL (lcF (gVar 10) [10] (eT (eA f_fits (aCons (eVar 7) (aCons (e2 dIx (eVar 0) (eVar 10)) (aCons (eVar 1) aNil))))) (e2 dIx (eVar 3) (eVar 10)) [some (.tuple (nl B)), some (di e), some (.tuple (O.map ofD)), some (.list (nl (pad B e O j))), some (di j), some (di (B.getD j 0)), some (.list (nl R)), some (di o.1), some (di o.2), none, none]) (nl (List.range j)) = .ok (nl (((List.range j).filter (ft B e o)).map fun i => (pad B e O j).getD i 0)) := lc_nlF _ _ _ fun i hi => by
    have hi := List.mem_range.mp hi
    have f2 : f_fits [di o.1, di (B.getD i 0), di e] = .ok (.bool (ft B e o i)) := fits _ _ _
    have i1 := dl.2.1 B i (by omega)
    have i2 := dl.1 (pad B e O j) i (by rw [pl]; omega)
    cases q : ft B e o i <;> rw [q] at f2 <;> simp [lcF, i1, i2, f2, -List.getD_eq_getElem?_getD]
  have tk1 : sumN (((List.range j).filter (ft B e o)).map fun i => (pad B e O j).getD i 0) = tk B e (dus B e O j) o j := tk_congr (Y := pad B e O j) o j fun i hi => pad_at hi
  have sm := dl.2.2.2.2.2.2.2.2.1 (((List.range j).filter (ft B e o)).map fun i => (pad B e O j).getD i 0)
  rw [tk1] at sm
  have ok := dus_ok (B := B) (e := e) j o ho
  have sb : dSub (di o.2) (di (tk B e (dus B e O j) o j)) = .ok (di (o.2 - tk B e (dus B e O j) o j)) := dSub_nat _ _ ok
  have rg : dRng 0 (j : Int) = .ok (nl (List.range j)) := rng_nl j (by unfold big; omega)
  rw [e3]
  unfold duE
  generalize pad B e O j = P at *
  generalize (((List.range j).filter (ft B e o)).map fun i => P.getD i 0) = S at *
  generalize tk B e (dus B e O j) o j = k at *
  generalize B.getD j 0 = b at *
  cases q : ft B e o j with
  | true =>
    rw [q] at ff
    simp [l_dues_of_0, ff, rg, eLc, lc, sm, sb, updE, hR]
  | false =>
    rw [q] at ff
    simp [l_dues_of_0, ff]
theorem du_rooms (Y : List Nat) (j : Nat) (don : List Of) (o : Of) : rooms B e (don ++ [o]) Y j = rooms B e don Y j ++ (if ft B e o j then [o.2 - tk B e Y o j] else []) := by
  unfold rooms
  rw [List.filter_append, List.map_append]
  congr 1
  cases q : ft B e o j <;> simp [q]
theorem du_step (hb : B.length ≤ 12) (hO : O.length ≤ 10) (hc : ∀ j, j < B.length → ∃ o, o ∈ O ∧ ft B e o j = true) {j : Nat} (hj : j < B.length) : ((gTupD [(gVar 4), (gVar 5)] (.tuple [di j, di (B.getD j 0)]) (duE B e O (pad B e O j) none none none)).bind fun ρ1 => l_dues_of_1 ρ1) = .ok (.nx (duE B e O (pad B e O (j + 1)) none none none)) := by
  obtain ⟨R, hR, lp⟩ := forL_inv (g := gTupD [(gVar 7), (gVar 8)]) (body := l_dues_of_0) ofD (fun R => duE B e O (pad B e O j) (some (di j)) (some (di (B.getD j 0))) (some (.list (nl R)))) (fun don R => R = rooms B e don (dus B e O j) j) O [] [] rfl (by
    rintro don o R ⟨rest, er⟩ rfl
    have er : O = don ++ o :: rest := er
    have ho : o ∈ O := by rw [er]; simp
    refine ⟨_, (du_rooms _ _ don o).symm, du_in hb hj ho _ ?_⟩
    unfold rooms
    rw [List.length_map]
    have := List.length_filter_le (fun o => ft B e o j) don
    have : don.length ≤ O.length := by rw [er]; simp
    unfold big
    omega)
  have hR : R = rooms B e O (dus B e O j) j := hR
  obtain ⟨o, ho, hf⟩ := hc j hj
  have ne : rooms B e O (dus B e O j) j ≠ [] := fun z => by
    have : o.2 - tk B e (dus B e O j) o j ∈ rooms B e O (dus B e O j) j := List.mem_map.mpr ⟨o, List.mem_filter.mpr ⟨ho, hf⟩, rfl⟩
    rw [z] at this
    exact nomatch this
  have ps := pad_set (e := e) (O := O) hj
  rw [← hR] at ne ps
  have mn : dMinL [.list (nl R)] = .ok (di (mnL R)) := by
    cases R with
    | nil => exact absurd rfl ne
    | cons x R => exact dMinL_nl x R
  have st := setD_nl (pad B e O j) j (mnL R) (by rw [pad_len (by omega)]; exact hj)
  rw [ps] at st
  have lp' : forL (gTupD [(gVar 7), (gVar 8)]) l_dues_of_0 (O.map ofD) [some (.tuple (nl B)), some (di e), some (.tuple (O.map ofD)), some (.list (nl (pad B e O j))), some (di j), some (di (B.getD j 0)), some (.list []), none, none, none, none] = .ok (.nx [some (.tuple (nl B)), some (di e), some (.tuple (O.map ofD)), some (.list (nl (pad B e O j))), some (di j), some (di (B.getD j 0)), some (.list (nl R)), none, none, none, none]) := lp
  clear lp
  unfold duE
  generalize pad B e O (j + 1) = P2 at *
  generalize pad B e O j = P at *
  generalize B.getD j 0 = b at *
  simp [l_dues_of_1, lp', mn, st, updE]
theorem dues_of (hb : B.length ≤ 12) (hO : O.length ≤ 10) (hc : ∀ j, j < B.length → ∃ o, o ∈ O ∧ ft B e o j = true) : f_dues_of [.tuple (nl B), di e, .tuple (O.map ofD)] = .ok (.list (nl (dus B e O B.length))) := by
  obtain ⟨Y, hY, lp⟩ := forL_inv (g := gTupD [(gVar 4), (gVar 5)]) (body := l_dues_of_1) (fun i => PyData.tuple [di i, di (B.getD i 0)]) (fun Y => duE B e O Y none none none) (fun don Y => Y = pad B e O don.length) (List.range B.length) [] _ rfl (by
    rintro don x Y ⟨rest, er⟩ rfl
    obtain ⟨hx, hlt⟩ := range_split er
    rw [hx, List.length_append, List.length_singleton]
    exact ⟨_, rfl, du_step hb hO hc hlt⟩)
  have hY : Y = dus B e O B.length := by
    rw [hY]
    simp [pad]
  have p0 : pad B e O ([] : List Nat).length = List.replicate B.length 0 := by simp [pad, dus]
  have en := enum_nl B
  have r0 := repD0 B.length (by omega)
  rw [p0] at lp
  unfold duE at lp
  rw [hY] at lp
  generalize List.replicate B.length 0 = z at *
  simp only [f_dues_of, runDef_, b_dues_of, int_lit]
  simp [dl, r0, en, lp, -List.getD_eq_getElem?_getD]
def bodyD (k : Nat) : Da := .tuple [.str "body", di k]
def lotD (L Y : List Nat) : Da := .tuple [.str "sizes", .tuple (nl L), .tuple (nl Y)]
/-- what is told -/
theorem size_bare (h : Bo B 12) (he : e ≤ 50) (hO : Os O) {k : Nat} {r : List Nat} (hk : bare B e O = k :: r) : f_size_best [.tuple (nl B), di e, .tuple (O.map ofD)] = .ok (bodyD k) ∧ f_size_least [.tuple (nl B), di e, .tuple (O.map ofD)] = .ok .none := by
  have nb := need_offers h he hO
  have bb := bare_body B e O
  rw [hk] at bb
  have bb : f_bare_body [.tuple (nl B), di e, .tuple (O.map ofD)] = .ok (di k) := bb
  have isn : isNone (di k) = false := rfl
  exact ⟨by simp [f_size_best, runDef_, b_size_best, nb, bb, isn, bodyD], by simp [f_size_least, runDef_, b_size_least, nb, bb, isn]⟩
theorem size_lot (h : Bo B 12) (he : e ≤ 50) (hO : Os O) (hk : bare B e O = []) : ∃ L : List Nat, f_size_best [.tuple (nl B), di e, .tuple (O.map ofD)] = .ok (lotD L (dus B e O B.length)) ∧ f_size_least [.tuple (nl B), di e, .tuple (O.map ofD)] = .ok (di (dd B e O B.length)) ∧ (∀ k, k ∈ L → k < O.length) ∧ L.Pairwise (· < ·) ∧ cst O L = dd B e O B.length ∧ ∀ j, j < B.length → ∃ k, k ∈ L ∧ ft B e (oq O k) j = true := by
  obtain ⟨L, hL, r⟩ := chosen_of h.srt hO (bare_nil hk)
  refine ⟨L, ?_, ?_, r⟩
  all_goals
    have nb := need_offers h he hO
    have bb := bare_body B e O
    rw [hk] at bb
    have bb : f_bare_body [.tuple (nl B), di e, .tuple (O.map ofD)] = .ok .none := bb
    have du := dues_of (e := e) h.len hO.len (bare_nil hk)
    have x0 : dIx (eCl (dd B e O B.length, L)) (di 0) = .ok (di (dd B e O B.length)) := rfl
    have x1 : dIx (eCl (dd B e O B.length, L)) (di 1) = .ok (.tuple (nl L)) := rfl
    generalize eCl (dd B e O B.length, L) = c at *
  · simp [f_size_best, runDef_, b_size_best, int_lit, nb, bb, hL, x1, du, lotD]
  · simp [f_size_least, runDef_, b_size_least, int_lit, nb, bb, hL, x0]
end
end K83
set_option Elab.async false
set_option linter.all false
set_option maxRecDepth 10000
namespace K83
open PySem DL
/-! judged -/
theorem isTy_ss (x : Str) : isTy .str (.str x) = true := rfl
section
variable {B : List Nat} {e : Nat} {O : List Of}
theorem cost_of {L : List Nat} (hL : ∀ k, k ∈ L → k < O.length) : f_cost_of [.tuple (O.map ofD), .tuple (nl L)] = .ok (di (cst O L)) := by
  have lc : lcL (lcF (gVar 2) [2] eYes (e2 dIx (e2 dIx (eVar 0) (eVar 2)) (eC (di 1))) [some (.tuple (O.map ofD)), some (.tuple (nl L)), none]) (nl L) = .ok (nl (L.map fun k => (oq O k).2)) := lc_nl _ L fun k hk => by
    simp [lcF, oIx O (hL k hk), of1]
  have sm := dl.2.2.2.2.2.2.2.2.1 (L.map fun k => (oq O k).2)
  have sm' : dSumL [.list (nl (L.map fun k => (oq O k).2))] = .ok (di (cst O L)) := sm
  simp [f_cost_of, runDef_, b_cost_of, int_lit, eLc, lc, sm']
def adj (B : List Nat) (e : Nat) (O : List Of) (Y : List Nat) : Bool := decide (Y.length = B.length) && ((Y.all fun y => decide (y ≤ 10000)) && O.all fun o => decide (tk B e Y o B.length ≤ o.2))
theorem is_tup (Y : List Nat) (n : Nat) : f_is_tuple_of [.tuple (nl Y), di n] = .ok (.bool (decide (Y.length = n))) := by
  simp [f_is_tuple_of, runDef_, b_is_tuple_of, dl, dn]
theorem are_dues (Y : List Nat) : f_are_dues [.tuple (nl B), di e, .tuple (O.map ofD), .tuple (nl Y)] = .ok (.bool (adj B e O Y)) := by
  have ln := dl.2.2.2.2.2.1 B
  have tu := is_tup Y B.length
  have l1 : lcL (lcF (gVar 6) [6] eYes (eA f_is_between (aCons (eVar 6) (aCons (eC (di 0)) (aCons (eC (di 10000)) aNil)))) [some (.tuple (nl B)), some (di e), some (.tuple (O.map ofD)), some (.tuple (nl Y)), none, none, none, none, none]) (nl Y) = .ok (bl (Y.map fun y => decide (y ≤ 10000))) := lc_nlB _ Y fun y _ => by
    simp [lcF, btwN]
  have d1 := dAll_b (Y.map fun y => decide (y ≤ 10000))
  rw [all_map_id] at d1
  by_cases q : Y.length = B.length
  · rw [decide_eq_true q] at tu
    cases q2 : Y.all fun y => decide (y ≤ 10000) with
    | false =>
      rw [q2] at d1
      have : adj B e O Y = false := by unfold adj; rw [q2]; simp
      rw [this]
      simp only [f_are_dues, runDef_, b_are_dues, int_lit]
      simp [ln, tu, eLc, l1, d1, -dAll_list]
    | true =>
      rw [q2] at d1
      have aj : adj B e O Y = O.all fun o => decide (tk B e Y o B.length ≤ o.2) := by unfold adj; rw [q2, decide_eq_true q]; simp
      rw [aj]
      have zp := zipD_nl B Y
      rw [q, Nat.min_self] at zp
      have l2 : lcL (lcF (gTupD [(gVar 4), (gVar 5)]) [4, 5] eYes (e2 dLe (eA dSumL (aCons (eLc (iZip (eVar 0) (eVar 3)) (gTupD [(gVar 7), (gVar 8)]) [7, 8] (eT (eA f_fits (aCons (eVar 4) (aCons (eVar 7) (aCons (eVar 1) aNil))))) (eVar 8)) aNil)) (eVar 5)) [some (.tuple (nl B)), some (di e), some (.tuple (O.map ofD)), some (.tuple (nl Y)), none, none, none, none, none]) (O.map ofD) = .ok (bl (O.map fun o => decide (tk B e Y o B.length ≤ o.2))) := lc_ofB _ O fun o _ => by
        have e3 : ofD o = .tuple [di o.1, di o.2] := rfl
        have l3 : lcL (lcF (gTupD [(gVar 7), (gVar 8)]) [7, 8] (eT (eA f_fits (aCons (eVar 4) (aCons (eVar 7) (aCons (eVar 1) aNil))))) (eVar 8) [some (.tuple (nl B)), some (di e), some (.tuple (O.map ofD)), some (.tuple (nl Y)), some (di o.1), some (di o.2), none, none, none]) ((List.range B.length).map fun k => PyData.tuple [di (B.getD k 0), di (Y.getD k 0)]) = .ok (nl (((List.range B.length).filter (ft B e o)).map fun i => Y.getD i 0)) := by
          have := lcL_filter (fun k => PyData.tuple [di (B.getD k 0), di (Y.getD k 0)]) (ft B e o) (fun i => di (Y.getD i 0)) (List.range B.length) (f := lcF (gTupD [(gVar 7), (gVar 8)]) [7, 8] (eT (eA f_fits (aCons (eVar 4) (aCons (eVar 7) (aCons (eVar 1) aNil))))) (eVar 8) [some (.tuple (nl B)), some (di e), some (.tuple (O.map ofD)), some (.tuple (nl Y)), some (di o.1), some (di o.2), none, none, none]) fun k _ => by
            have f2 : f_fits [di o.1, di (B.getD k 0), di e] = .ok (.bool (ft B e o k)) := fits _ _ _
            cases w : ft B e o k <;> rw [w] at f2 <;> simp [lcF, f2, -List.getD_eq_getElem?_getD]
          rw [this]
          unfold nl
          rw [List.map_map]
          rfl
        have sm : dSumL [.list (nl (((List.range B.length).filter (ft B e o)).map fun i => Y.getD i 0))] = .ok (di (tk B e Y o B.length)) := dl.2.2.2.2.2.2.2.2.1 _
        generalize (((List.range B.length).filter (ft B e o)).map fun i => Y.getD i 0) = S at *
        rw [e3]
        simp [lcF, zp, eLc, l3, sm, dn, -List.getD_eq_getElem?_getD]
      have d2 := dAll_b (O.map fun o => decide (tk B e Y o B.length ≤ o.2))
      rw [all_map_id] at d2
      simp only [f_are_dues, runDef_, b_are_dues, int_lit]
      simp [ln, tu, eLc, l1, d1, l2, d2, -dAll_list]
  · rw [decide_eq_false q] at tu
    have : adj B e O Y = false := by unfold adj; rw [decide_eq_false q]; rfl
    rw [this]
    simp [f_are_dues, runDef_, b_are_dues, ln, tu]
def cvr (B : List Nat) (e : Nat) (O : List Of) (L : List Nat) : Bool := B.all fun b => L.any fun k => fit (oq O k).1 b e
theorem best_body (h : Bo B 12) (he : e ≤ 50) (hO : Os O) (k : Nat) : f_is_size_best [.tuple (nl B), di e, .tuple (O.map ofD), bodyD k] = .ok (.bool (decide (k ∈ bare B e O))) := by
  have nb := need_offers h he hO
  have bt : f_is_between [di k, di 0, .int ((B.length : Int) - 1)] = .ok (.bool (decide (k < B.length))) := by
    have := is_between k 0 ((B.length : Int) - 1)
    have e1 : decide ((0 : Int) ≤ k) = true := decide_eq_true (by omega)
    have e2' : decide ((k : Int) ≤ (B.length : Int) - 1) = decide (k < B.length) := decide_eq_decide.mpr (by omega)
    rw [e1, e2', Bool.true_and] at this
    exact this
  have sb : dSub (di B.length) (di 1) = .ok (.int ((B.length : Int) - 1)) := rfl
  have ln := dl.2.2.2.2.2.1 B
  have l2 : dLen [bodyD k] = .ok (di 2) := rfl
  have x0 : dIx (bodyD k) (di 0) = .ok (.str "body") := rfl
  have x1 : dIx (bodyD k) (di 1) = .ok (di k) := rfl
  have isi : dIsi .tuple (bodyD k) = .ok (.bool true) := rfl
  have eqs : dEq (.str "body") (.str "body") = .ok (.bool true) := by rfl
  have mem : decide (k ∈ bare B e O) = (decide (k < B.length) && !O.any fun o => ft B e o k) := by
    unfold bare
    rw [show decide (k ∈ (List.range B.length).filter fun j => !O.any fun o => ft B e o j) = decide (k < B.length ∧ (!O.any fun o => ft B e o k) = true) from decide_eq_decide.mpr (by rw [List.mem_filter, List.mem_range])]
    cases O.any fun o => ft B e o k <;> simp
  rw [mem]
  generalize bodyD k = bd at *
  by_cases q : k < B.length
  · rw [decide_eq_true q] at bt ⊢
    have ix := dl.2.1 B k q
    have lc : lcL (lcF (gVar 6) [6] eYes (eA f_fits (aCons (e2 dIx (eVar 6) (eC (di 0))) (aCons (e2 dIx (eVar 0) (e2 dIx (eVar 3) (eC (di 1)))) (aCons (eVar 1) aNil)))) [some (.tuple (nl B)), some (di e), some (.tuple (O.map ofD)), some bd, some (.bool true), none, none]) (O.map ofD) = .ok (bl (O.map fun o => ft B e o k)) := lc_ofB _ O fun o _ => by
      have f2 : f_fits [di o.1, di (B.getD k 0), di e] = .ok (.bool (ft B e o k)) := fits _ _ _
      simp [lcF, of0, x1, ix, f2, -List.getD_eq_getElem?_getD]
    have d := dAny_b (O.map fun o => ft B e o k)
    rw [List.any_map] at d
    have d' : dAny [.list (bl (O.map fun o => ft B e o k))] = .ok (.bool (O.any fun o => ft B e o k)) := d
    generalize (O.any fun o => ft B e o k) = r at *
    generalize O.map ofD = od at *
    simp only [f_is_size_best, runDef_, b_is_size_best, int_lit]
    simp [isTy_ss, nb, isi, l2, x0, eqs, x1, dn, ln, sb, bt, eLc, lc, d', -dAny_list]
  · rw [decide_eq_false q] at bt ⊢
    generalize O.map ofD = od at *
    simp only [f_is_size_best, runDef_, b_is_size_best, int_lit]
    simp [isTy_ss, nb, isi, l2, x0, eqs, x1, dn, ln, sb, bt]
theorem best_lot (h : Bo B 12) (he : e ≤ 50) (hO : Os O) {L : List Nat} (hL : ∀ k, k ∈ L → k < O.length) (hr : L.Pairwise (· < ·)) (Y : List Nat) : f_is_size_best [.tuple (nl B), di e, .tuple (O.map ofD), lotD L Y] = .ok (.bool (cvr B e O L && (adj B e O Y && decide (cst O L = sumN Y)))) := by
  have nb := need_offers h he hO
  have lL : L.length ≤ big := by
    have := up_len L 0 O.length hr fun i hi => ⟨Nat.zero_le _, hL i hi⟩
    have := hO.len
    unfold big
    omega
  have lo := is_lot lL O.length
  rw [rising_pw hr, List.all_eq_true.mpr fun k hk => decide_eq_true (hL k hk)] at lo
  have lo : f_is_lot [.tuple (nl L), di O.length] = .ok (.bool true) := lo
  have ol := oLen O
  have l2 : dLen [lotD L Y] = .ok (di 3) := rfl
  have x0 : dIx (lotD L Y) (di 0) = .ok (.str "sizes") := rfl
  have x1 : dIx (lotD L Y) (di 1) = .ok (.tuple (nl L)) := rfl
  have x2 : dIx (lotD L Y) (di 2) = .ok (.tuple (nl Y)) := rfl
  have isi : dIsi .tuple (lotD L Y) = .ok (.bool true) := rfl
  have eqs : dEq (.str "sizes") (.str "body") = .ok (.bool false) := by rfl
  have nes : dNe (.str "sizes") (.str "sizes") = .ok (.bool false) := by rfl
  generalize lotD L Y = T at *
  have lc : lcL (lcF (gVar 5) [5] eYes (eA dAny (aCons (eLc (iL (e2 dIx (eVar 3) (eC (di 1)))) (gVar 6) [6] eYes (eA f_fits (aCons (e2 dIx (e2 dIx (eVar 2) (eVar 6)) (eC (di 0))) (aCons (eVar 5) (aCons (eVar 1) aNil))))) aNil)) [some (.tuple (nl B)), some (di e), some (.tuple (O.map ofD)), some T, none, none, none]) (nl B) = .ok (bl (B.map fun b => L.any fun k => fit (oq O k).1 b e)) := lc_nlB _ B fun b _ => by
    have l4 : lcL (lcF (gVar 6) [6] eYes (eA f_fits (aCons (e2 dIx (e2 dIx (eVar 2) (eVar 6)) (eC (di 0))) (aCons (eVar 5) (aCons (eVar 1) aNil)))) [some (.tuple (nl B)), some (di e), some (.tuple (O.map ofD)), some T, none, some (di b), none]) (nl L) = .ok (bl (L.map fun k => fit (oq O k).1 b e)) := lc_nlB _ L fun k hk => by
      simp [lcF, oIx O (hL k hk), of0, fits]
    have d := dAny_b (L.map fun k => fit (oq O k).1 b e)
    rw [List.any_map] at d
    have d' : dAny [.list (bl (L.map fun k => fit (oq O k).1 b e))] = .ok (.bool (L.any fun k => fit (oq O k).1 b e)) := d
    simp [lcF, x1, eLc, l4, d', -dAny_list]
  have d := dAll_b (B.map fun b => L.any fun k => fit (oq O k).1 b e)
  rw [all_map_id] at d
  have d : dAll [.list (bl (B.map fun b => L.any fun k => fit (oq O k).1 b e))] = .ok (.bool (cvr B e O L)) := d
  have ad := are_dues (B := B) (e := e) (O := O) Y
  have co := cost_of hL
  have sm := dl.2.2.2.2.2.2.2.2.2 Y
  generalize (B.map fun b => L.any fun k => fit (oq O k).1 b e) = cl at *
  generalize O.map ofD = od at *
  simp only [f_is_size_best, runDef_, b_is_size_best, int_lit]
  cases q : cvr B e O L with
  | false =>
    rw [q] at d
    simp [isTy_ss, nb, isi, l2, x0, x1, eqs, nes, dn, ol, lo, eLc, lc, d, -dAll_list]
  | true =>
    rw [q] at d
    cases q2 : adj B e O Y with
    | false =>
      rw [q2] at ad
      simp [isTy_ss, nb, isi, l2, x0, x1, x2, eqs, nes, dn, ol, lo, eLc, lc, d, ad, -dAll_list]
    | true =>
      rw [q2] at ad
      simp [isTy_ss, nb, isi, l2, x0, x1, x2, eqs, nes, dn, ol, lo, eLc, lc, d, ad, co, sm, -dAll_list]
theorem best_list (h : Bo B 12) (he : e ≤ 50) (hO : Os O) (ds : List Da) : f_is_size_best [.tuple (nl B), di e, .tuple (O.map ofD), .list ds] = .ok (.bool false) := by
  have nb := need_offers h he hO
  simp [f_is_size_best, runDef_, b_is_size_best, nb]
theorem best_none (h : Bo B 12) (he : e ≤ 50) (hO : Os O) : f_is_size_best [.tuple (nl B), di e, .tuple (O.map ofD), .none] = .ok (.bool false) := by
  have nb := need_offers h he hO
  simp [f_is_size_best, runDef_, b_is_size_best, nb]
/-! what is told is right -/
theorem cvr_of {L : List Nat} (hc : ∀ j, j < B.length → ∃ k, k ∈ L ∧ ft B e (oq O k) j = true) : cvr B e O L = true := by
  refine List.all_eq_true.mpr fun b hb => ?_
  obtain ⟨j, hj, rfl⟩ := List.mem_iff_getElem.mp hb
  obtain ⟨k, hk, hf⟩ := hc j hj
  refine List.any_eq_true.mpr ⟨k, hk, ?_⟩
  unfold ft at hf
  rwa [show B.getD j 0 = B[j] by simp [hj]] at hf
theorem cvr_at {L : List Nat} (h : cvr B e O L = true) : ∀ j, j < B.length → ∃ k, k ∈ L ∧ ft B e (oq O k) j = true := fun j hj => by
  obtain ⟨k, hk, hf⟩ := List.any_eq_true.mp (List.all_eq_true.mp h _ (List.getElem_mem hj))
  refine ⟨k, hk, ?_⟩
  unfold ft
  rwa [show B.getD j 0 = B[j] by simp [hj]]
theorem dus_sum : sumN (dus B e O B.length) = dd B e O B.length := by
  have := pre_len (dus B e O B.length)
  rw [dus_len] at this
  rw [← this]
  rfl
theorem dus_small (hO : Os O) : ∀ j y, y ∈ dus B e O j → y ≤ 100
  | 0, y, h => nomatch h
  | j + 1, y, h => by
    rcases List.mem_append.mp h with h | h
    · exact dus_small hO j y h
    · rw [List.mem_singleton] at h
      subst h
      by_cases q : rooms B e O (dus B e O j) j = []
      · rw [q]; exact Nat.zero_le _
      · obtain ⟨o, ho, eq⟩ := List.mem_map.mp (mnL_mem q)
        have eq : o.2 - tk B e (dus B e O j) o j = mnL (rooms B e O (dus B e O j) j) := eq
        have := hO.bd o (List.mem_filter.mp ho).1
        omega
theorem adj_dus (hO : Os O) : adj B e O (dus B e O B.length) = true := by
  unfold adj
  rw [decide_eq_true (dus_len _), List.all_eq_true.mpr fun y hy => decide_eq_true (by have := dus_small hO _ y hy; omega), List.all_eq_true.mpr fun o ho => decide_eq_true (dus_ok _ o ho)]
  rfl
/-- dues that do bound each lot that does -/
theorem adj_le {Y L : List Nat} (hL : ∀ k, k ∈ L → k < O.length) (hY : adj B e O Y = true) (hc : cvr B e O L = true) : sumN Y ≤ cst O L := by
  unfold adj at hY
  simp only [Bool.and_eq_true, decide_eq_true_eq] at hY
  obtain ⟨y1, _, y2⟩ := hY
  have w := weak (B := B) (e := e) Y (L.map (oq O)) B.length fun j hj => by
    obtain ⟨k, hk, f⟩ := cvr_at hc j hj
    exact ⟨_, List.mem_map.mpr ⟨k, hk, rfl⟩, f⟩
  have w2 : sumN ((L.map (oq O)).map fun o => tk B e Y o B.length) ≤ cst O L := by
    refine Nat.le_trans (sum_le (g := fun o => o.2) fun o ho => ?_) ?_
    · obtain ⟨k, hk, rfl⟩ := List.mem_map.mp ho
      exact of_decide_eq_true (List.all_eq_true.mp y2 _ (oq_mem (hL k hk)))
    · rw [List.map_map]
      exact Nat.le_refl _
  have := pre_len Y
  rw [y1] at this
  omega
theorem dd_least {L : List Nat} (hO : Os O) (hL : ∀ k, k ∈ L → k < O.length) (hc : cvr B e O L = true) : dd B e O B.length ≤ cst O L := by
  rw [← dus_sum]
  exact adj_le hL (adj_dus hO) hc
end
end K83
set_option Elab.async false
set_option linter.all false
set_option maxRecDepth 10000
namespace K83
open PySem DL
theorem law_bodies (c : Int) (most : Nat) (hm : most ≤ 12) : ∃ B e, Bo B most ∧ e ≤ 50 ∧ f__law_bodies [.int c, di most] = .ok (.tuple [.tuple (nl B), di e]) := by
  obtain ⟨ds, hd, _, hr⟩ := law_row c (most + 3) 1000 (by unfold big; omega) (by decide) (by decide)
  have hr' : f__law_row [.int c, di (most + 3), di 1000] = .ok (.list (nl ds)) := hr
  have lt := Nat.mod_lt (ds.getD 0 0) (show 0 < most + 1 by omega)
  obtain ⟨k, ek, hk⟩ : ∃ k, ds.getD 0 0 % (most + 1) = k ∧ k ≤ most := ⟨_, rfl, by omega⟩
  have l3 := Nat.mod_lt (ds.getD 1 0) (show 0 < 3 by omega)
  obtain ⟨j, ej, hj⟩ : ∃ j, ds.getD 1 0 % 3 = j ∧ j < 3 := ⟨_, rfl, l3⟩
  obtain ⟨top, et, ht0, ht⟩ : ∃ top, ([10, 60, 201] : List Nat).getD j 0 = top ∧ 0 < top ∧ top ≤ 201 := by
    obtain rfl | rfl | rfl : j = 0 ∨ j = 1 ∨ j = 2 := by omega
    all_goals exact ⟨_, rfl, by decide, by decide⟩
  obtain ⟨tp, ep, hp0, hp⟩ : ∃ top, ([4, 12, 51] : List Nat).getD j 0 = top ∧ 0 < top ∧ top ≤ 51 := by
    obtain rfl | rfl | rfl : j = 0 ∨ j = 1 ∨ j = 2 := by omega
    all_goals exact ⟨_, rfl, by decide, by decide⟩
  let g : Nat → Nat := fun k => ds.getD (3 + k) 0 % top
  have so := dSorted_di ((List.range k).map g)
  have so' : dSorted [.list (nl ((List.range k).map g))] = .ok (.list (nl (sortN ((List.range k).map g)))) := so
  have p := sortN_perm ((List.range k).map g)
  have bd : ∀ x, x ∈ sortN ((List.range k).map g) → x < top := fun x hx => by
    obtain ⟨y, _, rfl⟩ := List.mem_map.mp (p.mem_iff.mp hx)
    exact Nat.mod_lt _ ht0
  have lp := Nat.mod_lt (ds.getD 2 0) hp0
  refine ⟨sortN ((List.range k).map g), ds.getD 2 0 % tp, ⟨by rw [p.length_eq]; simpa using hk, fun x hx => by have := bd x hx; omega, sortN_sorted _⟩, by omega, ?_⟩
  have x0 := dl.1 ds 0 (by omega)
  have x1 := dl.1 ds 1 (by omega)
  have x2 := dl.1 ds 2 (by omega)
  have xa : dIx (.list [di 10, di 60, di 201]) (di j) = .ok (di top) := by rw [← et]; exact dl.1 [10, 60, 201] j hj
  have xb : dIx (.list [di 4, di 12, di 51]) (di j) = .ok (di tp) := by rw [← ep]; exact dl.1 [4, 12, 51] j hj
  have m0 : dMod (di (ds.getD 0 0)) (di (most + 1)) = .ok (di k) := by rw [dMod_nat _ _ (by omega), ek]
  have m1 : dMod (di (ds.getD 1 0)) (di 3) = .ok (di j) := by rw [dMod_nat _ _ (by omega), ej]
  have m2 : dMod (di (ds.getD 2 0)) (di tp) = .ok (di (ds.getD 2 0 % tp)) := dMod_nat _ _ hp0
  have rg := rng_nl k (by unfold big; omega)
  have lc : lcL (lcF (gVar 5) [5] eYes (e2 dMod (e2 dIx (eVar 2) (e2 dAdd (eC (di 3)) (eVar 5))) (eVar 3)) [some (.int c), some (di most), some (.list (nl ds)), some (di top), none, none]) (nl (List.range k)) = .ok (nl ((List.range k).map g)) := by
    refine lc_nl g _ fun x hx => ?_
    have := List.mem_range.mp hx
    have ix := dl.1 ds (3 + x) (by omega)
    have md := dMod_nat (ds.getD (3 + x) 0) top ht0
    simp [lcF, dn, ix, md, g, -List.getD_eq_getElem?_getD]
  simp [f__law_bodies, runDef_, b__law_bodies, int_lit, dn, hr', x0, x1, x2, m0, m1, m2, xa, xb, rg, eLc, lc, so', -List.getD_eq_getElem?_getD]
/-! offers drawn -/
theorem law_offers (c : Int) {top : Nat} (ht : top ≤ 250) : ∃ O, Os O ∧ f__law_offers [.int c, di top] = .ok (.tuple (O.map ofD)) := by
  obtain ⟨ds, hd, _, hr⟩ := law_row c 22 1000 (by unfold big; omega) (by decide) (by decide)
  have hr' : f__law_row [.int c, di 22, di 1000] = .ok (.list (nl ds)) := hr
  have l3 := Nat.mod_lt (ds.getD 1 0) (show 0 < 3 by omega)
  obtain ⟨j, ej, hj⟩ : ∃ j, ds.getD 1 0 % 3 = j ∧ j < 3 := ⟨_, rfl, l3⟩
  obtain ⟨pr, ep, hp0, hp⟩ : ∃ pr, ([3, 20, 100] : List Nat).getD j 0 = pr ∧ 0 < pr ∧ pr ≤ 100 := by
    obtain rfl | rfl | rfl : j = 0 ∨ j = 1 ∨ j = 2 := by omega
    all_goals exact ⟨_, rfl, by decide, by decide⟩
  have lk := Nat.mod_lt (ds.getD 0 0) (show 0 < 11 by omega)
  obtain ⟨n, en, hn⟩ : ∃ n, ds.getD 0 0 % 11 = n ∧ n ≤ 10 := ⟨_, rfl, by omega⟩
  have x0 := dl.1 ds 0 (by omega)
  have x1 := dl.1 ds 1 (by omega)
  have m0 : dMod (di (ds.getD 0 0)) (di 11) = .ok (di n) := by rw [dMod_nat _ _ (by omega), en]
  have m1 : dMod (di (ds.getD 1 0)) (di 3) = .ok (di j) := by rw [dMod_nat _ _ (by omega), ej]
  have xa : dIx (.list [di 3, di 20, di 100]) (di j) = .ok (di pr) := by rw [← ep]; exact dl.1 [3, 20, 100] j hj
  obtain ⟨F, hF, lp⟩ := forL_inv (g := gVar 4) (body := l__law_offers_0) di (fun F : List (Nat × Nat) => [none, some (di top), some (.list (nl ds)), some (nD false di F), none, none])
    (fun don F => F.length ≤ don.length ∧ (F.map (·.1)).Nodup ∧ ∀ x, x ∈ F → x.1 ≤ top ∧ 1 ≤ x.2 ∧ x.2 ≤ 100) (List.range n) [] [] ⟨Nat.le_refl _, List.nodup_nil, fun x hx => nomatch hx⟩ (by
    rintro don x F ⟨rest, er⟩ ⟨f1, f2, f3⟩
    obtain ⟨hx, hlt⟩ := range_split er
    rw [hx]
    have m2 : mulI (di 2) (di don.length) = .ok (di (2 * don.length)) := mulI_nat 2 _ (by omega)
    have i1 := dl.1 ds (2 + 2 * don.length) (by omega)
    have i2 := dl.1 ds (3 + 2 * don.length) (by omega)
    have q1 : dMod (di (ds.getD (2 + 2 * don.length) 0)) (di (top + 1)) = .ok (di (ds.getD (2 + 2 * don.length) 0 % (top + 1))) := dMod_nat _ _ (by omega)
    have q2 : dMod (di (ds.getD (3 + 2 * don.length) 0)) (di pr) = .ok (di (ds.getD (3 + 2 * don.length) 0 % pr)) := dMod_nat _ _ hp0
    have b1 := Nat.mod_lt (ds.getD (2 + 2 * don.length) 0) (show 0 < top + 1 by omega)
    have b2 := Nat.mod_lt (ds.getD (3 + 2 * don.length) 0) hp0
    generalize ds.getD (2 + 2 * don.length) 0 % (top + 1) = k at *
    generalize ds.getD (3 + 2 * don.length) 0 % pr = v at *
    have main : ∀ F', putD false (di k) (di (1 + v)) (nD false di F) = .ok (nD false di F') → ((gVar 4 (di don.length) [none, some (di top), some (.list (nl ds)), some (nD false di F), none, none]).bind fun ρ1 => l__law_offers_0 ρ1) = .ok (.nx [none, some (di top), some (.list (nl ds)), some (nD false di F'), none, none]) := fun F' hF' => by
      generalize nD false di F = D0 at *
      generalize nD false di F' = D1 at *
      simp [l__law_offers_0, int_lit, m2, dn, i1, i2, q1, q2, x1, m1, xa, hF', updE, -List.getD_eq_getElem?_getD]
    rw [List.length_append, List.length_singleton]
    by_cases ex : k ∈ F.map (·.1)
    · refine ⟨_, ⟨?_, ?_, ?_⟩, main _ (putD_old (e := di) (v := 1 + v) ex (by unfold big; omega))⟩
      · rw [List.length_map]; omega
      · rw [List.map_map]
        have : (F.map ((fun x => x.1) ∘ fun x => if x.1 = k then (x.1, 1 + v) else x)) = F.map (·.1) := List.map_congr_left fun x _ => by
          show (if x.1 = k then (x.1, _) else x).1 = x.1
          split <;> rfl
        rw [this]
        exact f2
      · intro x hx
        obtain ⟨y, hy, rfl⟩ := List.mem_map.mp hx
        have := f3 y hy
        split
        · exact ⟨this.1, by show 1 ≤ 1 + v; omega, by show 1 + v ≤ 100; omega⟩
        · exact this
    · refine ⟨_, ⟨?_, ?_, ?_⟩, main _ (putD_n (e := di) (v := 1 + v) ex (by unfold big; omega))⟩
      · simp; omega
      · rw [List.map_append]
        refine List.nodup_append.mpr ⟨f2, by simp, fun x hx y hy => ?_⟩
        have hy : y = k := by simpa using hy
        subst hy
        exact fun z => ex (z ▸ hx)
      · intro x hx
        rcases List.mem_append.mp hx with hx | hx
        · exact f3 x hx
        · rw [List.mem_singleton] at hx
          subst hx
          exact ⟨by show k ≤ top; omega, by show 1 ≤ 1 + v; omega, by show 1 + v ≤ 100; omega⟩)
  obtain ⟨f1, f2, f3⟩ := hF
  have f1 : F.length ≤ n := by simpa using f1
  have e0 : nD false di ([] : List (Nat × Nat)) = dD false false [] := rfl
  rw [e0] at lp
  have sk : dDSorted [nD false di F] = .ok (.list (nl (sortN (F.map (·.1))))) := by
    show (asDT false (dD false false (F.map fun x => (di x.1, di x.2)))).bind (fun z => if z.2.2.length < 64 then (intsD (z.2.2.map (·.1))).bind fun is => R.ok (PyData.list ((sortI is).map PyData.int)) else .bad) = _
    rw [asDT_dD, R.bind_ok, if_pos (by rw [List.length_map]; omega), List.map_map]
    have : F.map ((fun x : Da × Da => x.1) ∘ fun x : Nat × Nat => (di x.1, di x.2)) = nl (F.map (·.1)) := by
      unfold nl
      rw [List.map_map]
      rfl
    rw [this, ints_nl, R.bind_ok, sortI_cast, List.map_map]
    rfl
  have pm := sortN_perm (F.map (·.1))
  let val : Nat → Nat := fun k => ((F.find? fun x => decide (x.1 = k)).map (·.2)).getD 0
  have hv : ∀ k, k ∈ sortN (F.map (·.1)) → (k, val k) ∈ F := fun k hk => by
    obtain ⟨x, hx, ex⟩ := List.mem_map.mp (pm.mem_iff.mp hk)
    have hx : (k, x.2) ∈ F := by rw [← ex]; exact hx
    have := find_mem f2 hx
    show (k, ((F.find? fun x => decide (x.1 = k)).map (·.2)).getD 0) ∈ F
    rw [this]
    exact hx
  refine ⟨(sortN (F.map (·.1))).map fun k => (k, val k), ⟨?_, ?_, ?_⟩, ?_⟩
  · rw [List.length_map, pm.length_eq, List.length_map]; omega
  · intro o ho
    obtain ⟨k, hk, rfl⟩ := List.mem_map.mp ho
    have := f3 _ (hv k hk)
    exact ⟨Nat.le_trans this.1 ht, this.2⟩
  · exact List.pairwise_map.mpr (sortN_lt f2)
  · have lc : lcL (lcF (gVar 5) [5] eYes (eTup (aCons (eVar 5) (aCons (e2 (dDGet false) (eVar 3) (eVar 5)) aNil))) [none, some (di top), some (.list (nl ds)), some (nD false di F), none, none]) (nl (sortN (F.map (·.1)))) = .ok (((sortN (F.map (·.1))).map fun k => (k, val k)).map ofD) := by
      rw [List.map_map]
      refine lcL_map di _ _ fun k hk => ?_
      have := dDGet_n (fz := false) (e := di) f2 (hv k hk)
      generalize nD false di F = D at *
      simp [lcF, this, ofD]
    have rg : dRng 0 (n : Int) = .ok (nl (List.range n)) := rng_nl n (by unfold big; omega)
    have lp' : forL (gVar 4) l__law_offers_0 (nl (List.range n)) [none, some (di top), some (.list (nl ds)), some (dD false false []), none, none] = .ok (.nx [none, some (di top), some (.list (nl ds)), some (nD false di F), none, none]) := lp
    have am : asM (dD false false []) = .ok (dD false false []) := rfl
    generalize nD false di F = D at *
    generalize ((sortN (F.map (·.1))).map fun k => (k, val k)).map ofD = res at *
    generalize sortN (F.map (·.1)) = ks at *
    simp only [f__law_offers, runDef_, b__law_offers, int_lit]
    simp [hr', x0, m0, am, rg, lp', sk, eLc, lc, -List.getD_eq_getElem?_getD]
theorem maxD_nl : ∀ (l : List Nat) (x : Nat), PySem.W.maxD (di x) (nl l) = di (l.foldl max x)
  | [], x => rfl
  | y :: l, x => by
    show PySem.W.maxD (if PySem.W.dataLt (di x) (di y) then di y else di x) (nl l) = di (l.foldl max (max x y))
    rw [← maxD_nl l]
    have : PySem.W.dataLt (di x) (di y) = decide (x < y) := by
      show PySem.W.dataLt (.int x) (.int y) = _
      rw [PySem.W.dataLt_int]
      exact decide_eq_decide.mpr (by omega)
    rw [this]
    by_cases q : x < y
    · rw [decide_eq_true q, if_pos rfl, Nat.max_eq_right (by omega)]
    · rw [decide_eq_false q, if_neg Bool.false_ne_true, Nat.max_eq_left (by omega)]
theorem maxG_nl (x : Nat) (l : List Nat) : dMaxG [.tuple (nl (x :: l))] = .ok (di (l.foldl max x)) := by
  have a : alkB (nl (x :: l)) = true := alkB_map di 0 (by decide) (fun a b => by simp [di, PySem.W.alike]) (fun a => by simp [di, PyData.depth]) (fun a => by simp [di, PyData.canLay0]) (fun _ => rfl) (x :: l)
  show (if alkB (nl (x :: l)) then R.ok (PySem.W.maxD (di x) (nl l)) else .bad) = _
  rw [if_pos a, maxD_nl]
theorem max_app (l : List Nat) (y : Nat) (b : Nat) (h : ∀ x, x ∈ l → x ≤ b) (hy : y ≤ b) : ∃ t, t ≤ b ∧ dMaxG [.tuple (nl (l ++ [y]))] = .ok (di t) := by
  cases l with
  | nil => exact ⟨y, hy, maxG_nl y []⟩
  | cons x l =>
    refine ⟨_, ?_, maxG_nl x (l ++ [y])⟩
    refine foldl_max_leN _ _ _ (h x List.mem_cons_self) fun z hz => ?_
    rcases List.mem_append.mp hz with hz | hz
    · exact h z (List.mem_cons_of_mem _ hz)
    · rw [List.mem_singleton] at hz; omega
end K83
set_option Elab.async false
set_option linter.all false
set_option maxRecDepth 10000
namespace K83
open PySem DL
/-! cheapest and fewest: plain -/
section
variable {B : List Nat} {e : Nat} {O : List Of}
theorem dd_leX (X : List Of) (hX : ∀ o, o ∈ X → o ∈ O) (hc : ∀ j, j < B.length → ∃ o, o ∈ X ∧ ft B e o j = true) : dd B e O B.length ≤ sumN (X.map fun o => o.2) := by
  have w := weak (B := B) (e := e) (dus B e O B.length) X B.length hc
  have w2 := sum_le (X := X) (f := fun o => tk B e (dus B e O B.length) o B.length) (g := fun o => o.2) fun o ho => dus_ok B.length o (hX o ho)
  exact Nat.le_trans w w2
theorem sum_const {α : Type} {f : α → Nat} {p : Nat} : ∀ {l : List α}, (∀ x, x ∈ l → f x = p) → sumN (l.map f) = l.length * p
  | [], _ => by simp
  | x :: l, h => by
    rw [List.map_cons, sumN_cons, h x List.mem_cons_self, sum_const fun y hy => h y (List.mem_cons_of_mem _ hy), List.length_cons, Nat.succ_mul]
    omega
/-- offers at so many sizes, each at one price -/
def evO (E : List Nat) (p : Nat) : List Of := E.map fun s => (s, p)
theorem evO_at {E : List Nat} {p k : Nat} (h : k < E.length) : oq (evO E p) k = (E.getD k 0, p) := by
  rw [oq_at (by unfold evO; rw [List.length_map]; exact h)]
  simp [evO, h]
theorem ev_cov {E : List Nat} {p : Nat} (hE : ∀ s, s ∈ E ↔ ∃ b, b ∈ B ∧ s = b + e) : bare B e (evO E p) = [] := by
  refine List.filter_eq_nil_iff.mpr fun j hj => ?_
  have hj := List.mem_range.mp hj
  have : (evO E p).any (fun o => ft B e o j) = true := by
    refine List.any_eq_true.mpr ⟨(B[j] + e, p), List.mem_map.mpr ⟨_, (hE _).mpr ⟨B[j], List.getElem_mem hj, rfl⟩, rfl⟩, ?_⟩
    unfold ft
    rw [fit_iff]
    rw [show B.getD j 0 = B[j] by simp [hj]]
    exact ⟨Nat.le_refl _, by show B[j] ≤ B[j] + e + e; omega⟩
  rw [this]
  simp
theorem ev_dd {E : List Nat} {p : Nat} (hB : B.Pairwise (· ≤ ·)) (hp : 1 ≤ p) (hE : ∀ s, s ∈ E ↔ ∃ b, b ∈ B ∧ s = b + e) {L : List Nat} (hL : ∀ k, k ∈ L → k < (evO E p).length) (hc : cst (evO E p) L = dd B e (evO E p) B.length) (cov : ∀ j, j < B.length → ∃ k, k ∈ L ∧ ft B e (oq (evO E p) k) j = true) : L.length = cnt e B ∧ dd B e (evO E p) B.length = cnt e B * p := by
  have ln : (evO E p).length = E.length := by unfold evO; rw [List.length_map]
  have c1 : cst (evO E p) L = L.length * p := sum_const fun k hk => by rw [evO_at (by have := hL k hk; omega)]
  have c2 : cnt e B ≤ L.length := by
    have := cnt_le (e := e) (L := L.map fun k => (oq (evO E p) k).1) hB fun j hj => by
      obtain ⟨k, hk, f⟩ := cov j hj
      exact ⟨_, List.mem_map.mpr ⟨k, hk, rfl⟩, f⟩
    rwa [List.length_map] at this
  have c3 : dd B e (evO E p) B.length ≤ cnt e B * p := by
    have := dd_leX (B := B) (e := e) (O := evO E p) ((szs e B).map fun s => (s, p)) (fun o ho => by
      obtain ⟨s, hs, rfl⟩ := List.mem_map.mp ho
      refine List.mem_map.mpr ⟨s, (hE s).mpr ?_, rfl⟩
      obtain ⟨q, hq, rfl⟩ := List.mem_map.mp hs
      obtain ⟨h1, h2⟩ := pks_at e B _ q hq
      refine ⟨q.2, ?_, rfl⟩
      rw [h2]
      simp [h1]) fun j hj => by
      obtain ⟨s, hs, f⟩ := szs_fit e B j hj
      exact ⟨(s, p), List.mem_map.mpr ⟨s, hs, rfl⟩, f⟩
    rw [List.map_map] at this
    have c : sumN ((szs e B).map ((fun o : Of => o.2) ∘ fun s => (s, p))) = (szs e B).length * p := sum_const fun s _ => rfl
    rw [c, szs_len] at this
    exact this
  have c4 : L.length * p ≤ cnt e B * p := by omega
  have c5 : L.length ≤ cnt e B := Nat.le_of_mul_le_mul_right c4 hp
  have c6 : L.length = cnt e B := by omega
  exact ⟨c6, by rw [← hc, c1, c6]⟩
/-! prices in proportion -/
def sc (o : Of) : Of := (o.1, 3 * o.2)
theorem oq_sc {k : Nat} (h : k < O.length) : oq (O.map sc) k = sc (oq O k) := by
  rw [oq_at (by rw [List.length_map]; exact h), oq_at h]
  simp
theorem sum3 {α : Type} {f g : α → Nat} : ∀ {l : List α}, (∀ x, x ∈ l → f x = 3 * g x) → sumN (l.map f) = 3 * sumN (l.map g)
  | [], _ => rfl
  | x :: l, h => by
    rw [List.map_cons, List.map_cons, sumN_cons, sumN_cons, h x List.mem_cons_self, sum3 fun y hy => h y (List.mem_cons_of_mem _ hy)]
    omega
theorem cst_sc {L : List Nat} (h : ∀ k, k ∈ L → k < O.length) : cst (O.map sc) L = 3 * cst O L := sum3 fun k hk => by rw [oq_sc (h k hk)]; rfl
theorem any_sc (j : Nat) : (O.map sc).any (fun o => ft B e o j) = O.any fun o => ft B e o j := by
  rw [List.any_map]
  rfl
theorem bare_sc : bare B e (O.map sc) = bare B e O := by
  unfold bare
  refine List.filter_congr fun j _ => ?_
  rw [any_sc]
theorem tk_sc (Y : List Nat) (o : Of) : ∀ j, tk B e (Y.map (3 * ·)) o j = 3 * tk B e Y o j
  | 0 => rfl
  | j + 1 => by
    rw [tk_succ, tk_succ, tk_sc Y o j]
    have : (Y.map (3 * ·)).getD j 0 = 3 * Y.getD j 0 := by
      by_cases q : j < Y.length
      · simp [q]
      · simp [show Y.length ≤ j by omega]
    rw [this]
    cases ft B e o j <;> simp <;> omega
theorem Os.scale (h : Os O) (hp : ∀ o, o ∈ O → o.2 ≤ 33) : Os (O.map sc) :=
  ⟨by rw [List.length_map]; exact h.len, fun o ho => by
    obtain ⟨x, hx, rfl⟩ := List.mem_map.mp ho
    have := h.bd x hx
    have := hp x hx
    exact ⟨by show x.1 ≤ 250; omega, by show 1 ≤ 3 * x.2; omega, by show 3 * x.2 ≤ 100; omega⟩, List.pairwise_map.mpr h.srt⟩
theorem cvr_sc {L : List Nat} (hL : ∀ k, k ∈ L → k < O.length) : cvr B e (O.map sc) L = cvr B e O L := by
  unfold cvr
  congr 1
  funext b
  rw [Bool.eq_iff_iff, List.any_eq_true, List.any_eq_true]
  constructor
  all_goals
    rintro ⟨k, hk, f⟩
    refine ⟨k, hk, ?_⟩
    have := oq_sc (hL k hk)
    have : (oq (O.map sc) k).1 = (oq O k).1 := by rw [this]; rfl
    first
    | rw [this] at f; exact f
    | rw [this]; exact f
theorem dd_sc {L L' : List Nat} (hL : ∀ k, k ∈ L → k < O.length) (hc : cst O L = dd B e O B.length) (cov : ∀ j, j < B.length → ∃ k, k ∈ L ∧ ft B e (oq O k) j = true)
    (hL' : ∀ k, k ∈ L' → k < (O.map sc).length) (hc' : cst (O.map sc) L' = dd B e (O.map sc) B.length) (cov' : ∀ j, j < B.length → ∃ k, k ∈ L' ∧ ft B e (oq (O.map sc) k) j = true) : dd B e (O.map sc) B.length = 3 * dd B e O B.length := by
  have hL2 : ∀ k, k ∈ L' → k < O.length := fun k hk => by have := hL' k hk; rwa [List.length_map] at this
  have a := dd_leX (B := B) (e := e) (O := O.map sc) (L.map fun k => sc (oq O k)) (fun o ho => by
    obtain ⟨k, hk, rfl⟩ := List.mem_map.mp ho
    exact List.mem_map.mpr ⟨_, oq_mem (hL k hk), rfl⟩) fun j hj => by
    obtain ⟨k, hk, f⟩ := cov j hj
    exact ⟨_, List.mem_map.mpr ⟨k, hk, rfl⟩, f⟩
  rw [List.map_map] at a
  have a3 : sumN (L.map ((fun o : Of => o.2) ∘ fun k => sc (oq O k))) = 3 * sumN (L.map fun k => (oq O k).2) := sum3 fun k _ => rfl
  rw [a3] at a
  have b := dd_leX (B := B) (e := e) (O := O) (L'.map fun k => oq O k) (fun o ho => by
    obtain ⟨k, hk, rfl⟩ := List.mem_map.mp ho
    exact oq_mem (hL2 k hk)) fun j hj => by
    obtain ⟨k, hk, f⟩ := cov' j hj
    rw [oq_sc (hL2 k hk)] at f
    exact ⟨_, List.mem_map.mpr ⟨k, hk, rfl⟩, f⟩
  rw [List.map_map] at b
  have b : dd B e O B.length ≤ cst O L' := b
  have c := cst_sc hL2
  have a : dd B e (O.map sc) B.length ≤ 3 * cst O L := a
  omega
/-- the cheapest are no fewer than the fewest -/
theorem cnt_dd (hB : B.Pairwise (· ≤ ·)) (hO : Os O) {L : List Nat} (hL : ∀ k, k ∈ L → k < O.length) (cov : ∀ j, j < B.length → ∃ k, k ∈ L ∧ ft B e (oq O k) j = true) : cnt e B ≤ cst O L := by
  have c2 := cnt_le (e := e) (L := L.map fun k => (oq O k).1) hB fun j hj => by
    obtain ⟨k, hk, f⟩ := cov j hj
    exact ⟨_, List.mem_map.mpr ⟨k, hk, rfl⟩, f⟩
  rw [List.length_map] at c2
  have : sumN (L.map fun _ => 1) ≤ cst O L := sum_le fun k hk => (hO.bd _ (oq_mem (hL k hk))).2.1
  rw [sum_const (p := 1) fun _ _ => rfl] at this
  omega
theorem ft_more (o : Of) {j : Nat} (h : ft B e o j = true) : ft B (e + 1) o j = true := by
  unfold ft at *
  rw [fit_iff] at *
  omega
/-- more offers -/
theorem dd_sub {O' : List Of} (hs : ∀ o, o ∈ O' → o ∈ O) {L : List Nat} (hL : ∀ k, k ∈ L → k < O'.length) (hc : cst O' L = dd B e O' B.length) (cov : ∀ j, j < B.length → ∃ k, k ∈ L ∧ ft B e (oq O' k) j = true) : dd B e O B.length ≤ dd B e O' B.length := by
  have b := dd_leX (B := B) (e := e) (O := O) (L.map fun k => oq O' k) (fun o ho => by
    obtain ⟨k, hk, rfl⟩ := List.mem_map.mp ho
    exact hs _ (oq_mem (hL k hk))) fun j hj => by
    obtain ⟨k, hk, f⟩ := cov j hj
    exact ⟨_, List.mem_map.mpr ⟨k, hk, rfl⟩, f⟩
  rw [List.map_map] at b
  have b : dd B e O B.length ≤ cst O' L := b
  omega
theorem dd_ease {L : List Nat} (hL : ∀ k, k ∈ L → k < O.length) (hc : cst O L = dd B e O B.length) (cov : ∀ j, j < B.length → ∃ k, k ∈ L ∧ ft B e (oq O k) j = true) : dd B (e + 1) O B.length ≤ dd B e O B.length := by
  have b := dd_leX (B := B) (e := e + 1) (O := O) (L.map fun k => oq O k) (fun o ho => by
    obtain ⟨k, hk, rfl⟩ := List.mem_map.mp ho
    exact oq_mem (hL k hk)) fun j hj => by
    obtain ⟨k, hk, f⟩ := cov j hj
    exact ⟨_, List.mem_map.mpr ⟨k, hk, rfl⟩, ft_more _ f⟩
  rw [List.map_map] at b
  have b : dd B (e + 1) O B.length ≤ cst O L := b
  omega
theorem bare_more (h : bare B e O = []) : bare B (e + 1) O = [] := by
  refine List.filter_eq_nil_iff.mpr fun j hj => ?_
  obtain ⟨o, ho, f⟩ := bare_nil h j (List.mem_range.mp hj)
  rw [show (O.any fun o => ft B (e + 1) o j) = true from List.any_eq_true.mpr ⟨o, ho, ft_more o f⟩]
  simp
end
end K83
set_option Elab.async false
set_option linter.all false
set_option maxRecDepth 10000
namespace K83
open PySem DL
/-! the law's steps -/
theorem sorted_n {α : Type} {e : α → Da} {F : List (Nat × α)} (h : F.length < 64) : dDSorted [nD false e F] = .ok (.list (nl (sortN (F.map (·.1))))) := by
  show (asDT false (dD false false (F.map fun x => (di x.1, e x.2)))).bind (fun z => if z.2.2.length < 64 then (intsD (z.2.2.map (·.1))).bind fun is => R.ok (PyData.list ((sortI is).map PyData.int)) else .bad) = _
  rw [asDT_dD, R.bind_ok, if_pos (by rw [List.length_map]; omega), List.map_map]
  have : F.map ((fun x : Da × Da => x.1) ∘ fun x : Nat × α => (di x.1, e x.2)) = nl (F.map (·.1)) := by
    unfold nl
    rw [List.map_map]
    rfl
  rw [this, ints_nl, R.bind_ok, sortI_cast, List.map_map]
  rfl
def scr (ns : List Int) : Option Da := some (.list (il ns))
abbrev oD (O : List Of) : Da := .tuple (O.map ofD)
abbrev tB (l : List Nat) : Da := .tuple (nl l)
theorem part0 (ns : List Int) : ∃ B e, Bo B 12 ∧ B.length ≤ 8 ∧ e ≤ 50 ∧ t_law_0 [scr ns, none, none, none, none, none, none, none, none, none, none, none, none, none, none, none, none, none, none] = .ok (.nx [scr ns, some (tB B), some (di e), none, none, none, none, none, none, none, none, none, none, none, none, none, none, none, none]) := by
  obtain ⟨c0, hc0⟩ := law_at ns 0
  obtain ⟨B, e, hB, he, hb⟩ := law_bodies c0 8 (by decide)
  refine ⟨B, e, ⟨by have := hB.len; omega, hB.bd, hB.srt⟩, hB.len, he, ?_⟩
  simp [t_law_0, scr, int_lit, hc0, hb]
theorem part1 (ns : List Int) (B : List Nat) (e : Nat) : ∃ p, 1 ≤ p ∧ p ≤ 30 ∧ t_law_1 [scr ns, some (tB B), some (di e), none, none, none, none, none, none, none, none, none, none, none, none, none, none, none, none] = .ok (.nx [scr ns, some (tB B), some (di e), some (di p), none, none, none, none, none, none, none, none, none, none, none, none, none, none, none]) := by
  obtain ⟨c1, hc1⟩ := law_at ns 1
  obtain ⟨ks, hk, hkl, hkr⟩ := law_row c1 1 30 (by decide) (by decide) (by decide)
  have hkr' : f__law_row [.int c1, di 1, di 30] = .ok (.list (nl ks)) := hkr
  have k0 := dl.1 ks 0 (by omega)
  have kd : ks.getD 0 0 < 30 := hkl _ (by simp [hk])
  generalize ks.getD 0 0 = d at k0 kd
  refine ⟨1 + d, by omega, by omega, ?_⟩
  simp [t_law_1, scr, int_lit, hc1, hkr', k0, dn]
section
variable {B : List Nat} {e : Nat} {O : List Of}
abbrev E3 (ns : List Int) (B : List Nat) (e p : Nat) (x4 : Option Da) : Ev := [scr ns, some (tB B), some (di e), some (di p), x4, none, none, none, none, none, none, none, none, none, none, none, none, none, none]
theorem part3 (hb : B.length ≤ 8) (ns : List Int) (p : Nat) : ∃ F : List (Nat × Bool), F.length ≤ 8 ∧ (F.map (·.1)).Nodup ∧ (∀ s, s ∈ F.map (·.1) ↔ ∃ b, b ∈ B ∧ s = b + e) ∧ t_law_3 (E3 ns B e p (some (dD false false []))) = .ok (.nx (E3 ns B e p (some (nD false PyData.bool F)))) := by
  unfold E3
  generalize scr ns = sc0
  obtain ⟨F, hF, lp⟩ := forL_inv (g := gVar 5) (body := l_law_0) di (fun F : List (Nat × Bool) => [sc0, some (tB B), some (di e), some (di p), some (nD false PyData.bool F), none, none, none, none, none, none, none, none, none, none, none, none, none, none])
    (fun don F => F.length ≤ don.length ∧ (F.map (·.1)).Nodup ∧ ∀ s, s ∈ F.map (·.1) ↔ ∃ b, b ∈ don ∧ s = b + e) B [] [] ⟨Nat.le_refl _, List.nodup_nil, fun s => by simp⟩ (by
    rintro don x F ⟨rest, er⟩ ⟨f1, f2, f3⟩
    have er : B = don ++ x :: rest := er
    have dl8 : don.length < 8 := by have := congrArg List.length er; simp at this; omega
    have main : ∀ F', putD false (di (x + e)) (.bool true) (nD false PyData.bool F) = .ok (nD false PyData.bool F') → ((gVar 5 (di x) [sc0, some (tB B), some (di e), some (di p), some (nD false PyData.bool F), none, none, none, none, none, none, none, none, none, none, none, none, none, none]).bind fun ρ1 => l_law_0 ρ1) = .ok (.nx [sc0, some (tB B), some (di e), some (di p), some (nD false PyData.bool F'), none, none, none, none, none, none, none, none, none, none, none, none, none, none]) := fun F' hF' => by
      generalize nD false PyData.bool F = D0 at *
      generalize nD false PyData.bool F' = D1 at *
      simp [l_law_0, dn, hF', updE]
    rw [List.length_append, List.length_singleton]
    have bk : ∀ s, (∃ b, b ∈ don ++ [x] ∧ s = b + e) ↔ ((∃ b, b ∈ don ∧ s = b + e) ∨ s = x + e) := fun s => by
      constructor
      · rintro ⟨b, hb, rfl⟩
        rcases List.mem_append.mp hb with hb | hb
        · exact .inl ⟨b, hb, rfl⟩
        · rw [List.mem_singleton] at hb; subst hb; exact .inr rfl
      · rintro (⟨b, hb, rfl⟩ | rfl)
        · exact ⟨b, List.mem_append_left _ hb, rfl⟩
        · exact ⟨x, List.mem_append_right _ (List.mem_singleton.mpr rfl), rfl⟩
    by_cases ex : x + e ∈ F.map (·.1)
    · have ks : (F.map fun y => if y.1 = x + e then (y.1, true) else y).map (·.1) = F.map (·.1) := by
        rw [List.map_map]
        refine List.map_congr_left fun y _ => ?_
        show (if y.1 = x + e then (y.1, true) else y).1 = y.1
        split <;> rfl
      refine ⟨_, ⟨?_, ?_, fun s => ?_⟩, main _ (putD_old (e := PyData.bool) (v := true) ex (by unfold big; omega))⟩
      · rw [List.length_map]; omega
      · rw [ks]; exact f2
      · rw [ks, bk, ← f3]
        constructor
        · exact .inl
        · rintro (h | rfl)
          · exact h
          · exact ex
    · refine ⟨_, ⟨?_, ?_, fun s => ?_⟩, main _ (putD_n (e := PyData.bool) (v := true) ex (by unfold big; omega))⟩
      · simp; omega
      · rw [List.map_append]
        refine List.nodup_append.mpr ⟨f2, by simp, fun a ha y hy => ?_⟩
        have hy : y = x + e := by simpa using hy
        subst hy
        exact fun z => ex (z ▸ ha)
      · rw [List.map_append, List.mem_append, bk, f3]
        simp)
  obtain ⟨f1, f2, f3⟩ := hF
  refine ⟨F, by have f1 : F.length ≤ B.length := f1; omega, f2, f3, ?_⟩
  have lp' : forL (gVar 5) l_law_0 (nl B) [sc0, some (tB B), some (di e), some (di p), some (dD false false []), none, none, none, none, none, none, none, none, none, none, none, none, none, none] = .ok (.nx [sc0, some (tB B), some (di e), some (di p), some (nD false PyData.bool F), none, none, none, none, none, none, none, none, none, none, none, none, none, none]) := lp
  generalize nD false PyData.bool F = D1 at *
  simp [t_law_3, lp']
theorem part4 (ns : List Int) (p : Nat) {F : List (Nat × Bool)} (hF : F.length ≤ 8) : t_law_4 (E3 ns B e p (some (nD false PyData.bool F))) = .ok (.nx [scr ns, some (tB B), some (di e), some (di p), some (nD false PyData.bool F), none, some (oD (evO (sortN (F.map (·.1))) p)), none, none, none, none, none, none, none, none, none, none, none, none]) := by
  have sk := sorted_n (e := PyData.bool) (F := F) (by omega)
  unfold E3
  generalize scr ns = sc0
  generalize sortN (F.map (·.1)) = E at *
  generalize nD false PyData.bool F = D at *
  have lc : lcL (lcF (gVar 16) [16] eYes (eTup (aCons (eVar 16) (aCons (eVar 3) aNil))) [sc0, some (tB B), some (di e), some (di p), some D, none, none, none, none, none, none, none, none, none, none, none, none, none, none]) (nl E) = .ok ((evO E p).map ofD) := by
    unfold evO
    rw [List.map_map]
    exact lcL_map di _ E fun s _ => by simp [lcF, ofD]
  simp only [t_law_4]
  simp [sk, eLc, lc]
abbrev E8 (ns : List Int) (B : List Nat) (e p : Nat) (D : Da) (V : List Of) (x7 x8 x9 x10 x11 x12 : Option Da) : Ev := [scr ns, some (tB B), some (di e), some (di p), some D, none, some (oD V), x7, x8, x9, x10, x11, x12, none, none, none, none, none, none]
theorem part5 (h : Bo B 12) (he : e ≤ 50) (ns : List Int) (p : Nat) (D : Da) (V : List Of) : t_law_5 (E8 ns B e p D V none none none none none none) = .ok (.nx (E8 ns B e p D V (some (di (cnt e B))) none none none none none)) := by
  simp [t_law_5, size_fewest h he]
theorem mul_p {p : Nat} (hp : p ≤ 30) (c : Nat) : mulI (di c) (di p) = .ok (di (c * p)) := mulI_nat c p (by omega)
theorem part6 (ns : List Int) {p : Nat} (hp : p ≤ 30) (D : Da) (V : List Of) {d c : Nat} (hd : d = c * p) (sl : f_size_least [.tuple (nl B), di e, .tuple (V.map ofD)] = .ok (di d)) : t_law_6 (E8 ns B e p D V (some (di c)) none none none none none) = .ok (.nx (E8 ns B e p D V (some (di c)) none none none none none)) := by
  have m := mul_p hp c
  subst hd
  simp [t_law_6, sl, m, dn]
theorem part7 (ns : List Int) (p : Nat) (D : Da) (V : List Of) (c : Nat) {T : Da} (sb : f_size_best [.tuple (nl B), di e, .tuple (V.map ofD)] = .ok T) : t_law_7 (E8 ns B e p D V (some (di c)) none none none none none) = .ok (.nx (E8 ns B e p D V (some (di c)) (some T) none none none none)) := by
  simp [t_law_7, sb]
theorem lot0 (L Y : List Nat) : dIx (lotD L Y) (di 0) = .ok (.str "sizes") := rfl
theorem lot1 (L Y : List Nat) : dIx (lotD L Y) (di 1) = .ok (.tuple (nl L)) := rfl
theorem lot2 (L Y : List Nat) : dIx (lotD L Y) (di 2) = .ok (.tuple (nl Y)) := rfl
theorem nes : dNe (.str "sizes") (.str "sizes") = .ok (.bool false) := by rfl
theorem part8 (ns : List Int) {p : Nat} (hp : p ≤ 30) (D : Da) (V : List Of) {c : Nat} {L Y : List Nat} (hl : L.length = c) (hy : sumN Y = c * p) : t_law_8 (E8 ns B e p D V (some (di c)) (some (lotD L Y)) none none none none) = .ok (.nx (E8 ns B e p D V (some (di c)) (some (lotD L Y)) none none none none)) := by
  have m := mul_p hp c
  have x0 := lot0 L Y
  have x1 := lot1 L Y
  have x2 := lot2 L Y
  generalize lotD L Y = T at *
  have ll := dl.2.2.2.2.2.1 L
  rw [hl] at ll
  have sm := dl.2.2.2.2.2.2.2.2.2 Y
  rw [hy] at sm
  simp [t_law_8, int_lit, x0, x1, x2, nes, ll, sm, m, dn]
theorem part9 (h : Bo B 12) (ns : List Int) (p : Nat) (D : Da) (V : List Of) (c : Nat) (T : Da) : ∃ O, Os O ∧ t_law_9 (E8 ns B e p D V (some (di c)) (some T) none none none none) = .ok (.nx (E8 ns B e p D V (some (di c)) (some T) (some (oD O)) none none none)) := by
  obtain ⟨c1, hc1⟩ := law_at ns 2
  obtain ⟨t, ht, hm⟩ := max_app B 10 200 h.bd (by decide)
  obtain ⟨O, hO, ho⟩ := law_offers c1 (top := t) (by omega)
  have ad : dAdd (.tuple (nl B)) (.tuple [di 10]) = .ok (.tuple (nl (B ++ [10]))) := by
    rw [dAdd_tup _ _ (by have := h.len; simp; unfold big; omega)]
    simp
  refine ⟨O, hO, ?_⟩
  generalize nl (B ++ [10]) = z at *
  simp [t_law_9, scr, int_lit, hc1, ad, hm, ho]
def chp (o : Of) : Of := (o.1, 1 + o.2 % 20)
theorem Os.cheap (h : Os O) : Os (O.map chp) ∧ ∀ o, o ∈ O.map chp → o.2 ≤ 33 := by
  have b : ∀ o, o ∈ O.map chp → o.1 ≤ 250 ∧ 1 ≤ o.2 ∧ o.2 ≤ 20 := fun o ho => by
    obtain ⟨x, hx, rfl⟩ := List.mem_map.mp ho
    have := h.bd x hx
    have := Nat.mod_lt x.2 (show 0 < 20 by decide)
    exact ⟨by show x.1 ≤ 250; omega, by show 1 ≤ 1 + x.2 % 20; omega, by show 1 + x.2 % 20 ≤ 20; omega⟩
  exact ⟨⟨by rw [List.length_map]; exact h.len, fun o ho => by have := b o ho; omega, List.pairwise_map.mpr h.srt⟩, fun o ho => by have := b o ho; omega⟩
theorem lc_of {f : Da → R (Option Da)} (g : Of → Of) (l : List Of) (w : ∀ x, x ∈ l → f (ofD x) = .ok (some (ofD (g x)))) : lcL f (l.map ofD) = .ok ((l.map g).map ofD) := by
  rw [lcL_map ofD (fun x => ofD (g x)) l w, List.map_map]
  rfl
theorem part10 (ns : List Int) (p : Nat) (D : Da) (V : List Of) (c : Nat) (T : Da) : t_law_10 (E8 ns B e p D V (some (di c)) (some T) (some (oD O)) none none none) = .ok (.nx (E8 ns B e p D V (some (di c)) (some T) (some (oD O)) (some (oD (O.map chp))) none none)) := by
  unfold E8
  generalize scr ns = sc0
  have lc : lcL (lcF (gVar 17) [17] eYes (eTup (aCons (e2 dIx (eVar 17) (eC (di 0))) (aCons (e2 dAdd (eC (di 1)) (e2 dMod (e2 dIx (eVar 17) (eC (di 1))) (eC (di 20)))) aNil))) [sc0, some (tB B), some (di e), some (di p), some D, none, some (oD V), some (di c), some T, some (oD O), none, none, none, none, none, none, none, none, none]) (O.map ofD) = .ok ((O.map chp).map ofD) := lc_of chp O fun o _ => by
    have md : dMod (di o.2) (di 20) = .ok (di (o.2 % 20)) := dMod_nat _ _ (by decide)
    have x0 := of0 o
    have x1 := of1 o
    have e3 : ofD (chp o) = .tuple [di o.1, di (1 + o.2 % 20)] := rfl
    rw [e3]
    generalize ofD o = od at *
    simp [lcF, x0, x1, md, dn]
  simp only [t_law_10, int_lit]
  simp [eLc, lc, -List.map_map]
theorem part11 (ns : List Int) (p : Nat) (D : Da) (V C : List Of) (c : Nat) (T x9 : Option Da) {r : Da} (sl : f_size_least [.tuple (nl B), di e, .tuple (C.map ofD)] = .ok r) : t_law_11 (E8 ns B e p D V (some (di c)) T x9 (some (oD C)) none none) = .ok (.nx (E8 ns B e p D V (some (di c)) T x9 (some (oD C)) (some r) none)) := by
  simp [t_law_11, sl]
theorem part12 (ns : List Int) (p : Nat) (D : Da) (V C : List Of) (c : Nat) (T x9 x11 : Option Da) : t_law_12 (E8 ns B e p D V (some (di c)) T x9 (some (oD C)) x11 none) = .ok (.nx (E8 ns B e p D V (some (di c)) T x9 (some (oD C)) x11 (some (oD (C.map sc))))) := by
  unfold E8
  generalize scr ns = sc0
  have lc : lcL (lcF (gVar 17) [17] eYes (eTup (aCons (e2 dIx (eVar 17) (eC (di 0))) (aCons (e2 mulI (eC (di 3)) (e2 dIx (eVar 17) (eC (di 1)))) aNil))) [sc0, some (tB B), some (di e), some (di p), some D, none, some (oD V), some (di c), T, x9, some (oD C), x11, none, none, none, none, none, none, none]) (C.map ofD) = .ok ((C.map sc).map ofD) := lc_of sc C fun o _ => by
    have m : mulI (di 3) (di o.2) = .ok (di (3 * o.2)) := mulI_sl 3 o.2 (by decide) (by decide)
    have x0 := of0 o
    have x1 := of1 o
    have e3 : ofD (sc o) = .tuple [di o.1, di (3 * o.2)] := rfl
    rw [e3]
    generalize ofD o = od at *
    simp [lcF, x0, x1, m]
  simp only [t_law_12, int_lit]
  simp [eLc, lc, -List.map_map]
theorem mul3 (n : Nat) : mulI (di 3) (di n) = .ok (di (3 * n)) := mulI_sl 3 n (by decide) (by decide)
theorem part13_some (ns : List Int) (p : Nat) (D : Da) (V C G : List Of) (c d : Nat) (T x9 : Option Da) (sl : f_size_least [.tuple (nl B), di e, .tuple (G.map ofD)] = .ok (di (3 * d))) : t_law_13 (E8 ns B e p D V (some (di c)) T x9 (some (oD C)) (some (di d)) (some (oD G))) = .ok (.nx (E8 ns B e p D V (some (di c)) T x9 (some (oD C)) (some (di d)) (some (oD G)))) := by
  have isn : isNone (di d) = false := rfl
  simp [t_law_13, int_lit, sl, isn, mul3, dn]
theorem part13_none (ns : List Int) (p : Nat) (D : Da) (V C G : List Of) (c : Nat) (T x9 : Option Da) (sl : f_size_least [.tuple (nl B), di e, .tuple (G.map ofD)] = .ok .none) : t_law_13 (E8 ns B e p D V (some (di c)) T x9 (some (oD C)) (some .none) (some (oD G))) = .ok (.nx (E8 ns B e p D V (some (di c)) T x9 (some (oD C)) (some .none) (some (oD G)))) := by
  have ne : dNe .none .none = .ok (.bool false) := rfl
  simp [t_law_13, int_lit, sl, ne]
theorem part14_none (ns : List Int) (p : Nat) (D : Da) (V C G : List Of) (c : Nat) (T x9 : Option Da) : t_law_14 (E8 ns B e p D V (some (di c)) T x9 (some (oD C)) (some .none) (some (oD G))) = .ok (.nx (E8 ns B e p D V (some (di c)) T x9 (some (oD C)) (some .none) (some (oD G)))) := by
  simp [t_law_14]
theorem part15_none (ns : List Int) (p : Nat) (D : Da) (V C G : List Of) (c : Nat) (T x9 : Option Da) : t_law_15 (E8 ns B e p D V (some (di c)) T x9 (some (oD C)) (some .none) (some (oD G))) = .ok (.rt (.bool true)) := by
  simp [t_law_15]
end
end K83
set_option Elab.async false
set_option linter.all false
set_option maxRecDepth 10000
namespace K83
open PySem DL
section
variable {B : List Nat} {e : Nat} {O : List Of}
/-- a paper tells as much for prices in proportion -/
theorem adj_sc (hO : Os O) (hs : ∀ o, o ∈ O → o.2 ≤ 33) : adj B e (O.map sc) ((dus B e O B.length).map (3 * ·)) = true := by
  unfold adj
  rw [decide_eq_true (by rw [List.length_map, dus_len]), List.all_eq_true.mpr fun y hy => decide_eq_true (by
    obtain ⟨x, hx, rfl⟩ := List.mem_map.mp hy
    have := dus_small hO _ x hx
    show 3 * x ≤ 10000
    omega), List.all_eq_true.mpr fun o ho => decide_eq_true (by
    obtain ⟨x, hx, rfl⟩ := List.mem_map.mp ho
    have := dus_ok (B := B) (e := e) (O := O) B.length x hx
    have t : tk B e ((dus B e O B.length).map (3 * ·)) (sc x) B.length = tk B e ((dus B e O B.length).map (3 * ·)) x B.length := rfl
    rw [t, tk_sc]
    show 3 * _ ≤ 3 * x.2
    omega)]
  rfl
theorem sum_3 (Y : List Nat) : sumN (Y.map (3 * ·)) = 3 * sumN Y := by
  have := sum3 (f := (3 * ·)) (g := fun y : Nat => y) (l := Y) fun _ _ => rfl
  rw [List.map_id'] at this
  exact this
/-- one offer less -/
theorem Os.less (h : Os O) (k : Nat) : Os (O.take k ++ O.drop (k + 1)) ∧ ∀ o, o ∈ O.take k ++ O.drop (k + 1) → o ∈ O := by
  rw [← List.eraseIdx_eq_take_drop_succ]
  have sub := List.eraseIdx_sublist O k
  exact ⟨⟨Nat.le_trans sub.length_le h.len, fun o ho => h.bd o (sub.mem ho), h.srt.sublist sub⟩, fun o ho => sub.mem ho⟩
abbrev E14 (B : List Nat) (e : Nat) (C : List Of) (c d : Nat) (x13 : Option Da) : Ev := [none, some (tB B), some (di e), none, none, none, none, some (di c), none, none, some (oD C), some (di d), none, none, none, none, none, none, none]
theorem in14 (h : Bo B 12) (he : e ≤ 50) (hO : Os O) (c : Nat) {k : Nat} (hk : k < O.length) : ((gVar 14 (di k) (E14 B e O c (dd B e O B.length) none)).bind fun ρ1 => l_law_1 ρ1) = .ok (.nx (E14 B e O c (dd B e O B.length) none)) := by
  obtain ⟨hO', sub⟩ := hO.less k
  have s1 : dSl none (some (k : Int)) (.tuple (O.map ofD)) = .ok (.tuple ((O.take k).map ofD)) := by
    rw [dSl_tuple, cutD_to, List.map_take]
  have s2 : dSl (some ((k : Int) + 1)) none (.tuple (O.map ofD)) = .ok (.tuple ((O.drop (k + 1)).map ofD)) := by
    have : ((k : Int) + 1) = ((k + 1 : Nat) : Int) := by omega
    rw [this, dSl_tuple, cutD_from, List.map_drop]
  have ad : dAdd (.tuple ((O.take k).map ofD)) (.tuple ((O.drop (k + 1)).map ofD)) = .ok (oD (O.take k ++ O.drop (k + 1))) := by
    rw [dAdd_tup _ _ (by simp; have := hO.len; unfold big; omega), ← List.map_append]
  generalize O.take k ++ O.drop (k + 1) = P at *
  generalize (O.take k).map ofD = t1 at *
  generalize (O.drop (k + 1)).map ofD = t2 at *
  cases q : bare B e P with
  | cons x r =>
    obtain ⟨_, sl⟩ := size_bare h he hO' q
    unfold E14 oD
    unfold oD at ad
    generalize O.map ofD = od at *
    simp only [l_law_1, int_lit]
    simp [dn, s1, s2, ad, sl]
  | nil =>
    obtain ⟨L, _, sl, hL, pL, hc, cov⟩ := size_lot h he hO' q
    have le := dd_sub (O := O) sub hL hc cov
    have nlt : ¬ dd B e P B.length < dd B e O B.length := by omega
    have isn : isNone (di (dd B e P B.length)) = false := rfl
    unfold E14 oD
    unfold oD at ad
    generalize O.map ofD = od at *
    simp only [l_law_1, int_lit]
    simp [dn, s1, s2, ad, sl, isn, nlt]
theorem part14 (h : Bo B 12) (he : e ≤ 50) (hO : Os O) (hs : ∀ o, o ∈ O → o.2 ≤ 33) (hk : bare B e O = []) {L : List Nat} (sb : f_size_best [.tuple (nl B), di e, .tuple (O.map ofD)] = .ok (lotD L (dus B e O B.length))) (hL : ∀ k, k ∈ L → k < O.length) (pL : L.Pairwise (· < ·)) (hc : cst O L = dd B e O B.length) (cov : ∀ j, j < B.length → ∃ k, k ∈ L ∧ ft B e (oq O k) j = true)
    (ns : List Int) (p : Nat) (D : Da) (V : List Of) (c : Nat) (T x9 : Option Da) : t_law_14 (E8 ns B e p D V (some (di c)) T x9 (some (oD O)) (some (di (dd B e O B.length))) (some (oD (O.map sc)))) = .ok (.nx (E14 B e O c (dd B e O B.length) none)) := by
  have jd := best_lot h he (hO.scale hs) (L := L) (by rw [List.length_map]; exact hL) pL ((dus B e O B.length).map (3 * ·))
  rw [cvr_sc hL, cvr_of cov, adj_sc hO hs, cst_sc hL, hc, sum_3, dus_sum, decide_eq_true rfl] at jd
  have jd : f_is_size_best [.tuple (nl B), di e, oD (O.map sc), .tuple [.str "sizes", .tuple (nl L), .tuple (nl ((dus B e O B.length).map (3 * ·)))]] = .ok (.bool true) := jd
  have x1 := lot1 L (dus B e O B.length)
  have x2 := lot2 L (dus B e O B.length)
  have isn : isNone (di (dd B e O B.length)) = false := rfl
  have ol := oLen O
  have rg : dRng 0 (O.length : Int) = .ok (nl (List.range O.length)) := rng_nl _ (by have := hO.len; unfold big; omega)
  have lp := forL_same di (g := gVar 14) (body := l_law_1) (ρ := E14 B e O c (dd B e O B.length) none) (List.range O.length) fun k hk => in14 h he hO c (List.mem_range.mp hk)
  have lp' : forL (gVar 14) l_law_1 (nl (List.range O.length)) (E14 B e O c (dd B e O B.length) none) = .ok (.nx (E14 B e O c (dd B e O B.length) none)) := lp
  have more : e < 50 → f_size_least [.tuple (nl B), di (e + 1), .tuple (O.map ofD)] = .ok (di (dd B (e + 1) O B.length)) := fun he' => by
    obtain ⟨_, _, sl, _⟩ := size_lot h (show e + 1 ≤ 50 by omega) hO (bare_more hk)
    exact sl
  have le := dd_ease hL hc cov
  have nlt : ¬ dd B e O B.length < dd B (e + 1) O B.length := by omega
  unfold E8
  generalize scr ns = sc0
  generalize dus B e O B.length = Y at *
  generalize lotD L Y = TT at *
  have lc : lcL (lcF (gVar 18) [18] eYes (e2 mulI (eC (di 3)) (eVar 18)) [sc0, some (tB B), some (di e), some (di p), some D, none, some (oD V), some (di c), T, x9, some (oD O), some (di (dd B e O B.length)), some (oD (O.map sc)), some TT, none, none, none, none, none]) (nl Y) = .ok (nl (Y.map (3 * ·))) := lc_nl _ Y fun y _ => by
    simp [lcF, mul3]
  unfold E14 at lp' ⊢
  generalize nl (Y.map (3 * ·)) = Y3 at *
  generalize dd B e O B.length = d at *
  generalize oD (O.map sc) = G at *
  unfold oD at lc lp' ⊢
  generalize (O.map ofD) = od at *
  simp only [t_law_14, int_lit]
  by_cases q : e < 50
  · simp [isn, sb, x1, x2, eLc, lc, jd, dn, q, more q, nlt, ol, rg, lp']
  · simp [isn, sb, x1, x2, eLc, lc, jd, dn, q, ol, rg, lp']
theorem part15 (c d : Nat) (hd : c ≤ d) : t_law_15 (E14 B e O c d none) = .ok (.rt (.bool true)) := by
  have isn : isNone (di d) = false := rfl
  simp [t_law_15, isn, dn, hd]
end
theorem law (ns : List Int) (hns : ns.length ≤ 63) : f_law [.list (ns.map PyData.int)] = .ok (.bool true) := by
  obtain ⟨B, e, h, hb, he, q0⟩ := part0 ns
  obtain ⟨p, hp1, hp2, q1⟩ := part1 ns B e
  have q2 : sOwnD 4 (eC (dD false false [])) (E3 ns B e p none) = .ok (.nx (E3 ns B e p (some (dD false false [])))) := by
    have am : asM (dD false false []) = .ok (dD false false []) := rfl
    simp [am]
  obtain ⟨F, hF, nd, mem, q3⟩ := part3 (e := e) hb ns p
  have q4 := part4 (B := B) (e := e) ns p hF
  have pm := sortN_perm (F.map (·.1))
  have lt := sortN_lt nd
  have len : (sortN (F.map (·.1))).length ≤ 8 := by rw [pm.length_eq, List.length_map]; exact hF
  have memE : ∀ s, s ∈ sortN (F.map (·.1)) ↔ ∃ b, b ∈ B ∧ s = b + e := fun s => by rw [pm.mem_iff]; exact mem s
  generalize sortN (F.map (·.1)) = E at *
  have hV : Os (evO E p) := ⟨by unfold evO; rw [List.length_map]; omega, fun o ho => by
    obtain ⟨s, hs, rfl⟩ := List.mem_map.mp ho
    obtain ⟨b, hb, rfl⟩ := (memE s).mp hs
    have := h.bd b hb
    exact ⟨by show b + e ≤ 250; omega, hp1, by show p ≤ 100; omega⟩, List.pairwise_map.mpr lt⟩
  have bV := ev_cov (B := B) (e := e) (p := p) memE
  obtain ⟨LV, sbV, slV, hLV, _, hcV, covV⟩ := size_lot h he hV bV
  obtain ⟨lnV, ddV⟩ := ev_dd h.srt hp1 memE hLV hcV covV
  have q6 := part6 (B := B) (e := e) ns hp2 (nD false PyData.bool F) (evO E p) ddV slV
  have q8 := part8 (B := B) (e := e) ns hp2 (nD false PyData.bool F) (evO E p) (Y := dus B e (evO E p) B.length) lnV (dus_sum.trans ddV)
  obtain ⟨O, hO, q9⟩ := part9 (e := e) h ns p (nD false PyData.bool F) (evO E p) (cnt e B) (lotD LV (dus B e (evO E p) B.length))
  obtain ⟨hC, hs⟩ := hO.cheap
  refine run_rt ?_
  show b_law [scr ns, none, none, none, none, none, none, none, none, none, none, none, none, none, none, none, none, none, none] = _
  unfold b_law
  cases hk : bare B e (O.map chp) with
  | cons k r =>
    obtain ⟨_, sl⟩ := size_bare h he hC hk
    obtain ⟨_, sg⟩ := size_bare (k := k) (r := r) h he (hC.scale hs) (by rw [bare_sc]; exact hk)
    exact seq_nx q0 (seq_nx q1 (seq_nx q2 (seq_nx q3 (seq_nx q4 (seq_nx (part5 h he ns p _ _) (seq_nx q6 (seq_nx (part7 ns p _ _ _ sbV) (seq_nx q8 (seq_nx q9 (seq_nx (part10 ns p _ _ _ _) (seq_nx (part11 ns p _ _ _ _ _ _ sl) (seq_nx (part12 ns p _ _ _ _ _ _ _) (seq_nx (part13_none ns p _ _ _ _ _ _ _ sg) (seq_nx (part14_none ns p _ _ _ _ _ _ _) (part15_none ns p _ _ _ _ _ _ _)))))))))))))))
  | nil =>
    obtain ⟨L, sb, sl, hL, pL, hc, cov⟩ := size_lot h he hC hk
    obtain ⟨L', _, sg, hL', _, hc', cov'⟩ := size_lot h he (hC.scale hs) (by rw [bare_sc]; exact hk)
    rw [dd_sc hL hc cov hL' hc' cov'] at sg
    have cd := cnt_dd h.srt hC hL cov
    rw [hc] at cd
    exact seq_nx q0 (seq_nx q1 (seq_nx q2 (seq_nx q3 (seq_nx q4 (seq_nx (part5 h he ns p _ _) (seq_nx q6 (seq_nx (part7 ns p _ _ _ sbV) (seq_nx q8 (seq_nx q9 (seq_nx (part10 ns p _ _ _ _) (seq_nx (part11 ns p _ _ _ _ _ _ sl) (seq_nx (part12 ns p _ _ _ _ _ _ _) (seq_nx (part13_some ns p _ _ _ _ _ _ _ _ sg) (seq_nx (part14 h he hC hs hk sb hL pL hc cov ns p _ _ _ _ _) (part15 _ _ cd)))))))))))))))
end K83
set_option Elab.async false
set_option linter.all false
set_option maxRecDepth 100000
set_option maxHeartbeats 4000000
/-! Each def of the row keeps its reading, printed by gen.py. -/
namespace K83.Wk
open PySem PySem.Spec PyProof.Rows L2 DL
def top (i : Nat) : Stmt := PySem.Challenge.pw_needlehouse_k83_cheapest_and_fewest_size.main.body.getD i (.Pass ⟨0, 0, 0, 0⟩)
structure Tp (K : PySem.W.Frag) (mg : MG) : Prop where
  c_MOST_BODIES : ∃ t, mg "MOST_BODIES" = some (.int 12 t)
  c_MOST_EASE : ∃ t, mg "MOST_EASE" = some (.int 50 t)
  c_MOST_LEVEL : ∃ t, mg "MOST_LEVEL" = some (.int 10000 t)
  c_MOST_MEASURE : ∃ t, mg "MOST_MEASURE" = some (.int 200 t)
  c_MOST_PRICE : ∃ t, mg "MOST_PRICE" = some (.int 100 t)
  c_MOST_SIZES : ∃ t, mg "MOST_SIZES" = some (.int 10 t)
  n_abs : mg "abs" = none
  n_all : mg "all" = none
  n_any : mg "any" = none
  n_bool : mg "bool" = none
  n_enumerate : mg "enumerate" = none
  n_int : mg "int" = none
  n_isinstance : mg "isinstance" = none
  n_len : mg "len" = none
  n_max : mg "max" = none
  n_min : mg "min" = none
  n_range : mg "range" = none
  n_sorted : mg "sorted" = none
  n_str : mg "str" = none
  n_sum : mg "sum" = none
  n_tuple : mg "tuple" = none
  n_zip : mg "zip" = none
  x_NoNumber : Exn K mg "NoNumber"
  x_NoPrices : Exn K mg "NoPrices"
  x_NoSizes : Exn K mg "NoSizes"
section
variable {P : Program} {w : World} {K : PySem.W.Frag} {mg : MG} {base : Heap}
abbrev s_is_integer : Stmt := top 6
theorem sc_is_integer : FnScope ["thing"] ["thing"] (defScope s_is_integer) := ⟨rfl, rfl, rfl, by decide +kernel, rfl, by decide +kernel, by decide +kernel⟩
theorem ok_is_integer {f : Addr} {fd : FuncData} (T : Tp K mg)  (F : FunD K "is_integer" "is_integer" (defArgs s_is_integer) (defBody s_is_integer) (defScope s_is_integer) [] [] f fd) (hm : mg "is_integer" = some (.ref f)) : FnD P w K mg base "is_integer" 1 1 f_is_integer :=
  okD (Γ' := []) F sc_is_integer rfl (fun _ _ _ _ _ _ us hl => match us, hl with | [_], _ => rfl) hm (fun cdv A outer s H E hr =>
    (dss_one (ds_ret (Γ' := []) (de_and (de_sh (de_isiT .int "int" rfl T.n_isinstance T.n_int (dv 0) bt_int)) (de_one (de_sh (de_not (de_isiT .bool "bool" rfl T.n_isinstance T.n_bool (dv 0) bt_bool))))) (by kernel_rfl)))) rfl

abbrev s_is_between : Stmt := top 7
theorem sc_is_between : FnScope ["thing", "least", "most"] ["thing", "least", "most"] (defScope s_is_between) := ⟨rfl, rfl, rfl, by decide +kernel, rfl, by decide +kernel, by decide +kernel⟩
theorem ok_is_between {f : Addr} {fd : FuncData} (T : Tp K mg) (F_is_integer : FnD P w K mg base "is_integer" 1 1 f_is_integer) (F : FunD K "is_between" "is_between" (defArgs s_is_between) (defBody s_is_between) (defScope s_is_between) [] [] f fd) (hm : mg "is_between" = some (.ref f)) : FnD P w K mg base "is_between" 2 3 f_is_between :=
  okD (Γ' := []) F sc_is_between rfl (fun _ _ _ _ _ _ us hl => match us, hl with | [_, _, _], _ => rfl) hm (fun cdv A outer s H E hr =>
    (dss_one (ds_ret (Γ' := []) (de_and (de_call F_is_integer (hr.mono (by decide)) (glK (by kernel_rfl)) (takes_of rfl rfl rfl rfl) (da_cons (dv 0) da_nil)) (de_one (de_sh (de_chain op_le op_le os_cmp os_cmp bl_cmp (dv 1) (dv 0) (dv 2))))) (by kernel_rfl)))) rfl

abbrev s_is_under : Stmt := top 8
theorem sc_is_under : FnScope ["thing", "many"] ["thing", "many"] (defScope s_is_under) := ⟨rfl, rfl, rfl, by decide +kernel, rfl, by decide +kernel, by decide +kernel⟩
theorem ok_is_under {f : Addr} {fd : FuncData} (T : Tp K mg) (F_is_integer : FnD P w K mg base "is_integer" 1 1 f_is_integer) (F : FunD K "is_under" "is_under" (defArgs s_is_under) (defBody s_is_under) (defScope s_is_under) [] [] f fd) (hm : mg "is_under" = some (.ref f)) : FnD P w K mg base "is_under" 2 2 f_is_under :=
  okD (Γ' := []) F sc_is_under rfl (fun _ _ _ _ _ _ us hl => match us, hl with | [_, _], _ => rfl) hm (fun cdv A outer s H E hr =>
    (dss_one (ds_ret (Γ' := []) (de_and (de_call F_is_integer (hr.mono (by decide)) (glK (by kernel_rfl)) (takes_of rfl rfl rfl rfl) (da_cons (dv 0) da_nil)) (de_one (de_sh (de_chain op_le op_lt os_cmp os_cmp bl_cmp de_int (dv 0) (dv 1))))) (by kernel_rfl)))) rfl

abbrev s_is_tuple_of : Stmt := top 9
theorem sc_is_tuple_of : FnScope ["thing", "many"] ["thing", "many"] (defScope s_is_tuple_of) := ⟨rfl, rfl, rfl, by decide +kernel, rfl, by decide +kernel, by decide +kernel⟩
theorem ok_is_tuple_of {f : Addr} {fd : FuncData} (T : Tp K mg)  (F : FunD K "is_tuple_of" "is_tuple_of" (defArgs s_is_tuple_of) (defBody s_is_tuple_of) (defScope s_is_tuple_of) [] [] f fd) (hm : mg "is_tuple_of" = some (.ref f)) : FnD P w K mg base "is_tuple_of" 1 2 f_is_tuple_of :=
  okD (Γ' := []) F sc_is_tuple_of rfl (fun _ _ _ _ _ _ us hl => match us, hl with | [_, _], _ => rfl) hm (fun cdv A outer s H E hr =>
    (dss_one (ds_ret (Γ' := []) (de_and (de_sh (de_isiT .tuple "tuple" rfl T.n_isinstance T.n_tuple (dv 0) bt_tuple)) (de_one (de_sh (de_cmp (op_eqA (u64 hr)) os_eq (de_len T.n_len (dv 0)) (dv 1) (nomark _))))) (by kernel_rfl)))) rfl

abbrev s_are_under : Stmt := top 10
theorem sc_are_under : FnScope ["thing", "many", "one"] ["thing", "many"] (defScope s_are_under) := ⟨rfl, rfl, rfl, by decide +kernel, rfl, by decide +kernel, by decide +kernel⟩
theorem ok_are_under {f : Addr} {fd : FuncData} (T : Tp K mg) (F_is_under : FnD P w K mg base "is_under" 2 2 f_is_under) (F : FunD K "are_under" "are_under" (defArgs s_are_under) (defBody s_are_under) (defScope s_are_under) [] [] f fd) (hm : mg "are_under" = some (.ref f)) : FnD P w K mg base "are_under" 3 2 f_are_under :=
  okD (Γ' := []) F sc_are_under rfl (fun _ _ _ _ _ _ us hl => match us, hl with | [_, _], _ => rfl) hm (fun cdv A outer s H E hr =>
    (dss_one (ds_ret (Γ' := []) (de_and (de_sh (de_isiT .tuple "tuple" rfl T.n_isinstance T.n_tuple (dv 0) bt_tuple)) (de_one (de_sh (de_all rfl T.n_all (de_lc (own := [("one", 2)]) rfl sc_are_under.nd (di_l false (dv 0) (fun z => nomatch z)) (blkOk_by (by kernel_rfl)) (by kernel_rfl) (by kernel_rfl) (fun _ _ _ _ _ => (dg_var sc_are_under.nd (by kernel_rfl) (locK (by kernel_rfl)) (by kernel_rfl) (fnK (by kernel_rfl)))) (fun _ _ _ _ _ => dts_nil) (fun _ _ _ _ _ => (de_call F_is_under (hr.mono (by decide)) (glK (by kernel_rfl)) takes0 (da_cons (dv 2) (da_cons (dv 1) da_nil)))) (by kernel_rfl)))))) (by kernel_rfl)))) rfl

abbrev s_is_lot : Stmt := top 11
theorem sc_is_lot : FnScope ["thing", "many", "at"] ["thing", "many"] (defScope s_is_lot) := ⟨rfl, rfl, rfl, by decide +kernel, rfl, by decide +kernel, by decide +kernel⟩
theorem ok_is_lot {f : Addr} {fd : FuncData} (T : Tp K mg) (F_are_under : FnD P w K mg base "are_under" 3 2 f_are_under) (F : FunD K "is_lot" "is_lot" (defArgs s_is_lot) (defBody s_is_lot) (defScope s_is_lot) [] [] f fd) (hm : mg "is_lot" = some (.ref f)) : FnD P w K mg base "is_lot" 4 2 f_is_lot :=
  okD (Γ' := []) F sc_is_lot rfl (fun _ _ _ _ _ _ us hl => match us, hl with | [_, _], _ => rfl) hm (fun cdv A outer s H E hr =>
    (dss_one (ds_ret (Γ' := []) (de_and (de_call F_are_under (hr.mono (by decide)) (glK (by kernel_rfl)) (takes_of rfl rfl rfl rfl) (da_cons (dv 0) (da_cons (dv 1) da_nil))) (de_one (de_sh (de_all rfl T.n_all (de_lc (own := [("at", 2)]) rfl sc_is_lot.nd (di_rng2 false (glK (by kernel_rfl)) T.n_range (da_cons de_int (da_cons (de_len T.n_len (dv 0)) da_nil))) (blkOk_by (by kernel_rfl)) (by kernel_rfl) (by kernel_rfl) (fun _ _ _ _ _ => (dg_var sc_is_lot.nd (by kernel_rfl) (locK (by kernel_rfl)) (by kernel_rfl) (fnK (by kernel_rfl)))) (fun _ _ _ _ _ => dts_nil) (fun _ _ _ _ _ => (de_cmp op_lt os_cmp (de_ix ix_any os_ix (dv 0) (de_bin op_sub os_sub (dv 2) de_int) (fun _ _ => rfl)) (de_ix ix_any os_ix (dv 0) (dv 2) (fun _ _ => rfl)) (nomark _))) (by kernel_rfl)))))) (by kernel_rfl)))) rfl

abbrev s_are_bodies : Stmt := top 19
theorem sc_are_bodies : FnScope ["thing", "at", "one"] ["thing"] (defScope s_are_bodies) := ⟨rfl, rfl, rfl, by decide +kernel, rfl, by decide +kernel, by decide +kernel⟩
theorem ok_are_bodies {f : Addr} {fd : FuncData} (T : Tp K mg) (F_is_between : FnD P w K mg base "is_between" 2 3 f_is_between) (F : FunD K "are_bodies" "are_bodies" (defArgs s_are_bodies) (defBody s_are_bodies) (defScope s_are_bodies) [] [] f fd) (hm : mg "are_bodies" = some (.ref f)) : FnD P w K mg base "are_bodies" 3 1 f_are_bodies :=
  okD (Γ' := []) F sc_are_bodies rfl (fun _ _ _ _ _ _ us hl => match us, hl with | [_], _ => rfl) hm (fun cdv A outer s H E hr =>
    (dss_cons (ds_if (dt_w (dw_or (dt_not (dt_truth (de_isiT .tuple "tuple" rfl T.n_isinstance T.n_tuple (dv 0) bt_tuple))) (dw_or1 (dt_cmp op_gt os_cmp (de_len T.n_len (dv 0)) (de_globI (glK (by kernel_rfl)) T.c_MOST_BODIES) (nomark _) bl_cmp)))) (dss_one (ds_ret (Γ' := []) de_bl (by kernel_rfl))) dss_nil)
    (dss_cons (ds_if (dt_not (dt_truth (de_all rfl T.n_all (de_lc (own := [("one", 2)]) rfl sc_are_bodies.nd (di_l false (dv 0) (fun z => nomatch z)) (blkOk_by (by kernel_rfl)) (by kernel_rfl) (by kernel_rfl) (fun _ _ _ _ _ => (dg_var sc_are_bodies.nd (by kernel_rfl) (locK (by kernel_rfl)) (by kernel_rfl) (fnK (by kernel_rfl)))) (fun _ _ _ _ _ => dts_nil) (fun _ _ _ _ _ => (de_call F_is_between (hr.mono (by decide)) (glK (by kernel_rfl)) takes0 (da_cons (dv 2) (da_cons de_int (da_cons (de_globI (glK (by kernel_rfl)) T.c_MOST_MEASURE) da_nil))))) (by kernel_rfl))))) (dss_one (ds_ret (Γ' := []) de_bl (by kernel_rfl))) dss_nil)
    (dss_one (ds_ret (Γ' := []) (de_all rfl T.n_all (de_lc (own := [("at", 1)]) rfl sc_are_bodies.nd (di_rng2 false (glK (by kernel_rfl)) T.n_range (da_cons de_int (da_cons (de_len T.n_len (dv 0)) da_nil))) (blkOk_by (by kernel_rfl)) (by kernel_rfl) (by kernel_rfl) (fun _ _ _ _ _ => (dg_var sc_are_bodies.nd (by kernel_rfl) (locK (by kernel_rfl)) (by kernel_rfl) (fnK (by kernel_rfl)))) (fun _ _ _ _ _ => dts_nil) (fun _ _ _ _ _ => (de_cmp op_le os_cmp (de_ix ix_any os_ix (dv 0) (de_bin op_sub os_sub (dv 1) de_int) (fun _ _ => rfl)) (de_ix ix_any os_ix (dv 0) (dv 1) (fun _ _ => rfl)) (nomark _))) (by kernel_rfl))) (by kernel_rfl)))))) rfl

abbrev s_need_bodies : Stmt := top 20
theorem sc_need_bodies : FnScope ["bodies", "ease"] ["bodies", "ease"] (defScope s_need_bodies) := ⟨rfl, rfl, rfl, by decide +kernel, rfl, by decide +kernel, by decide +kernel⟩
theorem ok_need_bodies {f : Addr} {fd : FuncData} (T : Tp K mg) (F_are_bodies : FnD P w K mg base "are_bodies" 3 1 f_are_bodies) (F_is_between : FnD P w K mg base "is_between" 2 3 f_is_between) (F : FunD K "need_bodies" "need_bodies" (defArgs s_need_bodies) (defBody s_need_bodies) (defScope s_need_bodies) [] [] f fd) (hm : mg "need_bodies" = some (.ref f)) : FnD P w K mg base "need_bodies" 4 2 f_need_bodies :=
  okD (Γ' := []) F sc_need_bodies rfl (fun _ _ _ _ _ _ us hl => match us, hl with | [_, _], _ => rfl) hm (fun cdv A outer s H E hr =>
    (dss_cons (ds_if (dt_not (dt_truth (de_call F_are_bodies (hr.mono (by decide)) (glK (by kernel_rfl)) (takes_of rfl rfl rfl rfl) (da_cons (dv 0) da_nil)))) (dss_one (ds_raiseX (Γ' := []) T.x_NoSizes rfl (takes_of rfl rfl rfl rfl))) dss_nil)
    (dss_one (ds_if (dt_not (dt_truth (de_call F_is_between (hr.mono (by decide)) (glK (by kernel_rfl)) (takes_of rfl rfl rfl rfl) (da_cons (dv 1) (da_cons de_int (da_cons (de_globI (glK (by kernel_rfl)) T.c_MOST_EASE) da_nil)))))) (dss_one (ds_raiseX (Γ' := []) T.x_NoNumber rfl (takes_of rfl rfl rfl rfl))) dss_nil)))) rfl

abbrev s_fits : Stmt := top 21
theorem sc_fits : FnScope ["size", "body", "ease"] ["size", "body", "ease"] (defScope s_fits) := ⟨rfl, rfl, rfl, by decide +kernel, rfl, by decide +kernel, by decide +kernel⟩
theorem ok_fits {f : Addr} {fd : FuncData} (T : Tp K mg)  (F : FunD K "fits" "fits" (defArgs s_fits) (defBody s_fits) (defScope s_fits) [] [] f fd) (hm : mg "fits" = some (.ref f)) : FnD P w K mg base "fits" 1 3 f_fits :=
  okD (Γ' := []) F sc_fits rfl (fun _ _ _ _ _ _ us hl => match us, hl with | [_, _, _], _ => rfl) hm (fun cdv A outer s H E hr =>
    (dss_one (ds_ret (Γ' := []) (de_cmp op_le os_cmp (de_abs T.n_abs (de_bin op_sub os_sub (dv 0) (dv 1))) (dv 2) (nomark _)) (by kernel_rfl)))) rfl

abbrev s_cover_of : Stmt := top 22
theorem sc_cover_of : FnScope ["bodies", "ease", "sizes", "apart", "number", "body", "size"] ["bodies", "ease"] (defScope s_cover_of) := ⟨rfl, rfl, rfl, by decide +kernel, rfl, by decide +kernel, by decide +kernel⟩
theorem ok_cover_of {f : Addr} {fd : FuncData} (T : Tp K mg) (F_fits : FnD P w K mg base "fits" 1 3 f_fits) (F : FunD K "cover_of" "cover_of" (defArgs s_cover_of) (defBody s_cover_of) (defScope s_cover_of) [] [] f fd) (hm : mg "cover_of" = some (.ref f)) : FnD P w K mg base "cover_of" 2 2 f_cover_of :=
  okD (Γ' := []) F sc_cover_of rfl (fun _ _ _ _ _ _ us hl => match us, hl with | [_, _], _ => rfl) hm (fun cdv A outer s H E hr =>
    (dss_cons (ds_par (oi := true) (oj := true) (i := 2) (j := 3) rfl sc_cover_of.nd (by kernel_rfl) (by kernel_rfl) (by decide) (by kernel_rfl) (by kernel_rfl) (by kernel_rfl) (by kernel_rfl) (de_lst da_nil (by kernel_rfl) (hl := (len_big len_nil (by decide)))) (de_lst da_nil (by kernel_rfl) (hl := (len_big len_nil (by decide)))) rfl rfl)
    (dss_cons (ds_wk (ks := [4, 5]) (by kernel_rfl) (ds_nox (ds_for rfl rfl (di_enum true T.n_enumerate (dv 0) (fun _ => rfl)) (dg_tup rfl (dgs_cons (dg_var sc_cover_of.nd (by kernel_rfl) (locK (by kernel_rfl)) (by kernel_rfl) (fnK (by kernel_rfl))) (dgs_cons (dg_var sc_cover_of.nd (by kernel_rfl) (locK (by kernel_rfl)) (by kernel_rfl) (fnK (by kernel_rfl))) dgs_nil))) (dss_wkp (ks := [4, 5]) (by kernel_rfl) (dss_one (ds_if (dt_not (dt_truth (de_any rfl T.n_any (de_lc (own := [("size", 6)]) rfl sc_cover_of.nd (di_l false (dv 2) (fun z => nomatch z)) (blkOk_by (by kernel_rfl)) (by kernel_rfl) (by kernel_rfl) (fun _ _ _ _ _ => (dg_var sc_cover_of.nd (by kernel_rfl) (locK (by kernel_rfl)) (by kernel_rfl) (fnK (by kernel_rfl)))) (fun _ _ _ _ _ => dts_nil) (fun _ _ _ _ _ => (de_call F_fits (hr.mono (by decide)) (glK (by kernel_rfl)) takes0 (da_cons (dv 6) (da_cons (dv 5) (da_cons (dv 1) da_nil))))) (by kernel_rfl))))) (dss_cons (ds_append (i := 2) (by kernel_rfl) (vis_of (by kernel_rfl)) (by kernel_rfl) (de_bin op_addD os_add (dv 5) (dv 1)) (by kernel_rfl))
    (dss_one (ds_append (i := 3) (by kernel_rfl) (vis_of (by kernel_rfl)) (by kernel_rfl) (dv 4) (by kernel_rfl)))) dss_nil))))))
    (dss_one (ds_ret (Γ' := []) (de_tup (da_cons (de_tuple T.n_tuple (dv 2)) (da_cons (de_tuple T.n_tuple (dv 3)) da_nil)) (by kernel_rfl) (hl := (len_big (len_cons (len_cons len_nil)) (by decide)))) (by kernel_rfl)))))) rfl

abbrev s_size_fewest : Stmt := top 23
theorem sc_size_fewest : FnScope ["bodies", "ease"] ["bodies", "ease"] (defScope s_size_fewest) := ⟨rfl, rfl, rfl, by decide +kernel, rfl, by decide +kernel, by decide +kernel⟩
theorem ok_size_fewest {f : Addr} {fd : FuncData} (T : Tp K mg) (F_need_bodies : FnD P w K mg base "need_bodies" 4 2 f_need_bodies) (F_cover_of : FnD P w K mg base "cover_of" 2 2 f_cover_of) (F : FunD K "size_fewest" "size_fewest" (defArgs s_size_fewest) (defBody s_size_fewest) (defScope s_size_fewest) [] [] f fd) (hm : mg "size_fewest" = some (.ref f)) : FnD P w K mg base "size_fewest" 5 2 f_size_fewest :=
  okD (Γ' := []) F sc_size_fewest rfl (fun _ _ _ _ _ _ us hl => match us, hl with | [_, _], _ => rfl) hm (fun cdv A outer s H E hr =>
    (dss_cons (ds_expr (de_call F_need_bodies (hr.mono (by decide)) (glK (by kernel_rfl)) (takes_of rfl rfl rfl rfl) (da_cons (dv 0) (da_cons (dv 1) da_nil))))
    (dss_one (ds_ret (Γ' := []) (de_len T.n_len (de_ix ix_any os_ix (de_call F_cover_of (hr.mono (by decide)) (glK (by kernel_rfl)) (takes_of rfl rfl rfl rfl) (da_cons (dv 0) (da_cons (dv 1) da_nil))) de_int (fun _ _ => rfl))) (by kernel_rfl))))) rfl

abbrev s_are_offers : Stmt := top 24
theorem sc_are_offers : FnScope ["thing", "at", "one"] ["thing"] (defScope s_are_offers) := ⟨rfl, rfl, rfl, by decide +kernel, rfl, by decide +kernel, by decide +kernel⟩
theorem ok_are_offers {f : Addr} {fd : FuncData} (T : Tp K mg) (F_is_tuple_of : FnD P w K mg base "is_tuple_of" 1 2 f_is_tuple_of) (F_is_between : FnD P w K mg base "is_between" 2 3 f_is_between) (F : FunD K "are_offers" "are_offers" (defArgs s_are_offers) (defBody s_are_offers) (defScope s_are_offers) [] [] f fd) (hm : mg "are_offers" = some (.ref f)) : FnD P w K mg base "are_offers" 3 1 f_are_offers :=
  okD (Γ' := []) F sc_are_offers rfl (fun _ _ _ _ _ _ us hl => match us, hl with | [_], _ => rfl) hm (fun cdv A outer s H E hr =>
    (dss_cons (ds_if (dt_w (dw_or (dt_not (dt_truth (de_isiT .tuple "tuple" rfl T.n_isinstance T.n_tuple (dv 0) bt_tuple))) (dw_or1 (dt_cmp op_gt os_cmp (de_len T.n_len (dv 0)) (de_globI (glK (by kernel_rfl)) T.c_MOST_SIZES) (nomark _) bl_cmp)))) (dss_one (ds_ret (Γ' := []) de_bl (by kernel_rfl))) dss_nil)
    (dss_cons (ds_if (dt_not (dt_truth (de_all rfl T.n_all (de_lc (own := [("one", 2)]) rfl sc_are_offers.nd (di_l false (dv 0) (fun z => nomatch z)) (blkOk_by (by kernel_rfl)) (by kernel_rfl) (by kernel_rfl) (fun _ _ _ _ _ => (dg_var sc_are_offers.nd (by kernel_rfl) (locK (by kernel_rfl)) (by kernel_rfl) (fnK (by kernel_rfl)))) (fun _ _ _ _ _ => dts_nil) (fun _ _ _ _ _ => (de_and (de_call F_is_tuple_of (hr.mono (by decide)) (glK (by kernel_rfl)) takes0 (da_cons (dv 2) (da_cons de_int da_nil))) (de_and (de_call F_is_between (hr.mono (by decide)) (glK (by kernel_rfl)) takes0 (da_cons (de_ix ix_any os_ix (dv 2) de_int (fun _ _ => rfl)) (da_cons de_int (da_cons (de_bin op_addD os_add (de_globI (glK (by kernel_rfl)) T.c_MOST_MEASURE) (de_globI (glK (by kernel_rfl)) T.c_MOST_EASE)) da_nil)))) (de_one (de_call F_is_between (hr.mono (by decide)) (glK (by kernel_rfl)) takes0 (da_cons (de_ix ix_any os_ix (dv 2) de_int (fun _ _ => rfl)) (da_cons de_int (da_cons (de_globI (glK (by kernel_rfl)) T.c_MOST_PRICE) da_nil)))))))) (by kernel_rfl))))) (dss_one (ds_ret (Γ' := []) de_bl (by kernel_rfl))) dss_nil)
    (dss_one (ds_ret (Γ' := []) (de_all rfl T.n_all (de_lc (own := [("at", 1)]) rfl sc_are_offers.nd (di_rng2 false (glK (by kernel_rfl)) T.n_range (da_cons de_int (da_cons (de_len T.n_len (dv 0)) da_nil))) (blkOk_by (by kernel_rfl)) (by kernel_rfl) (by kernel_rfl) (fun _ _ _ _ _ => (dg_var sc_are_offers.nd (by kernel_rfl) (locK (by kernel_rfl)) (by kernel_rfl) (fnK (by kernel_rfl)))) (fun _ _ _ _ _ => dts_nil) (fun _ _ _ _ _ => (de_cmp op_lt os_cmp (de_ix ix_any os_ix (de_ix ix_any os_ix (dv 0) (de_bin op_sub os_sub (dv 1) de_int) (fun _ _ => rfl)) de_int (fun _ _ => rfl)) (de_ix ix_any os_ix (de_ix ix_any os_ix (dv 0) (dv 1) (fun _ _ => rfl)) de_int (fun _ _ => rfl)) (nomark _))) (by kernel_rfl))) (by kernel_rfl)))))) rfl

abbrev s_need_offers : Stmt := top 25
theorem sc_need_offers : FnScope ["bodies", "ease", "offers"] ["bodies", "ease", "offers"] (defScope s_need_offers) := ⟨rfl, rfl, rfl, by decide +kernel, rfl, by decide +kernel, by decide +kernel⟩
theorem ok_need_offers {f : Addr} {fd : FuncData} (T : Tp K mg) (F_need_bodies : FnD P w K mg base "need_bodies" 4 2 f_need_bodies) (F_are_offers : FnD P w K mg base "are_offers" 3 1 f_are_offers) (F : FunD K "need_offers" "need_offers" (defArgs s_need_offers) (defBody s_need_offers) (defScope s_need_offers) [] [] f fd) (hm : mg "need_offers" = some (.ref f)) : FnD P w K mg base "need_offers" 5 3 f_need_offers :=
  okD (Γ' := []) F sc_need_offers rfl (fun _ _ _ _ _ _ us hl => match us, hl with | [_, _, _], _ => rfl) hm (fun cdv A outer s H E hr =>
    (dss_cons (ds_expr (de_call F_need_bodies (hr.mono (by decide)) (glK (by kernel_rfl)) (takes_of rfl rfl rfl rfl) (da_cons (dv 0) (da_cons (dv 1) da_nil))))
    (dss_one (ds_if (dt_not (dt_truth (de_call F_are_offers (hr.mono (by decide)) (glK (by kernel_rfl)) (takes_of rfl rfl rfl rfl) (da_cons (dv 2) da_nil)))) (dss_one (ds_raiseX (Γ' := []) T.x_NoPrices rfl (takes_of rfl rfl rfl rfl))) dss_nil)))) rfl

abbrev s_bare_body : Stmt := top 26
theorem sc_bare_body : FnScope ["bodies", "ease", "offers", "found", "number", "body", "one"] ["bodies", "ease", "offers"] (defScope s_bare_body) := ⟨rfl, rfl, rfl, by decide +kernel, rfl, by decide +kernel, by decide +kernel⟩
theorem ok_bare_body {f : Addr} {fd : FuncData} (T : Tp K mg) (F_fits : FnD P w K mg base "fits" 1 3 f_fits) (F : FunD K "bare_body" "bare_body" (defArgs s_bare_body) (defBody s_bare_body) (defScope s_bare_body) [] [] f fd) (hm : mg "bare_body" = some (.ref f)) : FnD P w K mg base "bare_body" 2 3 f_bare_body :=
  okD (Γ' := []) F sc_bare_body rfl (fun _ _ _ _ _ _ us hl => match us, hl with | [_, _, _], _ => rfl) hm (fun cdv A outer s H E hr =>
    (dss_cons (ds_setLcS (i := 3) (own := [("number", 4), ("body", 5)]) rfl sc_bare_body.nd (by kernel_rfl) (by kernel_rfl) (by kernel_rfl) (sw_true rfl (by kernel_rfl) (by kernel_rfl) (by kernel_rfl)) (di_enum false T.n_enumerate (dv 0) (fun z => nomatch z)) (blkOk_by (by kernel_rfl)) (by kernel_rfl) (by kernel_rfl) (fun _ _ _ _ _ => (dg_tup rfl (dgs_cons (dg_var sc_bare_body.nd (by kernel_rfl) (locK (by kernel_rfl)) (by kernel_rfl) (fnK (by kernel_rfl))) (dgs_cons (dg_var sc_bare_body.nd (by kernel_rfl) (locK (by kernel_rfl)) (by kernel_rfl) (fnK (by kernel_rfl))) dgs_nil)))) (fun _ _ _ _ _ => (dts_one (dt_not (dt_truth (de_any rfl T.n_any (de_lc (own := [("one", 6)]) rfl sc_bare_body.nd (di_l false (dv 2) (fun z => nomatch z)) (blkOk_by (by kernel_rfl)) (by kernel_rfl) (by kernel_rfl) (fun _ _ _ _ _ => (dg_var sc_bare_body.nd (by kernel_rfl) (locK (by kernel_rfl)) (by kernel_rfl) (fnK (by kernel_rfl)))) (fun _ _ _ _ _ => dts_nil) (fun _ _ _ _ _ => (de_call F_fits (hr.mono (by decide)) (glK (by kernel_rfl)) takes0 (da_cons (de_ix ix_any os_ix (dv 6) de_int (fun _ _ => rfl)) (da_cons (dv 5) (da_cons (dv 1) da_nil))))) (by kernel_rfl))))))) (fun _ _ _ _ _ => (dv 4)) (by kernel_rfl))
    (dss_one (ds_ret (Γ' := []) (de_if (dt_truth (dv 3)) (de_ix ix_any os_ix (dv 3) de_int (fun _ _ => rfl)) (de_sh de_non)) (by kernel_rfl))))) rfl

abbrev s_chosen_of : Stmt := top 27
theorem sc_chosen_of : FnScope ["bodies", "ease", "offers", "best", "number", "size", "price", "first", "behind", "some", "cost", "lot", "told", "done", "body"] ["bodies", "ease", "offers"] (defScope s_chosen_of) := ⟨rfl, rfl, rfl, by decide +kernel, rfl, by decide +kernel, by decide +kernel⟩
theorem ok_chosen_of {f : Addr} {fd : FuncData} (T : Tp K mg)  (F : FunD K "chosen_of" "chosen_of" (defArgs s_chosen_of) (defBody s_chosen_of) (defScope s_chosen_of) [] [] f fd) (hm : mg "chosen_of" = some (.ref f)) : FnD P w K mg base "chosen_of" 1 3 f_chosen_of :=
  okD (Γ' := []) F sc_chosen_of rfl (fun _ _ _ _ _ _ us hl => match us, hl with | [_, _, _], _ => rfl) hm (fun cdv A outer s H E hr =>
    (dss_cons (ds_ownD (i := 3) sc_chosen_of.nd (by kernel_rfl) (locK (by kernel_rfl)) (by kernel_rfl) (de_disp de_int (de_tup (da_cons de_int (da_cons (de_tup da_nil (by kernel_rfl) (hl := (len_big len_nil (by decide)))) da_nil)) (by kernel_rfl) (hl := (len_big (len_cons (len_cons len_nil)) (by decide)))) (by kernel_rfl)) (by kernel_rfl) (fnK (by kernel_rfl)))
    (dss_cons (ds_wk (ks := [4, 5, 6, 7, 8, 9, 10, 11, 12]) (by kernel_rfl) (ds_nox (ds_for rfl rfl (di_enum true T.n_enumerate (dv 2) (fun _ => rfl)) (dg_tup rfl (dgs_cons (dg_var sc_chosen_of.nd (by kernel_rfl) (locK (by kernel_rfl)) (by kernel_rfl) (fnK (by kernel_rfl))) (dgs_cons (dg_tup rfl (dgs_cons (dg_var sc_chosen_of.nd (by kernel_rfl) (locK (by kernel_rfl)) (by kernel_rfl) (fnK (by kernel_rfl))) (dgs_cons (dg_var sc_chosen_of.nd (by kernel_rfl) (locK (by kernel_rfl)) (by kernel_rfl) (fnK (by kernel_rfl))) dgs_nil))) dgs_nil))) (dss_wkp (ks := [4, 5, 6, 7, 8, 9, 10, 11, 12]) (by kernel_rfl) (dss_cons (ds_set (i := 7) sc_chosen_of.nd (by kernel_rfl) (locK (by kernel_rfl)) (by kernel_rfl) (de_len T.n_len (de_lc (own := [("body", 14)]) rfl sc_chosen_of.nd (di_l false (dv 0) (fun z => nomatch z)) (blkOk_by (by kernel_rfl)) (by kernel_rfl) (by kernel_rfl) (fun _ _ _ _ _ => (dg_var sc_chosen_of.nd (by kernel_rfl) (locK (by kernel_rfl)) (by kernel_rfl) (fnK (by kernel_rfl)))) (fun _ _ _ _ _ => (dts_one (dt_cmp op_lt os_cmp (dv 14) (de_bin op_sub os_sub (dv 5) (dv 1)) (nomark _) bl_cmp))) (fun _ _ _ _ _ => (dv 14)) (by kernel_rfl))) (by kernel_rfl) (by kernel_rfl) (fnK (by kernel_rfl)))
    (dss_cons (ds_set (i := 8) sc_chosen_of.nd (by kernel_rfl) (locK (by kernel_rfl)) (by kernel_rfl) (de_len T.n_len (de_lc (own := [("body", 14)]) rfl sc_chosen_of.nd (di_l false (dv 0) (fun z => nomatch z)) (blkOk_by (by kernel_rfl)) (by kernel_rfl) (by kernel_rfl) (fun _ _ _ _ _ => (dg_var sc_chosen_of.nd (by kernel_rfl) (locK (by kernel_rfl)) (by kernel_rfl) (fnK (by kernel_rfl)))) (fun _ _ _ _ _ => (dts_one (dt_cmp op_le os_cmp (dv 14) (de_bin op_addD os_add (dv 5) (dv 1)) (nomark _) bl_cmp))) (fun _ _ _ _ _ => (dv 14)) (by kernel_rfl))) (by kernel_rfl) (by kernel_rfl) (fnK (by kernel_rfl)))
    (dss_cons (ds_lkLc (i := 3) (j := 9) (Γ1 := []) (by kernel_rfl) (by kernel_rfl) (own := [("done", 13), ("told", 12)]) rfl sc_chosen_of.nd (by kernel_rfl) (by kernel_rfl) (by kernel_rfl) (sw_true rfl (by kernel_rfl) (by kernel_rfl) (by kernel_rfl)) (di_items false (dv 3) (by kernel_rfl) (by kernel_rfl)) (blkOk_by (by kernel_rfl)) (by kernel_rfl) (by kernel_rfl) (fun _ _ _ _ _ => (dg_tup rfl (dgs_cons (dg_var sc_chosen_of.nd (by kernel_rfl) (locK (by kernel_rfl)) (by kernel_rfl) (fnK (by kernel_rfl))) (dgs_cons (dg_var sc_chosen_of.nd (by kernel_rfl) (locK (by kernel_rfl)) (by kernel_rfl) (fnK (by kernel_rfl))) dgs_nil)))) (fun _ _ _ _ _ => (dts_one (dt_cmp op_ge os_cmp (dv 13) (dv 7) (nomark _) bl_cmp))) (fun _ _ _ _ _ => (dv 12)) (by kernel_rfl))
    (dss_one (ds_if (dt_truth (dv 9)) (dss_cons (ds_asg (de_minG rfl (u64 hr) T.n_min (dv 9)) (dg_tup rfl (dgs_cons (dg_var sc_chosen_of.nd (by kernel_rfl) (locK (by kernel_rfl)) (by kernel_rfl) (fnK (by kernel_rfl))) (dgs_cons (dg_var sc_chosen_of.nd (by kernel_rfl) (locK (by kernel_rfl)) (by kernel_rfl) (fnK (by kernel_rfl))) dgs_nil))) (by kernel_rfl))
    (dss_cons (ds_set (i := 12) sc_chosen_of.nd (by kernel_rfl) (locK (by kernel_rfl)) (by kernel_rfl) (de_tup (da_cons (de_bin op_addD os_add (dv 10) (dv 6)) (da_cons (de_bin op_addD os_add (dv 11) (de_tup (da_cons (dv 4) da_nil) (by kernel_rfl) (hl := (len_big (len_cons len_nil) (by decide))))) da_nil)) (by kernel_rfl) (hl := (len_big (len_cons (len_cons len_nil)) (by decide)))) (by kernel_rfl) (by kernel_rfl) (fnK (by kernel_rfl)))
    (dss_one (ds_if (dt_w (dw_or (dt_dnin (u64 hr) (dv 8) (dv 3) rfl) (dw_or1 (dt_cmp (op_ltG (u64 hr)) os_ltG (dv 12) (de_dget (u64 hr) (dv 3) (dv 8) (fun _ _ => rfl)) (nomark _) bl_ltG)))) (dss_one (ds_putD (i := 3) (u64 hr) (by kernel_rfl) (vis_of (by kernel_rfl)) (by kernel_rfl) (dv 12) (dv 8) (by kernel_rfl))) dss_nil)))) dss_nil)))))))))
    (dss_one (ds_ret (Γ' := []) (de_if (dt_din (u64 hr) (de_len T.n_len (dv 0)) (dv 3) rfl) (de_dget (u64 hr) (dv 3) (de_len T.n_len (dv 0)) (fun _ _ => rfl)) (de_sh de_non)) (by kernel_rfl)))))) rfl

abbrev s_dues_of : Stmt := top 28
theorem sc_dues_of : FnScope ["bodies", "ease", "offers", "found", "number", "body", "room", "size", "price", "taken", "other"] ["bodies", "ease", "offers"] (defScope s_dues_of) := ⟨rfl, rfl, rfl, by decide +kernel, rfl, by decide +kernel, by decide +kernel⟩
theorem ok_dues_of {f : Addr} {fd : FuncData} (T : Tp K mg) (F_fits : FnD P w K mg base "fits" 1 3 f_fits) (F : FunD K "dues_of" "dues_of" (defArgs s_dues_of) (defBody s_dues_of) (defScope s_dues_of) [] [] f fd) (hm : mg "dues_of" = some (.ref f)) : FnD P w K mg base "dues_of" 2 3 f_dues_of :=
  okD (Γ' := []) F sc_dues_of rfl (fun _ _ _ _ _ _ us hl => match us, hl with | [_, _, _], _ => rfl) hm (fun cdv A outer s H E hr =>
    (dss_cons (ds_own (i := 3) sc_dues_of.nd (by kernel_rfl) (locK (by kernel_rfl)) (by kernel_rfl) (de_repL (de_lst (da_cons de_int da_nil) (by kernel_rfl) (hl := (len_big (len_cons len_nil) (by decide)))) (de_len T.n_len (dv 0))) (by kernel_rfl) (fnK (by kernel_rfl)))
    (dss_cons (ds_wk (ks := [4, 5, 6, 7, 8, 9]) (by kernel_rfl) (ds_nox (ds_for rfl rfl (di_enum true T.n_enumerate (dv 0) (fun _ => rfl)) (dg_tup rfl (dgs_cons (dg_var sc_dues_of.nd (by kernel_rfl) (locK (by kernel_rfl)) (by kernel_rfl) (fnK (by kernel_rfl))) (dgs_cons (dg_var sc_dues_of.nd (by kernel_rfl) (locK (by kernel_rfl)) (by kernel_rfl) (fnK (by kernel_rfl))) dgs_nil))) (dss_wkp (ks := [4, 5, 6, 7, 8, 9]) (by kernel_rfl) (dss_post (Γ' := [6, 3]) (Γ1 := [3]) (by kernel_rfl) (dss_cons (ds_own (i := 6) sc_dues_of.nd (by kernel_rfl) (locK (by kernel_rfl)) (by kernel_rfl) (de_lst da_nil (by kernel_rfl) (hl := (len_big len_nil (by decide)))) (by kernel_rfl) (fnK (by kernel_rfl)))
    (dss_cons (ds_wk (ks := [7, 8, 9]) (by kernel_rfl) (ds_for rfl rfl (di_l true (dv 2) (fun _ => rfl)) (dg_tup rfl (dgs_cons (dg_var sc_dues_of.nd (by kernel_rfl) (locK (by kernel_rfl)) (by kernel_rfl) (fnK (by kernel_rfl))) (dgs_cons (dg_var sc_dues_of.nd (by kernel_rfl) (locK (by kernel_rfl)) (by kernel_rfl) (fnK (by kernel_rfl))) dgs_nil))) (dss_wkp (ks := [7, 8, 9]) (by kernel_rfl) (dss_one (ds_if (dt_truth (de_call F_fits (hr.mono (by decide)) (glK (by kernel_rfl)) takes0 (da_cons (dv 7) (da_cons (dv 5) (da_cons (dv 1) da_nil))))) (dss_cons (ds_set (i := 9) sc_dues_of.nd (by kernel_rfl) (locK (by kernel_rfl)) (by kernel_rfl) (de_sum rfl T.n_sum (de_lc (own := [("other", 10)]) rfl sc_dues_of.nd (di_rng1 false (glK (by kernel_rfl)) T.n_range (da_cons (dv 4) da_nil)) (blkOk_by (by kernel_rfl)) (by kernel_rfl) (by kernel_rfl) (fun _ _ _ _ _ => (dg_var sc_dues_of.nd (by kernel_rfl) (locK (by kernel_rfl)) (by kernel_rfl) (fnK (by kernel_rfl)))) (fun _ _ _ _ _ => (dts_one (dt_truth (de_call F_fits (hr.mono (by decide)) (glK (by kernel_rfl)) takes0 (da_cons (dv 7) (da_cons (de_ix ix_any os_ix (dv 0) (dv 10) (fun _ _ => rfl)) (da_cons (dv 1) da_nil))))))) (fun _ _ _ _ _ => (de_ix ix_any os_ix (dv 3) (dv 10) (fun _ _ => rfl))) (by kernel_rfl))) (by kernel_rfl) (by kernel_rfl) (fnK (by kernel_rfl)))
    (dss_one (ds_append (i := 6) (by kernel_rfl) (vis_of (by kernel_rfl)) (by kernel_rfl) (de_bin op_sub os_sub (dv 8) (dv 9)) (by kernel_rfl)))) dss_nil)))))
    (dss_one (ds_setI (i := 3) (by kernel_rfl) (vis_of (by kernel_rfl)) (by kernel_rfl) (de_minL rfl T.n_min (dv 6)) (dv 4) (by kernel_rfl))))))))))
    (dss_one (ds_pre (Γ1 := []) (by kernel_rfl) (ds_ret (Γ' := []) (dv 3) (by kernel_rfl))))))) rfl

abbrev s_size_best : Stmt := top 29
theorem sc_size_best : FnScope ["bodies", "ease", "offers", "body"] ["bodies", "ease", "offers"] (defScope s_size_best) := ⟨rfl, rfl, rfl, by decide +kernel, rfl, by decide +kernel, by decide +kernel⟩
theorem ok_size_best {f : Addr} {fd : FuncData} (T : Tp K mg) (F_need_offers : FnD P w K mg base "need_offers" 5 3 f_need_offers) (F_bare_body : FnD P w K mg base "bare_body" 2 3 f_bare_body) (F_chosen_of : FnD P w K mg base "chosen_of" 1 3 f_chosen_of) (F_dues_of : FnD P w K mg base "dues_of" 2 3 f_dues_of) (F : FunD K "size_best" "size_best" (defArgs s_size_best) (defBody s_size_best) (defScope s_size_best) [] [] f fd) (hm : mg "size_best" = some (.ref f)) : FnD P w K mg base "size_best" 6 3 f_size_best :=
  okD (Γ' := []) F sc_size_best rfl (fun _ _ _ _ _ _ us hl => match us, hl with | [_, _, _], _ => rfl) hm (fun cdv A outer s H E hr =>
    (dss_cons (ds_expr (de_call F_need_offers (hr.mono (by decide)) (glK (by kernel_rfl)) (takes_of rfl rfl rfl rfl) (da_cons (dv 0) (da_cons (dv 1) (da_cons (dv 2) da_nil)))))
    (dss_cons (ds_set (i := 3) sc_size_best.nd (by kernel_rfl) (locK (by kernel_rfl)) (by kernel_rfl) (de_call F_bare_body (hr.mono (by decide)) (glK (by kernel_rfl)) (takes_of rfl rfl rfl rfl) (da_cons (dv 0) (da_cons (dv 1) (da_cons (dv 2) da_nil)))) (by kernel_rfl) (by kernel_rfl) (fnK (by kernel_rfl)))
    (dss_cons (ds_if (dt_notN (dv 3)) (dss_one (ds_ret (Γ' := []) (de_tup (da_cons (de_str (by decide)) (da_cons (dv 3) da_nil)) (by kernel_rfl) (hl := (len_big (len_cons (len_cons len_nil)) (by decide)))) (by kernel_rfl))) dss_nil)
    (dss_one (ds_ret (Γ' := []) (de_tup (da_cons (de_str (by decide)) (da_cons (de_ix ix_any os_ix (de_call F_chosen_of (hr.mono (by decide)) (glK (by kernel_rfl)) (takes_of rfl rfl rfl rfl) (da_cons (dv 0) (da_cons (dv 1) (da_cons (dv 2) da_nil)))) de_int (fun _ _ => rfl)) (da_cons (de_tuple T.n_tuple (de_call F_dues_of (hr.mono (by decide)) (glK (by kernel_rfl)) (takes_of rfl rfl rfl rfl) (da_cons (dv 0) (da_cons (dv 1) (da_cons (dv 2) da_nil))))) da_nil))) (by kernel_rfl) (hl := (len_big (len_cons (len_cons (len_cons len_nil))) (by decide)))) (by kernel_rfl))))))) rfl

abbrev s_cost_of : Stmt := top 30
theorem sc_cost_of : FnScope ["offers", "lot", "one"] ["offers", "lot"] (defScope s_cost_of) := ⟨rfl, rfl, rfl, by decide +kernel, rfl, by decide +kernel, by decide +kernel⟩
theorem ok_cost_of {f : Addr} {fd : FuncData} (T : Tp K mg)  (F : FunD K "cost_of" "cost_of" (defArgs s_cost_of) (defBody s_cost_of) (defScope s_cost_of) [] [] f fd) (hm : mg "cost_of" = some (.ref f)) : FnD P w K mg base "cost_of" 1 2 f_cost_of :=
  okD (Γ' := []) F sc_cost_of rfl (fun _ _ _ _ _ _ us hl => match us, hl with | [_, _], _ => rfl) hm (fun cdv A outer s H E hr =>
    (dss_one (ds_ret (Γ' := []) (de_sum rfl T.n_sum (de_lc (own := [("one", 2)]) rfl sc_cost_of.nd (di_l false (dv 1) (fun z => nomatch z)) (blkOk_by (by kernel_rfl)) (by kernel_rfl) (by kernel_rfl) (fun _ _ _ _ _ => (dg_var sc_cost_of.nd (by kernel_rfl) (locK (by kernel_rfl)) (by kernel_rfl) (fnK (by kernel_rfl)))) (fun _ _ _ _ _ => dts_nil) (fun _ _ _ _ _ => (de_ix ix_any os_ix (de_ix ix_any os_ix (dv 0) (dv 2) (fun _ _ => rfl)) de_int (fun _ _ => rfl))) (by kernel_rfl))) (by kernel_rfl)))) rfl

abbrev s_are_dues : Stmt := top 31
theorem sc_are_dues : FnScope ["bodies", "ease", "offers", "thing", "size", "price", "one", "body", "due"] ["bodies", "ease", "offers", "thing"] (defScope s_are_dues) := ⟨rfl, rfl, rfl, by decide +kernel, rfl, by decide +kernel, by decide +kernel⟩
theorem ok_are_dues {f : Addr} {fd : FuncData} (T : Tp K mg) (F_is_tuple_of : FnD P w K mg base "is_tuple_of" 1 2 f_is_tuple_of) (F_is_between : FnD P w K mg base "is_between" 2 3 f_is_between) (F_fits : FnD P w K mg base "fits" 1 3 f_fits) (F : FunD K "are_dues" "are_dues" (defArgs s_are_dues) (defBody s_are_dues) (defScope s_are_dues) [] [] f fd) (hm : mg "are_dues" = some (.ref f)) : FnD P w K mg base "are_dues" 3 4 f_are_dues :=
  okD (Γ' := []) F sc_are_dues rfl (fun _ _ _ _ _ _ us hl => match us, hl with | [_, _, _, _], _ => rfl) hm (fun cdv A outer s H E hr =>
    (dss_cons (ds_if (dt_w (dw_or (dt_not (dt_truth (de_call F_is_tuple_of (hr.mono (by decide)) (glK (by kernel_rfl)) (takes_of rfl rfl rfl rfl) (da_cons (dv 3) (da_cons (de_len T.n_len (dv 0)) da_nil))))) (dw_or1 (dt_not (dt_truth (de_all rfl T.n_all (de_lc (own := [("one", 6)]) rfl sc_are_dues.nd (di_l false (dv 3) (fun z => nomatch z)) (blkOk_by (by kernel_rfl)) (by kernel_rfl) (by kernel_rfl) (fun _ _ _ _ _ => (dg_var sc_are_dues.nd (by kernel_rfl) (locK (by kernel_rfl)) (by kernel_rfl) (fnK (by kernel_rfl)))) (fun _ _ _ _ _ => dts_nil) (fun _ _ _ _ _ => (de_call F_is_between (hr.mono (by decide)) (glK (by kernel_rfl)) takes0 (da_cons (dv 6) (da_cons de_int (da_cons (de_globI (glK (by kernel_rfl)) T.c_MOST_LEVEL) da_nil))))) (by kernel_rfl)))))))) (dss_one (ds_ret (Γ' := []) de_bl (by kernel_rfl))) dss_nil)
    (dss_one (ds_ret (Γ' := []) (de_all rfl T.n_all (de_lc (own := [("size", 4), ("price", 5)]) rfl sc_are_dues.nd (di_l false (dv 2) (fun z => nomatch z)) (blkOk_by (by kernel_rfl)) (by kernel_rfl) (by kernel_rfl) (fun _ _ _ _ _ => (dg_tup rfl (dgs_cons (dg_var sc_are_dues.nd (by kernel_rfl) (locK (by kernel_rfl)) (by kernel_rfl) (fnK (by kernel_rfl))) (dgs_cons (dg_var sc_are_dues.nd (by kernel_rfl) (locK (by kernel_rfl)) (by kernel_rfl) (fnK (by kernel_rfl))) dgs_nil)))) (fun _ _ _ _ _ => dts_nil) (fun _ _ _ _ _ => (de_cmp op_le os_cmp (de_sum rfl T.n_sum (de_lc (own := [("body", 7), ("due", 8)]) rfl sc_are_dues.nd (di_zip false T.n_zip (dv 0) (dv 3) (fun z => nomatch z) (fun z => nomatch z)) (blkOk_by (by kernel_rfl)) (by kernel_rfl) (by kernel_rfl) (fun _ _ _ _ _ => (dg_tup rfl (dgs_cons (dg_var sc_are_dues.nd (by kernel_rfl) (locK (by kernel_rfl)) (by kernel_rfl) (fnK (by kernel_rfl))) (dgs_cons (dg_var sc_are_dues.nd (by kernel_rfl) (locK (by kernel_rfl)) (by kernel_rfl) (fnK (by kernel_rfl))) dgs_nil)))) (fun _ _ _ _ _ => (dts_one (dt_truth (de_call F_fits (hr.mono (by decide)) (glK (by kernel_rfl)) takes0 (da_cons (dv 4) (da_cons (dv 7) (da_cons (dv 1) da_nil))))))) (fun _ _ _ _ _ => (dv 8)) (by kernel_rfl))) (dv 5) (nomark _))) (by kernel_rfl))) (by kernel_rfl))))) rfl

abbrev s_is_size_best : Stmt := top 32
theorem sc_is_size_best : FnScope ["bodies", "ease", "offers", "thing", "inside", "body", "one"] ["bodies", "ease", "offers", "thing"] (defScope s_is_size_best) := ⟨rfl, rfl, rfl, by decide +kernel, rfl, by decide +kernel, by decide +kernel⟩
theorem ok_is_size_best {f : Addr} {fd : FuncData} (T : Tp K mg) (F_need_offers : FnD P w K mg base "need_offers" 5 3 f_need_offers) (F_are_dues : FnD P w K mg base "are_dues" 3 4 f_are_dues) (F_is_between : FnD P w K mg base "is_between" 2 3 f_is_between) (F_is_lot : FnD P w K mg base "is_lot" 4 2 f_is_lot) (F_cost_of : FnD P w K mg base "cost_of" 1 2 f_cost_of) (F_fits : FnD P w K mg base "fits" 1 3 f_fits) (F : FunD K "is_size_best" "is_size_best" (defArgs s_is_size_best) (defBody s_is_size_best) (defScope s_is_size_best) [] [] f fd) (hm : mg "is_size_best" = some (.ref f)) : FnD P w K mg base "is_size_best" 6 4 f_is_size_best :=
  okD (Γ' := []) F sc_is_size_best rfl (fun _ _ _ _ _ _ us hl => match us, hl with | [_, _, _, _], _ => rfl) hm (fun cdv A outer s H E hr =>
    (dss_cons (ds_expr (de_call F_need_offers (hr.mono (by decide)) (glK (by kernel_rfl)) (takes_of rfl rfl rfl rfl) (da_cons (dv 0) (da_cons (dv 1) (da_cons (dv 2) da_nil)))))
    (dss_cons (ds_if (dt_w (dw_or (dt_not (dt_truth (de_isiT .tuple "tuple" rfl T.n_isinstance T.n_tuple (dv 3) bt_tuple))) (dw_or (dt_cmp op_lt os_cmp (de_len T.n_len (dv 3)) de_int (nomark _) bl_cmp) (dw_or1 (dt_not (dt_truth (de_isiT .str "str" rfl T.n_isinstance T.n_str (de_ix ix_any os_ix (dv 3) de_int (fun _ _ => rfl)) bt_str))))))) (dss_one (ds_ret (Γ' := []) de_bl (by kernel_rfl))) dss_nil)
    (dss_cons (ds_if (dt_cmp (op_eqA (u64 hr)) os_eq (de_ix ix_any os_ix (dv 3) de_int (fun _ _ => rfl)) (de_str (by decide)) (nomark _) bl_eq) (dss_cons (ds_set (i := 4) sc_is_size_best.nd (by kernel_rfl) (locK (by kernel_rfl)) (by kernel_rfl) (de_and (de_sh (de_cmp (op_eqA (u64 hr)) os_eq (de_len T.n_len (dv 3)) de_int (nomark _))) (de_one (de_call F_is_between (hr.mono (by decide)) (glK (by kernel_rfl)) (takes_of rfl rfl rfl rfl) (da_cons (de_ix ix_any os_ix (dv 3) de_int (fun _ _ => rfl)) (da_cons de_int (da_cons (de_bin op_sub os_sub (de_len T.n_len (dv 0)) de_int) da_nil)))))) (by kernel_rfl) (by kernel_rfl) (fnK (by kernel_rfl)))
    (dss_one (ds_ret (Γ' := []) (de_and (dv 4) (de_one (de_sh (de_not (de_any rfl T.n_any (de_lc (own := [("one", 6)]) rfl sc_is_size_best.nd (di_l false (dv 2) (fun z => nomatch z)) (blkOk_by (by kernel_rfl)) (by kernel_rfl) (by kernel_rfl) (fun _ _ _ _ _ => (dg_var sc_is_size_best.nd (by kernel_rfl) (locK (by kernel_rfl)) (by kernel_rfl) (fnK (by kernel_rfl)))) (fun _ _ _ _ _ => dts_nil) (fun _ _ _ _ _ => (de_call F_fits (hr.mono (by decide)) (glK (by kernel_rfl)) takes0 (da_cons (de_ix ix_any os_ix (dv 6) de_int (fun _ _ => rfl)) (da_cons (de_ix ix_any os_ix (dv 0) (de_ix ix_any os_ix (dv 3) de_int (fun _ _ => rfl)) (fun _ _ => rfl)) (da_cons (dv 1) da_nil))))) (by kernel_rfl))))))) (by kernel_rfl)))) dss_nil)
    (dss_cons (ds_if (dt_w (dw_or (dt_cmp (op_neA (u64 hr)) os_ne (de_ix ix_any os_ix (dv 3) de_int (fun _ _ => rfl)) (de_str (by decide)) (nomark _) bl_ne) (dw_or (dt_cmp (op_neA (u64 hr)) os_ne (de_len T.n_len (dv 3)) de_int (nomark _) bl_ne) (dw_or1 (dt_not (dt_truth (de_call F_is_lot (hr.mono (by decide)) (glK (by kernel_rfl)) (takes_of rfl rfl rfl rfl) (da_cons (de_ix ix_any os_ix (dv 3) de_int (fun _ _ => rfl)) (da_cons (de_len T.n_len (dv 2)) da_nil))))))))) (dss_one (ds_ret (Γ' := []) de_bl (by kernel_rfl))) dss_nil)
    (dss_cons (ds_if (dt_not (dt_truth (de_all rfl T.n_all (de_lc (own := [("body", 5)]) rfl sc_is_size_best.nd (di_l false (dv 0) (fun z => nomatch z)) (blkOk_by (by kernel_rfl)) (by kernel_rfl) (by kernel_rfl) (fun _ _ _ _ _ => (dg_var sc_is_size_best.nd (by kernel_rfl) (locK (by kernel_rfl)) (by kernel_rfl) (fnK (by kernel_rfl)))) (fun _ _ _ _ _ => dts_nil) (fun _ _ _ _ _ => (de_any rfl T.n_any (de_lc (own := [("one", 6)]) rfl sc_is_size_best.nd (di_l false (de_ix ix_any os_ix (dv 3) de_int (fun _ _ => rfl)) (fun z => nomatch z)) (blkOk_by (by kernel_rfl)) (by kernel_rfl) (by kernel_rfl) (fun _ _ _ _ _ => (dg_var sc_is_size_best.nd (by kernel_rfl) (locK (by kernel_rfl)) (by kernel_rfl) (fnK (by kernel_rfl)))) (fun _ _ _ _ _ => dts_nil) (fun _ _ _ _ _ => (de_call F_fits (hr.mono (by decide)) (glK (by kernel_rfl)) takes0 (da_cons (de_ix ix_any os_ix (de_ix ix_any os_ix (dv 2) (dv 6) (fun _ _ => rfl)) de_int (fun _ _ => rfl)) (da_cons (dv 5) (da_cons (dv 1) da_nil))))) (by kernel_rfl)))) (by kernel_rfl))))) (dss_one (ds_ret (Γ' := []) de_bl (by kernel_rfl))) dss_nil)
    (dss_one (ds_ret (Γ' := []) (de_and (de_call F_are_dues (hr.mono (by decide)) (glK (by kernel_rfl)) (takes_of rfl rfl rfl rfl) (da_cons (dv 0) (da_cons (dv 1) (da_cons (dv 2) (da_cons (de_ix ix_any os_ix (dv 3) de_int (fun _ _ => rfl)) da_nil))))) (de_one (de_sh (de_cmp (op_eqA (u64 hr)) os_eq (de_call F_cost_of (hr.mono (by decide)) (glK (by kernel_rfl)) (takes_of rfl rfl rfl rfl) (da_cons (dv 2) (da_cons (de_ix ix_any os_ix (dv 3) de_int (fun _ _ => rfl)) da_nil))) (de_sum rfl T.n_sum (de_ix ix_any os_ix (dv 3) de_int (fun _ _ => rfl))) (nomark _))))) (by kernel_rfl))))))))) rfl

abbrev s_size_least : Stmt := top 33
theorem sc_size_least : FnScope ["bodies", "ease", "offers"] ["bodies", "ease", "offers"] (defScope s_size_least) := ⟨rfl, rfl, rfl, by decide +kernel, rfl, by decide +kernel, by decide +kernel⟩
theorem ok_size_least {f : Addr} {fd : FuncData} (T : Tp K mg) (F_need_offers : FnD P w K mg base "need_offers" 5 3 f_need_offers) (F_bare_body : FnD P w K mg base "bare_body" 2 3 f_bare_body) (F_chosen_of : FnD P w K mg base "chosen_of" 1 3 f_chosen_of) (F : FunD K "size_least" "size_least" (defArgs s_size_least) (defBody s_size_least) (defScope s_size_least) [] [] f fd) (hm : mg "size_least" = some (.ref f)) : FnD P w K mg base "size_least" 6 3 f_size_least :=
  okD (Γ' := []) F sc_size_least rfl (fun _ _ _ _ _ _ us hl => match us, hl with | [_, _, _], _ => rfl) hm (fun cdv A outer s H E hr =>
    (dss_cons (ds_expr (de_call F_need_offers (hr.mono (by decide)) (glK (by kernel_rfl)) (takes_of rfl rfl rfl rfl) (da_cons (dv 0) (da_cons (dv 1) (da_cons (dv 2) da_nil)))))
    (dss_cons (ds_if (dt_notN (de_call F_bare_body (hr.mono (by decide)) (glK (by kernel_rfl)) (takes_of rfl rfl rfl rfl) (da_cons (dv 0) (da_cons (dv 1) (da_cons (dv 2) da_nil))))) (dss_one (ds_ret (Γ' := []) de_non (by kernel_rfl))) dss_nil)
    (dss_one (ds_ret (Γ' := []) (de_ix ix_any os_ix (de_call F_chosen_of (hr.mono (by decide)) (glK (by kernel_rfl)) (takes_of rfl rfl rfl rfl) (da_cons (dv 0) (da_cons (dv 1) (da_cons (dv 2) da_nil)))) de_int (fun _ _ => rfl)) (by kernel_rfl)))))) rfl

abbrev s__law_mixed : Stmt := top 37
theorem sc__law_mixed : FnScope ["cell", "k", "first"] ["cell", "k"] (defScope s__law_mixed) := ⟨rfl, rfl, rfl, by decide +kernel, rfl, by decide +kernel, by decide +kernel⟩
theorem ok__law_mixed {f : Addr} {fd : FuncData} (T : Tp K mg)  (F : FunD K "_law_mixed" "_law_mixed" (defArgs s__law_mixed) (defBody s__law_mixed) (defScope s__law_mixed) [] [] f fd) (hm : mg "_law_mixed" = some (.ref f)) : FnD P w K mg base "_law_mixed" 1 2 f__law_mixed :=
  okD (Γ' := []) F sc__law_mixed rfl (fun _ _ _ _ _ _ us hl => match us, hl with | [_, _], _ => rfl) hm (fun cdv A outer s H E hr =>
    (dss_cons (ds_set (i := 2) sc__law_mixed.nd (by kernel_rfl) (locK (by kernel_rfl)) (by kernel_rfl) (de_bin op_addD os_add (de_bin op_addD os_add (de_bin op_mulA os_mul (de_int1 T.n_int (dv 0)) de_int) (de_bin op_mulA os_mul (dv 1) de_int)) de_int) (by kernel_rfl) (by kernel_rfl) (fnK (by kernel_rfl)))
    (dss_one (ds_ret (Γ' := []) (de_bin op_modN os_mod (de_int1 T.n_int (de_bin op_addD os_add (de_bin op_mulA os_mul (dv 2) de_int) (de_bin op_fdivN os_div (dv 2) de_int))) de_int) (by kernel_rfl))))) rfl

abbrev s__law_row : Stmt := top 38
theorem sc__law_row : FnScope ["cell", "many", "top", "found", "left", "great", "k"] ["cell", "many", "top"] (defScope s__law_row) := ⟨rfl, rfl, rfl, by decide +kernel, rfl, by decide +kernel, by decide +kernel⟩
theorem ok__law_row {f : Addr} {fd : FuncData} (T : Tp K mg) (F__law_mixed : FnD P w K mg base "_law_mixed" 1 2 f__law_mixed) (F : FunD K "_law_row" "_law_row" (defArgs s__law_row) (defBody s__law_row) (defScope s__law_row) [] [] f fd) (hm : mg "_law_row" = some (.ref f)) : FnD P w K mg base "_law_row" 2 3 f__law_row :=
  okD (Γ' := []) F sc__law_row rfl (fun _ _ _ _ _ _ us hl => match us, hl with | [_, _, _], _ => rfl) hm (fun cdv A outer s H E hr =>
    (dss_cons (ds_own (i := 3) sc__law_row.nd (by kernel_rfl) (locK (by kernel_rfl)) (by kernel_rfl) (de_lst da_nil (by kernel_rfl) (hl := (len_big len_nil (by decide)))) (by kernel_rfl) (fnK (by kernel_rfl)))
    (dss_cons (ds_set (i := 4) sc__law_row.nd (by kernel_rfl) (locK (by kernel_rfl)) (by kernel_rfl) (de_int1 T.n_int (dv 0)) (by kernel_rfl) (by kernel_rfl) (fnK (by kernel_rfl)))
    (dss_cons (ds_set (i := 5) sc__law_row.nd (by kernel_rfl) (locK (by kernel_rfl)) (by kernel_rfl) (de_cmp op_ge os_cmp (dv 4) de_int (nomark _)) (by kernel_rfl) (by kernel_rfl) (fnK (by kernel_rfl)))
    (dss_cons (ds_wk (ks := [6]) (by kernel_rfl) (ds_nox (ds_for rfl rfl (di_rng1 true (glK (by kernel_rfl)) T.n_range (da_cons (dv 1) da_nil)) (dg_var sc__law_row.nd (by kernel_rfl) (locK (by kernel_rfl)) (by kernel_rfl) (fnK (by kernel_rfl))) (dss_wkp (ks := [6]) (by kernel_rfl) (dss_one (ds_if (dt_truth (dv 5)) (dss_cons (ds_append (i := 3) (by kernel_rfl) (vis_of (by kernel_rfl)) (by kernel_rfl) (de_bin op_modN os_mod (de_int1 T.n_int (dv 4)) (dv 2)) (by kernel_rfl))
    (dss_one (ds_set (i := 4) sc__law_row.nd (by kernel_rfl) (locK (by kernel_rfl)) (by kernel_rfl) (de_bin op_fdivN os_div (dv 4) (dv 2)) (by kernel_rfl) (by kernel_rfl) (fnK (by kernel_rfl))))) (dss_one (ds_append (i := 3) (by kernel_rfl) (vis_of (by kernel_rfl)) (by kernel_rfl) (de_bin op_modN os_mod (de_bin op_fdivN os_div (de_call F__law_mixed (hr.mono (by decide)) (glK (by kernel_rfl)) takes0 (da_cons (dv 0) (da_cons (dv 6) da_nil))) de_int) (dv 2)) (by kernel_rfl)))))))))
    (dss_one (ds_pre (Γ1 := []) (by kernel_rfl) (ds_ret (Γ' := []) (dv 3) (by kernel_rfl))))))))) rfl

abbrev s__law_bodies : Stmt := top 35
theorem sc__law_bodies : FnScope ["cell", "most", "digits", "top", "bodies", "k"] ["cell", "most"] (defScope s__law_bodies) := ⟨rfl, rfl, rfl, by decide +kernel, rfl, by decide +kernel, by decide +kernel⟩
theorem ok__law_bodies {f : Addr} {fd : FuncData} (T : Tp K mg) (F__law_row : FnD P w K mg base "_law_row" 2 3 f__law_row) (F : FunD K "_law_bodies" "_law_bodies" (defArgs s__law_bodies) (defBody s__law_bodies) (defScope s__law_bodies) [] [] f fd) (hm : mg "_law_bodies" = some (.ref f)) : FnD P w K mg base "_law_bodies" 3 2 f__law_bodies :=
  okD (Γ' := []) F sc__law_bodies rfl (fun _ _ _ _ _ _ us hl => match us, hl with | [_, _], _ => rfl) hm (fun cdv A outer s H E hr =>
    (dss_cons (ds_set (i := 2) sc__law_bodies.nd (by kernel_rfl) (locK (by kernel_rfl)) (by kernel_rfl) (de_call F__law_row (hr.mono (by decide)) (glK (by kernel_rfl)) (takes_of rfl rfl rfl rfl) (da_cons (dv 0) (da_cons (de_bin op_addD os_add (dv 1) de_int) (da_cons de_int da_nil)))) (by kernel_rfl) (by kernel_rfl) (fnK (by kernel_rfl)))
    (dss_cons (ds_set (i := 3) sc__law_bodies.nd (by kernel_rfl) (locK (by kernel_rfl)) (by kernel_rfl) (de_ix ix_any os_ix (de_lst (da_cons de_int (da_cons de_int (da_cons de_int da_nil))) (by kernel_rfl) (hl := (len_big (len_cons (len_cons (len_cons len_nil))) (by decide)))) (de_bin op_modN os_mod (de_ix ix_any os_ix (dv 2) de_int (fun _ _ => rfl)) de_int) (fun _ _ => rfl)) (by kernel_rfl) (by kernel_rfl) (fnK (by kernel_rfl)))
    (dss_cons (ds_set (i := 4) sc__law_bodies.nd (by kernel_rfl) (locK (by kernel_rfl)) (by kernel_rfl) (de_tuple T.n_tuple (de_sorted T.n_sorted (de_lc (own := [("k", 5)]) rfl sc__law_bodies.nd (di_rng1 false (glK (by kernel_rfl)) T.n_range (da_cons (de_bin op_modN os_mod (de_ix ix_any os_ix (dv 2) de_int (fun _ _ => rfl)) (de_bin op_addD os_add (dv 1) de_int)) da_nil)) (blkOk_by (by kernel_rfl)) (by kernel_rfl) (by kernel_rfl) (fun _ _ _ _ _ => (dg_var sc__law_bodies.nd (by kernel_rfl) (locK (by kernel_rfl)) (by kernel_rfl) (fnK (by kernel_rfl)))) (fun _ _ _ _ _ => dts_nil) (fun _ _ _ _ _ => (de_bin op_modN os_mod (de_ix ix_any os_ix (dv 2) (de_bin op_addD os_add de_int (dv 5)) (fun _ _ => rfl)) (dv 3))) (by kernel_rfl)))) (by kernel_rfl) (by kernel_rfl) (fnK (by kernel_rfl)))
    (dss_one (ds_ret (Γ' := []) (de_tup (da_cons (dv 4) (da_cons (de_bin op_modN os_mod (de_ix ix_any os_ix (dv 2) de_int (fun _ _ => rfl)) (de_ix ix_any os_ix (de_lst (da_cons de_int (da_cons de_int (da_cons de_int da_nil))) (by kernel_rfl) (hl := (len_big (len_cons (len_cons (len_cons len_nil))) (by decide)))) (de_bin op_modN os_mod (de_ix ix_any os_ix (dv 2) de_int (fun _ _ => rfl)) de_int) (fun _ _ => rfl))) da_nil)) (by kernel_rfl) (hl := (len_big (len_cons (len_cons len_nil)) (by decide)))) (by kernel_rfl))))))) rfl

abbrev s__law_at : Stmt := top 36
theorem sc__law_at : FnScope ["script", "k"] ["script", "k"] (defScope s__law_at) := ⟨rfl, rfl, rfl, by decide +kernel, rfl, by decide +kernel, by decide +kernel⟩
theorem ok__law_at {f : Addr} {fd : FuncData} (T : Tp K mg)  (F : FunD K "_law_at" "_law_at" (defArgs s__law_at) (defBody s__law_at) (defScope s__law_at) [] [] f fd) (hm : mg "_law_at" = some (.ref f)) : FnD P w K mg base "_law_at" 1 2 f__law_at :=
  okD (Γ' := []) F sc__law_at rfl (fun _ _ _ _ _ _ us hl => match us, hl with | [_, _], _ => rfl) hm (fun cdv A outer s H E hr =>
    (dss_cons (ds_if (dt_cmp op_lt os_cmp (dv 1) (de_len T.n_len (dv 0)) (nomark _) bl_cmp) (dss_one (ds_ret (Γ' := []) (de_int1 T.n_int (de_ix ix_any os_ix (dv 0) (dv 1) (fun _ _ => rfl))) (by kernel_rfl))) dss_nil)
    (dss_one (ds_ret (Γ' := []) (de_bin op_addD os_add de_int (de_bin op_mulA os_mul de_int (dv 1))) (by kernel_rfl))))) rfl

abbrev s__law_offers : Stmt := top 39
theorem sc__law_offers : FnScope ["cell", "top", "digits", "found", "k", "size"] ["cell", "top"] (defScope s__law_offers) := ⟨rfl, rfl, rfl, by decide +kernel, rfl, by decide +kernel, by decide +kernel⟩
theorem ok__law_offers {f : Addr} {fd : FuncData} (T : Tp K mg) (F__law_row : FnD P w K mg base "_law_row" 2 3 f__law_row) (F : FunD K "_law_offers" "_law_offers" (defArgs s__law_offers) (defBody s__law_offers) (defScope s__law_offers) [] [] f fd) (hm : mg "_law_offers" = some (.ref f)) : FnD P w K mg base "_law_offers" 3 2 f__law_offers :=
  okD (Γ' := []) F sc__law_offers rfl (fun _ _ _ _ _ _ us hl => match us, hl with | [_, _], _ => rfl) hm (fun cdv A outer s H E hr =>
    (dss_cons (ds_set (i := 2) sc__law_offers.nd (by kernel_rfl) (locK (by kernel_rfl)) (by kernel_rfl) (de_call F__law_row (hr.mono (by decide)) (glK (by kernel_rfl)) (takes_of rfl rfl rfl rfl) (da_cons (dv 0) (da_cons de_int (da_cons de_int da_nil)))) (by kernel_rfl) (by kernel_rfl) (fnK (by kernel_rfl)))
    (dss_cons (ds_ownD (i := 3) sc__law_offers.nd (by kernel_rfl) (locK (by kernel_rfl)) (by kernel_rfl) de_dnewK (by kernel_rfl) (fnK (by kernel_rfl)))
    (dss_cons (ds_wk (ks := [0, 4]) (by kernel_rfl) (ds_nox (ds_for rfl rfl (di_rng1 true (glK (by kernel_rfl)) T.n_range (da_cons (de_bin op_modN os_mod (de_ix ix_any os_ix (dv 2) de_int (fun _ _ => rfl)) de_int) da_nil)) (dg_var sc__law_offers.nd (by kernel_rfl) (locK (by kernel_rfl)) (by kernel_rfl) (fnK (by kernel_rfl))) (dss_wkp (ks := [0, 4]) (by kernel_rfl) (dss_one (ds_putD (i := 3) (u64 hr) (by kernel_rfl) (vis_of (by kernel_rfl)) (by kernel_rfl) (de_bin op_addD os_add de_int (de_bin op_modN os_mod (de_ix ix_any os_ix (dv 2) (de_bin op_addD os_add de_int (de_bin op_mulA os_mul de_int (dv 4))) (fun _ _ => rfl)) (de_ix ix_any os_ix (de_lst (da_cons de_int (da_cons de_int (da_cons de_int da_nil))) (by kernel_rfl) (hl := (len_big (len_cons (len_cons (len_cons len_nil))) (by decide)))) (de_bin op_modN os_mod (de_ix ix_any os_ix (dv 2) de_int (fun _ _ => rfl)) de_int) (fun _ _ => rfl)))) (de_bin op_modN os_mod (de_ix ix_any os_ix (dv 2) (de_bin op_addD os_add de_int (de_bin op_mulA os_mul de_int (dv 4))) (fun _ _ => rfl)) (de_bin op_addD os_add (dv 1) de_int)) (by kernel_rfl)))))))
    (dss_one (ds_ret (Γ' := []) (de_tuple T.n_tuple (de_lc (own := [("size", 5)]) rfl sc__law_offers.nd (di_l false (de_sortedD rfl T.n_sorted (dv 3)) (fun z => nomatch z)) (blkOk_by (by kernel_rfl)) (by kernel_rfl) (by kernel_rfl) (fun _ _ _ _ _ => (dg_var sc__law_offers.nd (by kernel_rfl) (locK (by kernel_rfl)) (by kernel_rfl) (fnK (by kernel_rfl)))) (fun _ _ _ _ _ => dts_nil) (fun _ _ _ _ _ => (de_tup (da_cons (dv 5) (da_cons (de_dget (u64 hr) (dv 3) (dv 5) (fun _ _ => rfl)) da_nil)) (by kernel_rfl) (hl := (len_big (len_cons (len_cons len_nil)) (by decide))))) (by kernel_rfl))) (by kernel_rfl))))))) rfl

abbrev s_law : Stmt := top 40
theorem sc_law : FnScope ["script", "bodies", "ease", "price", "sizes", "body", "every", "count", "told", "offers", "cheap", "first", "great", "paper", "k", "less", "size", "offer", "one"] ["script"] (defScope s_law) := ⟨rfl, rfl, rfl, by decide +kernel, rfl, by decide +kernel, by decide +kernel⟩
theorem ok_law {f : Addr} {fd : FuncData} (T : Tp K mg) (F__law_bodies : FnD P w K mg base "_law_bodies" 3 2 f__law_bodies) (F_size_fewest : FnD P w K mg base "size_fewest" 5 2 f_size_fewest) (F_size_best : FnD P w K mg base "size_best" 6 3 f_size_best) (F__law_offers : FnD P w K mg base "_law_offers" 3 2 f__law_offers) (F_size_least : FnD P w K mg base "size_least" 6 3 f_size_least) (F__law_at : FnD P w K mg base "_law_at" 1 2 f__law_at) (F__law_row : FnD P w K mg base "_law_row" 2 3 f__law_row) (F_is_size_best : FnD P w K mg base "is_size_best" 6 4 f_is_size_best) (F : FunD K "law" "law" (defArgs s_law) (defBody s_law) (defScope s_law) [] [] f fd) : FnOk P w K mg base (L2.CX P w) 7 f fd ["script"] (spD K mg 1 f_law) :=
  okF (Γ' := []) F sc_law rfl (fun cdv A outer s H E hr =>
    (dss_cons (ds_asg (de_call F__law_bodies (hr.mono (by decide)) (glK (by kernel_rfl)) (takes_of rfl rfl rfl rfl) (da_cons (de_call F__law_at (hr.mono (by decide)) (glK (by kernel_rfl)) (takes_of rfl rfl rfl rfl) (da_cons (dv 0) (da_cons de_int da_nil))) (da_cons de_int da_nil))) (dg_tup rfl (dgs_cons (dg_var sc_law.nd (by kernel_rfl) (locK (by kernel_rfl)) (by kernel_rfl) (fnK (by kernel_rfl))) (dgs_cons (dg_var sc_law.nd (by kernel_rfl) (locK (by kernel_rfl)) (by kernel_rfl) (fnK (by kernel_rfl))) dgs_nil))) (by kernel_rfl))
    (dss_cons (ds_set (i := 3) sc_law.nd (by kernel_rfl) (locK (by kernel_rfl)) (by kernel_rfl) (de_bin op_addD os_add de_int (de_ix ix_any os_ix (de_call F__law_row (hr.mono (by decide)) (glK (by kernel_rfl)) (takes_of rfl rfl rfl rfl) (da_cons (de_call F__law_at (hr.mono (by decide)) (glK (by kernel_rfl)) (takes_of rfl rfl rfl rfl) (da_cons (dv 0) (da_cons de_int da_nil))) (da_cons de_int (da_cons de_int da_nil)))) de_int (fun _ _ => rfl))) (by kernel_rfl) (by kernel_rfl) (fnK (by kernel_rfl)))
    (dss_cons (ds_ownD (i := 4) sc_law.nd (by kernel_rfl) (locK (by kernel_rfl)) (by kernel_rfl) de_dnewK (by kernel_rfl) (fnK (by kernel_rfl)))
    (dss_cons (ds_wk (ks := [5, 6, 7, 8, 9, 10, 11, 12, 13, 14, 15]) (by kernel_rfl) (ds_nox (ds_for rfl rfl (di_l true (dv 1) (fun _ => rfl)) (dg_var sc_law.nd (by kernel_rfl) (locK (by kernel_rfl)) (by kernel_rfl) (fnK (by kernel_rfl))) (dss_wkp (ks := [5, 6, 7, 8, 9, 10, 11, 12, 13, 14, 15]) (by kernel_rfl) (dss_one (ds_putD (i := 4) (u64 hr) (by kernel_rfl) (vis_of (by kernel_rfl)) (by kernel_rfl) de_bl (de_bin op_addD os_add (dv 5) (dv 2)) (by kernel_rfl)))))))
    (dss_cons (ds_set (i := 6) sc_law.nd (by kernel_rfl) (locK (by kernel_rfl)) (by kernel_rfl) (de_tuple T.n_tuple (de_lc (own := [("size", 16)]) rfl sc_law.nd (di_l false (de_sortedD rfl T.n_sorted (dv 4)) (fun z => nomatch z)) (blkOk_by (by kernel_rfl)) (by kernel_rfl) (by kernel_rfl) (fun _ _ _ _ _ => (dg_var sc_law.nd (by kernel_rfl) (locK (by kernel_rfl)) (by kernel_rfl) (fnK (by kernel_rfl)))) (fun _ _ _ _ _ => dts_nil) (fun _ _ _ _ _ => (de_tup (da_cons (dv 16) (da_cons (dv 3) da_nil)) (by kernel_rfl) (hl := (len_big (len_cons (len_cons len_nil)) (by decide))))) (by kernel_rfl))) (by kernel_rfl) (by kernel_rfl) (fnK (by kernel_rfl)))
    (dss_cons (ds_set (i := 7) sc_law.nd (by kernel_rfl) (locK (by kernel_rfl)) (by kernel_rfl) (de_call F_size_fewest (hr.mono (by decide)) (glK (by kernel_rfl)) (takes_of rfl rfl rfl rfl) (da_cons (dv 1) (da_cons (dv 2) da_nil))) (by kernel_rfl) (by kernel_rfl) (fnK (by kernel_rfl)))
    (dss_cons (ds_if (dt_cmp (op_neA (u64 hr)) os_ne (de_call F_size_least (hr.mono (by decide)) (glK (by kernel_rfl)) (takes_of rfl rfl rfl rfl) (da_cons (dv 1) (da_cons (dv 2) (da_cons (dv 6) da_nil)))) (de_bin op_mulA os_mul (dv 7) (dv 3)) (nomark _) bl_ne) (dss_one (ds_ret (Γ' := [4]) de_bl (by kernel_rfl))) dss_nil)
    (dss_cons (ds_set (i := 8) sc_law.nd (by kernel_rfl) (locK (by kernel_rfl)) (by kernel_rfl) (de_call F_size_best (hr.mono (by decide)) (glK (by kernel_rfl)) (takes_of rfl rfl rfl rfl) (da_cons (dv 1) (da_cons (dv 2) (da_cons (dv 6) da_nil)))) (by kernel_rfl) (by kernel_rfl) (fnK (by kernel_rfl)))
    (dss_cons (ds_if (dt_w (dw_or (dt_cmp (op_neA (u64 hr)) os_ne (de_ix ix_any os_ix (dv 8) de_int (fun _ _ => rfl)) (de_str (by decide)) (nomark _) bl_ne) (dw_or (dt_cmp (op_neA (u64 hr)) os_ne (de_len T.n_len (de_ix ix_any os_ix (dv 8) de_int (fun _ _ => rfl))) (dv 7) (nomark _) bl_ne) (dw_or1 (dt_cmp (op_neA (u64 hr)) os_ne (de_sum rfl T.n_sum (de_ix ix_any os_ix (dv 8) de_int (fun _ _ => rfl))) (de_bin op_mulA os_mul (dv 7) (dv 3)) (nomark _) bl_ne))))) (dss_one (ds_ret (Γ' := [4]) de_bl (by kernel_rfl))) dss_nil)
    (dss_cons (ds_set (i := 9) sc_law.nd (by kernel_rfl) (locK (by kernel_rfl)) (by kernel_rfl) (de_call F__law_offers (hr.mono (by decide)) (glK (by kernel_rfl)) (takes_of rfl rfl rfl rfl) (da_cons (de_call F__law_at (hr.mono (by decide)) (glK (by kernel_rfl)) (takes_of rfl rfl rfl rfl) (da_cons (dv 0) (da_cons de_int da_nil))) (da_cons (de_maxG rfl (u64 hr) T.n_max (de_bin op_addD os_add (dv 1) (de_tup (da_cons de_int da_nil) (by kernel_rfl) (hl := (len_big (len_cons len_nil) (by decide)))))) da_nil))) (by kernel_rfl) (by kernel_rfl) (fnK (by kernel_rfl)))
    (dss_cons (ds_set (i := 10) sc_law.nd (by kernel_rfl) (locK (by kernel_rfl)) (by kernel_rfl) (de_tuple T.n_tuple (de_lc (own := [("offer", 17)]) rfl sc_law.nd (di_l false (dv 9) (fun z => nomatch z)) (blkOk_by (by kernel_rfl)) (by kernel_rfl) (by kernel_rfl) (fun _ _ _ _ _ => (dg_var sc_law.nd (by kernel_rfl) (locK (by kernel_rfl)) (by kernel_rfl) (fnK (by kernel_rfl)))) (fun _ _ _ _ _ => dts_nil) (fun _ _ _ _ _ => (de_tup (da_cons (de_ix ix_any os_ix (dv 17) de_int (fun _ _ => rfl)) (da_cons (de_bin op_addD os_add de_int (de_bin op_modN os_mod (de_ix ix_any os_ix (dv 17) de_int (fun _ _ => rfl)) de_int)) da_nil)) (by kernel_rfl) (hl := (len_big (len_cons (len_cons len_nil)) (by decide))))) (by kernel_rfl))) (by kernel_rfl) (by kernel_rfl) (fnK (by kernel_rfl)))
    (dss_cons (ds_set (i := 11) sc_law.nd (by kernel_rfl) (locK (by kernel_rfl)) (by kernel_rfl) (de_call F_size_least (hr.mono (by decide)) (glK (by kernel_rfl)) (takes_of rfl rfl rfl rfl) (da_cons (dv 1) (da_cons (dv 2) (da_cons (dv 10) da_nil)))) (by kernel_rfl) (by kernel_rfl) (fnK (by kernel_rfl)))
    (dss_cons (ds_set (i := 12) sc_law.nd (by kernel_rfl) (locK (by kernel_rfl)) (by kernel_rfl) (de_tuple T.n_tuple (de_lc (own := [("offer", 17)]) rfl sc_law.nd (di_l false (dv 10) (fun z => nomatch z)) (blkOk_by (by kernel_rfl)) (by kernel_rfl) (by kernel_rfl) (fun _ _ _ _ _ => (dg_var sc_law.nd (by kernel_rfl) (locK (by kernel_rfl)) (by kernel_rfl) (fnK (by kernel_rfl)))) (fun _ _ _ _ _ => dts_nil) (fun _ _ _ _ _ => (de_tup (da_cons (de_ix ix_any os_ix (dv 17) de_int (fun _ _ => rfl)) (da_cons (de_bin op_mulA os_mul de_int (de_ix ix_any os_ix (dv 17) de_int (fun _ _ => rfl))) da_nil)) (by kernel_rfl) (hl := (len_big (len_cons (len_cons len_nil)) (by decide))))) (by kernel_rfl))) (by kernel_rfl) (by kernel_rfl) (fnK (by kernel_rfl)))
    (dss_cons (ds_if (dt_cmp (op_neA (u64 hr)) os_ne (de_call F_size_least (hr.mono (by decide)) (glK (by kernel_rfl)) (takes_of rfl rfl rfl rfl) (da_cons (dv 1) (da_cons (dv 2) (da_cons (dv 12) da_nil)))) (de_if (dt_isN (dv 11)) de_non (de_bin op_mulA os_mul de_int (dv 11))) (nomark _) bl_ne) (dss_one (ds_ret (Γ' := [4]) de_bl (by kernel_rfl))) dss_nil)
    (dss_cons (ds_if (dt_notN (dv 11)) (dss_cons (ds_set (i := 13) sc_law.nd (by kernel_rfl) (locK (by kernel_rfl)) (by kernel_rfl) (de_call F_size_best (hr.mono (by decide)) (glK (by kernel_rfl)) (takes_of rfl rfl rfl rfl) (da_cons (dv 1) (da_cons (dv 2) (da_cons (dv 10) da_nil)))) (by kernel_rfl) (by kernel_rfl) (fnK (by kernel_rfl)))
    (dss_cons (ds_if (dt_notB (de_call F_is_size_best (hr.mono (by decide)) (glK (by kernel_rfl)) (takes_of rfl rfl rfl rfl) (da_cons (dv 1) (da_cons (dv 2) (da_cons (dv 12) (da_cons (de_tup (da_cons (de_str (by decide)) (da_cons (de_ix ix_any os_ix (dv 13) de_int (fun _ _ => rfl)) (da_cons (de_tuple T.n_tuple (de_lc (own := [("one", 18)]) rfl sc_law.nd (di_l false (de_ix ix_any os_ix (dv 13) de_int (fun _ _ => rfl)) (fun z => nomatch z)) (blkOk_by (by kernel_rfl)) (by kernel_rfl) (by kernel_rfl) (fun _ _ _ _ _ => (dg_var sc_law.nd (by kernel_rfl) (locK (by kernel_rfl)) (by kernel_rfl) (fnK (by kernel_rfl)))) (fun _ _ _ _ _ => dts_nil) (fun _ _ _ _ _ => (de_bin op_mulA os_mul de_int (dv 18))) (by kernel_rfl))) da_nil))) (by kernel_rfl) (hl := (len_big (len_cons (len_cons (len_cons len_nil))) (by decide)))) da_nil)))))) (dss_one (ds_ret (Γ' := [4]) de_bl (by kernel_rfl))) dss_nil)
    (dss_cons (ds_if (dt_w (dw_and (dt_cmp op_lt os_cmp (dv 2) de_int (nomark _) bl_cmp) (dw_and1 (dt_cmp op_gt os_cmp (de_call F_size_least (hr.mono (by decide)) (glK (by kernel_rfl)) (takes_of rfl rfl rfl rfl) (da_cons (dv 1) (da_cons (de_bin op_addD os_add (dv 2) de_int) (da_cons (dv 10) da_nil)))) (dv 11) (nomark _) bl_cmp)))) (dss_one (ds_ret (Γ' := [4]) de_bl (by kernel_rfl))) dss_nil)
    (dss_one (ds_pre (Γ1 := []) (by kernel_rfl) (ds_wk (ks := [0, 3, 4, 5, 6, 8, 9, 12, 13, 14, 15]) (by kernel_rfl) (ds_nox (ds_for rfl rfl (di_rng1 true (glK (by kernel_rfl)) T.n_range (da_cons (de_len T.n_len (dv 10)) da_nil)) (dg_var sc_law.nd (by kernel_rfl) (locK (by kernel_rfl)) (by kernel_rfl) (fnK (by kernel_rfl))) (dss_wkp (ks := [0, 3, 4, 5, 6, 8, 9, 12, 13, 14, 15]) (by kernel_rfl) (dss_cons (ds_set (i := 15) sc_law.nd (by kernel_rfl) (locK (by kernel_rfl)) (by kernel_rfl) (de_call F_size_least (hr.mono (by decide)) (glK (by kernel_rfl)) takes0 (da_cons (dv 1) (da_cons (dv 2) (da_cons (de_bin op_addD os_add (de_slice (dv 10) do_none (do_some (dv 14))) (de_slice (dv 10) (do_some (de_bin op_addD os_add (dv 14) de_int)) do_none)) da_nil)))) (by kernel_rfl) (by kernel_rfl) (fnK (by kernel_rfl)))
    (dss_one (ds_if (dt_w (dw_and (dt_notN (dv 15)) (dw_and1 (dt_cmp op_lt os_cmp (dv 15) (dv 11) (nomark _) bl_cmp)))) (dss_one (ds_ret (Γ' := []) de_bl (by kernel_rfl))) dss_nil)))))))))))) (dss_post (Γ' := [4]) (Γ1 := []) (by kernel_rfl) dss_nil))
    (dss_one (ds_ret (Γ' := []) (de_or (de_sh (de_isN (dv 11))) (de_one (de_sh (de_cmp op_ge os_cmp (dv 11) (dv 7) (nomark _))))) (by kernel_rfl))))))))))))))))))) rfl
end
/-! ### the head -/
def d_is_integer : He.DefD := ⟨("is_integer", none), "is_integer", "is_integer", defArgs s_is_integer, defBody s_is_integer, defScope s_is_integer, [], []⟩
def d_is_between : He.DefD := ⟨("is_between", none), "is_between", "is_between", defArgs s_is_between, defBody s_is_between, defScope s_is_between, [], []⟩
def d_is_under : He.DefD := ⟨("is_under", none), "is_under", "is_under", defArgs s_is_under, defBody s_is_under, defScope s_is_under, [], []⟩
def d_is_tuple_of : He.DefD := ⟨("is_tuple_of", none), "is_tuple_of", "is_tuple_of", defArgs s_is_tuple_of, defBody s_is_tuple_of, defScope s_is_tuple_of, [], []⟩
def d_are_under : He.DefD := ⟨("are_under", none), "are_under", "are_under", defArgs s_are_under, defBody s_are_under, defScope s_are_under, [], []⟩
def d_is_lot : He.DefD := ⟨("is_lot", none), "is_lot", "is_lot", defArgs s_is_lot, defBody s_is_lot, defScope s_is_lot, [], []⟩
def d_are_bodies : He.DefD := ⟨("are_bodies", none), "are_bodies", "are_bodies", defArgs s_are_bodies, defBody s_are_bodies, defScope s_are_bodies, [], []⟩
def d_need_bodies : He.DefD := ⟨("need_bodies", none), "need_bodies", "need_bodies", defArgs s_need_bodies, defBody s_need_bodies, defScope s_need_bodies, [], []⟩
def d_fits : He.DefD := ⟨("fits", none), "fits", "fits", defArgs s_fits, defBody s_fits, defScope s_fits, [], []⟩
def d_cover_of : He.DefD := ⟨("cover_of", none), "cover_of", "cover_of", defArgs s_cover_of, defBody s_cover_of, defScope s_cover_of, [], []⟩
def d_size_fewest : He.DefD := ⟨("size_fewest", none), "size_fewest", "size_fewest", defArgs s_size_fewest, defBody s_size_fewest, defScope s_size_fewest, [], []⟩
def d_are_offers : He.DefD := ⟨("are_offers", none), "are_offers", "are_offers", defArgs s_are_offers, defBody s_are_offers, defScope s_are_offers, [], []⟩
def d_need_offers : He.DefD := ⟨("need_offers", none), "need_offers", "need_offers", defArgs s_need_offers, defBody s_need_offers, defScope s_need_offers, [], []⟩
def d_bare_body : He.DefD := ⟨("bare_body", none), "bare_body", "bare_body", defArgs s_bare_body, defBody s_bare_body, defScope s_bare_body, [], []⟩
def d_chosen_of : He.DefD := ⟨("chosen_of", none), "chosen_of", "chosen_of", defArgs s_chosen_of, defBody s_chosen_of, defScope s_chosen_of, [], []⟩
def d_dues_of : He.DefD := ⟨("dues_of", none), "dues_of", "dues_of", defArgs s_dues_of, defBody s_dues_of, defScope s_dues_of, [], []⟩
def d_size_best : He.DefD := ⟨("size_best", none), "size_best", "size_best", defArgs s_size_best, defBody s_size_best, defScope s_size_best, [], []⟩
def d_cost_of : He.DefD := ⟨("cost_of", none), "cost_of", "cost_of", defArgs s_cost_of, defBody s_cost_of, defScope s_cost_of, [], []⟩
def d_are_dues : He.DefD := ⟨("are_dues", none), "are_dues", "are_dues", defArgs s_are_dues, defBody s_are_dues, defScope s_are_dues, [], []⟩
def d_is_size_best : He.DefD := ⟨("is_size_best", none), "is_size_best", "is_size_best", defArgs s_is_size_best, defBody s_is_size_best, defScope s_is_size_best, [], []⟩
def d_size_least : He.DefD := ⟨("size_least", none), "size_least", "size_least", defArgs s_size_least, defBody s_size_least, defScope s_size_least, [], []⟩
def d__law_mixed : He.DefD := ⟨("_law_mixed", none), "_law_mixed", "_law_mixed", defArgs s__law_mixed, defBody s__law_mixed, defScope s__law_mixed, [], []⟩
def d__law_row : He.DefD := ⟨("_law_row", none), "_law_row", "_law_row", defArgs s__law_row, defBody s__law_row, defScope s__law_row, [], []⟩
def d__law_bodies : He.DefD := ⟨("_law_bodies", none), "_law_bodies", "_law_bodies", defArgs s__law_bodies, defBody s__law_bodies, defScope s__law_bodies, [], []⟩
def d__law_at : He.DefD := ⟨("_law_at", none), "_law_at", "_law_at", defArgs s__law_at, defBody s__law_at, defScope s__law_at, [], []⟩
def d__law_offers : He.DefD := ⟨("_law_offers", none), "_law_offers", "_law_offers", defArgs s__law_offers, defBody s__law_offers, defScope s__law_offers, [], []⟩
def d_law : He.DefD := ⟨("law", none), "law", "law", defArgs s_law, defBody s_law, defScope s_law, [], []⟩
def fn : List He.DefD := [d_is_integer, d_is_between, d_is_under, d_is_tuple_of, d_are_under, d_is_lot, d_are_bodies, d_need_bodies, d_fits, d_cover_of, d_size_fewest, d_are_offers, d_need_offers, d_bare_body, d_chosen_of, d_dues_of, d_size_best, d_cost_of, d_are_dues, d_is_size_best, d_size_least, d__law_mixed, d__law_row, d__law_bodies, d__law_at, d__law_offers, d_law]
def fa : List He.Fa := [.int "MOST_BODIES" 12, .int "MOST_EASE" 50, .int "MOST_LEVEL" 10000, .int "MOST_MEASURE" 200, .int "MOST_PRICE" 100, .int "MOST_SIZES" 10, .free "abs", .free "all", .free "any", .free "bool", .free "enumerate", .free "int", .free "isinstance", .free "len", .free "max", .free "min", .free "range", .free "sorted", .free "str", .free "sum", .free "tuple", .free "zip", .exc "NoNumber", .exc "NoPrices", .exc "NoSizes", .glo "is_integer", .glo "is_between", .glo "is_under", .glo "is_tuple_of", .glo "are_under", .glo "is_lot", .glo "are_bodies", .glo "need_bodies", .glo "fits", .glo "cover_of", .glo "size_fewest", .glo "are_offers", .glo "need_offers", .glo "bare_body", .glo "chosen_of", .glo "dues_of", .glo "size_best", .glo "cost_of", .glo "are_dues", .glo "is_size_best", .glo "size_least", .glo "_law_mixed", .glo "_law_row", .glo "_law_bodies", .glo "_law_at", .glo "_law_offers", .glo "law", .glo "NoNumber", .glo "NoPrices", .glo "NoSizes"]
def exF (K : PySem.W.Frag) : Bool := true
theorem facts {P : Program} {w : World} {K : PySem.W.Frag} {h : Heap} {mg : MG} {f : Addr} (X : K.In h) (G : h.Ns mainGlobals mg) (hfa : mg ("law" : Str) = some (.ref f)) (c : He.SaysD fa fn K) (ex : exF K = true) :
    ∃ fd : FuncData, (∀ (s : Shared) (v : Value), BindsTo s fd ⟨[v], []⟩ [("script", v)]) ∧ ∀ base : Heap, K.In base → base.Ns mainGlobals mg → FnOk P w K mg base (L2.CX P w) 7 f fd ["script"] (spD K mg 1 f_law) := by
  have T : Tp K mg := {
    c_MOST_BODIES := He.int_ok X G (c.fact 0 (f := .int "MOST_BODIES" 12) rfl)
    c_MOST_EASE := He.int_ok X G (c.fact 1 (f := .int "MOST_EASE" 50) rfl)
    c_MOST_LEVEL := He.int_ok X G (c.fact 2 (f := .int "MOST_LEVEL" 10000) rfl)
    c_MOST_MEASURE := He.int_ok X G (c.fact 3 (f := .int "MOST_MEASURE" 200) rfl)
    c_MOST_PRICE := He.int_ok X G (c.fact 4 (f := .int "MOST_PRICE" 100) rfl)
    c_MOST_SIZES := He.int_ok X G (c.fact 5 (f := .int "MOST_SIZES" 10) rfl)
    n_abs := He.free_ok X G (c.fact 6 (f := .free "abs") rfl)
    n_all := He.free_ok X G (c.fact 7 (f := .free "all") rfl)
    n_any := He.free_ok X G (c.fact 8 (f := .free "any") rfl)
    n_bool := He.free_ok X G (c.fact 9 (f := .free "bool") rfl)
    n_enumerate := He.free_ok X G (c.fact 10 (f := .free "enumerate") rfl)
    n_int := He.free_ok X G (c.fact 11 (f := .free "int") rfl)
    n_isinstance := He.free_ok X G (c.fact 12 (f := .free "isinstance") rfl)
    n_len := He.free_ok X G (c.fact 13 (f := .free "len") rfl)
    n_max := He.free_ok X G (c.fact 14 (f := .free "max") rfl)
    n_min := He.free_ok X G (c.fact 15 (f := .free "min") rfl)
    n_range := He.free_ok X G (c.fact 16 (f := .free "range") rfl)
    n_sorted := He.free_ok X G (c.fact 17 (f := .free "sorted") rfl)
    n_str := He.free_ok X G (c.fact 18 (f := .free "str") rfl)
    n_sum := He.free_ok X G (c.fact 19 (f := .free "sum") rfl)
    n_tuple := He.free_ok X G (c.fact 20 (f := .free "tuple") rfl)
    n_zip := He.free_ok X G (c.fact 21 (f := .free "zip") rfl)
    x_NoNumber := exn_of X G (c.fact 22 (f := .exc "NoNumber") rfl) (c.fact 52 (f := .glo "NoNumber") rfl)
    x_NoPrices := exn_of X G (c.fact 23 (f := .exc "NoPrices") rfl) (c.fact 53 (f := .glo "NoPrices") rfl)
    x_NoSizes := exn_of X G (c.fact 24 (f := .exc "NoSizes") rfl) (c.fact 54 (f := .glo "NoSizes") rfl) }
  obtain ⟨fd_is_integer, F_is_integer⟩ := c.def_ 0 (d := d_is_integer) rfl
  have m_is_integer := He.glo_ok X G (c.fact 25 (f := .glo "is_integer") rfl)
  obtain ⟨fd_is_between, F_is_between⟩ := c.def_ 1 (d := d_is_between) rfl
  have m_is_between := He.glo_ok X G (c.fact 26 (f := .glo "is_between") rfl)
  obtain ⟨fd_is_under, F_is_under⟩ := c.def_ 2 (d := d_is_under) rfl
  have m_is_under := He.glo_ok X G (c.fact 27 (f := .glo "is_under") rfl)
  obtain ⟨fd_is_tuple_of, F_is_tuple_of⟩ := c.def_ 3 (d := d_is_tuple_of) rfl
  have m_is_tuple_of := He.glo_ok X G (c.fact 28 (f := .glo "is_tuple_of") rfl)
  obtain ⟨fd_are_under, F_are_under⟩ := c.def_ 4 (d := d_are_under) rfl
  have m_are_under := He.glo_ok X G (c.fact 29 (f := .glo "are_under") rfl)
  obtain ⟨fd_is_lot, F_is_lot⟩ := c.def_ 5 (d := d_is_lot) rfl
  have m_is_lot := He.glo_ok X G (c.fact 30 (f := .glo "is_lot") rfl)
  obtain ⟨fd_are_bodies, F_are_bodies⟩ := c.def_ 6 (d := d_are_bodies) rfl
  have m_are_bodies := He.glo_ok X G (c.fact 31 (f := .glo "are_bodies") rfl)
  obtain ⟨fd_need_bodies, F_need_bodies⟩ := c.def_ 7 (d := d_need_bodies) rfl
  have m_need_bodies := He.glo_ok X G (c.fact 32 (f := .glo "need_bodies") rfl)
  obtain ⟨fd_fits, F_fits⟩ := c.def_ 8 (d := d_fits) rfl
  have m_fits := He.glo_ok X G (c.fact 33 (f := .glo "fits") rfl)
  obtain ⟨fd_cover_of, F_cover_of⟩ := c.def_ 9 (d := d_cover_of) rfl
  have m_cover_of := He.glo_ok X G (c.fact 34 (f := .glo "cover_of") rfl)
  obtain ⟨fd_size_fewest, F_size_fewest⟩ := c.def_ 10 (d := d_size_fewest) rfl
  have m_size_fewest := He.glo_ok X G (c.fact 35 (f := .glo "size_fewest") rfl)
  obtain ⟨fd_are_offers, F_are_offers⟩ := c.def_ 11 (d := d_are_offers) rfl
  have m_are_offers := He.glo_ok X G (c.fact 36 (f := .glo "are_offers") rfl)
  obtain ⟨fd_need_offers, F_need_offers⟩ := c.def_ 12 (d := d_need_offers) rfl
  have m_need_offers := He.glo_ok X G (c.fact 37 (f := .glo "need_offers") rfl)
  obtain ⟨fd_bare_body, F_bare_body⟩ := c.def_ 13 (d := d_bare_body) rfl
  have m_bare_body := He.glo_ok X G (c.fact 38 (f := .glo "bare_body") rfl)
  obtain ⟨fd_chosen_of, F_chosen_of⟩ := c.def_ 14 (d := d_chosen_of) rfl
  have m_chosen_of := He.glo_ok X G (c.fact 39 (f := .glo "chosen_of") rfl)
  obtain ⟨fd_dues_of, F_dues_of⟩ := c.def_ 15 (d := d_dues_of) rfl
  have m_dues_of := He.glo_ok X G (c.fact 40 (f := .glo "dues_of") rfl)
  obtain ⟨fd_size_best, F_size_best⟩ := c.def_ 16 (d := d_size_best) rfl
  have m_size_best := He.glo_ok X G (c.fact 41 (f := .glo "size_best") rfl)
  obtain ⟨fd_cost_of, F_cost_of⟩ := c.def_ 17 (d := d_cost_of) rfl
  have m_cost_of := He.glo_ok X G (c.fact 42 (f := .glo "cost_of") rfl)
  obtain ⟨fd_are_dues, F_are_dues⟩ := c.def_ 18 (d := d_are_dues) rfl
  have m_are_dues := He.glo_ok X G (c.fact 43 (f := .glo "are_dues") rfl)
  obtain ⟨fd_is_size_best, F_is_size_best⟩ := c.def_ 19 (d := d_is_size_best) rfl
  have m_is_size_best := He.glo_ok X G (c.fact 44 (f := .glo "is_size_best") rfl)
  obtain ⟨fd_size_least, F_size_least⟩ := c.def_ 20 (d := d_size_least) rfl
  have m_size_least := He.glo_ok X G (c.fact 45 (f := .glo "size_least") rfl)
  obtain ⟨fd__law_mixed, F__law_mixed⟩ := c.def_ 21 (d := d__law_mixed) rfl
  have m__law_mixed := He.glo_ok X G (c.fact 46 (f := .glo "_law_mixed") rfl)
  obtain ⟨fd__law_row, F__law_row⟩ := c.def_ 22 (d := d__law_row) rfl
  have m__law_row := He.glo_ok X G (c.fact 47 (f := .glo "_law_row") rfl)
  obtain ⟨fd__law_bodies, F__law_bodies⟩ := c.def_ 23 (d := d__law_bodies) rfl
  have m__law_bodies := He.glo_ok X G (c.fact 48 (f := .glo "_law_bodies") rfl)
  obtain ⟨fd__law_at, F__law_at⟩ := c.def_ 24 (d := d__law_at) rfl
  have m__law_at := He.glo_ok X G (c.fact 49 (f := .glo "_law_at") rfl)
  obtain ⟨fd__law_offers, F__law_offers⟩ := c.def_ 25 (d := d__law_offers) rfl
  have m__law_offers := He.glo_ok X G (c.fact 50 (f := .glo "_law_offers") rfl)
  obtain ⟨fd_law, F_law⟩ := c.def_ 26 (d := d_law) rfl
  have m_law := He.glo_ok X G (c.fact 51 (f := .glo "law") rfl)
  have e := hfa.symm.trans m_law
  cases e
  have b := FunD.bindsA (ps := ["script"]) F_law fun _ _ _ _ _ _ us hl => match us, hl with | [_], _ => rfl
  refine ⟨fd_law, fun s v => b s [v] rfl, fun base _ _ => ?_⟩
  have G_is_integer := ok_is_integer (P := P) (w := w) (base := base) T  F_is_integer m_is_integer
  have G_is_between := ok_is_between (P := P) (w := w) (base := base) T G_is_integer F_is_between m_is_between
  have G_is_under := ok_is_under (P := P) (w := w) (base := base) T G_is_integer F_is_under m_is_under
  have G_is_tuple_of := ok_is_tuple_of (P := P) (w := w) (base := base) T  F_is_tuple_of m_is_tuple_of
  have G_are_under := ok_are_under (P := P) (w := w) (base := base) T G_is_under F_are_under m_are_under
  have G_is_lot := ok_is_lot (P := P) (w := w) (base := base) T G_are_under F_is_lot m_is_lot
  have G_are_bodies := ok_are_bodies (P := P) (w := w) (base := base) T G_is_between F_are_bodies m_are_bodies
  have G_need_bodies := ok_need_bodies (P := P) (w := w) (base := base) T G_are_bodies G_is_between F_need_bodies m_need_bodies
  have G_fits := ok_fits (P := P) (w := w) (base := base) T  F_fits m_fits
  have G_cover_of := ok_cover_of (P := P) (w := w) (base := base) T G_fits F_cover_of m_cover_of
  have G_size_fewest := ok_size_fewest (P := P) (w := w) (base := base) T G_need_bodies G_cover_of F_size_fewest m_size_fewest
  have G_are_offers := ok_are_offers (P := P) (w := w) (base := base) T G_is_tuple_of G_is_between F_are_offers m_are_offers
  have G_need_offers := ok_need_offers (P := P) (w := w) (base := base) T G_need_bodies G_are_offers F_need_offers m_need_offers
  have G_bare_body := ok_bare_body (P := P) (w := w) (base := base) T G_fits F_bare_body m_bare_body
  have G_chosen_of := ok_chosen_of (P := P) (w := w) (base := base) T  F_chosen_of m_chosen_of
  have G_dues_of := ok_dues_of (P := P) (w := w) (base := base) T G_fits F_dues_of m_dues_of
  have G_size_best := ok_size_best (P := P) (w := w) (base := base) T G_need_offers G_bare_body G_chosen_of G_dues_of F_size_best m_size_best
  have G_cost_of := ok_cost_of (P := P) (w := w) (base := base) T  F_cost_of m_cost_of
  have G_are_dues := ok_are_dues (P := P) (w := w) (base := base) T G_is_tuple_of G_is_between G_fits F_are_dues m_are_dues
  have G_is_size_best := ok_is_size_best (P := P) (w := w) (base := base) T G_need_offers G_are_dues G_is_between G_is_lot G_cost_of G_fits F_is_size_best m_is_size_best
  have G_size_least := ok_size_least (P := P) (w := w) (base := base) T G_need_offers G_bare_body G_chosen_of F_size_least m_size_least
  have G__law_mixed := ok__law_mixed (P := P) (w := w) (base := base) T  F__law_mixed m__law_mixed
  have G__law_row := ok__law_row (P := P) (w := w) (base := base) T G__law_mixed F__law_row m__law_row
  have G__law_bodies := ok__law_bodies (P := P) (w := w) (base := base) T G__law_row F__law_bodies m__law_bodies
  have G__law_at := ok__law_at (P := P) (w := w) (base := base) T  F__law_at m__law_at
  have G__law_offers := ok__law_offers (P := P) (w := w) (base := base) T G__law_row F__law_offers m__law_offers
  exact ok_law T G__law_bodies G_size_fewest G_size_best G__law_offers G_size_least G__law_at G__law_row G_is_size_best F_law
abbrev R : PySem.W.OpenRow := PySem.W.OpenLaw.row PySem.Challenge.rw_needlehouse_k83_cheapest_and_fewest_size
abbrev hk : PySem.W.Hook := hookE 4 fa fn exF
def ob (s : PySem.W.SharedT) : AlE := obsEG 4 fa fn exF (HandSHeadRun.getT s)
theorem ob_eq (s : PySem.W.SharedT) : ob s = hk.obs s.abs := obsEG_eq (HandSHeadRun.getT_eq s)
theorem run (w : World) : HandSHeadRun.RunEq R (PySem.W.view R.prog [40]) hk ob 4000 (("NeedleError" : PySem.Str) :: ("NoNumber" : PySem.Str) :: ("NoSizes" : PySem.Str) :: ("NoPrices" : PySem.Str) :: ("is_integer" : PySem.Str) :: ("is_between" : PySem.Str) :: ("is_under" : PySem.Str) :: ("is_tuple_of" : PySem.Str) :: ("are_under" : PySem.Str) :: ("is_lot" : PySem.Str) :: ("MOST_BODIES" : PySem.Str) :: ("MOST_MEASURE" : PySem.Str) :: ("MOST_EASE" : PySem.Str) :: ("MOST_SIZES" : PySem.Str) :: ("MOST_PRICE" : PySem.Str) :: ("MOST_LEVEL" : PySem.Str) :: ("are_bodies" : PySem.Str) :: ("need_bodies" : PySem.Str) :: ("fits" : PySem.Str) :: ("cover_of" : PySem.Str) :: ("size_fewest" : PySem.Str) :: ("are_offers" : PySem.Str) :: ("need_offers" : PySem.Str) :: ("bare_body" : PySem.Str) :: ("chosen_of" : PySem.Str) :: ("dues_of" : PySem.Str) :: ("size_best" : PySem.Str) :: ("cost_of" : PySem.Str) :: ("are_dues" : PySem.Str) :: ("is_size_best" : PySem.Str) :: ("size_least" : PySem.Str) :: ("_law_bodies" : PySem.Str) :: ("_law_at" : PySem.Str) :: ("_law_mixed" : PySem.Str) :: ("_law_row" : PySem.Str) :: ("_law_offers" : PySem.Str) :: []) w := by
  intro os
  kernel_rfl
end K83.Wk
open PySem PySem.W PySem.Calls PyProof.Rows
theorem K83.holds (hlaw : ∀ ns : List Int, ns.length ≤ 63 → K83.f_law [.list (ns.map PyData.int)] = .ok (.bool true)) : PySem.Challenge.rw_needlehouse_k83_cheapest_and_fewest_size.Holds := by
  w_on; o_law
  refine HandSHeadRun.head_any (r := OpenLaw.row PySem.Challenge.rw_needlehouse_k83_cheapest_and_fewest_size) (q := view (OpenLaw.row PySem.Challenge.rw_needlehouse_k83_cheapest_and_fewest_size).prog [40]) (H := K83.Wk.hk) (ob := K83.Wk.ob) (M := 4000) (loose := (("NeedleError" : PySem.Str) :: ("NoNumber" : PySem.Str) :: ("NoSizes" : PySem.Str) :: ("NoPrices" : PySem.Str) :: ("is_integer" : PySem.Str) :: ("is_between" : PySem.Str) :: ("is_under" : PySem.Str) :: ("is_tuple_of" : PySem.Str) :: ("are_under" : PySem.Str) :: ("is_lot" : PySem.Str) :: ("MOST_BODIES" : PySem.Str) :: ("MOST_MEASURE" : PySem.Str) :: ("MOST_EASE" : PySem.Str) :: ("MOST_SIZES" : PySem.Str) :: ("MOST_PRICE" : PySem.Str) :: ("MOST_LEVEL" : PySem.Str) :: ("are_bodies" : PySem.Str) :: ("need_bodies" : PySem.Str) :: ("fits" : PySem.Str) :: ("cover_of" : PySem.Str) :: ("size_fewest" : PySem.Str) :: ("are_offers" : PySem.Str) :: ("need_offers" : PySem.Str) :: ("bare_body" : PySem.Str) :: ("chosen_of" : PySem.Str) :: ("dues_of" : PySem.Str) :: ("size_best" : PySem.Str) :: ("cost_of" : PySem.Str) :: ("are_dues" : PySem.Str) :: ("is_size_best" : PySem.Str) :: ("size_least" : PySem.Str) :: ("_law_bodies" : PySem.Str) :: ("_law_at" : PySem.Str) :: ("_law_mixed" : PySem.Str) :: ("_law_row" : PySem.Str) :: ("_law_offers" : PySem.Str) :: [])) (d := HandSHeadRun.topDef (OpenLaw.row PySem.Challenge.rw_needlehouse_k83_cheapest_and_fewest_size).prog 40) (kwd := []) K83.Wk.ob_eq
    (by kernel_rfl) (fun s => by kernel_rfl) K83.Wk.run (by kernel_rfl) (by kernel_rfl) (by kernel_rfl) (by rfl) (by first | assumption | decide +kernel) (by decide +kernel) ⟨rfl, rfl, rfl, rfl, rfl, by decide +kernel⟩ ?hw ?hc
  case hw => w_witness2
  case hc =>
    refine DL.walk_ofX (l := PySem.Challenge.rw_needlehouse_k83_cheapest_and_fewest_size) (n := 63) (k := 7) (x := "script") rfl (by decide) (by kernel_rfl) ⟨rfl, by decide, by decide⟩ ?F
    intro w mg fa h Y G hmg0
    obtain ⟨K, KX, c, cx⟩ := Y
    have hmg : mg ("law" : PySem.Str) = some (.ref fa) := by
      have e : (HandSHeadRun.topDef (OpenLaw.row PySem.Challenge.rw_needlehouse_k83_cheapest_and_fewest_size).prog 40).name = ("law" : PySem.Str) := by kernel_rfl
      rw [← e]
      exact hmg0
    obtain ⟨fd, hb, hF⟩ := K83.Wk.facts (P := (PySem.Challenge.rw_needlehouse_k83_cheapest_and_fewest_size).prog) (w := w) KX G hmg c cx
    exact ⟨K, fd, _, KX, hb, fun H a ns hl hO hS => DL.law_sp (n := 63) (by decide) hlaw H a ns hl hO hS, hF⟩
theorem PySem.Challenge.cw_needlehouse_k83_cheapest_and_fewest_size_holds : PySem.Challenge.rw_needlehouse_k83_cheapest_and_fewest_size.Holds := by
  exact K83.holds K83.law
