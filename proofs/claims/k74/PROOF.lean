import PyProof.Rows.All
import Wide.All
import OpenK.AllK
import Wide.FinOn
import PySem.Builtin.Int.W1All
import PyProof.EqLayable
import KE.DataCmp
import KE.SortData
import KE.DataMinMax
import HandS.ForMost
import HandS.ForExc
import HandS.Gcd
import HandS.IsInst
import HandS.Conv
import HandS.Deep
import HandS.Flow
import HandS.Style
import HandS.TupAny
import HandS.WordsExc
import HandS.Wide
import HandS.HeadHook2
import KE.GoesEnum
import HandS.Iter
import HandS.SortInts
import KE.KTupSum
import PyProof.Rows.SortShell
import HandS.TupSets
import HandS.SetFor
import HandS.TupMul
import HandS.ExcIs
import KE.KStateDown
import HandS.Head0
import HandS.Head1
import HandS.Head2
import HandS.Head3
import HandS.HeadEnd
import HandS.HeadHook1
import HandS.Rev
import HandS.RevTup
import PySem.Challenge.RW_needlehouse_k74_whole_buttons_and_holes
set_option Elab.async false
set_option linter.all false
/-! The D semantics: what the constructs compute, as plain functions over PyData. -/
namespace DL
open PySem

abbrev Da := PyData

inductive R (α : Type) where
  | ok (a : α)
  | exc (c : Str)
  | bad

def R.bind {α β : Type} : R α → (α → R β) → R β
  | .ok a, f => f a
  | .exc c, _ => .exc c
  | .bad, _ => .bad

@[simp] theorem R.bind_ok {α β : Type} (a : α) (f : α → R β) : (R.ok a).bind f = f a := by unfold R.bind; rfl
@[simp] theorem R.bind_exc {α β : Type} (c : Str) (f : α → R β) : (R.exc c : R α).bind f = .exc c := by unfold R.bind; rfl
@[simp] theorem R.bind_bad {α β : Type} (f : α → R β) : (R.bad : R α).bind f = .bad := by unfold R.bind; rfl
theorem R.bind_assoc {α β γ : Type} (r : R α) (f : α → R β) (g : β → R γ) : (r.bind f).bind g = r.bind fun a => (f a).bind g := by
  cases r <;> rfl
abbrev Ev := List (Option Da)
abbrev SE := Ev → R Da
abbrev SA := Ev → R (List Da)
abbrev STg := Da → Ev → R Ev
inductive Out where
  | nx (ρ : Ev)
  | rt (d : Da)
abbrev SS := Ev → R Out

/-! ### expressions -/
def vGet : Option (Option Da) → R Da
  | some (some d) => .ok d
  | _ => .bad
@[simp] theorem vGet_some (d : Da) : vGet (some (some d)) = .ok d := rfl
@[simp] def eVar (i : Nat) : SE := fun ρ => vGet ρ[i]?
@[simp] def eC (d : Da) : SE := fun _ => .ok d
@[simp] def aNil : SA := fun _ => .ok []
@[simp] def aCons (a : SE) (r : SA) : SA := fun ρ => (a ρ).bind fun x => (r ρ).bind fun xs => .ok (x :: xs)
@[simp] def e1 (f : Da → R Da) (a : SE) : SE := fun ρ => (a ρ).bind f
@[simp] def e2 (f : Da → Da → R Da) (a b : SE) : SE := fun ρ => (a ρ).bind fun x => (b ρ).bind fun y => f x y
@[simp] def eA (f : List Da → R Da) (a : SA) : SE := fun ρ => (a ρ).bind f

def big : Nat := 16777216
/-- truth -/
def tru : Da → Bool
  | .none => false
  | .bool b => b
  | .int i => i != 0
  | .str s => s.length != 0
  | .list xs => !xs.isEmpty
  | .tuple xs => !xs.isEmpty
  | .dict kvs => !kvs.isEmpty
@[simp] theorem tru_none : tru .none = false := rfl
@[simp] theorem tru_bool (b : Bool) : tru (.bool b) = b := rfl
@[simp] theorem tru_int (i : Int) : tru (.int i) = (i != 0) := rfl
@[simp] theorem tru_list (xs : List Da) : tru (.list xs) = !xs.isEmpty := rfl
@[simp] theorem tru_tuple (xs : List Da) : tru (.tuple xs) = !xs.isEmpty := rfl

def mulOk (i j : Int) : Bool := decide (i.natAbs < 18446744073709551616) || (decide (j.natAbs < 18446744073709551616) || decide (i.natAbs.log2 + j.natAbs.log2 < 1000000))
def dAdd : Da → Da → R Da
  | .int i, .int j => .ok (.int (i + j))
  | .str x, .str y => if x.length + y.length ≤ big then .ok (.str (x ++ y)) else .bad
  | .list x, .list y => if x.length + y.length ≤ big then .ok (.list (x ++ y)) else .bad
  | .tuple x, .tuple y => if x.length + y.length ≤ big then .ok (.tuple (x ++ y)) else .bad
  | _, _ => .bad
def dSub : Da → Da → R Da
  | .int i, .int j => .ok (.int (i - j))
  | _, _ => .bad
def mulI : Da → Da → R Da
  | .int i, .int j => if mulOk i j then .ok (.int (i * j)) else .bad
  | _, _ => .bad
def addI : Da → Da → R Da
  | .int i, .int j => .ok (.int (i + j))
  | _, _ => .bad
def repD : Da → Da → R Da
  | .list x, .int k => if x.length * k.toNat ≤ big ∧ k.natAbs < 9223372036854775808 then .ok (.list (List.replicate k.toNat x).flatten) else .bad
  | _, _ => .bad
def dDiv : Da → Da → R Da
  | .int i, .int j => if j ≠ 0 ∧ j.natAbs < 1073741824 then .ok (.int (i.fdiv j)) else .bad
  | _, _ => .bad
def dMod : Da → Da → R Da
  | .int i, .int j => if j ≠ 0 then .ok (.int (i.fmod j)) else .bad
  | _, _ => .bad
def dPow : Da → Da → R Da
  | .int i, .int j => if 0 ≤ j ∧ j ≤ 1000000 ∧ i.natAbs < 2 ^ 64 then .ok (.int (i ^ j.toNat)) else .bad
  | _, _ => .bad
def dAnd : Da → Da → R Da
  | .int i, .int j => .ok (.int (Builtin.bitAnd i j))
  | _, _ => .bad
def dNeg : Da → R Da
  | .int i => .ok (.int (-i))
  | _ => .bad
def dCmp (p : Int → Int → Bool) : Da → Da → R Da
  | .int i, .int j => .ok (.bool (p i j))
  | _, _ => .bad
abbrev dLt := dCmp fun i j => decide (i < j)
abbrev dLe := dCmp fun i j => decide (i ≤ j)
abbrev dGt := dCmp fun i j => decide (j < i)
abbrev dGe := dCmp fun i j => decide (j ≤ i)
/-- == : scalars at once, else data of any depth -/
def eqD (a b : Da) : R Bool := if SeqAt.shaped a && SeqAt.shaped b then .ok (PyData.eqv a b) else .bad
def dEq : Da → Da → R Da
  | .int i, .int j => .ok (.bool (decide (i = j)))
  | .bool i, .bool j => .ok (.bool (decide (i = j)))
  | .str i, .str j => .ok (.bool (decide (i = j)))
  | .none, .none => .ok (.bool true)
  | .none, .int _ => .ok (.bool false)
  | .int _, .none => .ok (.bool false)
  | a, b => (eqD a b).bind fun k => .ok (.bool k)
def rNot : R Da → R Da
  | .ok (.bool b) => .ok (.bool (!b))
  | .ok _ => .bad
  | .exc c => .exc c
  | .bad => .bad
def dNe (a b : Da) : R Da := rNot (dEq a b)
def isNone : Da → Bool
  | .none => true
  | _ => false
def dIsN (a : Da) : R Da := .ok (.bool (isNone a))
def dNotN (a : Da) : R Da := .ok (.bool (!isNone a))
def dIsB (k : Bool) : Da → R Da
  | .bool b => .ok (.bool (decide (b = k)))
  | _ => .bad
def dIsNotB (k : Bool) : Da → R Da
  | .bool b => .ok (.bool (!decide (b = k)))
  | _ => .bad
def inD (x : Da) (xs : List Da) : R Bool := if SeqAt.shaped x && SeqAt.shaped (.list xs) then .ok (xs.any fun z => PyData.eqv z x) else .bad
def dIn (x : Da) : Da → R Da
  | .list xs => (inD x xs).bind fun k => .ok (.bool k)
  | .tuple xs => (inD x xs).bind fun k => .ok (.bool k)
  | _ => .bad
def dNotIn (x y : Da) : R Da := rNot (dIn x y)
def dNot (a : Da) : R Da := .ok (.bool (!tru a))
@[simp] def eAnd (a b : SE) : SE := fun ρ => (a ρ).bind fun x => if tru x then b ρ else .ok x
@[simp] def eOr (a b : SE) : SE := fun ρ => (a ρ).bind fun x => if tru x then .ok x else b ρ
@[simp] def eIf (c a b : SE) : SE := fun ρ => (c ρ).bind fun x => if tru x then a ρ else b ρ
def chB (r : Da) (k : R Da) : R Da := match r with
  | .bool true => k
  | .bool false => .ok (.bool false)
  | _ => .bad
@[simp] theorem chB_bool (b : Bool) (k : R Da) : chB (.bool b) k = if b then k else .ok (.bool false) := by cases b <;> rfl
@[simp] def eChain (f g : Da → Da → R Da) (a b c : SE) : SE := fun ρ => (a ρ).bind fun x => (b ρ).bind fun y => (f x y).bind fun r => chB r ((c ρ).bind fun z => g y z)

/-! ### places -/
def sIxD (n d : Nat) : Option Int → Nat
  | none => d
  | some v => if v < 0 then (v + (n : Int)).toNat else min v.toNat n
def atD {α : Type} (xs : List α) (i : Int) : Option α := if 0 ≤ i then xs[i.toNat]? else if -(xs.length : Int) ≤ i then xs[(i + xs.length).toNat]? else none
def oR {α : Type} : Option α → R α
  | some a => .ok a
  | none => .bad
@[simp] theorem oR_some {α : Type} (a : α) : oR (some a) = .ok a := rfl
def keyEq (a b : Da) : Bool := PyData.eqv a b
def lookD (kvs : List (Da × Da)) (k : Da) : Option Da := (kvs.find? fun p => keyEq p.1 k).map (·.2)
def dIx : Da → Da → R Da
  | .list xs, .int i => oR (atD xs i)
  | .tuple xs, .int i => oR (atD xs i)
  | _, _ => .bad
def cutD {α : Type} (xs : List α) (lo hi : Option Int) : List α := (xs.drop (sIxD xs.length 0 lo)).take (sIxD xs.length xs.length hi - sIxD xs.length 0 lo)
def dSl (lo hi : Option Int) : Da → R Da
  | .list xs => .ok (.list (cutD xs lo hi))
  | .tuple xs => .ok (.tuple (cutD xs lo hi))
  | _ => .bad
abbrev SO := Ev → R (Option Int)
@[simp] def oNone : SO := fun _ => .ok none
def toI : Da → R Int
  | .int i => .ok i
  | _ => .bad
@[simp] theorem toI_int (i : Int) : toI (.int i) = .ok i := rfl
@[simp] def oSome (a : SE) : SO := fun ρ => (a ρ).bind fun x => (toI x).bind fun i => .ok (some i)
@[simp] def eSl (a : SE) (lo hi : SO) : SE := fun ρ => (a ρ).bind fun x => (lo ρ).bind fun l => (hi ρ).bind fun h => dSl l h x
def dRev : Da → R Da
  | .list xs => .ok (.list xs.reverse)
  | .tuple xs => .ok (.tuple xs.reverse)
  | _ => .bad
@[simp] def eTup (a : SA) : SE := fun ρ => (a ρ).bind fun xs => .ok (.tuple xs)
@[simp] def eLst (a : SA) : SE := fun ρ => (a ρ).bind fun xs => .ok (.list xs)

/-! ### targets, slots -/
@[simp] def gVar (i : Nat) : STg := fun d ρ => .ok (ρ.set i (some d))
def gEach : List STg → List Da → Ev → R Ev
  | [], [], ρ => .ok ρ
  | g :: gs, d :: ds, ρ => (g d ρ).bind fun ρ' => gEach gs ds ρ'
  | _, _, _ => .bad
@[simp] theorem gEach_nil (ρ : Ev) : gEach [] [] ρ = .ok ρ := rfl
@[simp] theorem gEach_cons (g : STg) (gs : List STg) (d : Da) (ds : List Da) (ρ : Ev) : gEach (g :: gs) (d :: ds) ρ = (g d ρ).bind fun ρ' => gEach gs ds ρ' := rfl
def gTupD (gs : List STg) : STg := fun d ρ => match d with
  | .tuple ds => gEach gs ds ρ
  | _ => .bad
@[simp] theorem gTupD_tuple (gs : List STg) (ds : List Da) (ρ : Ev) : gTupD gs (.tuple ds) ρ = gEach gs ds ρ := rfl
def kill (ρ : Ev) : List Nat → Ev
  | [] => ρ
  | i :: is => (kill ρ is).set i none
@[simp] theorem kill_nil (ρ : Ev) : kill ρ [] = ρ := rfl
@[simp] theorem kill_cons (ρ : Ev) (i : Nat) (is : List Nat) : kill ρ (i :: is) = (kill ρ is).set i none := rfl

/-! ### what is walked -/
abbrev SI := Ev → R (List Da)
def toL : Da → R (List Da)
  | .list xs => .ok xs
  | .tuple xs => .ok xs
  | _ => .bad
@[simp] theorem toL_list (xs : List Da) : toL (.list xs) = .ok xs := rfl
@[simp] theorem toL_tuple (xs : List Da) : toL (.tuple xs) = .ok xs := rfl
@[simp] def iL (a : SE) : SI := fun ρ => (a ρ).bind toL
def rngD (lo : Int) (n : Nat) : List Da := (List.range n).map fun k => .int (lo + (k : Nat))
def dRng (lo hi : Int) : R (List Da) := if lo.natAbs < 4611686018427387904 ∧ hi.natAbs < 4611686018427387904 ∧ (hi - lo).toNat ≤ big then .ok (rngD lo (hi - lo).toNat) else .bad
@[simp] def iRng1 (a : SE) : SI := fun ρ => (a ρ).bind fun x => (toI x).bind fun n => dRng 0 n
@[simp] def iRng2 (a b : SE) : SI := fun ρ => (a ρ).bind fun x => (b ρ).bind fun y => (toI x).bind fun i => (toI y).bind fun j => dRng i j
def enumD (k : Nat) : List Da → List Da
  | [] => []
  | x :: xs => .tuple [.int (k : Int), x] :: enumD (k + 1) xs
@[simp] def iEnum (a : SE) : SI := fun ρ => (a ρ).bind fun x => (toL x).bind fun xs => .ok (enumD 0 xs)
def zipD : List Da → List Da → List Da
  | x :: xs, y :: ys => .tuple [x, y] :: zipD xs ys
  | _, _ => []
@[simp] def iZip (a b : SE) : SI := fun ρ => (a ρ).bind fun x => (b ρ).bind fun y => (toL x).bind fun xs => (toL y).bind fun ys => .ok (zipD xs ys)

theorem rngC {lo hi : Int} (h : lo.natAbs < 4611686018427387904 ∧ hi.natAbs < 4611686018427387904 ∧ (hi - lo).toNat ≤ big) : -(2 ^ 62) ≤ lo ∧ lo < 2 ^ 62 ∧ -(2 ^ 62) ≤ hi ∧ hi < 2 ^ 62 ∧ (hi - lo).toNat ≤ big := by
  obtain ⟨h1, h2, h3⟩ := h
  omega

/-! ### comprehensions -/
def lcL (f : Da → R (Option Da)) : List Da → R (List Da)
  | [] => .ok []
  | x :: xs => match f x with
    | .ok y => (match lcL f xs with
      | .ok ys => .ok (match y with
        | none => ys
        | some v => v :: ys)
      | _ => .bad)
    | _ => .bad
@[simp] def eYes : SE := fun _ => .ok (.bool true)
def lcF (tg : STg) (own : List Nat) (te el : SE) (ρ : Ev) : Da → R (Option Da) := fun x => (tg x (kill ρ own)).bind fun ρ1 => (te ρ1).bind fun b => if tru b then (el ρ1).bind fun v => .ok (some v) else .ok none
def eLc (it : SI) (tg : STg) (own : List Nat) (te el : SE) : SE := fun ρ => (it ρ).bind fun xs => (lcL (lcF tg own te el ρ) xs).bind fun ys => .ok (.list ys)

/-- two for's -/
def lcL2 (f : Da → R (List Da)) : List Da → R (List Da)
  | [] => .ok []
  | x :: xs => match f x with
    | .ok ys => (match lcL2 f xs with
      | .ok zs => .ok (ys ++ zs)
      | _ => .bad)
    | _ => .bad
def lcF2 (tg : STg) (own : List Nat) (te : SE) (it1 : SI) (tg1 : STg) (vs1 : List Nat) (te1 el : SE) (ρ : Ev) : Da → R (List Da) := fun x => (tg x (kill ρ own)).bind fun ρ1 => (te ρ1).bind fun b => if tru b then (it1 ρ1).bind fun xs => lcL (lcF tg1 vs1 te1 el ρ1) xs else .ok []
def eLc2 (it : SI) (tg : STg) (own : List Nat) (te : SE) (it1 : SI) (tg1 : STg) (vs1 : List Nat) (te1 el : SE) : SE := fun ρ => (it ρ).bind fun xs => (lcL2 (lcF2 tg own te it1 tg1 vs1 te1 el ρ) xs).bind fun ys => if ys.length ≤ big then .ok (.list ys) else .bad

/-! ### built-ins -/
def dLen : List Da → R Da
  | [.list xs] => .ok (.int (xs.length : Nat))
  | [.tuple xs] => .ok (.int (xs.length : Nat))
  | _ => .bad
def dAbs : List Da → R Da
  | [.int i] => .ok (.int (if i < 0 then -i else i))
  | _ => .bad
def dMax2 : List Da → R Da
  | [.int i, .int j] => .ok (.int (if j > i then j else i))
  | _ => .bad
def dMin2 : List Da → R Da
  | [.int i, .int j] => .ok (.int (if j < i then j else i))
  | _ => .bad
def intsD : List Da → R (List Int)
  | [] => .ok []
  | .int i :: r => (intsD r).bind fun is => .ok (i :: is)
  | _ => .bad
def blsD : List Da → R (List Bool)
  | [] => .ok []
  | .bool i :: r => (blsD r).bind fun is => .ok (i :: is)
  | _ => .bad
def minI : List Int → R Int
  | [] => .bad
  | x :: xs => .ok (xs.foldl min x)
def maxI : List Int → R Int
  | [] => .bad
  | x :: xs => .ok (xs.foldl max x)
def dSumL : List Da → R Da
  | [.list xs] => (intsD xs).bind fun is => .ok (.int is.sum)
  | [.tuple xs] => (intsD xs).bind fun is => .ok (.int is.sum)
  | _ => .bad
def dMinL : List Da → R Da
  | [.list xs] => (intsD xs).bind fun is => (minI is).bind fun m => .ok (.int m)
  | _ => .bad
def dMaxL : List Da → R Da
  | [.list xs] => (intsD xs).bind fun is => (maxI is).bind fun m => .ok (.int m)
  | _ => .bad
/-! data in order: all of one kind, place by place -/
def someD : Da → Bool
  | .none => false
  | _ => true
def alkB (xs : List Da) : Bool := xs.all (fun x => xs.all fun y => PySem.W.alike x y) && (xs.all someD && (decide (PyData.depthAll xs ≤ 50) && PyData.canLayAll0 xs))
def tupD1 : Da → Bool
  | .tuple (_ :: _) => true
  | _ => false
def othD1 : Da → Bool
  | .none => false
  | .tuple _ => false
  | _ => true
def srtB (xs : List Da) : Bool := xs.all tupD1 || xs.all othD1
def minG : List Da → R Da
  | [] => .bad
  | x :: xs => if alkB (x :: xs) then .ok (PySem.W.minD x xs) else .bad
def maxG : List Da → R Da
  | [] => .bad
  | x :: xs => if alkB (x :: xs) then .ok (PySem.W.maxD x xs) else .bad
def dMinG : List Da → R Da
  | [.list xs] => minG xs
  | [.tuple xs] => minG xs
  | _ => .bad
def dMaxG : List Da → R Da
  | [.list xs] => maxG xs
  | [.tuple xs] => maxG xs
  | _ => .bad
def dSortG : List Da → R Da
  | [.list xs] => if alkB xs && srtB xs then .ok (.list (xs.mergeSort (PySem.W.dataLe false id))) else .bad
  | _ => .bad
/-- a < b of data -/
def dLtG (a b : Da) : R Da := if alkB [a, b] then .ok (.bool (PySem.W.dataLt a b)) else .bad
def dGtG (a b : Da) : R Da := if alkB [a, b] then .ok (.bool (PySem.W.dataLt b a)) else .bad
def dLeG (a b : Da) : R Da := if alkB [a, b] then .ok (.bool (!PySem.W.dataLt b a)) else .bad
def dGeG (a b : Da) : R Da := if alkB [a, b] then .ok (.bool (!PySem.W.dataLt a b)) else .bad
def dAll : List Da → R Da
  | [.list xs] => (blsD xs).bind fun bs => .ok (.bool (bs.all id))
  | _ => .bad
def dAny : List Da → R Da
  | [.list xs] => (blsD xs).bind fun bs => .ok (.bool (bs.any id))
  | _ => .bad
def dInt : List Da → R Da
  | [.int i] => .ok (.int i)
  | [.bool b] => .ok (.int (if b then 1 else 0))
  | _ => .bad
def dTuple : List Da → R Da
  | [.list xs] => .ok (.tuple xs)
  | [.tuple xs] => .ok (.tuple xs)
  | _ => .bad
def dList : List Da → R Da
  | [.list xs] => .ok (.list xs)
  | [.tuple xs] => .ok (.list xs)
  | _ => .bad
def dGcd : List Da → R Da
  | [.int i, .int j] => .ok (.int (Nat.gcd i.natAbs j.natAbs : Nat))
  | _ => .bad
@[simp] def eTupI (it : SI) : SE := fun ρ => (it ρ).bind fun xs => .ok (.tuple xs)
@[simp] def eLstI (it : SI) : SE := fun ρ => (it ρ).bind fun xs => .ok (.list xs)
inductive Ty where
  | int | bool | str | tuple | list | dict
def isTy : Ty → Da → Bool
  | .int, .int _ => true
  | .int, .bool _ => true
  | .bool, .bool _ => true
  | .str, .str _ => true
  | .tuple, .tuple _ => true
  | .list, .list _ => true
  | .dict, .dict _ => true
  | _, _ => false
def dIsi (t : Ty) (a : Da) : R Da := .ok (.bool (isTy t a))

/-! data without a list in it -/
mutual
def noL : Da → Bool
  | .none => true
  | .bool _ => true
  | .int _ => true
  | .str _ => true
  | .tuple xs => noLs xs
  | .list _ => false
  | .dict _ => false
def noLs : List Da → Bool
  | [] => true
  | x :: xs => noL x && noLs xs
end
def noR (d : Da) : R Da := if noL d then .ok d else .bad

/-! ### statements -/
@[simp] def sNx : SS := fun ρ => .ok (.nx ρ)
def andThen (o : Out) (b : SS) : R Out := match o with
  | .nx ρ => b ρ
  | .rt d => .ok (.rt d)
@[simp] theorem andThen_nx (ρ : Ev) (b : SS) : andThen (.nx ρ) b = b ρ := rfl
@[simp] theorem andThen_rt (d : Da) (b : SS) : andThen (.rt d) b = .ok (.rt d) := rfl
@[simp] def sSeq (a b : SS) : SS := fun ρ => (a ρ).bind fun o => andThen o b
@[simp] def sAsg (g : STg) (e : SE) : SS := fun ρ => (e ρ).bind fun d => (g d ρ).bind fun ρ' => .ok (.nx ρ')
@[simp] def sIf (c : SE) (a b : SS) : SS := fun ρ => (c ρ).bind fun x => if tru x then a ρ else b ρ
@[simp] def sRet (e : SE) : SS := fun ρ => (e ρ).bind fun d => .ok (.rt d)
@[simp] def sExpr (e : SE) : SS := fun ρ => (e ρ).bind fun _ => .ok (.nx ρ)
@[simp] def sRaise (c : Str) : SS := fun _ => .exc c
/-- x = e, e a new list of the def's own -/
def asL : Da → R Da
  | .list xs => .ok (.list xs)
  | _ => .bad
@[simp] theorem asL_list (xs : List Da) : asL (.list xs) = .ok (.list xs) := rfl
@[simp] def sOwn (i : Nat) (e : SE) : SS := fun ρ => (e ρ).bind fun d => (asL d).bind fun d => if i < ρ.length then .ok (.nx (ρ.set i (some d))) else .bad
/-- nothing is let out -/
def nox {α : Type} : R α → R α
  | .ok a => .ok a
  | _ => .bad
@[simp] theorem nox_ok {α : Type} (a : α) : nox (.ok a : R α) = .ok a := rfl
@[simp] def sNox (a : SS) : SS := fun ρ => nox (a ρ)
/-- slots forgotten ahead of a statement -/
@[simp] def sWk (k : List Nat) (a : SS) : SS := fun ρ => a (kill ρ k)
/-- .. behind it -/
@[simp] def sPost (k : List Nat) (a : SS) : SS := fun ρ => (a ρ).bind fun o => .ok (match o with
  | .nx ρ' => .nx (kill ρ' k)
  | .rt d => .rt d)
def forL (g : STg) (body : SS) : List Da → SS
  | [], ρ => .ok (.nx ρ)
  | x :: xs, ρ => (g x ρ).bind fun ρ1 => (body ρ1).bind fun o => andThen o (forL g body xs)
@[simp] def sFor (it : SI) (g : STg) (body : SS) : SS := fun ρ => (it ρ).bind fun xs => forL g body xs ρ
def whileF (c : SE) (body : SS) : Nat → SS
  | 0, _ => .bad
  | n + 1, ρ => (c ρ).bind fun x => if tru x then (body ρ).bind fun o => andThen o (whileF c body n) else .ok (.nx ρ)
def fuel : Nat := 1000000000
def sWhile (c : SE) (body : SS) : SS := whileF c body fuel
def updE (ρ : Ev) (i : Nat) (f : Da → R Da) : R Out := (vGet ρ[i]?).bind fun d => (f d).bind fun d' => .ok (.nx (ρ.set i (some d')))
def appD (x : Da) : Da → R Da
  | .list xs => if xs.length < big then .ok (.list (xs ++ [x])) else .bad
  | _ => .bad
@[simp] def sAppend (i : Nat) (e : SE) : SS := fun ρ => (e ρ).bind fun x => updE ρ i (appD x)
def ixD (n : Nat) (i : Int) : Option Nat := if 0 ≤ i then (if i < n then some i.toNat else none) else if -(n : Int) ≤ i then some (i + n).toNat else none
def setD (k v : Da) : Da → R Da
  | .list xs => (toI k).bind fun i => (oR (ixD xs.length i)).bind fun j => .ok (.list (xs.set j v))
  | _ => .bad
@[simp] def sSet (i : Nat) (k e : SE) : SS := fun ρ => (e ρ).bind fun v => (k ρ).bind fun j => updE ρ i (setD j v)

/-- x[k] += e -/
@[simp] def sAugI (i : Nat) (k e : SE) : SS := fun ρ => (k ρ).bind fun j => (vGet ρ[i]?).bind fun d => (dIx d j).bind fun x => (e ρ).bind fun y => (addI x y).bind fun z => updE ρ i (setD j z)
/-- x.pop() -/
def popD : Da → R Da
  | .list [] => .bad
  | .list (x :: xs) => .ok (.list (x :: xs).dropLast)
  | _ => .bad
@[simp] def sPop (i : Nat) : SS := fun ρ => updE ρ i popD
/-- sorted(..) of whole numbers -/
def insI (x : Int) : List Int → List Int
  | [] => [x]
  | y :: ys => if x ≤ y then x :: y :: ys else y :: insI x ys
def sortI (l : List Int) : List Int := l.foldr insI []
def dSorted : List Da → R Da
  | [.list xs] => (intsD xs).bind fun is => .ok (.list ((sortI is).map PyData.int))
  | [.tuple xs] => (intsD xs).bind fun is => .ok (.list ((sortI is).map PyData.int))
  | _ => .bad
/-- a text times 0 or 1 -/
def repS : Da → Da → R Da
  | .str x, .int k => if k = 0 then .ok (.str Str.empty) else if k = 1 then .ok (.str x) else .bad
  | _, _ => .bad
/-- a tuple times 1 or more -/
def repT : Da → Da → R Da
  | .tuple xs, .int k => if xs.length ≤ 1000 ∧ 1 ≤ xs.length ∧ 1 ≤ k ∧ k.natAbs ≤ 1000 then .ok (.tuple (List.replicate k.toNat xs).flatten) else if k = 0 ∨ (xs.length = 0 ∧ k.natAbs ≤ 1000) then .ok (.tuple []) else .bad
  | _, _ => .bad
/-- len(set(..)) of whole numbers -/
def ddI (l : List Int) : List Int := l.foldr (fun x acc => if x ∈ acc then acc else x :: acc) []
def dLenSet : Da → R Da
  | .list xs => (intsD xs).bind fun is => if is.length < 4000 then .ok (.int ((ddI is).length : Nat)) else .bad
  | .tuple xs => (intsD xs).bind fun is => if is.length < 4000 then .ok (.int ((ddI is).length : Nat)) else .bad
  | _ => .bad
/-- range(a, b, c), c > 0 -/
def rng3D (lo c : Int) (n : Nat) : List Da := (List.range n).map fun k => .int (lo + (k : Nat) * c)
def r3n (lo hi c : Int) : Nat := if lo < hi then ((hi - lo - 1) / c + 1).toNat else 0
def dRng3 (lo hi c : Int) : R (List Da) := if lo.natAbs < 1073741824 ∧ hi.natAbs < 1073741824 ∧ 0 < c ∧ c.natAbs < 1073741824 ∧ r3n lo hi c ≤ big then .ok (rng3D lo c (r3n lo hi c)) else if c = -1 ∧ lo.natAbs < 1073741824 ∧ hi.natAbs < 1073741824 ∧ (lo - hi).toNat ≤ big then .ok (rng3D lo (-1) (lo - hi).toNat) else .bad
@[simp] def iRng3 (a b c : SE) : SI := fun ρ => (a ρ).bind fun x => (b ρ).bind fun y => (c ρ).bind fun z => (toI x).bind fun i => (toI y).bind fun j => (toI z).bind fun k => dRng3 i j k
/-- a, b = e, f -/
def sPar2 (i j : Nat) (ρ : Ev) : List Da → R Out
  | [x, y] => .ok (.nx ((ρ.set i (some x)).set j (some y)))
  | _ => .bad
@[simp] theorem sPar2_ (i j : Nat) (ρ : Ev) (x y : Da) : sPar2 i j ρ [x, y] = .ok (.nx ((ρ.set i (some x)).set j (some y))) := rfl
@[simp] def sPar (i j : Nat) (a : SA) : SS := fun ρ => (a ρ).bind fun ds => sPar2 i j ρ ds

/-- try: b / except ..: the answer is the class's -/
def sTry (b : SS) (ok : List Str) (hv : Str → Da) : SS := fun ρ => match b ρ with
  | .exc c => if c ∈ ok then .ok (.rt (hv c)) else .bad
  | r => r

def runDef (n : Nat) (body : SS) (ds : List Da) : R Da := (body (ds.map some ++ List.replicate (n - ds.length) none)).bind fun o => match o with
  | .nx _ => .ok .none
  | .rt d => .ok d
end DL
set_option Elab.async false
set_option linter.all false
set_option maxRecDepth 100000
/-! The D layer's relation: values by value against the abstract heap; ownership of local lists. -/
namespace DL
open PySem PySem.Spec PyProof.Rows L2

theorem big_line : big = sizeLine := by rw [sizeLine_eq] <;> rfl

def KLs (K : PySem.W.Frag) (a : Addr) (xs : List V) : Prop := ∃ (o : Obj) (its : Array Value) (n : Nat), K.lookup a = some o ∧ o.cls = .type "list" ∧ o.dict = none ∧ o.data = .seq its n ∧ its.size ≤ sizeLine ∧ Vals xs its.toList
def LsR (K : PySem.W.Frag) (H : Hp) (O : List Addr) (a : Addr) (xs : List V) : Prop := (Rd H a (.lst xs) ∧ a ∉ O) ∨ KLs K a xs
theorem LsR.sq {K : PySem.W.Frag} {H : Hp} {O : List Addr} {a : Addr} {xs : List V} (h : LsR K H O a xs) : SqL K H a xs := by
  rcases h with h | h
  · exact .inl h.1
  · exact .inr h

mutual
inductive Rp (K : PySem.W.Frag) (H : Hp) (O : List Addr) : V → PyData → Prop
  | non : Rp K H O .non .none
  | bl (b : Bool) : Rp K H O (.bl b) (.bool b)
  | int (i : Int) : Rp K H O (.int i) (.int i)
  | str (x : Str) (h : x.length ≤ big) : Rp K H O (.str x) (.str x)
  | lst {a : Addr} {xs : List V} {ds : List PyData} (h : LsR K H O a xs) (n : ds.length ≤ big) (r : RpAll K H O xs ds) : Rp K H O (.ref a) (.list ds)
  | tup {a : Addr} {xs : List V} {ds : List PyData} (h : SqT K H a xs) (n : ds.length ≤ big) (r : RpAll K H O xs ds) : Rp K H O (.ref a) (.tuple ds)
inductive RpAll (K : PySem.W.Frag) (H : Hp) (O : List Addr) : List V → List PyData → Prop
  | nil : RpAll K H O [] []
  | cons {v : V} {vs : List V} {d : PyData} {ds : List PyData} (h : Rp K H O v d) (t : RpAll K H O vs ds) : RpAll K H O (v :: vs) (d :: ds)
end

def mutO : HO → Bool
  | .lst _ => true
  | .dK _ => true
  | .dT _ => true
  | .set _ _ => true
  | .ins _ _ _ => true
  | .ext _ => true
  | _ => false
/-- all but the mutable objects at G are kept -/
def Keep (G : List Addr) (H H' : Hp) : Prop := ∀ b o, H b = some o → (b ∈ G → mutO o = false) → H' b = some o
theorem Keep.of_same {G : List Addr} {H H' : Hp} (s : Same H H') : Keep G H H' := fun b o e _ => s b o e
theorem Keep.refl {G : List Addr} (H : Hp) : Keep G H H := fun _ _ e _ => e
theorem Keep.nil {H H' : Hp} (k : Keep [] H H') : Same H H' := fun b o e => k b o e (fun z => nomatch z)
/-- the mutable objects may have changed at G, which O holds; O' are the owned ones then -/
structure Grow (G O O' : List Addr) (H H' : Hp) : Prop where
  keep : Keep G H H'
  sub : ∀ b, b ∈ G → b ∈ O
  new : ∀ b, b ∈ O' → b ∈ O ∨ H b = none
theorem Grow.same {O : List Addr} {H H' : Hp} (s : Same H H') : Grow [] O O H H' := ⟨.of_same s, fun _ h => (nomatch h), fun _ h => .inl h⟩
theorem Grow.sub_ {O O' : List Addr} {H H' : Hp} (s : Same H H') (h : ∀ b, b ∈ O' → b ∈ O) : Grow [] O O' H H' := ⟨.of_same s, fun _ h => (nomatch h), fun b hb => .inl (h b hb)⟩

section
variable {K : PySem.W.Frag} {H H' : Hp} {O O' G : List Addr} {a : Addr} {xs : List V}
theorem rd_keep {u : HO} (k : Keep G H H') (h : Rd H a u) (m : a ∉ G ∨ mutO u = false) : Rd H' a u := by
  rcases h with h | ⟨o, h⟩
  · exact .inl (k _ _ h fun hb => m.elim (fun z => absurd hb z) id)
  · exact .inr ⟨o, k _ _ h fun _ => rfl⟩
theorem LsR.mono (g : Grow G O O' H H') (h : LsR K H O a xs) : LsR K H' O' a xs := by
  rcases h with ⟨h, n⟩ | h
  · refine .inl ⟨rd_keep g.keep h (.inl fun hb => n (g.sub _ hb)), fun hb => ?_⟩
    rcases g.new a hb with z | z
    · exact n z
    · rcases h with h | ⟨o, h⟩ <;> rw [z] at h <;> cases h
  · exact .inr h
theorem sqt_keep (k : Keep G H H') (h : SqT K H a xs) : SqT K H' a xs := by
  rcases h with h | h
  · exact .inl (rd_keep k h (.inr rfl))
  · exact .inr h
end
mutual
theorem Rp.mono {K : PySem.W.Frag} {H H' : Hp} {G O O' : List Addr} (g : Grow G O O' H H') : ∀ {d : PyData} {v : V}, Rp K H O v d → Rp K H' O' v d
  | .none, _, h => by cases h; exact .non
  | .bool _, _, h => by cases h; exact .bl _
  | .int _, _, h => by cases h; exact .int _
  | .str _, _, h => by cases h with | str x n => exact .str _ n
  | .list ds, _, h => by
    cases h with
    | lst h n r => exact .lst (h.mono g) n (RpAll.mono g r)
  | .tuple ds, _, h => by
    cases h with
    | tup h n r => exact .tup (sqt_keep g.keep h) n (RpAll.mono g r)
  | .dict _, _, h => by cases h
theorem RpAll.mono {K : PySem.W.Frag} {H H' : Hp} {G O O' : List Addr} (g : Grow G O O' H H') : ∀ {ds : List PyData} {vs : List V}, RpAll K H O vs ds → RpAll K H' O' vs ds
  | [], _, h => by cases h; exact .nil
  | d :: ds, _, h => by
    cases h with
    | cons h t => exact .cons (Rp.mono g h) (RpAll.mono g t)
end
mutual
theorem Rp.dp {K : PySem.W.Frag} {H : Hp} {O : List Addr} : ∀ {d : PyData} {v : V}, Rp K H O v d → Dp K H v d
  | .none, _, h => by cases h; exact .non
  | .bool _, _, h => by cases h; exact .bl _
  | .int _, _, h => by cases h; exact .int _
  | .str _, _, h => by cases h; exact .str _
  | .list ds, _, h => by
    cases h with
    | lst h n r => exact .lst h.sq (RpAll.dp r)
  | .tuple ds, _, h => by
    cases h with
    | tup h n r => exact .tup h (RpAll.dp r)
  | .dict _, _, h => by cases h
theorem RpAll.dp {K : PySem.W.Frag} {H : Hp} {O : List Addr} : ∀ {ds : List PyData} {vs : List V}, RpAll K H O vs ds → DpAll K H vs ds
  | [], _, h => by cases h; exact .nil
  | d :: ds, _, h => by
    cases h with
    | cons h t => exact .cons (Rp.dp h) (RpAll.dp t)
end
section
variable {K : PySem.W.Frag} {H H' : Hp} {O O' G : List Addr}
theorem RpAll.length : ∀ {vs : List V} {ds : List PyData}, RpAll K H O vs ds → vs.length = ds.length
  | _, _, .nil => rfl
  | _, _, .cons _ t => by rw [List.length_cons, List.length_cons, RpAll.length t]
theorem RpAll.get : ∀ {vs : List V} {ds : List PyData} {i : Nat} {d : PyData}, RpAll K H O vs ds → ds[i]? = some d → ∃ v, vs[i]? = some v ∧ Rp K H O v d
  | _, _, _, _, .nil, e => by simp at e
  | _, _, 0, _, .cons h _, e => by simp at e; subst e; exact ⟨_, rfl, h⟩
  | _, _, i + 1, d, .cons _ t, e => by
    obtain ⟨v, h1, h2⟩ := RpAll.get (i := i) (d := d) t (by simpa using e)
    exact ⟨v, by simpa using h1, h2⟩
theorem RpAll.getV : ∀ {vs : List V} {ds : List PyData} {i : Nat} {v : V}, RpAll K H O vs ds → vs[i]? = some v → ∃ d, ds[i]? = some d ∧ Rp K H O v d
  | _, _, _, _, .nil, e => by simp at e
  | _, _, 0, _, .cons h _, e => by simp at e; subst e; exact ⟨_, rfl, h⟩
  | _, _, i + 1, v, .cons _ t, e => by
    obtain ⟨d, h1, h2⟩ := RpAll.getV (i := i) (v := v) t (by simpa using e)
    exact ⟨d, by simpa using h1, h2⟩
theorem RpAll.append : ∀ {vs : List V} {ds : List PyData} {ws : List V} {es : List PyData}, RpAll K H O vs ds → RpAll K H O ws es → RpAll K H O (vs ++ ws) (ds ++ es)
  | _, _, _, _, .nil, h => h
  | _, _, _, _, .cons h t, h2 => .cons h (RpAll.append t h2)
theorem RpAll.take : ∀ {vs : List V} {ds : List PyData} (n : Nat), RpAll K H O vs ds → RpAll K H O (vs.take n) (ds.take n)
  | _, _, 0, _ => .nil
  | _, _, _ + 1, .nil => .nil
  | _, _, n + 1, .cons h t => .cons h (RpAll.take n t)
theorem RpAll.drop : ∀ {vs : List V} {ds : List PyData} (n : Nat), RpAll K H O vs ds → RpAll K H O (vs.drop n) (ds.drop n)
  | _, _, 0, h => h
  | _, _, _ + 1, .nil => .nil
  | _, _, n + 1, .cons _ t => RpAll.drop n t
theorem RpAll.reverse {vs : List V} {ds : List PyData} (h : RpAll K H O vs ds) : RpAll K H O vs.reverse ds.reverse := by
  induction vs generalizing ds with
  | nil => cases h; exact .nil
  | cons v vs ih =>
    cases h with
    | cons h t =>
      rw [List.reverse_cons, List.reverse_cons]
      exact (ih t).append (.cons h .nil)
theorem RpAll.rep {vs : List V} {ds : List PyData} (h : RpAll K H O vs ds) : ∀ k : Nat, RpAll K H O (List.replicate k vs).flatten (List.replicate k ds).flatten
  | 0 => .nil
  | k + 1 => by
    rw [List.replicate_succ, List.replicate_succ, List.flatten_cons, List.flatten_cons]
    exact h.append (RpAll.rep h k)
theorem RpAll.set {v : V} {d : PyData} (r : Rp K H O v d) : ∀ {vs : List V} {ds : List PyData} (i : Nat), RpAll K H O vs ds → RpAll K H O (vs.set i v) (ds.set i d)
  | _, _, _, .nil => .nil
  | _, _, 0, .cons _ t => .cons r t
  | _, _, i + 1, .cons h t => .cons h (RpAll.set r i t)
theorem RpAll.ints : ∀ {vs : List V} {ds : List PyData} {is : List Int}, RpAll K H O vs ds → intsD ds = .ok is → vs = is.map V.int
  | _, _, _, .nil, e => by
    unfold intsD at e
    cases e; rfl
  | _, _, is, .cons (d := d) (ds := ds) h t, e => by
    cases d with
    | int i =>
      unfold intsD at e
      cases q : intsD ds with
      | ok js =>
        rw [q] at e
        simp only [R.bind] at e
        cases e
        cases h
        rw [RpAll.ints t q]
        rfl
      | exc c => rw [q] at e; cases e
      | bad => rw [q] at e; cases e
    | _ => unfold intsD at e; cases e
theorem RpAll.bls : ∀ {vs : List V} {ds : List PyData} {is : List Bool}, RpAll K H O vs ds → blsD ds = .ok is → vs = is.map V.bl
  | _, _, _, .nil, e => by
    unfold blsD at e
    cases e; rfl
  | _, _, is, .cons (d := d) (ds := ds) h t, e => by
    cases d with
    | bool i =>
      unfold blsD at e
      cases q : blsD ds with
      | ok js =>
        rw [q] at e
        simp only [R.bind] at e
        cases e
        cases h
        rw [RpAll.bls t q]
        rfl
      | exc c => rw [q] at e; cases e
      | bad => rw [q] at e; cases e
    | _ => unfold blsD at e; cases e
end

/-! ### what a slot owns; what an expression gives -/
def Own (K : PySem.W.Frag) (H : Hp) (O : List Addr) (p : Addr) : PyData → Prop
  | .list ds => ∃ vs, H p = some (.lst vs) ∧ RpAll K H O vs ds ∧ ds.length ≤ big
  | _ => False
theorem Own.mono {K : PySem.W.Frag} {H H' : Hp} {G O O' : List Addr} {p : Addr} {d : PyData} (g : Grow G O O' H H') (hp : p ∉ G) (h : Own K H O p d) : Own K H' O' p d := by
  cases d with
  | list ds =>
    obtain ⟨vs, h1, h2, h3⟩ := h
    exact ⟨vs, g.keep _ _ h1 fun z => absurd z hp, h2.mono g, h3⟩
  | _ => exact h.elim
theorem Own.mut {K : PySem.W.Frag} {H : Hp} {O : List Addr} {p : Addr} {d : PyData} (h : Own K H O p d) : ∃ o, H p = some o ∧ mutO o = true := by
  cases d with
  | list ds => obtain ⟨vs, h1, _⟩ := h; exact ⟨_, h1, rfl⟩
  | _ => exact h.elim
/-- given up -/
theorem Own.rp {K : PySem.W.Frag} {H : Hp} {O : List Addr} {p : Addr} {d : PyData} (h : Own K H O p d) (hp : p ∉ O) : Rp K H O (.ref p) d := by
  cases d with
  | list ds => obtain ⟨vs, h1, h2, h3⟩ := h; exact .lst (.inl ⟨.inl h1, hp⟩) h3 h2
  | _ => exact h.elim

inductive Fl where
  | bo | sh | fr
def Res (K : PySem.W.Frag) (H0 H : Hp) (O : List Addr) : Fl → V → PyData → Prop
  | .bo, v, d => Rp K H O v d ∨ ∃ p, v = .ref p ∧ p ∈ O ∧ Own K H O p d
  | .sh, v, d => Rp K H O v d
  | .fr, v, d => Rp K H O v d ∧ ∀ ds, d = .list ds → ∃ p, v = .ref p ∧ H0 p = none ∧ Own K H (p :: O) p d
section
variable {K : PySem.W.Frag} {H0 H1 H H' : Hp} {O O' G : List Addr} {v : V} {d : PyData} {fl : Fl}
theorem Res.bo (h : Res K H0 H O fl v d) : Res K H1 H O .bo v d := by
  cases fl with
  | bo => exact h
  | sh => exact .inl h
  | fr => exact .inl h.1
theorem Res.mono (s : Same H H') (h : Res K H0 H O fl v d) : Res K H0 H' O fl v d := by
  cases fl with
  | bo =>
    rcases h with h | ⟨p, e, hp, h⟩
    · exact .inl (h.mono (.same s))
    · exact .inr ⟨p, e, hp, h.mono (.same s) (fun z => nomatch z)⟩
  | sh => exact Rp.mono (.same s) h
  | fr => exact ⟨Rp.mono (.same s) h.1, fun ds e => let ⟨p, e1, e2, e3⟩ := h.2 ds e; ⟨p, e1, e2, e3.mono (.same s) (fun z => nomatch z)⟩⟩
theorem Res.back (s : Same H0 H1) (h : Res K H1 H O fl v d) : Res K H0 H O fl v d := by
  cases fl with
  | bo => exact h
  | sh => exact h
  | fr => exact ⟨h.1, fun ds e => let ⟨p, e1, e2, e3⟩ := h.2 ds e; ⟨p, e1, s.free e2, e3⟩⟩
theorem Res.list {ds : List PyData} (h : Res K H0 H O fl v (.list ds)) : ∃ p vs, v = .ref p ∧ SqL K H p vs ∧ RpAll K H O vs ds ∧ ds.length ≤ big := by
  rcases h.bo (H1 := H0) with h' | ⟨p, e, hp, vs, h1, h2, h3⟩
  · cases h' with
    | lst hh n r => exact ⟨_, _, rfl, hh.sq, r, n⟩
  · exact ⟨p, vs, e, .of h1, h2, h3⟩
theorem Res.tuple {ds : List PyData} (h : Res K H0 H O fl v (.tuple ds)) : ∃ p vs, v = .ref p ∧ SqT K H p vs ∧ RpAll K H O vs ds ∧ ds.length ≤ big := by
  rcases h.bo (H1 := H0) with h' | ⟨p, e, hp, h⟩
  · cases h' with
    | tup hh n r => exact ⟨_, _, rfl, hh, r, n⟩
  · exact h.elim
theorem Res.int {i : Int} (h : Res K H0 H O fl v (.int i)) : v = .int i := by
  rcases h.bo (H1 := H0) with h | ⟨p, e, hp, h⟩
  · cases h; rfl
  · exact h.elim
theorem Res.bool {i : Bool} (h : Res K H0 H O fl v (.bool i)) : v = .bl i := by
  rcases h.bo (H1 := H0) with h | ⟨p, e, hp, h⟩
  · cases h; rfl
  · exact h.elim
theorem Res.none_ (h : Res K H0 H O fl v .none) : v = .non := by
  rcases h.bo (H1 := H0) with h | ⟨p, e, hp, h⟩
  · cases h; rfl
  · exact h.elim
theorem Res.str {i : Str} (h : Res K H0 H O fl v (.str i)) : v = .str i ∧ i.length ≤ big := by
  rcases h.bo (H1 := H0) with h | ⟨p, e, hp, h⟩
  · cases h with | str _ n => exact ⟨rfl, n⟩
  · exact h.elim
theorem Res.dp (h : Res K H0 H O fl v d) : Dp K H v d := by
  rcases h.bo (H1 := H0) with h | ⟨p, e, hp, h⟩
  · exact h.dp
  · cases d with
    | list ds =>
      obtain ⟨vs, h1, h2, h3⟩ := h
      subst e
      exact .lst (.of h1) h2.dp
    | _ => exact h.elim
/-- scalars are of any kind -/
def flatD : PyData → Bool
  | .none | .bool _ | .int _ | .str _ => true
  | _ => false
theorem Res.flat (h : Rp K H O v d) (f : flatD d = true) : Res K H0 H O fl v d := by
  cases fl with
  | bo => exact .inl h
  | sh => exact h
  | fr => exact ⟨h, fun ds e => by subst e; cases f⟩
theorem Res.nolist (h : Rp K H O v d) (f : ∀ ds, d ≠ .list ds) : Res K H0 H O fl v d := by
  cases fl with
  | bo => exact .inl h
  | sh => exact h
  | fr => exact ⟨h, fun ds e => absurd e (f ds)⟩
end

inductive ResAll (K : PySem.W.Frag) (H0 H : Hp) (O : List Addr) : List Fl → List V → List PyData → Prop
  | nil : ResAll K H0 H O [] [] []
  | cons {fl : Fl} {fls : List Fl} {v : V} {vs : List V} {d : PyData} {ds : List PyData} (h : Res K H0 H O fl v d) (t : ResAll K H0 H O fls vs ds) : ResAll K H0 H O (fl :: fls) (v :: vs) (d :: ds)
section
variable {K : PySem.W.Frag} {H0 H1 H H' : Hp} {O O' G : List Addr}
theorem ResAll.mono (s : Same H H') : ∀ {fls : List Fl} {vs : List V} {ds : List PyData}, ResAll K H0 H O fls vs ds → ResAll K H0 H' O fls vs ds
  | _, _, _, .nil => .nil
  | _, _, _, .cons h t => .cons (h.mono s) (t.mono s)
theorem ResAll.back (s : Same H0 H1) : ∀ {fls : List Fl} {vs : List V} {ds : List PyData}, ResAll K H1 H O fls vs ds → ResAll K H0 H O fls vs ds
  | _, _, _, .nil => .nil
  | _, _, _, .cons h t => .cons (h.back s) (t.back s)
/-- no borrowed one -/
def storable : List Fl → Bool
  | [] => true
  | .bo :: _ => false
  | _ :: r => storable r
theorem Res.stored {fl : Fl} {v : V} {d : PyData} (h : Res K H0 H O fl v d) (hf : storable [fl] = true) : Rp K H O v d := by
  cases fl with
  | bo => cases hf
  | sh => exact h
  | fr => exact h.1
theorem ResAll.rp : ∀ {fls : List Fl} {vs : List V} {ds : List PyData}, ResAll K H0 H O fls vs ds → storable fls = true → RpAll K H O vs ds
  | _, _, _, .nil, _ => .nil
  | fl :: _, _, _, .cons h t, s => by
    cases fl with
    | bo => cases s
    | sh => exact .cons (h.stored rfl) (t.rp s)
    | fr => exact .cons (h.stored rfl) (t.rp s)
end

/-! ### the slots -/
structure EnvR (K : PySem.W.Frag) (Γ : List Nat) (F : List Addr) (GO : List (Nat × Addr)) (σ : L2.St) (H : Hp) (ρ : Ev) : Prop where
  len : ρ.length = σ.length
  dom : GO.map (·.1) = Γ
  inj : (GO.map (·.2)).Nodup
  dis : ∀ p, p ∈ GO.map (·.2) → p ∉ F
  frn : ∀ b, b ∈ F → H b ≠ none
  own : ∀ i p, (i, p) ∈ GO → σ[i]? = some (some (.ref p)) ∧ ∃ d, ρ[i]? = some (some d) ∧ Own K H (GO.map (·.2) ++ F) p d
  sh : ∀ i d, i ∉ Γ → ρ[i]? = some (some d) → ∃ v, σ[i]? = some (some v) ∧ Rp K H (GO.map (·.2) ++ F) v d
section
variable {K : PySem.W.Frag} {Γ : List Nat} {F : List Addr} {GO : List (Nat × Addr)} {σ : L2.St} {H H' : Hp} {ρ : Ev}
theorem EnvR.mono (s : Same H H') (e : EnvR K Γ F GO σ H ρ) : EnvR K Γ F GO σ H' ρ where
  len := e.len
  dom := e.dom
  inj := e.inj
  dis := e.dis
  frn := fun b hb z => by
    cases q : H b with
    | none => exact e.frn b hb q
    | some o => rw [s b o q] at z; cases z
  own := fun i p hp => let ⟨h1, d, h2, h3⟩ := e.own i p hp; ⟨h1, d, h2, h3.mono (.same s) (fun z => nomatch z)⟩
  sh := fun i d hi hd => let ⟨v, h1, h2⟩ := e.sh i d hi hd; ⟨v, h1, h2.mono (.same s)⟩
theorem EnvR.alive (e : EnvR K Γ F GO σ H ρ) : ∀ b, b ∈ GO.map (·.2) ++ F → H b ≠ none := fun b hb => by
  rcases List.mem_append.mp hb with hb | hb
  · obtain ⟨⟨i, p⟩, hp, rfl⟩ := List.mem_map.mp hb
    obtain ⟨_, d, _, h3⟩ := e.own i p hp
    obtain ⟨o, z, _⟩ := h3.mut
    show H p ≠ none
    rw [z]
    exact fun z => nomatch z
  · exact e.frn b hb
theorem EnvR.newp (e : EnvR K Γ F GO σ H ρ) {p : Addr} (hp : H p = none) : p ∉ GO.map (·.2) ++ F := fun hb => e.alive p hb hp
/-- a value is put into a slot that owns nothing -/
theorem EnvR.setS (e : EnvR K Γ F GO σ H ρ) {i : Nat} {v : V} {d : PyData} (hi : i ∉ Γ) (h : Rp K H (GO.map (·.2) ++ F) v d) : EnvR K Γ F GO (σ.set i (some v)) H (ρ.set i (some d)) where
  len := by rw [List.length_set, List.length_set, e.len]
  dom := e.dom
  inj := e.inj
  dis := e.dis
  frn := e.frn
  own := fun j p hp => by
    have hj : i ≠ j := fun z => hi (by rw [← e.dom, z]; exact List.mem_map.mpr ⟨_, hp, rfl⟩)
    obtain ⟨h1, d', h2, h3⟩ := e.own j p hp
    exact ⟨by rw [List.getElem?_set_ne hj]; exact h1, d', by rw [List.getElem?_set_ne hj]; exact h2, h3⟩
  sh := fun j d' hj hd => by
    by_cases hij : i = j
    · subst hij
      by_cases hl : i < ρ.length
      · rw [List.getElem?_set_self hl] at hd
        cases hd
        exact ⟨v, by rw [List.getElem?_set_self (by rw [← e.len]; exact hl)], h⟩
      · rw [List.getElem?_eq_none (by rw [List.length_set]; omega)] at hd; cases hd
    · rw [List.getElem?_set_ne hij] at hd ⊢
      exact e.sh j d' hj hd
/-- slots forgotten -/
theorem EnvR.kill1 (e : EnvR K Γ F GO σ H ρ) {i : Nat} (hi : i ∉ Γ) : EnvR K Γ F GO σ H (ρ.set i none) where
  len := by rw [List.length_set, e.len]
  dom := e.dom
  inj := e.inj
  dis := e.dis
  frn := e.frn
  own := fun j p hp => by
    have hj : i ≠ j := fun z => hi (by rw [← e.dom, z]; exact List.mem_map.mpr ⟨_, hp, rfl⟩)
    obtain ⟨h1, d', h2, h3⟩ := e.own j p hp
    exact ⟨h1, d', by rw [List.getElem?_set_ne hj]; exact h2, h3⟩
  sh := fun j d' hj hd => by
    by_cases hij : i = j
    · subst hij
      by_cases hl : i < ρ.length
      · rw [List.getElem?_set_self hl] at hd; cases hd
      · rw [List.getElem?_eq_none (by rw [List.length_set]; omega)] at hd; cases hd
    · rw [List.getElem?_set_ne hij] at hd
      exact e.sh j d' hj hd
theorem EnvR.wipe1 (e : EnvR K Γ F GO σ H ρ) {i : Nat} (hi : i ∉ Γ) : EnvR K Γ F GO (σ.set i none) H (ρ.set i none) where
  len := by rw [List.length_set, List.length_set, e.len]
  dom := e.dom
  inj := e.inj
  dis := e.dis
  frn := e.frn
  own := fun j p hp => by
    have hj : i ≠ j := fun z => hi (by rw [← e.dom, z]; exact List.mem_map.mpr ⟨_, hp, rfl⟩)
    obtain ⟨h1, d', h2, h3⟩ := e.own j p hp
    exact ⟨by rw [List.getElem?_set_ne hj]; exact h1, d', by rw [List.getElem?_set_ne hj]; exact h2, h3⟩
  sh := fun j d' hj hd => by
    by_cases hij : i = j
    · subst hij
      by_cases hl : i < ρ.length
      · rw [List.getElem?_set_self hl] at hd; cases hd
      · rw [List.getElem?_eq_none (by rw [List.length_set]; omega)] at hd; cases hd
    · rw [List.getElem?_set_ne hij] at hd ⊢
      exact e.sh j d' hj hd
theorem EnvR.killAll (e : EnvR K Γ F GO σ H ρ) : ∀ {is : List Nat}, (∀ i, i ∈ is → i ∉ Γ) → EnvR K Γ F GO σ H (kill ρ is)
  | [], _ => e
  | i :: is, h => (e.killAll fun j hj => h j (List.mem_cons_of_mem _ hj)).kill1 (h i List.mem_cons_self)
theorem EnvR.wipeAll (e : EnvR K Γ F GO σ H ρ) : ∀ {is : List Nat}, (∀ i, i ∈ is → i ∉ Γ) → EnvR K Γ F GO (wipe σ is) H (kill ρ is)
  | [], _ => e
  | i :: is, h => (e.wipeAll fun j hj => h j (List.mem_cons_of_mem _ hj)).wipe1 (h i List.mem_cons_self)
/-- owned slots given up -/
theorem EnvR.freeze (e : EnvR K Γ F GO σ H ρ) (q : Nat → Bool) : EnvR K (Γ.filter q) F (GO.filter fun z => q z.1) σ H ρ := by
  have sub : ∀ b, b ∈ (GO.filter fun z => q z.1).map (·.2) ++ F → b ∈ GO.map (·.2) ++ F := fun b hb => by
    rcases List.mem_append.mp hb with hb | hb
    · obtain ⟨z, hz, rfl⟩ := List.mem_map.mp hb
      exact List.mem_append_left _ (List.mem_map.mpr ⟨z, (List.mem_filter.mp hz).1, rfl⟩)
    · exact List.mem_append_right _ hb
  have g : Grow [] (GO.map (·.2) ++ F) ((GO.filter fun z => q z.1).map (·.2) ++ F) H H := .sub_ (.refl H) sub
  refine ⟨e.len, ?_, ?_, fun p hp => ?_, e.frn, fun i p hp => ?_, fun i d hi hd => ?_⟩
  · rw [← e.dom, List.filter_map]; rfl
  · exact e.inj.sublist (List.filter_sublist.map _)
  · obtain ⟨z, hz, rfl⟩ := List.mem_map.mp hp
    exact e.dis _ (List.mem_map.mpr ⟨z, (List.mem_filter.mp hz).1, rfl⟩)
  · obtain ⟨h1, d, h2, h3⟩ := e.own i p (List.mem_filter.mp hp).1
    exact ⟨h1, d, h2, h3.mono g (fun z => nomatch z)⟩
  · by_cases hg : i ∈ Γ
    · rw [← e.dom] at hg
      obtain ⟨⟨j, p⟩, hp, rfl⟩ := List.mem_map.mp hg
      obtain ⟨h1, d', h2, h3⟩ := e.own j p hp
      have hd' : ρ[j]? = some (some d) := hd
      rw [h2] at hd'
      cases hd'
      refine ⟨.ref p, h1, (h3.mono g (fun z => nomatch z)).rp fun hb => ?_⟩
      rcases List.mem_append.mp hb with hb | hb
      · obtain ⟨⟨j2, p2⟩, hz, hp2⟩ := List.mem_map.mp hb
        obtain ⟨hz1, hz2⟩ := List.mem_filter.mp hz
        have : j2 = j := by
          -- unlike slots own unlike objects
          have hp2' : p2 = p := hp2
          subst hp2'
          obtain ⟨i1, hi1, e1⟩ := List.mem_iff_getElem.mp hp
          obtain ⟨i2, hi2, e2⟩ := List.mem_iff_getElem.mp hz1
          have n := e.inj
          have a1 : (GO.map (·.2))[i1]? = some p2 := by rw [List.getElem?_map, List.getElem?_eq_getElem hi1, e1]; rfl
          have a2 : (GO.map (·.2))[i2]? = some p2 := by rw [List.getElem?_map, List.getElem?_eq_getElem hi2, e2]; rfl
          have q12 : i1 = i2 := by
            obtain ⟨b1, c1⟩ := List.getElem?_eq_some_iff.mp a1
            obtain ⟨b2, c2⟩ := List.getElem?_eq_some_iff.mp a2
            exact (List.getElem_inj n).mp (c1.trans c2.symm)
          subst q12
          rw [e1] at e2
          exact (congrArg Prod.fst e2).symm
        subst this
        exact hi (List.mem_filter.mpr ⟨by rw [← e.dom]; exact List.mem_map.mpr ⟨_, hp, rfl⟩, hz2⟩)
      · exact e.dis p (List.mem_map.mpr ⟨_, hp, rfl⟩) hb
    · obtain ⟨v, h1, h2⟩ := e.sh i d hg hd
      exact ⟨v, h1, h2.mono g⟩
end
end DL
set_option Elab.async false
set_option linter.all false
set_option maxRecDepth 100000
/-! The D layer's rules: each construct's reading is a plain function (DSem). -/
namespace DL
open PySem PySem.Spec PyProof.Rows L2

/-! ### judgements -/
abbrev MG := Str → Option Value
def W0 : WX := fun _ _ _ _ => False
/-- what is left to be shown of a result -/
def FinG {α : Type} (mg : MG) (W : WX) (σ : L2.St) (H : Hp) (r : R α) (P : α → Prop) : Prop := match r with
  | .ok a => P a
  | .exc c => ∀ C H', mg c = some (.ref C) → Same H H' → W (.ref C) none σ H'
  | .bad => False
section
variable {α β : Type} {mg : MG} {W : WX} {σ : L2.St} {H H1 : Hp} {r : R α} {P P' : α → Prop}
theorem FinG.bind {f : α → R β} {P : β → Prop} (h : FinG mg W σ H (r.bind f) P) : FinG mg W σ H r fun a => FinG mg W σ H (f a) P := by
  cases r <;> exact h
theorem FinG.imp (h : FinG mg W σ H r P) (w : ∀ a, r = .ok a → P a → P' a) : FinG mg W σ H r P' := by
  cases r with
  | ok a => exact w a rfl h
  | exc c => exact h
  | bad => exact h
theorem FinG.mono (s : Same H H1) (h : FinG mg W σ H r P) (w : ∀ a, r = .ok a → P a → P' a) : FinG mg W σ H1 r P' := by
  cases r with
  | ok a => exact w a rfl h
  | exc c => exact fun C H' hc s' => h C H' hc (s.trans s')
  | bad => exact h
end
abbrev Ads (GO : List (Nat × Addr)) : List Addr := GO.map (·.2)
/-- where a piece of code begins: the slots' values -/
def At (K : PySem.W.Frag) (Γ : List Nat) (σ : L2.St) (H : Hp) (k : Ev → List Addr → List (Nat × Addr) → Prop) : Prop := ∃ ρ F GO, EnvR K Γ F GO σ H ρ ∧ k ρ F GO
def PE_ (K : PySem.W.Frag) (H : Hp) (O : List Addr) (fl : Fl) (Q : VK) (d : Da) : Prop := ∀ v H', Same H H' → Res K H H' O fl v d → Q v H'
def tDE (K : PySem.W.Frag) (mg : MG) (W : WX) (Γ : List Nat) (fl : Fl) (se : SE) : TE := fun σ H Q => At K Γ σ H fun ρ F GO => FinG mg W σ H (se ρ) (PE_ K H (Ads GO ++ F) fl Q)
def tDT (K : PySem.W.Frag) (mg : MG) (W : WX) (Γ : List Nat) (se : SE) : TT := fun σ H Q => At K Γ σ H fun ρ F GO => FinG mg W σ H (se ρ) fun d => ∀ H', Same H H' → Q (tru d) H'
def tDA (K : PySem.W.Frag) (mg : MG) (W : WX) (Γ : List Nat) (fls : List Fl) (sa : SA) : TA := fun σ H Q => At K Γ σ H fun ρ F GO => FinG mg W σ H (sa ρ) fun ds => ∀ vs H', Same H H' → ResAll K H H' (Ads GO ++ F) fls vs ds → Q vs H'
def DE (X : Cx) (W : WX) (Γ : List Nat) (e : Expr) (fl : Fl) (se : SE) : Prop := PE X e (tDE X.K X.mg W Γ fl se)
def DT (X : Cx) (W : WX) (Γ : List Nat) (e : Expr) (se : SE) : Prop := PT X e (tDT X.K X.mg W Γ se)
def DW (X : Cx) (W : WX) (Γ : List Nat) (e : Expr) (se : SE) : Prop := PW X e (tDT X.K X.mg W Γ se)
def DA (X : Cx) (W : WX) (Γ : List Nat) (es : List Expr) (fls : List Fl) (sa : SA) : Prop := PA X es (tDA X.K X.mg W Γ fls sa)

section
variable {X : Cx} {e : Expr} {es : List Expr}
theorem pe_imp {t t' : TE} (h : PE X e t) (w : ∀ σ H Q, t' σ H Q → t σ H Q) : PE X e t' := ⟨fun pins s σ H Q I q => h.run pins s σ H Q I (w _ _ _ q)⟩
theorem pt_imp {t t' : TT} (h : PT X e t) (w : ∀ σ H Q, t' σ H Q → t σ H Q) : PT X e t' := ⟨fun pins s σ H Q I q => h.run pins s σ H Q I (w _ _ _ q)⟩
theorem pw_imp {t t' : TT} (h : PW X e t) (w : ∀ σ H Q, t' σ H Q → t σ H Q) : PW X e t' := ⟨fun wh pins s σ H Q I q => h.run wh pins s σ H Q I (w _ _ _ q)⟩
theorem pa_imp {t t' : TA} (h : PA X es t) (w : ∀ σ H Q, t' σ H Q → t σ H Q) : PA X es t' := ⟨fun pos pins s σ H Q I q => h.run pos pins s σ H Q I (w _ _ _ q)⟩
end

section
variable {K : PySem.W.Frag} {mg : MG} {W : WX} {Γ : List Nat} {F : List Addr} {GO : List (Nat × Addr)} {σ : L2.St} {H H' H1 : Hp} {ρ : Ev} {O : List Addr}
/-- the first part runs, then the rest -/
theorem at_e {β : Type} (E : EnvR K Γ F GO σ H ρ) {fl : Fl} {se : SE} {f : Da → R β} {P : β → Prop} {R' : V → Hp → Prop} (h : FinG mg W σ H ((se ρ).bind f) P)
    (hk : ∀ d v H1, Same H H1 → Res K H H1 (Ads GO ++ F) fl v d → EnvR K Γ F GO σ H1 ρ → FinG mg W σ H1 (f d) P → R' v H1) : tDE K mg W Γ fl se σ H R' :=
  ⟨ρ, F, GO, E, h.bind.imp fun d _ q v H1 s r => hk d v H1 s r (E.mono s) (q.mono s fun _ _ z => z)⟩
theorem at_t {β : Type} (E : EnvR K Γ F GO σ H ρ) {se : SE} {f : Da → R β} {P : β → Prop} {R' : Bool → Hp → Prop} (h : FinG mg W σ H ((se ρ).bind f) P)
    (hk : ∀ d H1, Same H H1 → EnvR K Γ F GO σ H1 ρ → FinG mg W σ H1 (f d) P → R' (tru d) H1) : tDT K mg W Γ se σ H R' :=
  ⟨ρ, F, GO, E, h.bind.imp fun d _ q H1 s => hk d H1 s (E.mono s) (q.mono s fun _ _ z => z)⟩
theorem at_a {β : Type} (E : EnvR K Γ F GO σ H ρ) {fls : List Fl} {sa : SA} {f : List Da → R β} {P : β → Prop} {R' : List V → Hp → Prop} (h : FinG mg W σ H ((sa ρ).bind f) P)
    (hk : ∀ ds vs H1, Same H H1 → ResAll K H H1 (Ads GO ++ F) fls vs ds → EnvR K Γ F GO σ H1 ρ → FinG mg W σ H1 (f ds) P → R' vs H1) : tDA K mg W Γ fls sa σ H R' :=
  ⟨ρ, F, GO, E, h.bind.imp fun d _ q v H1 s r => hk d v H1 s r (E.mono s) (q.mono s fun _ _ z => z)⟩
theorem PE_.mono {fl : Fl} {Q : VK} {d : Da} (s : Same H H1) (h : PE_ K H O fl Q d) : PE_ K H1 O fl Q d := fun v H' s' r => h v H' (s.trans s') (r.back s)
/-- an answer -/
theorem PE_.now {fl : Fl} {Q : VK} {d : Da} {v : V} (h : PE_ K H O fl Q d) (r : Res K H H O fl v d) : Q v H := h v H (.refl H) r
theorem same_upd {p : Addr} {o : HO} (h : H p = none) : Same H (upd H p o) := fun b x e => by
  rw [upd_ne (ne_of_none e h)]
  exact e
theorem Grow.more {p : Addr} (s : Same H H1) (hp : H p = none) : Grow [] O (p :: O) H H1 where
  keep := .of_same s
  sub := fun _ z => (List.not_mem_nil z).elim
  new := fun b hb => by
    rcases List.mem_cons.mp hb with e | hb
    · subst e; exact .inr hp
    · exact .inl hb
/-- a new tuple, a new list -/
theorem PE_.newT {fl : Fl} {Q : VK} {ds : List Da} {vs : List V} {p : Addr} (h : PE_ K H O fl Q (.tuple ds)) (r : RpAll K H O vs ds) (n : ds.length ≤ big) (hp : H p = none) : Q (.ref p) (upd H p (.tup vs)) :=
  h _ _ (same_upd hp) (.nolist (.tup (.of upd_same) n (r.mono (.same (same_upd hp)))) fun _ e => nomatch e)
theorem PE_.newL {Q : VK} {ds : List Da} {vs : List V} {p : Addr} (h : PE_ K H O .fr Q (.list ds)) (r : RpAll K H O vs ds) (n : ds.length ≤ big) (hp : H p = none) (ho : p ∉ O) : Q (.ref p) (upd H p (.lst vs)) := by
  have r1 : RpAll K (upd H p (.lst vs)) O vs ds := r.mono (.same (same_upd hp))
  have r2 : RpAll K (upd H p (.lst vs)) (p :: O) vs ds := r.mono (Grow.more (same_upd hp) hp)
  refine h _ _ (same_upd hp) ⟨.lst (.inl ⟨.inl upd_same, ho⟩) n r1, fun ds' e => ?_⟩
  cases e
  exact ⟨p, rfl, hp, vs, upd_same, r2, n⟩
end

/-! ### names, constants -/
abbrev flOf (Γ : List Nat) (i : Nat) : Fl := match Γ.contains i with
  | true => .bo
  | false => .sh
section
variable {X : Cx} {W : WX} {Γ : List Nat}
theorem de_var {i : Nat} {x : Str} {pos : Pos} (hN : X.N[i]? = some x) (hv : Vis X.env.scope x) (hd : (x == ("__debug__" : Str)) = false := by decide) (hcd : (x == ("__classdict__" : Str)) = false := by decide) :
    DE X W Γ (.Name x pos) (flOf Γ i) (eVar i) := pe_imp (pe_var hN hv hd hcd) fun σ H Q h => by
  obtain ⟨ρ, F, GO, E, h⟩ := h
  have h' : FinG X.mg W σ H (vGet ρ[i]?) (PE_ X.K H (Ads GO ++ F) (flOf Γ i) Q) := h
  cases e : ρ[i]? with
  | none => rw [e] at h'; exact h'.elim
  | some o =>
    rw [e] at h'
    cases o with
    | none => exact h'.elim
    | some d =>
      have h2 : PE_ X.K H (Ads GO ++ F) (flOf Γ i) Q d := h'
      unfold flOf at h2
      by_cases hi : i ∈ Γ
      · rw [List.contains_iff_mem.mpr hi] at h2
        rw [← E.dom] at hi
        obtain ⟨⟨j, p⟩, hp, rfl⟩ := List.mem_map.mp hi
        obtain ⟨h1, d', h3, h4⟩ := E.own j p hp
        have e' : ρ[j]? = some (some d) := e
        rw [h3] at e'
        cases e'
        exact ⟨.ref p, h1, h2.now (.inr ⟨p, rfl, List.mem_append_left _ (List.mem_map.mpr ⟨_, hp, rfl⟩), h4⟩)⟩
      · have c : Γ.contains i = false := by
          cases q : Γ.contains i with
          | false => rfl
          | true => exact absurd (List.contains_iff_mem.mp q) hi
        rw [c] at h2
        obtain ⟨v, h1, h3⟩ := E.sh i d hi e
        exact ⟨v, h1, h2.now h3⟩
/-- the i-th name of the def -/
def visB (sc : Scope) (x : Str) : Bool := match sc.names.lookup x with
  | some .local => true
  | some .cell => true
  | some .free => true
  | _ => false
theorem vis_of {sc : Scope} {x : Str} (h : visB sc x = true) : Vis sc x := by
  unfold visB at h
  split at h
  · exact .inl (by assumption)
  · exact .inr (.inl (by assumption))
  · exact .inr (.inr (by assumption))
  · cases h
def nameOk (N : List Str) (sc : Scope) (i : Nat) (x : Str) : Bool := decide (N[i]? = some x) && (visB sc x && (!(x == ("__debug__" : Str)) && !(x == ("__classdict__" : Str))))
theorem nameOk_of {N : List Str} {sc : Scope} {i : Nat} {x : Str} (h : nameOk N sc i x = true) : N[i]? = some x ∧ Vis sc x ∧ (x == ("__debug__" : Str)) = false ∧ (x == ("__classdict__" : Str)) = false := by
  unfold nameOk at h
  simp only [Bool.and_eq_true, decide_eq_true_eq, Bool.not_eq_true'] at h
  exact ⟨h.1, vis_of h.2.1, h.2.2.1, h.2.2.2⟩
theorem dv (i : Nat) {x : Str} {pos : Pos} (h : nameOk X.N X.env.scope i x = true := by kernel_rfl) : DE X W Γ (.Name x pos) (flOf Γ i) (eVar i) :=
  let h' := nameOk_of h
  de_var h'.1 h'.2.1 h'.2.2.1 h'.2.2.2
theorem de_c {e : Expr} {v : V} {d : Da} {fl : Fl} (h : PE X e (tC v)) (r : ∀ H O, Rp X.K H O v d) (f : flatD d = true) : DE X W Γ e fl (eC d) := pe_imp h fun σ H Q h => by
  obtain ⟨ρ, F, GO, E, h⟩ := h
  have h2 : PE_ X.K H (Ads GO ++ F) fl Q d := h
  exact h2.now (.flat (r _ _) f)
theorem de_int {i : Int} {j pos} : DE X W Γ (.Constant (.int i) j pos) .fr (eC (.int i)) := de_c pe_int (fun _ _ => .int i) rfl
theorem de_bl {b : Bool} {j pos} : DE X W Γ (.Constant (.bool b) j pos) .fr (eC (.bool b)) := de_c pe_bl (fun _ _ => .bl b) rfl
theorem de_non {j pos} : DE X W Γ (.Constant .none j pos) .fr (eC .none) := de_c pe_non (fun _ _ => .non) rfl
theorem de_str {x : Str} {j pos} (h : x.length ≤ big := by decide) : DE X W Γ (.Constant (.str x) j pos) .fr (eC (.str x)) := de_c pe_str (fun _ _ => .str x h) rfl
/-- a module's int -/
theorem de_globI {x : Str} {i : Int} {pos : Pos} (hg : Gl X x) (hm : ∃ t, X.mg x = some (.int i t)) (hd : (x == ("__debug__" : Str)) = false := by decide) : DE X W Γ (.Name x pos) .fr (eC (.int i)) := by
  obtain ⟨t, hm⟩ := hm
  exact de_c (v := .int i) (pe_glob hg hm ⟨t, rfl⟩ hd) (fun _ _ => .int i) rfl
/-- kinds of answers made weaker -/
theorem Res.toSh {K : PySem.W.Frag} {H0 H : Hp} {O : List Addr} {fl : Fl} {v : V} {d : Da} (f : storable [fl] = true) (r : Res K H0 H O fl v d) : Res K H0 H O .sh v d := r.stored f
theorem de_sh {e : Expr} {fl : Fl} {se : SE} (h : DE X W Γ e fl se) (f : storable [fl] = true := by kernel_rfl) : DE X W Γ e .sh se := pe_imp h fun σ H Q ⟨ρ, F, GO, E, q⟩ => ⟨ρ, F, GO, E, q.imp fun d _ z v H' s r => z v H' s (r.toSh f)⟩
theorem de_bo {e : Expr} {fl : Fl} {se : SE} (h : DE X W Γ e fl se) : DE X W Γ e .bo se := pe_imp h fun σ H Q ⟨ρ, F, GO, E, q⟩ => ⟨ρ, F, GO, E, q.imp fun d _ z v H' s r => z v H' s r.bo⟩

/-! ### operators -/
/-- the reading r of values does what f does of data -/
def OpS (X : Cx) (r : R2) (fl : Fl) (f : Da → Da → R Da) : Prop :=
  ∀ (mg : MG) (W : WX) (σ : L2.St) (O : List Addr) (H0 H : Hp) (x y : V) (a b : Da) (Q : VK), (∀ p, H p = none → p ∉ O) → Res X.K H0 H O .bo x a → Res X.K H0 H O .bo y b → FinG mg W σ H (f a b) (PE_ X.K H O fl Q) → r x y H Q
def UnS (X : Cx) (r : V → Hp → VK → Prop) (fl : Fl) (f : Da → R Da) : Prop :=
  ∀ (mg : MG) (W : WX) (σ : L2.St) (O : List Addr) (H0 H : Hp) (x : V) (a : Da) (Q : VK), (∀ p, H p = none → p ∉ O) → Res X.K H0 H O .bo x a → FinG mg W σ H (f a) (PE_ X.K H O fl Q) → r x H Q
def CallS (X : Cx) (r : List V → Hp → VK → Prop) (fl : Fl) (f : List Da → R Da) : Prop :=
  ∀ (mg : MG) (W : WX) (σ : L2.St) (O : List Addr) (H0 H : Hp) (fls : List Fl) (xs : List V) (as : List Da) (Q : VK), (∀ p, H p = none → p ∉ O) → ResAll X.K H0 H O fls xs as → FinG mg W σ H (f as) (PE_ X.K H O fl Q) → r xs H Q
variable {a b : Expr} {fa fb fl : Fl} {sa sb : SE} {pos : Pos}
theorem EnvR.fresh {K : PySem.W.Frag} {F : List Addr} {GO : List (Nat × Addr)} {σ : L2.St} {H : Hp} {ρ : Ev} (E : EnvR K Γ F GO σ H ρ) : ∀ p, H p = none → p ∉ Ads GO ++ F := fun _ hp => E.newp hp
theorem bin_s {r : R2} {f : Da → Da → R Da} (hs : OpS X r fl f) (ta tb : TE) {σ : L2.St} {H : Hp} {Q : VK} (ha : tDE X.K X.mg W Γ fa sa σ H Q → True)
    (h : tDE X.K X.mg W Γ fl (e2 f sa sb) σ H Q) : tOp r (tDE X.K X.mg W Γ fa sa) (tDE X.K X.mg W Γ fb sb) σ H Q := by
  obtain ⟨ρ, F, GO, E, h⟩ := h
  refine at_e E h fun d v H1 s1 r1 E1 h1 => at_e E1 h1 fun d2 v2 H2 s2 r2 E2 h2 => ?_
  exact hs _ _ _ _ H2 H2 v v2 d d2 Q E2.fresh (r1.bo.mono s2) r2.bo (h2.imp fun _ _ z => z.mono (s1.trans s2))
theorem de_bin {op : Operator} {r : R2} {f : Da → Da → R Da} (ho : OpR X (binaryOp op) r) (hs : OpS X r fl f) (ha : DE X W Γ a fa sa) (hb : DE X W Γ b fb sb) : DE X W Γ (.BinOp a op b pos) fl (e2 f sa sb) :=
  pe_imp (pe_op ho ha hb) fun σ H Q h => bin_s hs (tDE X.K X.mg W Γ fa sa) (tDE X.K X.mg W Γ fb sb) (fun _ => trivial) h
theorem de_cmp {op : CmpOp} {r : R2} {f : Da → Da → R Da} (ho : OpR X (compareOp op) r) (hs : OpS X r fl f) (ha : DE X W Γ a fa sa) (hb : DE X W Γ b fb sb) (hm : behindInMarks op b = false) : DE X W Γ (.Compare a [op] [b] pos) fl (e2 f sa sb) :=
  pe_imp (pe_cmpR ho ha hb hm) fun σ H Q h => bin_s hs (tDE X.K X.mg W Γ fa sa) (tDE X.K X.mg W Γ fb sb) (fun _ => trivial) h
theorem de_ix {r : R2} {f : Da → Da → R Da} (ho : IxR X r) (hs : OpS X r fl f) (ha : DE X W Γ a fa sa) (hb : DE X W Γ b fb sb) (hp : PlainIx b) : DE X W Γ (.Subscript a b pos) fl (e2 f sa sb) :=
  pe_imp (pe_ix ho ha hb hp) fun σ H Q h => bin_s hs (tDE X.K X.mg W Γ fa sa) (tDE X.K X.mg W Γ fb sb) (fun _ => trivial) h
theorem de_un {op : UnaryOp} {r : V → Hp → VK → Prop} {f : Da → R Da} (ho : UnR X (unaryOp op) r) (hs : UnS X r fl f) (ha : DE X W Γ a fa sa) : DE X W Γ (.UnaryOp op a pos) fl (e1 f sa) :=
  pe_imp (pe_un ho ha) fun σ H Q h => by
    obtain ⟨ρ, F, GO, E, h⟩ := h
    exact at_e E h fun d v H1 s1 r1 E1 h1 => hs _ _ _ _ H1 H1 v d Q E1.fresh r1.bo (h1.imp fun _ _ z => z.mono s1)
end
end DL
set_option Elab.async false
set_option linter.all false
set_option maxRecDepth 100000
namespace DL
open PySem PySem.Spec PyProof.Rows L2

/-! ### what the operators do -/
section
variable {X : Cx}
theorem big_le {n : Nat} (h : n ≤ big) : n ≤ sizeLine := by rw [← big_line]; exact h
theorem sixD (n d : Nat) (o : Option Int) : sIxD n d o = HT.sIx n d o := by cases o <;> rfl
theorem cutD_V (xs : List V) (lo hi : Option Int) : cutD xs lo hi = cutV xs lo hi := by unfold cutD cutV; simp only [sixD]
theorem RpAll.cut {K : PySem.W.Frag} {H : Hp} {O : List Addr} {vs : List V} {ds : List Da} (r : RpAll K H O vs ds) (lo hi : Option Int) : RpAll K H O (cutV vs lo hi) (cutD ds lo hi) := by
  rw [← cutD_V]
  unfold cutD
  rw [r.length]
  exact (r.drop _).take _
theorem cutD_len {α : Type} (xs : List α) (lo hi : Option Int) : (cutD xs lo hi).length ≤ xs.length := by
  unfold cutD
  have h1 := List.length_take_le (sIxD xs.length xs.length hi - sIxD xs.length 0 lo) (xs.drop (sIxD xs.length 0 lo))
  have h2 := List.length_take_le' (sIxD xs.length xs.length hi - sIxD xs.length 0 lo) (xs.drop (sIxD xs.length 0 lo))
  rw [List.length_drop] at h2
  omega

def rCatL (K : PySem.W.Frag) : R2 := fun x y H Q => ∃ l b xs zs, x = .ref l ∧ y = .ref b ∧ SqL K H l xs ∧ SqL K H b zs ∧ xs.length + zs.length ≤ sizeLine ∧ ∀ p, H p = none → Q (.ref p) (upd H p (.lst (xs ++ zs)))
theorem op_catL : OpR X (binaryOp .Add) (rCatL X.K) := by
  intro pins s σ H x y v u Q I rx ry h
  obtain ⟨l, b, xs, zs, rfl, rfl, hH, hB, hz, q⟩ := h
  cases rx
  cases ry
  obtain ⟨its, r, ⟨⟨cls, dd, data, sl⟩, n, ho, hc, hd0, hd⟩, _⟩ := I.list hH
  obtain ⟨its2, r2, ⟨⟨cls2, dd2, data2, sl2⟩, n2, ho2, hc2, hd20, hd2⟩, _⟩ := I.list hB
  simp only at hc hd hc2 hd2
  subst hc hd hc2 hd2
  have e : its.toArray ++ its2.toArray = (its ++ its2).toArray := by simp
  have hl := r.length
  have hl2 := r2.length
  refine concat_meets ⟨_, ho, rfl⟩ ⟨_, ho2, rfl⟩ noFill_list_add seq_list_add PySem.F.slot_list_add PySem.F.entry_list_add (PySem.F.args_list_add_2 _ _) (list_addW l b its.toArray its2.toArray n n2 dd dd2 sl sl2 (by simp only [List.size_toArray]; omega)) ⟨ho, ho2, ?_⟩
  rw [e]
  exact ⟨.ref _, _, I.lnew (t' := s.toks) (r.append r2) (by rw [List.length_append]; omega), rfl, q _ I.fresh⟩

def rAddD (K : PySem.W.Frag) : R2 := fun x y H Q => (∃ i j, x = .int i ∧ y = .int j ∧ Q (.int (i + j)) H) ∨ (∃ i j, x = .str i ∧ y = .str j ∧ i.length + j.length ≤ sizeLine ∧ Q (.str (i ++ j)) H) ∨ rCatA K x y H Q ∨ rCatL K x y H Q
theorem op_addD : OpR X (binaryOp .Add) (rAddD X.K) := op_add.or (op_add_str.or (op_catA.or op_catL))
/-- an answer that is a scalar -/
theorem PE_.flat {K : PySem.W.Frag} {H : Hp} {O : List Addr} {fl : Fl} {Q : VK} {d : Da} {v : V} (h : PE_ K H O fl Q d) (r : Rp K H O v d) (f : flatD d = true) : Q v H := h.now (.flat r f)
theorem os_add : OpS X (rAddD X.K) .fr dAdd := by
  intro mg W σ O H0 H x y a b Q nw hx hy h
  unfold dAdd at h
  split at h
  · cases hx.int; cases hy.int
    exact .inl ⟨_, _, rfl, rfl, PE_.flat h (.int _) rfl⟩
  · obtain ⟨rfl, h1⟩ := hx.str
    obtain ⟨rfl, h2⟩ := hy.str
    split at h
    · rename_i hl
      exact .inr (.inl ⟨_, _, rfl, rfl, big_le hl, PE_.flat h (.str _ (by rw [Str.length_append]; exact hl)) rfl⟩)
    · exact h.elim
  · obtain ⟨p, vs, rfl, s1, r1, n1⟩ := hx.list
    obtain ⟨q, ws, rfl, s2, r2, n2⟩ := hy.list
    split at h
    · rename_i hl
      refine .inr (.inr (.inr ⟨p, q, vs, ws, rfl, rfl, s1, s2, by rw [r1.length, r2.length]; exact big_le hl, fun t ht => PE_.newL (K := X.K) (Q := Q) h (r1.append r2) (by rw [List.length_append]; exact hl) ht (nw t ht)⟩))
    · exact h.elim
  · obtain ⟨p, vs, rfl, s1, r1, n1⟩ := hx.tuple
    obtain ⟨q, ws, rfl, s2, r2, n2⟩ := hy.tuple
    split at h
    · rename_i hl
      refine .inr (.inr (.inl ⟨p, q, vs, ws, rfl, rfl, s1, s2, by rw [r1.length, r2.length]; exact big_le hl, fun e => ?_, fun _ e => ?_, fun _ _ t ht => ?_⟩))
      · subst e
        cases r1
        exact PE_.now h (.nolist (.tup s2 n2 r2) fun _ e => nomatch e)
      · subst e
        cases r2
        rw [List.append_nil] at h
        exact PE_.now h (.nolist (.tup s1 n1 r1) fun _ e => nomatch e)
      · exact PE_.newT h (r1.append r2) (by rw [List.length_append]; exact hl) ht
    · exact h.elim
  · exact h.elim
theorem os_sub : OpS X (rI0 fun i j => .int (i - j)) .fr dSub := by
  intro mg W σ O H0 H x y a b Q nw hx hy h
  unfold dSub at h
  split at h
  · cases hx.int; cases hy.int
    exact ⟨_, _, rfl, rfl, PE_.flat h (.int _) rfl⟩
  · exact h.elim
def CMulA (i j : Int) : Prop := CMul i j ∨ CMulW i j
theorem mulOk_c {i j : Int} (h : mulOk i j = true) : CMulA i j := by
  unfold mulOk at h
  rcases Bool.or_eq_true_iff.mp h with h | h
  · have := of_decide_eq_true h
    exact .inl (.inl ⟨by omega, by omega⟩)
  · rcases Bool.or_eq_true_iff.mp h with h | h
    · have := of_decide_eq_true h
      exact .inl (.inr ⟨by omega, by omega⟩)
    · exact .inr (show i.natAbs.log2 + j.natAbs.log2 < 1000000 from of_decide_eq_true h)
def rMulD : R2 := rI CMulA fun i j => .int (i * j)
theorem op_mulA : OpR X (binaryOp .Mult) rMulD := opI fun _ _ _ _ _ _ _ hc q => mul_int q (hc.elim CMul.ok CMulW.ok)
theorem os_mul : OpS X rMulD .fr mulI := by
  intro mg W σ O H0 H x y a b Q nw hx hy h
  unfold mulI at h
  split at h
  · cases hx.int; cases hy.int
    split at h
    · rename_i c
      exact ⟨_, _, rfl, rfl, mulOk_c c, PE_.flat h (.int _) rfl⟩
    · exact h.elim
  · exact h.elim
theorem os_div : OpS X (rI CDivN fun i j => .int (i.fdiv j)) .fr dDiv := by
  intro mg W σ O H0 H x y a b Q nw hx hy h
  unfold dDiv at h
  split at h
  · cases hx.int; cases hy.int
    split at h
    · rename_i c
      exact ⟨_, _, rfl, rfl, c, PE_.flat h (.int _) rfl⟩
    · exact h.elim
  · exact h.elim
theorem os_mod : OpS X (rI (fun _ j => j ≠ 0) fun i j => .int (i.fmod j)) .fr dMod := by
  intro mg W σ O H0 H x y a b Q nw hx hy h
  unfold dMod at h
  split at h
  · cases hx.int; cases hy.int
    split at h
    · rename_i c
      exact ⟨_, _, rfl, rfl, c, PE_.flat h (.int _) rfl⟩
    · exact h.elim
  · exact h.elim
theorem os_pow : OpS X (rI CPow fun i j => .int (i ^ j.toNat)) .fr dPow := by
  intro mg W σ O H0 H x y a b Q nw hx hy h
  unfold dPow at h
  split at h
  · cases hx.int; cases hy.int
    split at h
    · rename_i c
      exact ⟨_, _, rfl, rfl, c, PE_.flat h (.int _) rfl⟩
    · exact h.elim
  · exact h.elim
theorem os_and : OpS X (rI0 fun i j => .int (Builtin.bitAnd i j)) .fr dAnd := by
  intro mg W σ O H0 H x y a b Q nw hx hy h
  unfold dAnd at h
  split at h
  · cases hx.int; cases hy.int
    exact ⟨_, _, rfl, rfl, PE_.flat h (.int _) rfl⟩
  · exact h.elim
theorem us_neg : UnS X (rU fun i => .int (-i)) .fr dNeg := by
  intro mg W σ O H0 H x a Q nw hx h
  unfold dNeg at h
  split at h
  · cases hx.int
    exact ⟨_, rfl, PE_.flat h (.int _) rfl⟩
  · exact h.elim
theorem os_cmp {p : Int → Int → Bool} : OpS X (rI0 fun i j => .bl (p i j)) .fr (dCmp p) := by
  intro mg W σ O H0 H x y a b Q nw hx hy h
  unfold dCmp at h
  split at h
  · cases hx.int; cases hy.int
    exact ⟨_, _, rfl, rfl, PE_.flat h (.bl _) rfl⟩
  · exact h.elim
def rEqA (K : PySem.W.Frag) : R2 := fun x y H Q => rEq x y H Q ∨ rEqD K x y H Q
def rNeA (K : PySem.W.Frag) : R2 := fun x y H Q => rNe x y H Q ∨ rNeD K x y H Q
theorem op_eqA (hu : X.A.units + 64 < cLine) : OpR X (compareOp .Eq) (rEqA X.K) := op_eq.or (op_eqD hu)
theorem op_neA (hu : X.A.units + 64 < cLine) : OpR X (compareOp .NotEq) (rNeA X.K) := op_ne.or (op_neD hu)
theorem decI (i j : Int) : decide (V.int i = V.int j) = decide (i = j) := by
  by_cases h : i = j
  · subst h; simp
  · rw [decide_eq_false h, decide_eq_false fun e => h (by cases e; rfl)]
theorem decB (i j : Bool) : decide (V.bl i = V.bl j) = decide (i = j) := by cases i <;> cases j <;> rfl
theorem decS (i j : Str) : decide (V.str i = V.str j) = decide (i = j) := by
  by_cases h : i = j
  · subst h; simp
  · rw [decide_eq_false h, decide_eq_false fun e => h (by cases e; rfl)]
theorem os_eq : OpS X (rEqA X.K) .fr dEq := by
  intro mg W σ O H0 H x y a b Q nw hx hy h
  unfold dEq at h
  split at h
  · cases hx.int; cases hy.int
    exact .inl ⟨rfl, by rw [decI]; exact PE_.flat h (.bl _) rfl⟩
  · cases hx.bool; cases hy.bool
    exact .inl ⟨rfl, by rw [decB]; exact PE_.flat h (.bl _) rfl⟩
  · obtain ⟨rfl, _⟩ := hx.str
    obtain ⟨rfl, _⟩ := hy.str
    exact .inl ⟨rfl, by rw [decS]; exact PE_.flat h (.bl _) rfl⟩
  · cases hx.none_; cases hy.none_
    exact .inl ⟨rfl, PE_.flat h (.bl _) rfl⟩
  · cases hx.none_; cases hy.int
    exact .inl ⟨rfl, PE_.flat h (.bl _) rfl⟩
  · cases hx.int; cases hy.none_
    exact .inl ⟨rfl, PE_.flat h (.bl _) rfl⟩
  · unfold eqD at h
    split at h
    · rename_i c
      obtain ⟨c1, c2⟩ := Bool.and_eq_true_iff.mp c
      exact .inr ⟨_, _, hx.dp, hy.dp, c1, c2, PE_.flat h (.bl _) rfl⟩
    · exact h.elim
theorem os_ne : OpS X (rNeA X.K) .fr dNe := by
  intro mg W σ O H0 H x y a b Q nw hx hy h
  unfold dNe dEq at h
  split at h
  · cases hx.int; cases hy.int
    exact .inl ⟨rfl, by rw [decI]; exact PE_.flat h (.bl _) rfl⟩
  · cases hx.bool; cases hy.bool
    exact .inl ⟨rfl, by rw [decB]; exact PE_.flat h (.bl _) rfl⟩
  · obtain ⟨rfl, _⟩ := hx.str
    obtain ⟨rfl, _⟩ := hy.str
    exact .inl ⟨rfl, by rw [decS]; exact PE_.flat h (.bl _) rfl⟩
  · cases hx.none_; cases hy.none_
    exact .inl ⟨rfl, PE_.flat h (.bl _) rfl⟩
  · cases hx.none_; cases hy.int
    exact .inl ⟨rfl, PE_.flat h (.bl _) rfl⟩
  · cases hx.int; cases hy.none_
    exact .inl ⟨rfl, PE_.flat h (.bl _) rfl⟩
  · unfold eqD at h
    split at h
    · rename_i c
      obtain ⟨c1, c2⟩ := Bool.and_eq_true_iff.mp c
      exact .inr ⟨_, _, hx.dp, hy.dp, c1, c2, PE_.flat h (.bl _) rfl⟩
    · exact h.elim
/-! is None, is True -/
theorem Res.nonB {K : PySem.W.Frag} {H0 H : Hp} {O : List Addr} {fl : Fl} {v : V} {d : Da} (h : Res K H0 H O fl v d) : decide (v = .non) = isNone d := by
  rcases h.bo (H1 := H0) with h' | ⟨p, e, hp, ho⟩
  · cases h' <;> first | rfl | simp [isNone]
  · subst e
    cases d with
    | list ds => rfl
    | _ => exact ho.elim
theorem op_isN_ : OpR X (compareOp .Is) (fun x y H Q => y = .non ∧ Q (.bl (decide (x = .non))) H) := op_isN
theorem de_isN {W : WX} {Γ : List Nat} {a : Expr} {fa : Fl} {sa : SE} {j : Nat} {pos pos' : Pos} (ha : DE X W Γ a fa sa) : DE X W Γ (.Compare a [.Is] [.Constant .none j pos'] pos) .fr (e1 dIsN sa) :=
  pe_imp (pe_cmp (pc_isN ha) rfl) fun σ H Q h => by
    obtain ⟨ρ, F, GO, E, h⟩ := h
    refine at_e E h fun d v H1 s1 r1 E1 h1 => ?_
    rw [r1.nonB]
    exact PE_.flat (PE_.mono s1 h1) (.bl _) rfl
theorem de_notN {W : WX} {Γ : List Nat} {a : Expr} {fa : Fl} {sa : SE} {j : Nat} {pos pos' : Pos} (ha : DE X W Γ a fa sa) : DE X W Γ (.Compare a [.IsNot] [.Constant .none j pos'] pos) .fr (e1 dNotN sa) :=
  pe_imp (pe_cmp (pc_notN ha) rfl) fun σ H Q h => by
    obtain ⟨ρ, F, GO, E, h⟩ := h
    refine at_e E h fun d v H1 s1 r1 E1 h1 => ?_
    rw [r1.nonB]
    exact PE_.flat (PE_.mono s1 h1) (.bl _) rfl
theorem de_isB {W : WX} {Γ : List Nat} {a : Expr} {fa : Fl} {sa : SE} {k : Bool} {j : Nat} {pos pos' : Pos} (ha : DE X W Γ a fa sa) : DE X W Γ (.Compare a [.Is] [.Constant (.bool k) j pos'] pos) .fr (e1 (dIsB k) sa) :=
  pe_imp (pe_cmpR op_isBl ha pe_bl (nomark _)) fun σ H Q h => by
    obtain ⟨ρ, F, GO, E, h⟩ := h
    refine at_e E h fun d v H1 s1 r1 E1 h1 => ?_
    unfold dIsB at h1
    split at h1
    · cases r1.bool
      exact ⟨_, _, rfl, rfl, PE_.flat (PE_.mono s1 h1) (.bl _) rfl⟩
    · exact h1.elim
theorem de_notB {W : WX} {Γ : List Nat} {a : Expr} {fa : Fl} {sa : SE} {k : Bool} {j : Nat} {pos pos' : Pos} (ha : DE X W Γ a fa sa) : DE X W Γ (.Compare a [.IsNot] [.Constant (.bool k) j pos'] pos) .fr (e1 (dIsNotB k) sa) :=
  pe_imp (pe_cmpR op_notBl ha pe_bl (nomark _)) fun σ H Q h => by
    obtain ⟨ρ, F, GO, E, h⟩ := h
    refine at_e E h fun d v H1 s1 r1 E1 h1 => ?_
    unfold dIsNotB at h1
    split at h1
    · cases r1.bool
      exact ⟨_, _, rfl, rfl, PE_.flat (PE_.mono s1 h1) (.bl _) rfl⟩
    · exact h1.elim

/-! places -/
theorem atD_I {α : Type} (xs : List α) (i : Int) {v : α} (h : atD xs i = some v) : atI xs i = some v := by
  unfold atD at h
  unfold atI ixN
  split at h
  · rename_i c
    rw [if_pos c]
    by_cases hl : i < xs.length
    · rw [if_pos hl]; exact h
    · rw [List.getElem?_eq_none (by omega)] at h; cases h
  · rename_i c
    rw [if_neg c]
    split at h
    · rename_i c2; rw [if_pos c2]; exact h
    · cases h
theorem atD_get {K : PySem.W.Frag} {H : Hp} {O : List Addr} {vs : List V} {ds : List Da} (r : RpAll K H O vs ds) {i : Int} {d : Da} (h : atD ds i = some d) : ∃ v, atD vs i = some v ∧ Rp K H O v d := by
  unfold atD at h ⊢
  rw [r.length]
  by_cases c : 0 ≤ i
  · rw [if_pos c] at h ⊢
    exact r.get h
  · rw [if_neg c] at h ⊢
    by_cases c2 : -(ds.length : Int) ≤ i
    · rw [if_pos c2] at h ⊢
      exact r.get h
    · rw [if_neg c2] at h
      cases h
theorem ix_any : IxR X (fun x y H Q => rIxL X.K x y H Q ∨ rIxT X.K x y H Q) := ix_list.or ix_tup
theorem os_ix : OpS X (fun x y H Q => rIxL X.K x y H Q ∨ rIxT X.K x y H Q) .sh dIx := by
  intro mg W σ O H0 H x y a b Q nw hx hy h
  unfold dIx at h
  split at h
  · rename_i ds i
    obtain ⟨p, vs, rfl, s1, r1, n1⟩ := hx.list
    cases hy.int
    cases e : atD ds i with
    | none => rw [e] at h; exact h.elim
    | some d =>
      rw [e] at h
      obtain ⟨v, e2, r2⟩ := atD_get r1 e
      exact .inl ⟨p, vs, i, v, rfl, rfl, s1, atD_I _ _ e2, PE_.now h r2⟩
  · rename_i ds i
    obtain ⟨p, vs, rfl, s1, r1, n1⟩ := hx.tuple
    cases hy.int
    cases e : atD ds i with
    | none => rw [e] at h; exact h.elim
    | some d =>
      rw [e] at h
      obtain ⟨v, e2, r2⟩ := atD_get r1 e
      exact .inr ⟨p, vs, i, v, rfl, rfl, s1, atD_I _ _ e2, PE_.now h r2⟩
  · exact h.elim
end

/-! ### in -/
section
variable {X : Cx}
def rInA (K : PySem.W.Frag) : R2 := fun x y H Q => ∃ d ds, Dp K H x d ∧ (Dp K H y (.list ds) ∨ Dp K H y (.tuple ds)) ∧ SeqAt.shaped d = true ∧ SeqAt.shaped (.list ds) = true ∧ Q (.bl (ds.any fun z => PyData.eqv z d)) H
def rNotInA (K : PySem.W.Frag) : R2 := fun x y H Q => ∃ d ds, Dp K H x d ∧ (Dp K H y (.list ds) ∨ Dp K H y (.tuple ds)) ∧ SeqAt.shaped d = true ∧ SeqAt.shaped (.list ds) = true ∧ Q (.bl (!ds.any fun z => PyData.eqv z d)) H
theorem op_inA (hu : X.A.units + 65 < cLine) : OpR X (compareOp .In) (rInA X.K) := by
  intro pins s σ H x y v u Q I rx ry h
  obtain ⟨d, ds, hd, he, sd, se, q⟩ := h
  obtain ⟨as, r1⟩ := Dp.reads I d x v hd rx
  rcases he with he | he
  · obtain ⟨bs, r2⟩ := Dp.reads I (.list ds) y u he ry
    exact SeqAt.in_list_reads r2 r1 (SeqAt.canLay_of_shaped se) (SeqAt.canLay_of_shaped sd) (room_in_shaped sd hu) ⟨.bl _, H, I, rfl, q⟩
  · obtain ⟨bs, r2⟩ := Dp.reads I (.tuple ds) y u he ry
    exact SeqAt.in_tuple_reads r2 r1 (SeqAt.canLay_of_shaped (d := .list ds) se) (SeqAt.canLay_of_shaped sd) (room_in_shaped sd hu) ⟨.bl _, H, I, rfl, q⟩
theorem op_notInA (hu : X.A.units + 65 < cLine) : OpR X (compareOp .NotIn) (rNotInA X.K) := by
  intro pins s σ H x y v u Q I rx ry h
  obtain ⟨d, ds, hd, he, sd, se, q⟩ := h
  obtain ⟨as, r1⟩ := Dp.reads I d x v hd rx
  rcases he with he | he
  · obtain ⟨bs, r2⟩ := Dp.reads I (.list ds) y u he ry
    exact SeqAt.notIn_list_reads r2 r1 (SeqAt.canLay_of_shaped se) (SeqAt.canLay_of_shaped sd) (room_in_shaped sd hu) ⟨.bl _, H, I, rfl, q⟩
  · obtain ⟨bs, r2⟩ := Dp.reads I (.tuple ds) y u he ry
    exact SeqAt.notIn_tuple_reads r2 r1 (SeqAt.canLay_of_shaped (d := .list ds) se) (SeqAt.canLay_of_shaped sd) (room_in_shaped sd hu) ⟨.bl _, H, I, rfl, q⟩
theorem os_in : OpS X (rInA X.K) .fr dIn := by
  intro mg W σ O H0 H x y a b Q nw hx hy h
  unfold dIn inD at h
  split at h
  · split at h
    · rename_i c
      obtain ⟨c1, c2⟩ := Bool.and_eq_true_iff.mp c
      exact ⟨_, _, hx.dp, .inl hy.dp, c1, c2, PE_.flat h (.bl _) rfl⟩
    · exact h.elim
  · split at h
    · rename_i c
      obtain ⟨c1, c2⟩ := Bool.and_eq_true_iff.mp c
      exact ⟨_, _, hx.dp, .inr hy.dp, c1, c2, PE_.flat h (.bl _) rfl⟩
    · exact h.elim
  · exact h.elim
theorem os_notIn : OpS X (rNotInA X.K) .fr dNotIn := by
  intro mg W σ O H0 H x y a b Q nw hx hy h
  unfold dNotIn dIn inD at h
  split at h
  · split at h
    · rename_i c
      obtain ⟨c1, c2⟩ := Bool.and_eq_true_iff.mp c
      exact ⟨_, _, hx.dp, .inl hy.dp, c1, c2, PE_.flat h (.bl _) rfl⟩
    · exact h.elim
  · split at h
    · rename_i c
      obtain ⟨c1, c2⟩ := Bool.and_eq_true_iff.mp c
      exact ⟨_, _, hx.dp, .inr hy.dp, c1, c2, PE_.flat h (.bl _) rfl⟩
    · exact h.elim
  · exact h.elim
end

/-! ### tests, and, or, not, if-else, chains -/
section
variable {X : Cx} {W : WX} {Γ : List Nat} {a b c : Expr} {fa fb fc fl : Fl} {sa sb sc : SE} {pos : Pos} {rest : List Expr}
theorem Res.tru {K : PySem.W.Frag} {H0 H : Hp} {O : List Addr} {v : V} {d : Da} (h : Res K H0 H O fl v d) : TruV K v H (tru d) := by
  cases d with
  | none => cases h.none_; rfl
  | bool k => cases h.bool; rfl
  | int i => cases h.int; rfl
  | str s =>
    obtain ⟨rfl, n⟩ := h.str
    refine ⟨big_le n, ?_⟩
    show (s.length != 0) = ((s.length : Int) != 0)
    by_cases e : s.length = 0
    · rw [e]; rfl
    · have e2 : ((s.length : Nat) : Int) ≠ 0 := by omega
      rw [bne_iff_ne.mpr e, bne_iff_ne.mpr e2]
  | list ds =>
    obtain ⟨p, vs, rfl, s1, r1, n1⟩ := h.list
    refine .inl ⟨vs, s1, ?_⟩
    cases r1 <;> rfl
  | tuple ds =>
    obtain ⟨p, vs, rfl, s1, r1, n1⟩ := h.tuple
    refine .inr (.inl ⟨vs, s1, ?_⟩)
    cases r1 <;> rfl
  | dict _ =>
    rcases h.bo (H1 := H0) with h' | ⟨p, e, hp, ho⟩
    · cases h'
    · exact ho.elim
theorem dt_truth (ha : DE X W Γ a fa sa) (he : ∀ whole, isTrue a X.env whole = (do let v ← whole; standAt a.pos; holding [v] (truthy v)) := by intro _; rfl) : DT X W Γ a sa :=
  pt_imp (pt_truth ha he) fun σ H Q h => by
    obtain ⟨ρ, F, GO, E, h⟩ := h
    exact ⟨ρ, F, GO, E, h.imp fun d _ q v H1 s1 r1 => ⟨_, r1.tru, q H1 s1⟩⟩
theorem dt_cmp {op : CmpOp} {r : R2} {f : Da → Da → R Da} (ho : OpR X (compareOp op) r) (hs : OpS X r fl f) (ha : DE X W Γ a fa sa) (hb : DE X W Γ b fb sb) (hm : behindInMarks op b = false) (bl : ∀ x y z, f x y = .ok z → ∃ k, z = .bool k) : DT X W Γ (.Compare a [op] [b] pos) (e2 f sa sb) :=
  pt_imp (pt_cmpR ho ha hb hm) fun σ H Q h => by
    obtain ⟨ρ, F, GO, E, h⟩ := h
    refine at_e E h fun d v H1 s1 r1 E1 h1 => at_e E1 h1 fun d2 v2 H2 s2 r2 E2 h2 => ?_
    refine hs X.mg W σ _ H2 H2 v v2 d d2 _ E2.fresh (r1.bo.mono s2) r2.bo (h2.imp fun z e q w H3 s3 r3 => ?_)
    obtain ⟨k, rfl⟩ := bl _ _ _ e
    cases r3.bool
    exact ⟨k, rfl, q H3 ((s1.trans s2).trans s3)⟩
theorem dt_not (ha : DT X W Γ a sa) : DT X W Γ (.UnaryOp .Not a pos) (e1 dNot sa) :=
  pt_imp (pt_not ha) fun σ H Q h => by
    obtain ⟨ρ, F, GO, E, h⟩ := h
    exact at_t E h fun d H1 s1 E1 h1 => h1 H1 s1
theorem de_not (ha : DE X W Γ a fa sa) : DE X W Γ (.UnaryOp .Not a pos) .fr (e1 dNot sa) :=
  pe_imp (pe_notT ha) fun σ H Q h => by
    obtain ⟨ρ, F, GO, E, h⟩ := h
    refine at_e E h fun d v H1 s1 r1 E1 h1 => ⟨_, r1.tru, ?_⟩
    exact PE_.flat (PE_.mono s1 h1) (.bl _) rfl
theorem FinG.ite {α : Type} {mg : MG} {σ : L2.St} {H : Hp} {k : Bool} {r r' : R α} {P : α → Prop} {A B : Prop} (h : FinG mg W σ H (if k = true then r else r') P) (h1 : FinG mg W σ H r P → A) (h2 : FinG mg W σ H r' P → B) : if k = true then A else B := by
  cases k with
  | true => rw [if_pos rfl] at h ⊢; exact h1 h
  | false => rw [if_neg Bool.false_ne_true] at h ⊢; exact h2 h
theorem dw_and1 (ha : DT X W Γ a sa) : DW X W Γ (.BoolOp .And [a] pos) sa := pw_and1 ha
theorem dw_or1 (ha : DT X W Γ a sa) : DW X W Γ (.BoolOp .Or [a] pos) sa := pw_or1 ha
theorem dw_and (ha : DT X W Γ a sa) (hb : DW X W Γ (.BoolOp .And (b :: rest) pos) sb) : DW X W Γ (.BoolOp .And (a :: b :: rest) pos) (eAnd sa sb) :=
  pw_imp (pw_and ha hb) fun σ H Q h => by
    obtain ⟨ρ, F, GO, E, h⟩ := h
    refine at_t E h fun d H1 s1 E1 h1 => ?_
    cases e : tru d with
    | true =>
      rw [if_pos rfl]
      rw [e, if_pos rfl] at h1
      exact ⟨ρ, F, GO, E1, h1.imp fun z _ q H2 s2 => q H2 (s1.trans s2)⟩
    | false =>
      rw [if_neg Bool.false_ne_true]
      rw [e, if_neg Bool.false_ne_true] at h1
      have q := h1 H1 s1
      rw [e] at q
      exact q
theorem dw_or (ha : DT X W Γ a sa) (hb : DW X W Γ (.BoolOp .Or (b :: rest) pos) sb) : DW X W Γ (.BoolOp .Or (a :: b :: rest) pos) (eOr sa sb) :=
  pw_imp (pw_or ha hb) fun σ H Q h => by
    obtain ⟨ρ, F, GO, E, h⟩ := h
    refine at_t E h fun d H1 s1 E1 h1 => ?_
    cases e : tru d with
    | true =>
      rw [if_pos rfl]
      rw [e, if_pos rfl] at h1
      have q := h1 H1 s1
      rw [e] at q
      exact q
    | false =>
      rw [if_neg Bool.false_ne_true]
      rw [e, if_neg Bool.false_ne_true] at h1
      exact ⟨ρ, F, GO, E1, h1.imp fun z _ q H2 s2 => q H2 (s1.trans s2)⟩
theorem dt_w (h : DW X W Γ a sa) : DT X W Γ a sa := PW.pt h
theorem de_one {op : BoolOp} (h : DE X W Γ a fa sa) : DE X W Γ (.BoolOp op [a] pos) fa sa := pe_one h
theorem de_and (ha : DE X W Γ a .sh sa) (hb : DE X W Γ (.BoolOp .And (b :: rest) pos) .sh sb) : DE X W Γ (.BoolOp .And (a :: b :: rest) pos) .sh (eAnd sa sb) :=
  pe_imp (pe_andT ha hb) fun σ H Q h => by
    obtain ⟨ρ, F, GO, E, h⟩ := h
    refine at_e E h fun d v H1 s1 r1 E1 h1 => ⟨_, r1.tru, h1.ite (fun h2 => ⟨ρ, F, GO, E1, h2.imp fun _ _ q => PE_.mono s1 q⟩) fun h2 => (PE_.mono s1 h2).now r1⟩
theorem de_or (ha : DE X W Γ a .sh sa) (hb : DE X W Γ (.BoolOp .Or (b :: rest) pos) .sh sb) : DE X W Γ (.BoolOp .Or (a :: b :: rest) pos) .sh (eOr sa sb) :=
  pe_imp (pe_orT ha hb) fun σ H Q h => by
    obtain ⟨ρ, F, GO, E, h⟩ := h
    refine at_e E h fun d v H1 s1 r1 E1 h1 => ⟨_, r1.tru, h1.ite (fun h2 => (PE_.mono s1 h2).now r1) fun h2 => ⟨ρ, F, GO, E1, h2.imp fun _ _ q => PE_.mono s1 q⟩⟩
theorem de_if (hc : DT X W Γ c sc) (ha : DE X W Γ a fl sa) (hb : DE X W Γ b fl sb) : DE X W Γ (.IfExp c a b pos) fl (eIf sc sa sb) :=
  pe_imp (pe_ifExp hc ha hb) fun σ H Q h => by
    obtain ⟨ρ, F, GO, E, h⟩ := h
    refine at_t E h fun d H1 s1 E1 h1 => h1.ite (fun h2 => ⟨ρ, F, GO, E1, h2.imp fun _ _ q => PE_.mono s1 q⟩) fun h2 => ⟨ρ, F, GO, E1, h2.imp fun _ _ q => PE_.mono s1 q⟩
theorem chain_s {r r' : R2} {f g : Da → Da → R Da} (hs : OpS X r .fr f) (hs' : OpS X r' .fr g) (bl : ∀ x y z, f x y = .ok z → ∃ k, z = .bool k) {σ : L2.St} {H : Hp} {Q : VK}
    (h : tDE X.K X.mg W Γ .fr (eChain f g sa sb sc) σ H Q) : tChain r r' (tDE X.K X.mg W Γ fa sa) (tDE X.K X.mg W Γ fb sb) (tDE X.K X.mg W Γ fc sc) σ H Q := by
  obtain ⟨ρ, F, GO, E, h⟩ := h
  refine at_e E h fun d v H1 s1 r1 E1 h1 => at_e E1 h1 fun d2 v2 H2 s2 r2 E2 h2 => ?_
  refine hs X.mg W σ _ H2 H2 v v2 d d2 _ E2.fresh (r1.bo.mono s2) r2.bo (h2.bind.imp fun z e q w H3 s3 r3 => ?_)
  obtain ⟨k, rfl⟩ := bl _ _ _ e
  cases r3.bool
  refine ⟨k, rfl, ?_⟩
  cases k with
  | true =>
    rw [if_pos rfl]
    refine at_e (E2.mono s3) (FinG.mono s3 q fun _ _ z => z) fun d4 v4 H4 s4 r4 E4 h4 => ?_
    exact hs' X.mg W σ _ H4 H4 v2 v4 d2 d4 _ E4.fresh (r2.bo.mono (s3.trans s4)) r4.bo (h4.imp fun _ _ z => z.mono (((s1.trans s2).trans s3).trans s4))
  | false =>
    rw [if_neg Bool.false_ne_true]
    exact PE_.flat (PE_.mono ((s1.trans s2).trans s3) q) (.bl _) rfl
theorem de_chain {op op' : CmpOp} {r r' : R2} {f g : Da → Da → R Da} (ho : OpR X (compareOp op) r) (ho' : OpR X (compareOp op') r') (hs : OpS X r .fr f) (hs' : OpS X r' .fr g) (bl : ∀ x y z, f x y = .ok z → ∃ k, z = .bool k) (ha : DE X W Γ a fa sa) (hb : DE X W Γ b fb sb) (hc : DE X W Γ c fc sc)
    (hm : lastMarks [op, op'] [b, c] = false := by with_unfolding_all rfl) : DE X W Γ (.Compare a [op, op'] [b, c] pos) .fr (eChain f g sa sb sc) :=
  pe_imp (pe_chain ho ho' ha hb hc hm) fun σ H Q h => chain_s hs hs' bl h
theorem dt_chain {op op' : CmpOp} {r r' : R2} {f g : Da → Da → R Da} (ho : OpR X (compareOp op) r) (ho' : OpR X (compareOp op') r') (hs : OpS X r .fr f) (hs' : OpS X r' .fr g) (bl : ∀ x y z, f x y = .ok z → ∃ k, z = .bool k) (bl' : ∀ x y z, g x y = .ok z → ∃ k, z = .bool k) (ha : DE X W Γ a fa sa) (hb : DE X W Γ b fb sb) (hc : DE X W Γ c fc sc)
    (hm : lastMarks [op, op'] [b, c] = false := by with_unfolding_all rfl) : DT X W Γ (.Compare a [op, op'] [b, c] pos) (eChain f g sa sb sc) :=
  pt_imp (pt_chain ho ho' ha hb hc hm) fun σ H Q h => by
    refine chain_s hs hs' bl ?_
    obtain ⟨ρ, F, GO, E, h⟩ := h
    refine ⟨ρ, F, GO, E, h.imp fun d e q v H1 s1 r1 => ?_⟩
    have : ∃ k, d = .bool k := by
      unfold eChain at e
      cases e1 : sa ρ with
      | ok x =>
        cases e2 : sb ρ with
        | ok y =>
          cases e3 : f x y with
          | ok z =>
            obtain ⟨k, rfl⟩ := bl _ _ _ e3
            rw [e1, e2] at e
            simp only [R.bind, e3] at e
            cases k with
            | true =>
              cases e4 : sc ρ with
              | ok w => rw [e4] at e; exact bl' _ _ _ e
              | exc _ => rw [e4] at e; cases e
              | bad => rw [e4] at e; cases e
            | false => cases e; exact ⟨_, rfl⟩
          | exc _ => rw [e1, e2] at e; simp only [R.bind, e3] at e; cases e
          | bad => rw [e1, e2] at e; simp only [R.bind, e3] at e; cases e
        | exc _ => rw [e1, e2] at e; cases e
        | bad => rw [e1, e2] at e; cases e
      | exc _ => rw [e1] at e; cases e
      | bad => rw [e1] at e; cases e
    obtain ⟨k, rfl⟩ := this
    cases r1.bool
    exact ⟨k, rfl, q H1 s1⟩
theorem bl_cmp {p : Int → Int → Bool} (x y z : Da) (h : dCmp p x y = .ok z) : ∃ k, z = .bool k := by
  unfold dCmp at h
  split at h
  · cases h; exact ⟨_, rfl⟩
  · cases h
theorem bl_eq (x y z : Da) (h : dEq x y = .ok z) : ∃ k, z = .bool k := by
  unfold dEq at h
  split at h <;> first | (cases h; exact ⟨_, rfl⟩) | skip
  unfold eqD at h
  split at h
  · cases h; exact ⟨_, rfl⟩
  · cases h
theorem bl_not {r : R Da} (z : Da) (h : rNot r = .ok z) : ∃ k, z = .bool k := by
  unfold rNot at h
  split at h <;> first | (cases h; exact ⟨_, rfl⟩) | cases h
theorem bl_ne (x y z : Da) (h : dNe x y = .ok z) : ∃ k, z = .bool k := bl_not z h
theorem bl_in (x y z : Da) (h : dIn x y = .ok z) : ∃ k, z = .bool k := by
  unfold dIn inD at h
  split at h <;> first | cases h | skip
  all_goals
    split at h
    · cases h; exact ⟨_, rfl⟩
    · cases h
theorem bl_notIn (x y z : Da) (h : dNotIn x y = .ok z) : ∃ k, z = .bool k := bl_not z h
end

/-! ### arguments, displays, slices -/
section
variable {X : Cx} {W : WX} {Γ : List Nat} {a b c e : Expr} {es : List Expr} {fa fb fl : Fl} {fls : List Fl} {sa sb se : SE} {ss : SA} {pos : Pos}
theorem da_nil : DA X W Γ [] [] aNil := pa_imp pa_nil fun σ H Q ⟨ρ, F, GO, E, h⟩ => h [] H (.refl H) .nil
theorem da_cons (ha : DE X W Γ e fl se) (hr : DA X W Γ es fls ss) (hs : starEach (e :: es) X.env = (false, eval e X.env) :: starEach es X.env := by kernel_rfl) : DA X W Γ (e :: es) (fl :: fls) (aCons se ss) :=
  pa_imp (pa_cons ha hr hs) fun σ H Q h => by
    obtain ⟨ρ, F, GO, E, h⟩ := h
    refine at_e E h fun d v H1 s1 r1 E1 h1 => at_a E1 h1 fun ds vs H2 s2 r2 E2 h2 => ?_
    exact h2 _ _ (s1.trans s2) (.cons (r1.mono s2) (r2.back s1))
theorem de_tup {x1} (h : DA X W Γ es fls ss) (hf : storable fls = true := by kernel_rfl) (hn : es.length ≤ 1000 := by decide) (hl : ∀ ρ ds, ss ρ = .ok ds → ds.length ≤ big) : DE X W Γ (.Tuple es x1 pos) .fr (eTup ss) :=
  pe_imp (pe_tup h) fun σ H Q h => by
    obtain ⟨ρ, F, GO, E, h⟩ := h
    have hl' := hl ρ
    refine ⟨ρ, F, GO, E, h.bind.imp fun ds e q vs H1 s1 r1 => ?_⟩
    have n := hl' ds e
    have r2 := r1.rp hf
    exact ⟨by rw [r2.length]; exact big_le n, fun p hp => PE_.newT (PE_.mono s1 q) r2 n hp⟩
theorem de_lst (h : DA X W Γ es fls ss) (hf : storable fls = true := by kernel_rfl) (hl : ∀ ρ ds, ss ρ = .ok ds → ds.length ≤ big) : DE X W Γ (.List es pos) .fr (eLst ss) :=
  pe_imp (pe_lst h) fun σ H Q h => by
    obtain ⟨ρ, F, GO, E, h⟩ := h
    have hl' := hl ρ
    refine ⟨ρ, F, GO, E, h.bind.imp fun ds e q vs H1 s1 r1 => ?_⟩
    have n := hl' ds e
    have r2 := r1.rp hf
    exact ⟨by rw [r2.length]; exact big_le n, fun p hp => PE_.newL (PE_.mono s1 q) r2 n hp ((E.mono s1).newp hp)⟩
/-- how many arguments there are -/
theorem len_nil (ρ : Ev) (ds : List Da) (h : aNil ρ = .ok ds) : ds.length ≤ 0 := by cases h; exact Nat.le_refl _
theorem len_cons {n : Nat} (h : ∀ ρ ds, ss ρ = .ok ds → ds.length ≤ n) (ρ : Ev) (ds : List Da) (e : aCons se ss ρ = .ok ds) : ds.length ≤ n + 1 := by
  unfold aCons at e
  cases e1 : se ρ with
  | ok x =>
    cases e2 : ss ρ with
    | ok xs => rw [e1, e2] at e; cases e; exact Nat.succ_le_succ (h ρ xs e2)
    | exc _ => rw [e1, e2] at e; cases e
    | bad => rw [e1, e2] at e; cases e
  | exc _ => rw [e1] at e; cases e
  | bad => rw [e1] at e; cases e
theorem len_big {n : Nat} (h : ∀ ρ ds, ss ρ = .ok ds → ds.length ≤ n) (hn : n ≤ 1000) (ρ : Ev) (ds : List Da) (e : ss ρ = .ok ds) : ds.length ≤ big := Nat.le_trans (h ρ ds e) (Nat.le_trans hn (by decide))

/-! slices -/
def tDO (K : PySem.W.Frag) (mg : MG) (W : WX) (Γ : List Nat) (so : SO) : TO := fun σ H Q => At K Γ σ H fun ρ F GO => FinG mg W σ H (so ρ) fun o => ∀ H', Same H H' → Q o H'
def DO (X : Cx) (W : WX) (Γ : List Nat) (e : Option Expr) (so : SO) : Prop := PO X e (tDO X.K X.mg W Γ so)
theorem po_imp {e : Option Expr} {t t' : TO} (h : PO X e t) (w : ∀ σ H Q, t' σ H Q → t σ H Q) : PO X e t' := ⟨fun pins s σ H Q I q => h.run pins s σ H Q I (w _ _ _ q)⟩
theorem do_none : DO X W Γ none oNone := po_imp po_none fun σ H Q ⟨ρ, F, GO, E, h⟩ => h H (.refl H)
theorem do_some (ha : DE X W Γ e fl se) : DO X W Γ (some e) (oSome se) := po_imp (po_some ha) fun σ H Q h => by
  obtain ⟨ρ, F, GO, E, h⟩ := h
  refine at_e E h fun d v H1 s1 r1 E1 h1 => ?_
  cases d with
  | int i => cases r1.int; exact ⟨i, rfl, h1 H1 s1⟩
  | _ => exact h1.elim
theorem at_o {β : Type} {K : PySem.W.Frag} {mg : MG} {F : List Addr} {GO : List (Nat × Addr)} {σ : L2.St} {H : Hp} {ρ : Ev} (E : EnvR K Γ F GO σ H ρ) {so : SO} {f : Option Int → R β} {P : β → Prop} {R' : Option Int → Hp → Prop} (h : FinG mg W σ H ((so ρ).bind f) P)
    (hk : ∀ d H1, Same H H1 → EnvR K Γ F GO σ H1 ρ → FinG mg W σ H1 (f d) P → R' d H1) : tDO K mg W Γ so σ H R' :=
  ⟨ρ, F, GO, E, h.bind.imp fun d _ q H1 s => hk d H1 s (E.mono s) (q.mono s fun _ _ z => z)⟩
theorem de_slice {lo hi : Option Expr} {sl sh : SO} {p2 : Pos} (ha : DE X W Γ a fa sa) (hl : DO X W Γ lo sl) (hh : DO X W Γ hi sh) : DE X W Γ (.Subscript a (.Slice lo hi none p2) pos) .fr (eSl sa sl sh) :=
  pe_imp (pe_slice (sl_list.or sl_tupA) ha hl hh) fun σ H Q h => by
    obtain ⟨ρ, F, GO, E, h⟩ := h
    refine at_e E h fun d v H1 s1 r1 E1 h1 => at_o E1 h1 fun l H2 s2 E2 h2 => at_o E2 h2 fun u H3 s3 E3 h3 => ?_
    have s13 := (s1.trans s2).trans s3
    have r3 := r1.mono (s2.trans s3)
    unfold dSl at h3
    split at h3
    · obtain ⟨p, vs, rfl, q1, r1, n1⟩ := r3.list
      refine .inl ⟨p, vs, rfl, q1, fun t ht => PE_.newL (PE_.mono s13 h3) (r1.cut l u) (Nat.le_trans (cutD_len _ _ _) n1) ht (E3.newp ht)⟩
    · rename_i ds
      obtain ⟨p, vs, rfl, q1, r1, n1⟩ := r3.tuple
      refine .inr ⟨p, vs, rfl, q1, fun ⟨w1, w2⟩ => ?_, fun _ t ht => PE_.newT (PE_.mono s13 h3) (r1.cut l u) (Nat.le_trans (cutD_len _ _ _) n1) ht⟩
      have e : cutD ds l u = ds := by
        unfold cutD
        rw [sixD, sixD, ← r1.length, w1, w2]
        simp [r1.length]
      rw [e] at h3
      exact PE_.now (PE_.mono s13 h3) (.nolist (.tup q1 n1 r1) fun _ e => nomatch e)
    · exact h3.elim
end
end DL
set_option Elab.async false
set_option linter.all false
set_option maxRecDepth 100000
namespace DL
open PySem PySem.Spec PyProof.Rows L2

/-! ### built-ins by name -/
section
variable {X : Cx} {W : WX} {Γ : List Nat} {e : Expr} {es : List Expr} {fls : List Fl} {fl : Fl} {sa : SA} {pos p : Pos} {x : Str}
theorem call_s {r : List V → Hp → VK → Prop} {f : List Da → R Da} (hs : CallS X r fl f) {σ : L2.St} {H : Hp} {Q : VK} (h : tDE X.K X.mg W Γ fl (eA f sa) σ H Q) : tCB r (tDA X.K X.mg W Γ fls sa) σ H Q := by
  obtain ⟨ρ, F, GO, E, h⟩ := h
  exact at_a E h fun ds vs H1 s1 r1 E1 h1 => hs X.mg W σ _ H H1 fls vs ds Q E1.fresh r1 (h1.imp fun _ _ z => PE_.mono s1 z)
theorem de_callB {id : String} {r : List V → Hp → VK → Prop} {f : List Da → R Da} (hc : CallR X (.builtin id) r) (hs : CallS X r fl f) (hg : Gl X x) (hm : X.mg x = none) (hv : bootBuiltins x = some (.builtin id)) (ha : DA X W Γ (e :: es) fls sa) (hn : x ≠ "__name__" := by decide) (hdb : (x == ("__debug__" : Str)) = false := by decide)
    (he : starEach (e :: es) X.env = (false, eval e X.env) :: starEach es X.env := by kernel_rfl) (hpl : (backTo pos (starEach es X.env)).any (·.1) = false := by kernel_rfl) : DE X W Γ (.Call (.Name x p) (e :: es) [] pos) fl (eA f sa) :=
  pe_imp (pe_callB hc hg hm hv ha hn hdb he hpl) fun σ H Q h => call_s hs h
theorem de_callTy {T : String} {r : List V → Hp → VK → Prop} {f : List Da → R Da} (hc : CallR X (.type T) r) (hs : CallS X r fl f) (hg : Gl X x) (hm : X.mg x = none) (hv : bootBuiltins x = some (.type T)) (ha : DA X W Γ (e :: es) fls sa) (hn : x ≠ "__name__" := by decide) (hdb : (x == ("__debug__" : Str)) = false := by decide)
    (he : starEach (e :: es) X.env = (false, eval e X.env) :: starEach es X.env := by kernel_rfl) (hpl : (backTo pos (starEach es X.env)).any (·.1) = false := by kernel_rfl) : DE X W Γ (.Call (.Name x p) (e :: es) [] pos) fl (eA f sa) :=
  pe_imp (pe_callTy hc hg hm hv ha hn hdb he hpl) fun σ H Q h => call_s hs h
theorem de_callG {id : String} {r : List V → Hp → VK → Prop} {f : List Da → R Da} (hc : CallR X (.builtin id) r) (hs : CallS X r fl f) (hg : Gl X x) (hm : X.mg x = some (.builtin id)) (ha : DA X W Γ (e :: es) fls sa) (hdb : (x == ("__debug__" : Str)) = false := by decide)
    (he : starEach (e :: es) X.env = (false, eval e X.env) :: starEach es X.env := by kernel_rfl) (hpl : (backTo pos (starEach es X.env)).any (·.1) = false := by kernel_rfl) : DE X W Γ (.Call (.Name x p) (e :: es) [] pos) fl (eA f sa) :=
  pe_imp (pe_callBfun hc hg hm ha hdb he hpl) fun σ H Q h => call_s hs h

theorem cs_len : CallS X (fun xs H Q => ∃ p ys, xs = [.ref p] ∧ (SqL X.K H p ys ∨ SqT X.K H p ys) ∧ Q (.int ys.length) H) .fr dLen := by
  intro mg W σ O H0 H fls xs as Q nw hx h
  unfold dLen at h
  split at h
  · cases hx with
    | cons h1 t =>
      cases t
      obtain ⟨p, vs, rfl, s1, r1, n1⟩ := h1.list
      exact ⟨p, vs, rfl, .inl s1, by rw [r1.length]; exact PE_.flat h (.int _) rfl⟩
  · cases hx with
    | cons h1 t =>
      cases t
      obtain ⟨p, vs, rfl, s1, r1, n1⟩ := h1.tuple
      exact ⟨p, vs, rfl, .inr s1, by rw [r1.length]; exact PE_.flat h (.int _) rfl⟩
  · exact h.elim
theorem cs_abs : CallS X (fun xs H Q => ∃ i, xs = [.int i] ∧ Q (.int (if i < 0 then -i else i)) H) .fr dAbs := by
  intro mg W σ O H0 H fls xs as Q nw hx h
  unfold dAbs at h
  split at h
  · cases hx with
    | cons h1 t =>
      cases t
      cases h1.int
      exact ⟨_, rfl, PE_.flat h (.int _) rfl⟩
  · exact h.elim
theorem cs_max2 : CallS X (fun xs H Q => ∃ i j, xs = [.int i, .int j] ∧ Q (.int (if j > i then j else i)) H) .fr dMax2 := by
  intro mg W σ O H0 H fls xs as Q nw hx h
  unfold dMax2 at h
  split at h
  · cases hx with
    | cons h1 t =>
      cases t with
      | cons h2 t =>
        cases t
        cases h1.int
        cases h2.int
        exact ⟨_, _, rfl, PE_.flat h (.int _) rfl⟩
  · exact h.elim
theorem cs_min2 : CallS X (fun xs H Q => ∃ i j, xs = [.int i, .int j] ∧ Q (.int (if j < i then j else i)) H) .fr dMin2 := by
  intro mg W σ O H0 H fls xs as Q nw hx h
  unfold dMin2 at h
  split at h
  · cases hx with
    | cons h1 t =>
      cases t with
      | cons h2 t =>
        cases t
        cases h1.int
        cases h2.int
        exact ⟨_, _, rfl, PE_.flat h (.int _) rfl⟩
  · exact h.elim
theorem cs_int : CallS X (fun xs H Q => (∃ i, xs = [.int i] ∧ Q (.int i) H) ∨ ∃ k, xs = [.bl k] ∧ Q (.int (if k then 1 else 0)) H) .fr dInt := by
  intro mg W σ O H0 H fls xs as Q nw hx h
  unfold dInt at h
  split at h
  · cases hx with
    | cons h1 t =>
      cases t
      cases h1.int
      exact .inl ⟨_, rfl, PE_.flat h (.int _) rfl⟩
  · cases hx with
    | cons h1 t =>
      cases t
      cases h1.bool
      exact .inr ⟨_, rfl, PE_.flat h (.int _) rfl⟩
  · exact h.elim
theorem cs_gcd : CallS X rGcd .fr dGcd := by
  intro mg W σ O H0 H fls xs as Q nw hx h
  unfold dGcd at h
  split at h
  · cases hx with
    | cons h1 t =>
      cases t with
      | cons h2 t =>
        cases t
        cases h1.int
        cases h2.int
        exact ⟨_, _, rfl, PE_.flat h (.int _) rfl⟩
  · exact h.elim
theorem foldl_min_mem : ∀ (xs : List Int) (x : Int), xs.foldl min x ∈ x :: xs ∧ ∀ y, y ∈ x :: xs → xs.foldl min x ≤ y
  | [], x => ⟨List.mem_cons_self, fun y hy => by rw [List.mem_singleton] at hy; subst hy; exact Int.le_refl _⟩
  | a :: xs, x => by
    obtain ⟨h1, h2⟩ := foldl_min_mem xs (min x a)
    rw [List.foldl_cons]
    refine ⟨?_, fun y hy => ?_⟩
    · rcases List.mem_cons.mp h1 with e | e
      · rw [e]
        rcases Int.le_total x a with q | q
        · rw [Int.min_eq_left q]; exact List.mem_cons_self
        · rw [Int.min_eq_right q]; exact List.mem_cons_of_mem _ List.mem_cons_self
      · exact List.mem_cons_of_mem _ (List.mem_cons_of_mem _ e)
    · have h3 := h2 (min x a) List.mem_cons_self
      rcases List.mem_cons.mp hy with e | hy
      · subst e; omega
      · rcases List.mem_cons.mp hy with e | hy
        · subst e; omega
        · exact h2 y (List.mem_cons_of_mem _ hy)
theorem foldl_max_mem : ∀ (xs : List Int) (x : Int), xs.foldl max x ∈ x :: xs ∧ ∀ y, y ∈ x :: xs → y ≤ xs.foldl max x
  | [], x => ⟨List.mem_cons_self, fun y hy => by rw [List.mem_singleton] at hy; subst hy; exact Int.le_refl _⟩
  | a :: xs, x => by
    obtain ⟨h1, h2⟩ := foldl_max_mem xs (max x a)
    rw [List.foldl_cons]
    refine ⟨?_, fun y hy => ?_⟩
    · rcases List.mem_cons.mp h1 with e | e
      · rw [e]
        rcases Int.le_total x a with q | q
        · rw [Int.max_eq_right q]; exact List.mem_cons_of_mem _ List.mem_cons_self
        · rw [Int.max_eq_left q]; exact List.mem_cons_self
      · exact List.mem_cons_of_mem _ (List.mem_cons_of_mem _ e)
    · have h3 := h2 (max x a) List.mem_cons_self
      rcases List.mem_cons.mp hy with e | hy
      · subst e; omega
      · rcases List.mem_cons.mp hy with e | hy
        · subst e; omega
        · exact h2 y (List.mem_cons_of_mem _ hy)
theorem FinG.bind_ok {α β : Type} {mg : MG} {W : WX} {σ : L2.St} {H : Hp} {r : R α} {f : α → R β} {P : β → Prop} (nx : ∀ c, r ≠ .exc c) (h : FinG mg W σ H (r.bind f) P) : ∃ a, r = .ok a ∧ FinG mg W σ H (f a) P := by
  cases r with
  | ok a => exact ⟨a, rfl, h⟩
  | exc c => exact absurd rfl (nx c)
  | bad => exact h.elim
theorem intsD_nx : ∀ (xs : List Da) (c : Str), intsD xs ≠ .exc c
  | [], c, e => nomatch e
  | x :: xs, c, e => by
    cases x with
    | int i =>
      unfold intsD at e
      cases q : intsD xs with
      | ok is => rw [q] at e; cases e
      | exc d => exact intsD_nx xs d q
      | bad => rw [q] at e; cases e
    | _ => unfold intsD at e; cases e
theorem blsD_nx : ∀ (xs : List Da) (c : Str), blsD xs ≠ .exc c
  | [], c, e => nomatch e
  | x :: xs, c, e => by
    cases x with
    | bool i =>
      unfold blsD at e
      cases q : blsD xs with
      | ok is => rw [q] at e; cases e
      | exc d => exact blsD_nx xs d q
      | bad => rw [q] at e; cases e
    | _ => unfold blsD at e; cases e
theorem cs_min : CallS X (rMin X.K) .fr dMinL := by
  intro mg W σ O H0 H fls xs as Q nw hx h
  unfold dMinL at h
  split at h
  · cases hx with
    | cons h1 t =>
      cases t
      obtain ⟨p, vs, rfl, s1, r1, n1⟩ := h1.list
      obtain ⟨is, e, h⟩ := FinG.bind_ok (intsD_nx _) h
      rw [r1.ints e] at s1
      cases is with
      | nil => exact h.elim
      | cons i is =>
        refine ⟨p, _, rfl, s1, by simp, fun m hm hle => ?_⟩
        obtain ⟨a1, a2⟩ := foldl_min_mem is i
        have : m = is.foldl min i := Int.le_antisymm (hle _ a1) (a2 _ hm)
        subst this
        exact PE_.flat h (.int _) rfl
  · exact h.elim
theorem cs_max : CallS X (rMax X.K) .fr dMaxL := by
  intro mg W σ O H0 H fls xs as Q nw hx h
  unfold dMaxL at h
  split at h
  · cases hx with
    | cons h1 t =>
      cases t
      obtain ⟨p, vs, rfl, s1, r1, n1⟩ := h1.list
      obtain ⟨is, e, h⟩ := FinG.bind_ok (intsD_nx _) h
      rw [r1.ints e] at s1
      cases is with
      | nil => exact h.elim
      | cons i is =>
        refine ⟨p, _, rfl, s1, by simp, fun m hm hle => ?_⟩
        obtain ⟨a1, a2⟩ := foldl_max_mem is i
        have : m = is.foldl max i := Int.le_antisymm (a2 _ hm) (hle _ a1)
        subst this
        exact PE_.flat h (.int _) rfl
  · exact h.elim
theorem cs_all : CallS X (rAll X.K) .fr dAll := by
  intro mg W σ O H0 H fls xs as Q nw hx h
  unfold dAll at h
  split at h
  · cases hx with
    | cons h1 t =>
      cases t
      obtain ⟨p, vs, rfl, s1, r1, n1⟩ := h1.list
      obtain ⟨is, e, h⟩ := FinG.bind_ok (blsD_nx _) h
      rw [r1.bls e] at s1
      exact ⟨p, is, rfl, s1, PE_.flat h (.bl _) rfl⟩
  · exact h.elim
theorem cs_any : CallS X (rAny X.K) .fr dAny := by
  intro mg W σ O H0 H fls xs as Q nw hx h
  unfold dAny at h
  split at h
  · cases hx with
    | cons h1 t =>
      cases t
      obtain ⟨p, vs, rfl, s1, r1, n1⟩ := h1.list
      obtain ⟨is, e, h⟩ := FinG.bind_ok (blsD_nx _) h
      rw [r1.bls e] at s1
      exact ⟨p, is, rfl, s1, PE_.flat h (.bl _) rfl⟩
  · exact h.elim
theorem cs_tuple : CallS X (fun xs H Q => ∃ p ys, xs = [.ref p] ∧ ((SqL X.K H p ys ∧ ∀ l, H l = none → Q (.ref l) (upd H l (.tup ys))) ∨ (SqT X.K H p ys ∧ Q (.ref p) H))) .fr dTuple := by
  intro mg W σ O H0 H fls xs as Q nw hx h
  unfold dTuple at h
  split at h
  · cases hx with
    | cons h1 t =>
      cases t
      obtain ⟨p, vs, rfl, s1, r1, n1⟩ := h1.list
      exact ⟨p, vs, rfl, .inl ⟨s1, fun l hl => PE_.newT h r1 n1 hl⟩⟩
  · cases hx with
    | cons h1 t =>
      cases t
      obtain ⟨p, vs, rfl, s1, r1, n1⟩ := h1.tuple
      exact ⟨p, vs, rfl, .inr ⟨s1, PE_.now h (.nolist (.tup s1 n1 r1) fun _ e => nomatch e)⟩⟩
  · exact h.elim
theorem cs_list : CallS X (fun xs H Q => ∃ p ys, xs = [.ref p] ∧ (SqL X.K H p ys ∨ SqT X.K H p ys) ∧ ∀ l, H l = none → Q (.ref l) (upd H l (.lst ys))) .fr dList := by
  intro mg W σ O H0 H fls xs as Q nw hx h
  unfold dList at h
  split at h
  · cases hx with
    | cons h1 t =>
      cases t
      obtain ⟨p, vs, rfl, s1, r1, n1⟩ := h1.list
      exact ⟨p, vs, rfl, .inl s1, fun l hl => PE_.newL h r1 n1 hl (nw l hl)⟩
  · cases hx with
    | cons h1 t =>
      cases t
      obtain ⟨p, vs, rfl, s1, r1, n1⟩ := h1.tuple
      exact ⟨p, vs, rfl, .inr s1, fun l hl => PE_.newL h r1 n1 hl (nw l hl)⟩
  · exact h.elim
/-! isinstance(e, T) -/
def Ty.nm : Ty → String
  | .int => "int" | .bool => "bool" | .str => "str" | .tuple => "tuple" | .list => "list" | .dict => "dict"
def tyNm : Da → String
  | .none => "NoneType" | .bool _ => "bool" | .int _ => "int" | .str _ => "str" | .list _ => "list" | .tuple _ => "tuple" | .dict _ => "dict"
theorem kit_all : ∀ (d : Da) (t : Ty), kitB (tyNm d) t.nm = some (isTy t d) := by
  have q : ∀ (a b : Ty), kitB a.nm b.nm = some (match a, b with | .int, .int => true | .bool, .int => true | .bool, .bool => true | .str, .str => true | .tuple, .tuple => true | .list, .list => true | .dict, .dict => true | _, _ => false) := by
    intro a b; cases a <;> cases b <;> decide +kernel
  have q0 : ∀ (b : Ty), kitB "NoneType" b.nm = some false := by intro b; cases b <;> decide +kernel
  intro d t
  cases d with
  | none => exact (q0 t).trans (by cases t <;> rfl)
  | bool k => exact (q .bool t).trans (by cases t <;> rfl)
  | int k => exact (q .int t).trans (by cases t <;> rfl)
  | str k => exact (q .str t).trans (by cases t <;> rfl)
  | list k => exact (q .list t).trans (by cases t <;> rfl)
  | tuple k => exact (q .tuple t).trans (by cases t <;> rfl)
  | dict k => exact (q .dict t).trans (by cases t <;> rfl)
end
end DL
set_option Elab.async false
set_option linter.all false
set_option maxRecDepth 100000
namespace DL
open PySem PySem.Spec PyProof.Rows L2

section
variable {X : Cx} {W : WX} {Γ : List Nat} {e : Expr} {es : List Expr} {fls : List Fl} {fl : Fl} {se : SE} {sa : SA} {pos p p2 : Pos} {x : Str}
theorem Res.ty {K : PySem.W.Frag} {H0 H : Hp} {O : List Addr} {v : V} {d : Da} (h : Res K H0 H O fl v d) : TyX K H v (.type (tyNm d)) := by
  cases d with
  | none => cases h.none_; exact .base .non
  | bool k => cases h.bool; exact .base (.bl k)
  | int i => cases h.int; exact .base (.int i)
  | str s => obtain ⟨rfl, n⟩ := h.str; exact .base (.str s)
  | list ds =>
    obtain ⟨p, vs, rfl, s1, r1, n1⟩ := h.list
    rcases s1 with (s1 | ⟨o, s1⟩) | ⟨o, its, n, hk, hc, _⟩
    · exact .base (.lst s1)
    · exact .base (.frz s1)
    · exact .kList hk hc
  | tuple ds =>
    obtain ⟨p, vs, rfl, s1, r1, n1⟩ := h.tuple
    rcases s1 with (s1 | ⟨o, s1⟩) | ⟨o, its, n, hk, hc, _⟩
    · exact .base (.tup s1)
    · exact .fTuple s1
    · exact .kTuple hk hc
  | dict _ =>
    rcases h.bo (H1 := H0) with h' | ⟨p, e, hp, ho⟩
    · cases h'
    · exact ho.elim
theorem ResAll.one {K : PySem.W.Frag} {H0 H : Hp} {O : List Addr} {f1 : Fl} {vs : List V} {ds : List Da} (h : ResAll K H0 H O [f1] vs ds) : ∃ v d, vs = [v] ∧ ds = [d] ∧ Res K H0 H O f1 v d := by
  cases h with
  | cons h t => cases t; exact ⟨_, _, rfl, rfl, h⟩
theorem ResAll.two {K : PySem.W.Frag} {H0 H : Hp} {O : List Addr} {f1 f2 : Fl} {vs : List V} {ds : List Da} (h : ResAll K H0 H O [f1, f2] vs ds) : ∃ v d v2 d2, vs = [v, v2] ∧ ds = [d, d2] ∧ Res K H0 H O f1 v d ∧ Res K H0 H O f2 v2 d2 := by
  cases h with
  | cons h t =>
    obtain ⟨v2, d2, rfl, rfl, h2⟩ := t.one
    exact ⟨_, _, _, _, rfl, rfl, h, h2⟩
theorem de_isi (T : Ty) (he : DE X W Γ e fl se) (hg : Gl X "isinstance") (hm : X.mg "isinstance" = none) (hg2 : Gl X T.nm) (hm2 : X.mg T.nm = none) (hv2 : bootBuiltins T.nm = some (.type T.nm)) (hn2 : (T.nm : Str) ≠ "__name__") (hd2 : ((T.nm : Str) == ("__debug__" : Str)) = false)
    (hs1 : starEach [e, .Name T.nm p2] X.env = (false, eval e X.env) :: starEach [.Name T.nm p2] X.env := by kernel_rfl) (hs2 : starEach [.Name (T.nm : Str) p2] X.env = (false, eval (.Name (T.nm : Str) p2) X.env) :: starEach [] X.env := by kernel_rfl) (hpl : (backTo pos (starEach [.Name (T.nm : Str) p2] X.env)).any (·.1) = false := by kernel_rfl) :
    DE X W Γ (.Call (.Name "isinstance" p) [e, .Name T.nm p2] [] pos) .fr (e1 (dIsi T) se) :=
  pe_imp (pe_callB call_isi hg hm boot_isinstance (pa_cons he (pa_cons (pe_bltn (v := .ty T.nm) hg2 hm2 hv2 rfl hn2 hd2) pa_nil hs2) hs1) (by decide) (by decide) hs1 hpl) fun σ H Q h => by
    obtain ⟨ρ, F, GO, E, h⟩ := h
    refine at_e E h fun d v H1 s1 r1 E1 h1 => ?_
    refine ⟨v, .ty T.nm, .type (tyNm d), .type T.nm, isTy T d, rfl, .ty _, r1.ty, kit_ty (kit_all d T), ?_⟩
    exact PE_.flat (PE_.mono s1 h1) (.bl _) rfl

/-! ### a def's promise -/
def spD (K : PySem.W.Frag) (mg : MG) (n : Nat) (g : List Da → R Da) : Sp := fun vs H Q E => vs.length = n ∧ ∃ ds O, (∀ b, b ∈ O → H b ≠ none) ∧ RpAll K H O vs ds ∧ match g ds with
  | .ok d => ∀ v H', Same H H' → Rp K H' O v d → Q v H'
  | .exc c => ∀ C H', mg c = some (.ref C) → Same H H' → E (.ref C) none H'
  | .bad => False
structure FnD (P : Program) (w : World) (K : PySem.W.Frag) (mg : MG) (base : Heap) (x : Str) (k n : Nat) (g : List Da → R Da) : Prop where
  ex : ∃ f fd ps, FnOk P w K mg base (L2.CX P w) k f fd ps (spD K mg n g) ∧ mg x = some (.ref f) ∧ PySem.W.keepIn K (.ref f) = true ∧ Binds K fd ps []
mutual
theorem Rp.anyO {K : PySem.W.Frag} {H : Hp} {O O' : List Addr} : ∀ {d : Da} {v : V}, noL d = true → Rp K H O v d → Rp K H O' v d
  | .none, _, _, h => by cases h; exact .non
  | .bool _, _, _, h => by cases h; exact .bl _
  | .int _, _, _, h => by cases h; exact .int _
  | .str _, _, _, h => by cases h with | str x n => exact .str _ n
  | .tuple ds, _, f, h => by
    cases h with
    | tup h n r => exact .tup h n (RpAll.anyO (by unfold noL at f; exact f) r)
  | .list _, _, f, _ => by unfold noL at f; cases f
  | .dict _, _, f, _ => by unfold noL at f; cases f
theorem RpAll.anyO {K : PySem.W.Frag} {H : Hp} {O O' : List Addr} : ∀ {ds : List Da} {vs : List V}, noLs ds = true → RpAll K H O vs ds → RpAll K H O' vs ds
  | [], _, _, h => by cases h; exact .nil
  | d :: ds, _, f, h => by
    unfold noLs at f
    obtain ⟨f1, f2⟩ := Bool.and_eq_true_iff.mp f
    cases h with
    | cons h t => exact .cons (Rp.anyO f1 h) (RpAll.anyO f2 t)
end
theorem Res.rp0 {K : PySem.W.Frag} {H0 H : Hp} {O : List Addr} {v : V} {d : Da} (h : Res K H0 H O fl v d) : Rp K H [] v d := by
  have g : Grow [] O [] H H := .sub_ (.refl H) fun _ z => (List.not_mem_nil z).elim
  rcases h.bo (H1 := H0) with h' | ⟨p, e, hp, ho⟩
  · exact h'.mono g
  · subst e
    exact (ho.mono g List.not_mem_nil).rp List.not_mem_nil
theorem ResAll.rp0 {K : PySem.W.Frag} {H0 H : Hp} {O : List Addr} : ∀ {fls : List Fl} {vs : List V} {ds : List Da}, ResAll K H0 H O fls vs ds → RpAll K H [] vs ds
  | _, _, _, .nil => .nil
  | _, _, _, .cons h t => .cons h.rp0 t.rp0
theorem ResAll.lenV {K : PySem.W.Frag} {H0 H : Hp} {O : List Addr} : ∀ {fls : List Fl} {vs : List V} {ds : List Da}, ResAll K H0 H O fls vs ds → vs.length = fls.length
  | _, _, _, .nil => rfl
  | _, _, _, .cons _ t => congrArg (· + 1) t.lenV
/-- f(..) of a def of the module -/
theorem de_call {k n : Nat} {g : List Da → R Da} (F : FnD X.prog X.w X.K X.mg X.base x k n g) (hr : Room k X.A) (hg : Gl X x) (tk : Takes X W) (ha : DA X W Γ (e :: es) fls sa) (hn : fls.length = n := by kernel_rfl) (hf : storable fls = true := by kernel_rfl)
    (hdb : (x == ("__debug__" : Str)) = false := by decide) (he : starEach (e :: es) X.env = (false, eval e X.env) :: starEach es X.env := by kernel_rfl) (hpl : (backTo pos (starEach es X.env)).any (·.1) = false := by kernel_rfl) :
    DE X W Γ (.Call (.Name x p) (e :: es) [] pos) .sh (eA g sa) := by
  obtain ⟨f, fd, ps, G, hm, hk, hb⟩ := F.ex
  refine pe_imp (pe_callS G hr hg hm hk hb (fun σ => passAt tk σ) ha hdb he hpl) fun σ H Q h => ?_
  obtain ⟨ρ, F, GO, E, h⟩ := h
  refine at_a E h fun ds vs H1 s1 r1 E1 h1 => ⟨r1.lenV.trans hn, ds, Ads GO ++ F, E1.alive, r1.rp hf, ?_⟩
  cases q : g ds with
  | ok d => rw [q] at h1; exact fun v H' s' r' => h1 v H' (s1.trans s') r'
  | exc c => rw [q] at h1; exact fun C H' hc s' => h1 C H' hc s'
  | bad => rw [q] at h1; exact h1.elim
/-- .. some of the arguments are the def's own lists: the answer has no list in it -/
theorem de_callO {k n : Nat} {g : List Da → R Da} (F : FnD X.prog X.w X.K X.mg X.base x k n g) (hr : Room k X.A) (hg : Gl X x) (tk : Takes X W) (ha : DA X W Γ (e :: es) fls sa) (hn : fls.length = n := by kernel_rfl)
    (hdb : (x == ("__debug__" : Str)) = false := by decide) (he : starEach (e :: es) X.env = (false, eval e X.env) :: starEach es X.env := by kernel_rfl) (hpl : (backTo pos (starEach es X.env)).any (·.1) = false := by kernel_rfl) :
    DE X W Γ (.Call (.Name x p) (e :: es) [] pos) .sh (e1 noR (eA g sa)) := by
  obtain ⟨f, fd, ps, G, hm, hk, hb⟩ := F.ex
  refine pe_imp (pe_callS G hr hg hm hk hb (fun σ => passAt tk σ) ha hdb he hpl) fun σ H Q h => ?_
  obtain ⟨ρ, F, GO, E, h⟩ := h
  have h : FinG X.mg W σ H ((sa ρ).bind fun ds => (g ds).bind noR) (PE_ X.K H (Ads GO ++ F) .sh Q) := by
    have h0 : FinG X.mg W σ H (((sa ρ).bind g).bind noR) (PE_ X.K H (Ads GO ++ F) .sh Q) := h
    cases q : sa ρ with
    | ok ds => rw [q] at h0; exact h0
    | exc c => rw [q] at h0; exact h0
    | bad => rw [q] at h0; exact h0
  refine at_a E h fun ds vs H1 s1 r1 E1 h1 => ⟨r1.lenV.trans hn, ds, [], fun _ z => (List.not_mem_nil z).elim, r1.rp0, ?_⟩
  cases q : g ds with
  | ok d =>
    rw [q] at h1
    have h2 : FinG X.mg W σ H1 (noR d) (PE_ X.K H (Ads GO ++ F) .sh Q) := h1
    unfold noR at h2
    split at h2
    · rename_i c
      exact fun v H' s' r' => h2 v H' (s1.trans s') (r'.anyO c)
    · exact h2.elim
  | exc c => rw [q] at h1; exact fun C H' hc s' => h1 C H' hc s'
  | bad => rw [q] at h1; exact h1.elim
end

/-! ### targets -/
section
variable {X : Cx} {Γ : List Nat} {pos : Pos}
/-- a target stores the value d of the slots is, all of them free of Γ -/
def tDG (K : PySem.W.Frag) (Γ : List Nat) (is : List Nat) (g : STg) : TG := fun v σ H Q => ∃ ρ F GO d, EnvR K Γ F GO σ H ρ ∧ Rp K H (Ads GO ++ F) v d ∧ match g d ρ with
  | .ok ρ' => ∀ σ', EnvR K Γ F GO σ' H ρ' → (∀ js, (∀ i, i ∈ is → i ∈ js) → wipe σ' js = wipe σ js) → Q σ' H
  | _ => False
def DG (X : Cx) (Γ : List Nat) (tg : Expr) (is : List Nat) (g : STg) : Prop := PG X tg (tDG X.K Γ is g) ∧ ∀ d ρ c, g d ρ ≠ .exc c
theorem wipe_get (σ : L2.St) : ∀ (js : List Nat) (i : Nat), i < σ.length → (wipe σ js)[i]? = if i ∈ js then some none else σ[i]?
  | [], i, _ => by simp [wipe]
  | j :: js, i, hi => by
    unfold wipe
    by_cases e : j = i
    · subst e
      rw [List.getElem?_set_self (by rw [wipe_length]; exact hi)]
      simp
    · rw [List.getElem?_set_ne e, wipe_get σ js i hi]
      simp [show ¬ i = j from fun z => e z.symm]
theorem wipe_ext {σ τ : L2.St} {js : List Nat} (hl : σ.length = τ.length) (h : ∀ i, i ∉ js → σ[i]? = τ[i]?) : wipe σ js = wipe τ js := by
  apply List.ext_getElem?
  intro i
  by_cases hi : i < σ.length
  · rw [wipe_get σ js i hi, wipe_get τ js i (by rw [← hl]; exact hi)]
    by_cases hj : i ∈ js
    · rw [if_pos hj, if_pos hj]
    · rw [if_neg hj, if_neg hj]; exact h i hj
  · rw [List.getElem?_eq_none (by rw [wipe_length]; omega), List.getElem?_eq_none (by rw [wipe_length]; omega)]
theorem wipe_set (σ : L2.St) {i : Nat} (o : Option V) {js : List Nat} (h : i ∈ js) : wipe (σ.set i o) js = wipe σ js :=
  wipe_ext (List.length_set ..) fun j hj => List.getElem?_set_ne fun e => hj (by rw [← e]; exact h)
theorem pg_imp {tg : Expr} {t t' : TG} (h : PG X tg t) (w : ∀ v σ H Q, t' v σ H Q → t v σ H Q) : PG X tg t' := ⟨fun pins s σ H v u Q I r q => h.run pins s σ H v u Q I r (w _ _ _ _ q)⟩
theorem dg_var {i : Nat} {x : Str} (hN : X.N.Nodup) (hi : X.N[i]? = some x) (hx : Loc X.env.scope x) (hΓ : Γ.contains i = false) (hf : X.fn x = true ∨ X.env.scope.names.lookup x = some .local := by first | exact .inl rfl | exact .inr rfl | assumption) : DG X Γ (.Name x pos) [i] (gVar i) :=
  ⟨pg_imp (pg_name hN hi hx hf) fun v σ H Q ⟨ρ, F, GO, d, E, r, h⟩ => by
    have hi' : i ∉ Γ := fun z => by rw [List.contains_iff_mem.mpr z] at hΓ; cases hΓ
    exact h _ (E.setS hi' r) fun js hj => wipe_set σ _ (hj i List.mem_cons_self), fun _ _ _ h => nomatch h⟩
/-- several targets -/
def tDGs (K : PySem.W.Frag) (Γ : List Nat) (is : List Nat) (gs : List STg) : TGs := fun vs σ H Q => ∃ ρ F GO ds, EnvR K Γ F GO σ H ρ ∧ RpAll K H (Ads GO ++ F) vs ds ∧ match gEach gs ds ρ with
  | .ok ρ' => ∀ σ', EnvR K Γ F GO σ' H ρ' → (∀ js, (∀ i, i ∈ is → i ∈ js) → wipe σ' js = wipe σ js) → Q σ' H
  | _ => False
def DGs (X : Cx) (Γ : List Nat) (ts : List Expr) (is : List Nat) (gs : List STg) : Prop := PGs X ts (tDGs X.K Γ is gs) ∧ ∀ g, g ∈ gs → ∀ d ρ c, g d ρ ≠ .exc c
theorem pgs_imp {ts : List Expr} {t t' : TGs} (h : PGs X ts t) (w : ∀ vs σ H Q, t' vs σ H Q → t vs σ H Q) : PGs X ts t' := ⟨fun pins s σ H vs us Q I r q => h.run pins s σ H vs us Q I r (w _ _ _ _ q)⟩
theorem dgs_nil : DGs X Γ [] [] [] := ⟨pgs_imp pgs_nil fun vs σ H Q ⟨ρ, F, GO, ds, E, r, h⟩ => by
  cases r with
  | nil => exact ⟨rfl, h σ E fun _ _ => rfl⟩
  | cons a b => exact h.elim, fun g hg => (List.not_mem_nil hg).elim⟩
theorem dgs_cons {t : Expr} {ts : List Expr} {is js : List Nat} {g : STg} {gs : List STg} (h1 : DG X Γ t is g) (h2 : DGs X Γ ts js gs) (hs : (assignEach (t :: ts) X.env).map (·.2) = assign t X.env :: (assignEach ts X.env).map (·.2) := by kernel_rfl) : DGs X Γ (t :: ts) (is ++ js) (g :: gs) :=
  ⟨pgs_imp (pgs_cons h1.1 h2.1 hs) fun vs σ H Q ⟨ρ, F, GO, ds, E, r, h⟩ => by
    cases r with
    | nil => exact h.elim
    | @cons v vs d ds r1 rr =>
      refine ⟨v, vs, rfl, ρ, F, GO, d, E, r1, ?_⟩
      rw [gEach_cons] at h
      cases q : g d ρ with
      | ok ρ1 =>
        rw [q] at h
        show ∀ σ', EnvR X.K Γ F GO σ' H ρ1 → _ → _
        intro σ1 E1 w1
        refine ⟨ρ1, F, GO, ds, E1, rr, ?_⟩
        have h' : match gEach gs ds ρ1 with
          | .ok ρ' => ∀ σ', EnvR X.K Γ F GO σ' H ρ' → (∀ js_1, (∀ i, i ∈ is ++ js → i ∈ js_1) → wipe σ' js_1 = wipe σ js_1) → Q σ' H
          | _ => False := h
        cases q2 : gEach gs ds ρ1 with
        | ok ρ2 =>
          rw [q2] at h'
          exact fun σ2 E2 w2 => h' σ2 E2 fun ks hk => (w2 ks fun i hi => hk i (List.mem_append_right _ hi)).trans (w1 ks fun i hi => hk i (List.mem_append_left _ hi))
        | exc _ => rw [q2] at h'; exact h'.elim
        | bad => rw [q2] at h'; exact h'.elim
      | exc _ => rw [q] at h; exact h.elim
      | bad => rw [q] at h; exact h.elim, fun g' hg' => by
    rcases List.mem_cons.mp hg' with e | hg'
    · subst e; exact h1.2
    · exact h2.2 g' hg'⟩
theorem gEach_nx : ∀ {gs : List STg}, (∀ g, g ∈ gs → ∀ d ρ c, g d ρ ≠ .exc c) → ∀ ds ρ c, gEach gs ds ρ ≠ .exc c
  | [], _, [], _, _, h => nomatch h
  | [], _, _ :: _, _, _, h => nomatch h
  | _ :: _, _, [], _, _, h => nomatch h
  | g :: gs, n, d :: ds, ρ, c, h => by
    rw [gEach_cons] at h
    cases q : g d ρ with
    | ok ρ1 => rw [q] at h; exact gEach_nx (fun g' hg' => n g' (List.mem_cons_of_mem _ hg')) ds ρ1 c h
    | exc _ => exact n g List.mem_cons_self _ _ _ q
    | bad => rw [q] at h; cases h
theorem gEach_len : ∀ {gs : List STg} {ds : List Da} {ρ ρ' : Ev}, gEach gs ds ρ = .ok ρ' → ds.length = gs.length
  | [], [], _, _, _ => rfl
  | [], _ :: _, _, _, h => by cases h
  | _ :: _, [], _, _, h => by cases h
  | g :: gs, d :: ds, ρ, ρ', h => by
    rw [gEach_cons] at h
    cases q : g d ρ with
    | ok ρ1 => rw [q] at h; exact congrArg (· + 1) (gEach_len (ρ := ρ1) (ρ' := ρ') h)
    | exc _ => rw [q] at h; cases h
    | bad => rw [q] at h; cases h
theorem dg_tup {es : List Expr} {k : Nat} {is : List Nat} {gs : List STg} (hc : X.calm = true) (h : DGs X Γ es is gs) (hn : (assignEach es X.env).length = gs.length := by kernel_rfl) (hst : (assignEach es X.env).findIdx? (·.1) = none := by kernel_rfl) : DG X Γ (.Tuple es k pos) is (gTupD gs) :=
  ⟨pg_imp (pg_tup hc h.1 hn hst) fun v σ H Q ⟨ρ, F, GO, d, E, r, h⟩ => by
    cases d with
    | tuple ds =>
      cases r with
      | tup hq n rr =>
        rw [gTupD_tuple] at h
        refine ⟨_, _, rfl, hq, ?_, ρ, F, GO, ds, E, rr, h⟩
        rw [rr.length]
        cases q : gEach gs ds ρ with
        | ok ρ' => exact gEach_len q
        | exc _ => rw [q] at h; exact h.elim
        | bad => rw [q] at h; exact h.elim
    | _ => exact h.elim, fun d ρ c q => by
    cases d with
    | tuple ds => exact gEach_nx h.2 ds ρ c q
    | _ => cases q⟩
end

/-! ### what is walked -/
section
variable {X : Cx} {W : WX} {Γ : List Nat} {e a b : Expr} {fl fa fb : Fl} {se sa sb : SE} {pos p p2 : Pos} {x : Str} {tg : Expr}
/-- the turns give the items xs, from H1 on, while all but G is kept -/
def ItD (K : PySem.W.Frag) (G O : List Addr) (H1 : Hp) (J : It) (xs : List Da) : Prop := ∀ i H O', Grow G O O' H1 H → (∀ x, xs[i]? = some x → J.go i H ∧ ∀ v H', J.yld i H v H' → Same H H' ∧ Rp K H' O' v x) ∧ (i = xs.length → J.stop i H)
def sto (s : Bool) (O : List Addr) : List Addr := if s then O else []
def tDI (K : PySem.W.Frag) (mg : MG) (W : WX) (Γ : List Nat) (s : Bool) (si : SI) : TI := fun σ H R' => At K Γ σ H fun ρ F GO => FinG mg W σ H (si ρ) fun xs => ∀ J H1, Same H H1 → ItD K (sto s (Ads GO ++ F)) (Ads GO ++ F) H1 J xs → xs.length ≤ big → R' J H1
def DI (X : Cx) (W : WX) (Γ : List Nat) (tg iter : Expr) (s : Bool) (si : SI) : Prop := PI X tg iter (tDI X.K X.mg W Γ s si)
theorem pi_imp {t t' : TI} (h : PI X tg e t) (w : ∀ σ H Q, t' σ H Q → t σ H Q) : PI X tg e t' := ⟨fun pins s σ H Q I q => h.run pins s σ H Q I (w _ _ _ q)⟩
/-- a list or a tuple, by its value -/
def iLT (K : PySem.W.Frag) (tl : TE) : TI := fun σ H R' => tl σ H fun x H1 => ∃ a, x = .ref a ∧ (((∃ xs, SqL K H1 a xs) ∧ R' (Itl K a) H1) ∨ ((∃ xs, SqT K H1 a xs) ∧ R' (Itt K a) H1))
theorem pi_lt {l : Expr} {tl : TE} (hl : PE X l tl) : PI X tg l (iLT X.K tl) := by
  refine ⟨fun pins s σ H R I h => ?_⟩
  refine thn (hl.run pins s σ H _ I h) fun v s1 ⟨x, H1, I1, r1, q1⟩ => ?_
  obtain ⟨a, e, q⟩ := q1
  subst e
  cases r1
  rcases q with ⟨⟨xs, hq⟩, q⟩ | ⟨⟨xs, hq⟩, q⟩
  · obtain ⟨its, rv, p, hz⟩ := I1.list hq
    refine wpAny_pyIter_list p.isList ?_
    refine ⟨s1.heap.objs.size, [s1.heap.objs.size], _, _, H1, rfl, I1.kept (t' := s1.toks) fun b o e => Heap.get?_push_of_some _ e, turn_list a _, ⟨_, Heap.get?_push_size _ rfl, rfl, rfl⟩, fun b hb => ?_, q⟩
    have e : b = s1.heap.objs.size := by simpa using hb
    subst e
    exact I1.fpOk (Nat.le_refl _) (I1.hok.fresh (Nat.le_refl _))
  · obtain ⟨its, rv, p, hz⟩ := I1.tuple hq
    refine wpAny_pyIter_tuple (show s1.heap.IsTuple a its.toArray from p) ?_
    refine ⟨s1.heap.objs.size, [s1.heap.objs.size], _, _, H1, rfl, I1.kept (t' := s1.toks) fun b o e => Heap.get?_push_of_some _ e, turn_tuple a _, ⟨_, Heap.get?_push_size _ rfl, rfl, rfl⟩, fun b hb => ?_, q⟩
    have e : b = s1.heap.objs.size := by simpa using hb
    subst e
    exact I1.fpOk (Nat.le_refl _) (I1.hok.fresh (Nat.le_refl _))
/-- the list stays as it is -/
theorem Res.stays {K : PySem.W.Frag} {H0 H1 : Hp} {GO : List (Nat × Addr)} {F : List Addr} {v : V} {ds : List Da} (h : Res K H0 H1 (Ads GO ++ F) fl v (.list ds)) (s : Bool) (hs : s = true → storable [fl] = true) :
    ∃ p vs, v = .ref p ∧ RpAll K H1 (Ads GO ++ F) vs ds ∧ ds.length ≤ big ∧ ∀ H O', Grow (sto s (Ads GO ++ F)) (Ads GO ++ F) O' H1 H → SqL K H p vs := by
  cases s with
  | true =>
    have h' := h.stored (hs rfl)
    cases h' with
    | lst hh n r =>
      refine ⟨_, _, rfl, r, n, fun H O' g => (LsR.mono (O' := O') g hh).sq⟩
  | false =>
    obtain ⟨p, vs, rfl, s1, r1, n1⟩ := h.list
    refine ⟨p, vs, rfl, r1, n1, fun H O' g => ?_⟩
    have k : Same H1 H := fun b o e => g.keep b o e fun z => (List.not_mem_nil z).elim
    exact k.seq s1
theorem di_l (s : Bool) (he : DE X W Γ e fl se) (hs : s = true → storable [fl] = true) : DI X W Γ tg e s (iL se) :=
  pi_imp (pi_lt he) fun σ H Q h => by
    obtain ⟨ρ, F, GO, E, h⟩ := h
    refine at_e E h fun d v H1 s1 r1 E1 h1 => ?_
    cases d with
    | list ds =>
      obtain ⟨p, vs, rfl, r2, n2, st⟩ := r1.stays s hs
      have h2 := h1 (Itl X.K p) H1 s1 ?_ n2
      · refine ⟨p, rfl, .inl ⟨⟨vs, st H1 (Ads GO ++ F) ⟨.refl H1, fun b hb => ?_, fun b hb => .inl hb⟩⟩, h2⟩⟩
        cases s with
        | true => exact hb
        | false => exact (List.not_mem_nil hb).elim
      · intro i H' O' g
        have q := st H' O' g
        refine ⟨fun x hx => ?_, fun hl => ⟨vs, q, by rw [r2.length]; omega⟩⟩
        obtain ⟨v, hv, rv⟩ := (r2.mono g).get hx
        refine ⟨⟨vs, v, q, hv⟩, fun v' H'' ⟨e1, e2⟩ => ?_⟩
        subst e1
        have := e2 vs q
        rw [hv] at this
        cases this
        exact ⟨.refl _, rv⟩
    | tuple ds =>
      obtain ⟨p, vs, rfl, q1, r2, n2⟩ := r1.tuple
      have h2 := h1 (Itt X.K p) H1 s1 ?_ n2
      · exact ⟨p, rfl, .inr ⟨⟨vs, q1⟩, h2⟩⟩
      · intro i H' O' g
        have q := sqt_keep g.keep q1
        refine ⟨fun x hx => ?_, fun hl => ⟨vs, q, by rw [r2.length]; omega⟩⟩
        obtain ⟨v, hv, rv⟩ := (r2.mono g).get hx
        refine ⟨⟨vs, v, q, hv⟩, fun v' H'' ⟨e1, e2⟩ => ?_⟩
        subst e1
        have := e2 vs q
        rw [hv] at this
        cases this
        exact ⟨.refl _, rv⟩
    | _ => exact h1.elim
theorem rngD_get {lo : Int} {n i : Nat} {x : Da} (h : (rngD lo n)[i]? = some x) : i < n ∧ x = .int (lo + (i : Nat)) := by
  unfold rngD at h
  rw [List.getElem?_map] at h
  by_cases hi : i < n
  · rw [List.getElem?_range hi] at h
    exact ⟨hi, (Option.some.inj h).symm⟩
  · rw [List.getElem?_eq_none (by rw [List.length_range]; omega)] at h
    cases h
theorem rngD_len (lo : Int) (n : Nat) : (rngD lo n).length = n := by unfold rngD; rw [List.length_map, List.length_range]
theorem itD_rng {K : PySem.W.Frag} {G O : List Addr} {H1 : Hp} {lo : Int} {n : Nat} : ItD K G O H1 (Itr lo n) (rngD lo n) := fun i H O' g =>
  ⟨fun x hx => by
    obtain ⟨hi, rfl⟩ := rngD_get hx
    exact ⟨hi, fun v H' ⟨e1, e2⟩ => by subst e1 e2; exact ⟨.refl _, .int _⟩⟩, fun hl => by rw [rngD_len] at hl; exact Nat.le_of_eq hl.symm⟩
theorem di_rng1 (s : Bool) (hg : Gl X "range") (hm : X.mg "range" = none) (ha : DA X W Γ [a] [fa] (aCons sa aNil)) (hs : starEach [a] X.env = [(false, eval a X.env)] := by kernel_rfl) : DI X W Γ tg (.Call (.Name "range" p) [a] [] pos) s (iRng1 sa) :=
  pi_imp (pi_range1 hg hm ha hs) fun σ H Q h => by
    obtain ⟨ρ, F, GO, E, h⟩ := h
    have h : FinG X.mg W σ H ((aCons sa aNil ρ).bind fun xs => match xs with | [x] => (toI x).bind fun n => dRng 0 n | _ => .bad) fun xs => ∀ J H1, Same H H1 → ItD X.K (sto s (Ads GO ++ F)) (Ads GO ++ F) H1 J xs → xs.length ≤ big → Q J H1 := by
      have h0 : FinG X.mg W σ H ((sa ρ).bind fun x => (toI x).bind fun n => dRng 0 n) fun xs => ∀ J H1, Same H H1 → ItD X.K (sto s (Ads GO ++ F)) (Ads GO ++ F) H1 J xs → xs.length ≤ big → Q J H1 := h
      unfold aCons
      cases q : sa ρ with
      | ok x => rw [q] at h0; exact h0
      | exc c => rw [q] at h0; exact h0
      | bad => rw [q] at h0; exact h0
    refine at_a E h fun ds vs H1 s1 r1 E1 h1 => ?_
    obtain ⟨v, d, rfl, rfl, q1⟩ := r1.one
    have h1 : FinG X.mg W σ H1 ((toI d).bind fun n => dRng 0 n) fun xs => ∀ J H1, Same H H1 → ItD X.K (sto s (Ads GO ++ F)) (Ads GO ++ F) H1 J xs → xs.length ≤ big → Q J H1 := h1
    cases d with
    | int j =>
      cases q1.int
      have h2 : FinG X.mg W σ H1 (dRng 0 j) fun xs => ∀ J H1, Same H H1 → ItD X.K (sto s (Ads GO ++ F)) (Ads GO ++ F) H1 J xs → xs.length ≤ big → Q J H1 := h1
      unfold dRng at h2
      split at h2
      · rename_i c
        obtain ⟨c1, c2, c3, c4, c5⟩ := rngC c
        refine ⟨j, rfl, c3, c4, ?_⟩
        have := h2 (Itr 0 (j - 0).toNat) H1 s1 itD_rng (by rw [rngD_len]; exact c5)
        rw [Int.sub_zero] at this
        exact this
      · exact h2.elim
    | _ => exact h1.elim
theorem di_rng2 (s : Bool) (hg : Gl X "range") (hm : X.mg "range" = none) (ha : DA X W Γ [a, b] [fa, fb] (aCons sa (aCons sb aNil))) (hs : starEach [a, b] X.env = [(false, eval a X.env), (false, eval b X.env)] := by kernel_rfl) (hs2 : starEach [b] X.env = [(false, eval b X.env)] := by kernel_rfl) : DI X W Γ tg (.Call (.Name "range" p) [a, b] [] pos) s (iRng2 sa sb) :=
  pi_imp (pi_range2 hg hm ha hs hs2) fun σ H Q h => by
    obtain ⟨ρ, F, GO, E, h⟩ := h
    have h : FinG X.mg W σ H ((aCons sa (aCons sb aNil) ρ).bind fun xs => match xs with | [x, y] => (toI x).bind fun i => (toI y).bind fun j => dRng i j | _ => .bad) fun xs => ∀ J H1, Same H H1 → ItD X.K (sto s (Ads GO ++ F)) (Ads GO ++ F) H1 J xs → xs.length ≤ big → Q J H1 := by
      have h0 : FinG X.mg W σ H ((sa ρ).bind fun x => (sb ρ).bind fun y => (toI x).bind fun i => (toI y).bind fun j => dRng i j) fun xs => ∀ J H1, Same H H1 → ItD X.K (sto s (Ads GO ++ F)) (Ads GO ++ F) H1 J xs → xs.length ≤ big → Q J H1 := h
      unfold aCons
      cases q : sa ρ with
      | ok x =>
        rw [q] at h0
        have h0 : FinG X.mg W σ H ((sb ρ).bind fun y => (toI x).bind fun i => (toI y).bind fun j => dRng i j) _ := h0
        cases q2 : sb ρ with
        | ok y => rw [q2] at h0; simpa [q2] using h0
        | exc c => rw [q2] at h0; simpa [q2] using h0
        | bad => rw [q2] at h0; simpa [q2] using h0
      | exc c => rw [q] at h0; exact h0
      | bad => rw [q] at h0; exact h0
    refine at_a E h fun ds vs H1 s1 r1 E1 h1 => ?_
    obtain ⟨v, d, v2, d2, rfl, rfl, q1, q2⟩ := r1.two
    have h1 : FinG X.mg W σ H1 ((toI d).bind fun i => (toI d2).bind fun j => dRng i j) fun xs => ∀ J H1, Same H H1 → ItD X.K (sto s (Ads GO ++ F)) (Ads GO ++ F) H1 J xs → xs.length ≤ big → Q J H1 := h1
    cases d with
    | int i =>
      cases d2 with
      | int j =>
        cases q1.int
        cases q2.int
        have h2 : FinG X.mg W σ H1 (dRng i j) fun xs => ∀ J H1, Same H H1 → ItD X.K (sto s (Ads GO ++ F)) (Ads GO ++ F) H1 J xs → xs.length ≤ big → Q J H1 := h1
        unfold dRng at h2
        split at h2
        · rename_i c
          obtain ⟨c1, c2, c3, c4, c5⟩ := rngC c
          exact ⟨i, j, rfl, ⟨c1, c2, c3, c4⟩, h2 (Itr i (j - i).toNat) H1 s1 itD_rng (by rw [rngD_len]; exact c5)⟩
        · exact h2.elim
      | _ => exact h1.elim
    | _ => exact h1.elim
end
end DL
set_option Elab.async false
set_option linter.all false
set_option maxRecDepth 100000
namespace DL
open PySem PySem.Spec PyProof.Rows L2

/-! ### comprehensions -/
section
variable {X : Cx} {W : WX} {Γ : List Nat} {pos : Pos}
theorem lcL_cons {f : Da → R (Option Da)} {x : Da} {xs ys : List Da} (h : lcL f (x :: xs) = .ok ys) : ∃ y zs, f x = .ok y ∧ lcL f xs = .ok zs ∧ ys = (match y with
    | none => zs
    | some v => v :: zs) := by
  unfold lcL at h
  cases e : f x with
  | ok y =>
    rw [e] at h
    cases q : lcL f xs with
    | ok zs =>
      rw [q] at h
      exact ⟨y, zs, rfl, rfl, (R.ok.inj h).symm⟩
    | exc _ => rw [q] at h; cases h
    | bad => rw [q] at h; cases h
  | exc _ => rw [e] at h; cases h
  | bad => rw [e] at h; cases h
theorem lcL_nx {f : Da → R (Option Da)} : ∀ (xs : List Da) (c : Str), lcL f xs ≠ .exc c
  | [], c, h => nomatch h
  | x :: xs, c, h => by
    unfold lcL at h
    cases e : f x with
    | ok y =>
      rw [e] at h
      cases q : lcL f xs with
      | ok zs => rw [q] at h; cases h
      | exc _ => rw [q] at h; cases h
      | bad => rw [q] at h; cases h
    | exc _ => rw [e] at h; cases h
    | bad => rw [e] at h; cases h
theorem lcL_len {f : Da → R (Option Da)} : ∀ {xs ys : List Da}, lcL f xs = .ok ys → ys.length ≤ xs.length
  | [], ys, h => by cases h; exact Nat.le_refl _
  | x :: xs, ys, h => by
    obtain ⟨y, zs, _, e2, rfl⟩ := lcL_cons h
    have := lcL_len e2
    cases y with
    | none => exact Nat.le_succ_of_le this
    | some v => exact Nat.succ_le_succ this
theorem ok_of_fin {α : Type} {mg : MG} {σ : L2.St} {H : Hp} {r : R α} {P : α → Prop} (h : ∃ a, r = .ok a ∧ P a) : FinG mg W σ H r P := by
  obtain ⟨a, rfl, h⟩ := h
  exact h
/-- the list that a comprehension makes is foreign to what it reckons -/
theorem EnvR.under {K : PySem.W.Frag} {F : List Addr} {GO : List (Nat × Addr)} {σ : L2.St} {H1 H : Hp} {ρ : Ev} {D : Addr} (E : EnvR K Γ F GO σ H1 ρ) (hD : H1 D = none) (s : Same H1 H) (hH : H D ≠ none) : EnvR K Γ (D :: F) GO σ H ρ := by
  have hn : D ∉ Ads GO ++ F := E.newp hD
  have g : Grow [] (Ads GO ++ F) (Ads GO ++ (D :: F)) H1 H := ⟨.of_same s, fun _ z => (List.not_mem_nil z).elim, fun b hb => by
    rcases List.mem_append.mp hb with hb | hb
    · exact .inl (List.mem_append_left _ hb)
    · rcases List.mem_cons.mp hb with e | hb
      · subst e; exact .inr hD
      · exact .inl (List.mem_append_right _ hb)⟩
  have E1 := E.mono s
  refine ⟨E.len, E.dom, E.inj, fun p hp hz => ?_, fun b hb => ?_, fun i p hp => ?_, fun i d hi hd => ?_⟩
  · rcases List.mem_cons.mp hz with e | hz
    · subst e; exact hn (List.mem_append_left _ hp)
    · exact E.dis p hp hz
  · rcases List.mem_cons.mp hb with e | hb
    · subst e; exact hH
    · exact E1.frn b hb
  · obtain ⟨h1, d, h2, h3⟩ := E.own i p hp
    exact ⟨h1, d, h2, h3.mono g List.not_mem_nil⟩
  · obtain ⟨v, h1, h2⟩ := E.sh i d hi hd
    exact ⟨v, h1, h2.mono g⟩
theorem Same.upd_new {H1 H : Hp} {D : Addr} {o : HO} (hD : H1 D = none) (s : Same H1 H) : Same H1 (upd H D o) := fun b x e => by
  rw [upd_ne (ne_of_none e hD)]
  exact s b x e
theorem lc_s {own : List Nat} {si : SI} {is : List Nat} {g : STg} {st se : SE} {fl : Fl} (hown : own.all (fun i => !Γ.contains i) = true) (his : is.all (fun i => own.contains i) = true) (hf : storable [fl] = true)
    {σ : L2.St} {H0 : Hp} {Q : VK} (h : tDE X.K X.mg W Γ .fr (eLc si g own st se) σ H0 Q) :
    tLc (tDI X.K X.mg W Γ false si) (tDG X.K Γ is g) (tDT X.K X.mg W0 Γ st) (tDE X.K X.mg W0 Γ fl se) own σ H0 Q := by
  obtain ⟨ρ, F, GO, E, h⟩ := h
  have hown' : ∀ i, i ∈ own → i ∉ Γ := fun i hi hz => by
    have := List.all_eq_true.mp hown i hi
    rw [List.contains_iff_mem.mpr hz] at this
    cases this
  have his' : ∀ i, i ∈ is → i ∈ own := fun i hi => List.contains_iff_mem.mp (List.all_eq_true.mp his i hi)
  unfold eLc at h
  refine ⟨ρ, F, GO, E, h.bind.imp fun xs _ h J H1 s1 itd hlen D hD => ?_⟩
  obtain ⟨ys, hys, h⟩ := FinG.bind_ok (lcL_nx xs) h
  have hq : PE_ X.K H0 (Ads GO ++ F) .fr Q (.list ys) := h
  have E1 := E.mono s1
  have hnD : D ∉ Ads GO ++ F := E1.newp hD
  have sub : ∀ b, b ∈ Ads GO ++ F → b ∈ Ads GO ++ (D :: F) := fun b hb => by
    rcases List.mem_append.mp hb with hb | hb
    · exact List.mem_append_left _ hb
    · exact List.mem_append_right _ (List.mem_cons_of_mem _ hb)
  refine ⟨fun i m H => i ≤ xs.length ∧ m = xs.length - i ∧ Same H1 H ∧ ∃ acc ds zs, H D = some (.lst acc) ∧ RpAll X.K H (Ads GO ++ (D :: F)) acc ds ∧ ds.length ≤ i ∧ lcL (lcF g own st se ρ) (xs.drop i) = .ok zs ∧ ds ++ zs = ys,
    ⟨xs.length, Nat.zero_le _, rfl, Same.upd_new hD (.refl H1), [], [], ys, upd_same, .nil, Nat.le_refl _, hys, rfl⟩, ?_⟩
  rintro i m H ⟨hi, rfl, sH, acc, ds, zs, hacc, racc, hdl, hzs, hcat⟩
  have gr : Grow [] (Ads GO ++ F) (Ads GO ++ (D :: F)) H1 H := ⟨.of_same sH, fun _ z => (List.not_mem_nil z).elim, fun b hb => by
    rcases List.mem_append.mp hb with hb | hb
    · exact .inl (List.mem_append_left _ hb)
    · rcases List.mem_cons.mp hb with e | hb
      · subst e; exact .inr hD
      · exact .inl (List.mem_append_right _ hb)⟩
  obtain ⟨it1, it2⟩ := itd i H _ gr
  by_cases hlt : i < xs.length
  · refine .inr ?_
    have hx : xs[i]? = some xs[i] := List.getElem?_eq_getElem hlt
    obtain ⟨go, yld⟩ := it1 _ hx
    have hdrop : xs.drop i = xs[i] :: xs.drop (i + 1) := List.drop_eq_getElem_cons hlt
    rw [hdrop] at hzs
    obtain ⟨y, ws, e1, e2, e3⟩ := lcL_cons hzs
    refine ⟨go, fun H' => Same H1 H' ∧ ∃ acc ds zs, H' D = some (.lst acc) ∧ RpAll X.K H' (Ads GO ++ (D :: F)) acc ds ∧ ds.length ≤ i + 1 ∧ lcL (lcF g own st se ρ) (xs.drop (i + 1)) = .ok zs ∧ ds ++ zs = ys, fun H' hw => ⟨xs.length - (i + 1), by omega, hlt, rfl, hw⟩, fun v H' hv => ?_⟩
    obtain ⟨s2, rv⟩ := yld v H' hv
    have sH' : Same H1 H' := sH.trans s2
    have hD' : H' D = some (.lst acc) := s2 _ _ hacc
    have EB : EnvR X.K Γ (D :: F) GO (wipe σ own) H' (kill ρ own) := (E1.under hD sH' (by rw [hD']; exact fun z => nomatch z)).wipeAll hown'
    unfold lcF at e1
    cases q1 : g xs[i] (kill ρ own) with
    | ok ρ1 =>
      rw [q1] at e1
      refine ⟨kill ρ own, D :: F, GO, xs[i], EB, rv, ?_⟩
      rw [q1]
      intro σ2 E2 w2
      refine ⟨(w2 own his').trans (wipe_ext (wipe_length _ _) fun j hj => ?_), ?_⟩
      · by_cases hl : j < σ.length
        · rw [wipe_get σ own j hl, if_neg hj]
        · rw [List.getElem?_eq_none (by rw [wipe_length]; omega), List.getElem?_eq_none (by omega)]
      have e1 : ((st ρ1).bind fun b => if tru b then (se ρ1).bind fun v => .ok (some v) else .ok none) = .ok y := e1
      cases q2 : st ρ1 with
      | ok b =>
        rw [q2] at e1
        have e1 : (if tru b then (se ρ1).bind fun v => .ok (some v) else .ok none) = .ok y := e1
        refine ⟨ρ1, D :: F, GO, E2, ok_of_fin ⟨b, q2, fun H3 s3 => ?_⟩⟩
        cases q3 : tru b with
        | true =>
          rw [if_pos rfl]
          rw [q3, if_pos rfl] at e1
          cases q4 : se ρ1 with
          | ok d =>
            rw [q4] at e1
            have ey : y = some d := (R.ok.inj e1).symm
            subst ey
            refine ⟨ρ1, D :: F, GO, E2.mono s3, ok_of_fin ⟨d, q4, fun v4 H4 s4 r4 => ?_⟩⟩
            have hD4 : H4 D = some (.lst acc) := s4 _ _ (s3 _ _ hD')
            have sH4 : Same H1 H4 := (sH'.trans s3).trans s4
            have r4' := r4.stored hf
            have g4 : Grow [D] (Ads GO ++ (D :: F)) (Ads GO ++ (D :: F)) H4 (upd H4 D (.lst (acc ++ [v4]))) := ⟨fun b o e hb => by
              by_cases q : b = D
              · subst q
                rw [hD4] at e
                cases e
                cases hb List.mem_cons_self
              · rw [upd_ne q]; exact e, fun b hb => by
              rw [List.mem_singleton] at hb
              subst hb
              exact List.mem_append_right _ List.mem_cons_self, fun b hb => .inl hb⟩
            have racc4 : RpAll X.K H4 (Ads GO ++ (D :: F)) acc ds := racc.mono (.same ((s2.trans s3).trans s4))
            refine ⟨acc, hD4, ?_, Same.upd_new hD sH4, acc ++ [v4], ds ++ [d], ws, upd_same, (racc4.append (.cons r4' .nil)).mono g4, ?_, e2, ?_⟩
            · rw [racc.length]
              exact Nat.lt_of_le_of_lt hdl (Nat.lt_of_lt_of_le hlt (big_le hlen))
            · rw [List.length_append, List.length_singleton]; omega
            · rw [← hcat, e3, List.append_assoc]; rfl
          | exc _ => rw [q4] at e1; cases e1
          | bad => rw [q4] at e1; cases e1
        | false =>
          rw [if_neg Bool.false_ne_true]
          rw [q3, if_neg Bool.false_ne_true] at e1
          have ey : y = none := (R.ok.inj e1).symm
          subst ey
          subst e3
          exact ⟨sH'.trans s3, acc, ds, zs, s3 _ _ hD', racc.mono (.same (s2.trans s3)), Nat.le_succ_of_le hdl, e2, hcat⟩
      | exc _ => rw [q2] at e1; cases e1
      | bad => rw [q2] at e1; cases e1
    | exc _ => rw [q1] at e1; cases e1
    | bad => rw [q1] at e1; cases e1
  · have hi' : i = xs.length := by omega
    refine .inl ⟨it2 (by omega), ?_⟩
    have ez : zs = [] := by
      rw [List.drop_of_length_le (by omega)] at hzs
      cases hzs; rfl
    subst ez
    rw [List.append_nil] at hcat
    subst hcat
    have g5 : Grow [] (Ads GO ++ (D :: F)) (Ads GO ++ F) H H := .sub_ (.refl H) sub
    have g6 : Grow [] (Ads GO ++ (D :: F)) (D :: (Ads GO ++ F)) H H := .sub_ (.refl H) fun b hb => by
      rcases List.mem_cons.mp hb with e | hb
      · subst e; exact List.mem_append_right _ List.mem_cons_self
      · exact sub b hb
    have nl : ds.length ≤ big := Nat.le_trans hdl (by omega)
    refine hq _ _ (s1.trans sH) ⟨.lst (.inl ⟨.inl hacc, hnD⟩) nl (racc.mono g5), fun ds' e => ?_⟩
    cases e
    exact ⟨D, rfl, s1.free hD, acc, hacc, racc.mono g6, nl⟩
section
variable {elt tg iter : Expr} {ifs : List Expr} {scope : Scope} {own : List (Str × Nat)} {si : SI} {is : List Nat} {g : STg} {st se : SE} {fl : Fl}
def DTs (X : Cx) (W : WX) (Γ : List Nat) (ifs : List Expr) (st : SE) : Prop := PTs X ifs (tDT X.K X.mg W Γ st)
theorem dts_nil : DTs X W Γ [] eYes := ⟨fun pins s σ H Q I h => pts_nil.run pins s σ H Q I (by
  obtain ⟨ρ, F, GO, E, h⟩ := h
  exact h H (.refl H))⟩
theorem dts_one {c : Expr} {sc : SE} (h : DT X W Γ c sc) : DTs X W Γ [c] sc := pts_one h
theorem de_lc (hc : X.calm = true) (hN : X.N.Nodup) (hi : DI X W Γ tg iter false si) (ok : BlkOk X.N X.env.scope scope own)
    (hown : (own.map (·.2)).all (fun i => !Γ.contains i) = true) (his : is.all (fun i => (own.map (·.2)).contains i) = true)
    (hg : ∀ (s : Shared) (H : Hp) (C : Addr) (cl : List (Str × Addr)) (fp : List Addr), DG (X.blk s H scope (compEnvC scope cl C X.env) fp) Γ tg is g)
    (ht : ∀ (s : Shared) (H : Hp) (C : Addr) (cl : List (Str × Addr)) (fp : List Addr), DTs (X.blk s H scope (compEnvC scope cl C X.env) fp) W0 Γ ifs st)
    (he : ∀ (s : Shared) (H : Hp) (C : Addr) (cl : List (Str × Addr)) (fp : List Addr), DE (X.blk s H scope (compEnvC scope cl C X.env) fp) W0 Γ elt fl se) (hf : storable [fl] = true := by kernel_rfl)
    (hs : ∀ x, foldedSetIterable iter X.env x = pure x := by intro _; rfl) :
    DE X W Γ (.ListComp elt [⟨tg, iter, ifs, 0⟩] scope pos) .fr (eLc si g (own.map (·.2)) st se) :=
  pe_imp (pe_lc (wi := tDI X.K X.mg W Γ false si) (g := tDG X.K Γ is g) (tt := tDT X.K X.mg W0 Γ st) (te := tDE X.K X.mg W0 Γ fl se) hc hN hi ok (fun s H C cl fp => (hg s H C cl fp).1) ht he hs) fun σ H0 Q h => lc_s hown his hf h
end
end
end DL
set_option Elab.async false
set_option linter.all false
set_option maxRecDepth 100000
namespace DL
open PySem PySem.Spec PyProof.Rows L2

/-! ### statements -/
def FinS (K : PySem.W.Frag) (mg : MG) (W : WX) (Γ' : List Nat) (F : List Addr) (GO : List (Nat × Addr)) (H : Hp) (r : R Out) (D : Ends) : Prop := match r with
  | .ok (.nx ρ') => ∀ σ' H' GO', EnvR K Γ' F GO' σ' H' ρ' → Keep (Ads GO) H H' → (∀ b, b ∈ Ads GO' → b ∈ Ads GO ∨ H b = none) → D.nx σ' H'
  | .ok (.rt d) => ∀ v H', Keep (Ads GO) H H' → Rp K H' F v d → D.rt v H'
  | .exc c => ∀ C σ' H', mg c = some (.ref C) → Keep (Ads GO) H H' → W (.ref C) none σ' H'
  | .bad => False
def tDS (K : PySem.W.Frag) (mg : MG) (W : WX) (Γ Γ' : List Nat) (ss : SS) : TS := fun D σ H => At K Γ σ H fun ρ F GO => FinS K mg W Γ' F GO H (ss ρ) D
def DS (X : Cx) (W : WX) (Γ : List Nat) (st : Stmt) (Γ' : List Nat) (ss : SS) : Prop := PS X st (tDS X.K X.mg W Γ Γ' ss)
def DSs (X : Cx) (W : WX) (Γ : List Nat) (st : List Stmt) (Γ' : List Nat) (ss : SS) : Prop := PSs X st (tDS X.K X.mg W Γ Γ' ss)
section
variable {K : PySem.W.Frag} {mg : MG} {W : WX} {Γ Γ' : List Nat} {F : List Addr} {GO GO1 : List (Nat × Addr)} {σ : L2.St} {H H1 H' : Hp} {ρ : Ev} {D : Ends} {G G' : List Addr}
theorem Keep.trans (h1 : Keep G H H1) (h2 : Keep G' H1 H') (n : ∀ b, b ∈ G' → b ∈ G ∨ H b = none) : Keep G H H' := fun b o e hb =>
  h2 b o (h1 b o e hb) fun z => (n b z).elim hb fun q => by rw [q] at e; cases e
theorem FinS.later {r : R Out} (k : Keep (Ads GO) H H1) (n : ∀ b, b ∈ Ads GO1 → b ∈ Ads GO ∨ H b = none) (h : FinS K mg W Γ' F GO H r D) : FinS K mg W Γ' F GO1 H1 r D := by
  have back : ∀ b, H1 b = none → H b = none ∨ b ∈ Ads GO := fun b e => by
    cases q : H b with
    | none => exact .inl rfl
    | some o =>
      by_cases hb : b ∈ Ads GO
      · exact .inr hb
      · rw [k b o q fun z => absurd z hb] at e; cases e
  cases r with
  | ok o =>
    cases o with
    | nx ρ' => exact fun σ' H' GO' E k' n' => h σ' H' GO' E (k.trans k' n) fun b hb => (n' b hb).elim (n b) fun e => (back b e).symm
    | rt d => exact fun v H' k' r' => h v H' (k.trans k' n) r'
  | exc c => exact fun C σ' H' hc k' => h C σ' H' hc (k.trans k' n)
  | bad => exact h
theorem FinS.ofG {α : Type} {r : R α} {f : α → R Out} (h : FinS K mg W Γ' F GO H (r.bind f) D) : FinG mg W σ H r fun a => FinS K mg W Γ' F GO H (f a) D := by
  cases r with
  | ok a => exact h
  | exc c => exact fun C H' hc s => h C σ H' hc (.of_same s)
  | bad => exact h
theorem FinS.imp {r : R Out} {D' : Ends} (h : FinS K mg W Γ' F GO H r D) (e : D.rt = D'.rt) (w : ∀ ρ' σ' H' GO', r = .ok (.nx ρ') → EnvR K Γ' F GO' σ' H' ρ' → Keep (Ads GO) H H' → (∀ b, b ∈ Ads GO' → b ∈ Ads GO ∨ H b = none) → D.nx σ' H' → D'.nx σ' H') : FinS K mg W Γ' F GO H r D' := by
  cases r with
  | ok o =>
    cases o with
    | nx ρ' => exact fun σ' H' GO' E k n => w ρ' σ' H' GO' rfl E k n (h σ' H' GO' E k n)
    | rt d => exact fun v H' k r => by rw [← e]; exact h v H' k r
  | exc c => exact h
  | bad => exact h
theorem keep_less (n : ∀ b, b ∈ G' → b ∈ G) (h : Keep G' H H') : Keep G H H' := fun b o e hb => h b o e fun z => hb (n b z)
theorem same_new : ∀ b, b ∈ Ads GO → b ∈ Ads GO ∨ H b = none := fun _ hb => .inl hb
end

section
variable {X : Cx} {W : WX} {Γ Γ' Γ1 Γ2 : List Nat} {st : Stmt} {rest sts : List Stmt} {a b : SS} {e c tg : Expr} {fl : Fl} {se sc : SE} {pos p : Pos}
theorem ps_imp {t t' : TS} (h : PS X st t) (w : ∀ D σ H, t' D σ H → t D σ H) : PS X st t' := ⟨fun pins s σ H D I q => h.run pins s σ H D I (w _ _ _ q)⟩
theorem pss_imp {t t' : TS} (h : PSs X sts t) (w : ∀ D σ H, t' D σ H → t D σ H) : PSs X sts t' := ⟨fun pins s σ H D I q => h.run pins s σ H D I (w _ _ _ q)⟩
theorem seq_s {D : Ends} {σ : L2.St} {H : Hp} (h : tDS X.K X.mg W Γ Γ2 (sSeq a b) D σ H) : tSeq (tDS X.K X.mg W Γ Γ1 a) (tDS X.K X.mg W Γ1 Γ2 b) D σ H := by
  obtain ⟨ρ, F, GO, E, h⟩ := h
  refine ⟨ρ, F, GO, E, ?_⟩
  unfold sSeq at h
  show FinS _ _ _ _ _ _ _ (a ρ) _
  cases q : a ρ with
  | ok o =>
    rw [q] at h
    cases o with
    | nx ρ' => exact fun σ' H' GO' E' k n => ⟨ρ', F, GO', E', FinS.later k n h⟩
    | rt d => exact h
  | exc c => rw [q] at h; exact h
  | bad => rw [q] at h; exact h
theorem dss_cons (h1 : DS X W Γ st Γ1 a) (h2 : DSs X W Γ1 rest Γ2 b) : DSs X W Γ (st :: rest) Γ2 (sSeq a b) := pss_imp (pss_cons h1 h2) fun D σ H h => seq_s h
theorem dss_one (h : DS X W Γ st Γ1 a) : DSs X W Γ [st] Γ1 a := pss_one h
theorem dss_nil : DSs X W Γ [] Γ sNx := pss_imp pss_nil fun D σ H ⟨ρ, F, GO, E, h⟩ => h σ H GO E (.refl H) same_new
/-! ahead of a statement: owned lists given up, slots forgotten -/
theorem pre_s {D : Ends} {σ : L2.St} {H : Hp} (hf : Γ.filter (fun i => Γ1.contains i) = Γ1) (h : tDS X.K X.mg W Γ Γ' a D σ H) : tDS X.K X.mg W Γ1 Γ' a D σ H := by
  obtain ⟨ρ, F, GO, E, h⟩ := h
  have E1 := E.freeze fun i => Γ1.contains i
  rw [hf] at E1
  have sub : ∀ b, b ∈ Ads (GO.filter fun z => Γ1.contains z.1) → b ∈ Ads GO := fun b hb => by
    obtain ⟨z, hz, rfl⟩ := List.mem_map.mp hb
    exact List.mem_map.mpr ⟨z, (List.mem_filter.mp hz).1, rfl⟩
  exact ⟨ρ, F, _, E1, FinS.later (.refl H) (fun b hb => .inl (sub b hb)) h⟩
theorem ds_pre (hf : Γ.filter (fun i => Γ1.contains i) = Γ1) (h : DS X W Γ1 st Γ' a) : DS X W Γ st Γ' a := ps_imp h fun D σ H h => pre_s hf h
theorem dss_pre (hf : Γ.filter (fun i => Γ1.contains i) = Γ1) (h : DSs X W Γ1 sts Γ' a) : DSs X W Γ sts Γ' a := pss_imp h fun D σ H h => pre_s hf h
theorem post_s {D : Ends} {σ : L2.St} {H : Hp} (hf : Γ'.filter (fun i => Γ1.contains i) = Γ1) (h : tDS X.K X.mg W Γ Γ1 a D σ H) : tDS X.K X.mg W Γ Γ' a D σ H := by
  obtain ⟨ρ, F, GO, E, h⟩ := h
  refine ⟨ρ, F, GO, E, ?_⟩
  show FinS _ _ _ _ _ _ _ (a ρ) _
  cases q : a ρ with
  | ok o =>
    rw [q] at h
    cases o with
    | nx ρ' =>
      intro σ' H' GO' E' k n
      have E1 := E'.freeze fun i => Γ1.contains i
      rw [hf] at E1
      exact h σ' H' _ E1 k fun b hb => by
        obtain ⟨z, hz, rfl⟩ := List.mem_map.mp hb
        exact n _ (List.mem_map.mpr ⟨z, (List.mem_filter.mp hz).1, rfl⟩)
    | rt d => exact h
  | exc c => rw [q] at h; exact h
  | bad => rw [q] at h; exact h
theorem dss_post (hf : Γ'.filter (fun i => Γ1.contains i) = Γ1) (h : DSs X W Γ sts Γ' a) : DSs X W Γ sts Γ1 a := pss_imp h fun D σ H h => post_s hf h
theorem wk_s {ks : List Nat} {D : Ends} {σ : L2.St} {H : Hp} (hk : ks.all (fun i => !Γ.contains i) = true) (h : tDS X.K X.mg W Γ Γ' (sWk ks a) D σ H) : tDS X.K X.mg W Γ Γ' a D σ H := by
  obtain ⟨ρ, F, GO, E, h⟩ := h
  refine ⟨kill ρ ks, F, GO, E.killAll fun i hi hz => ?_, h⟩
  have := List.all_eq_true.mp hk i hi
  rw [List.contains_iff_mem.mpr hz] at this
  cases this
theorem ds_wk {ks : List Nat} (hk : ks.all (fun i => !Γ.contains i) = true) (h : DS X W Γ st Γ' a) : DS X W Γ st Γ' (sWk ks a) := ps_imp h fun D σ H h => wk_s hk h
theorem dss_wk {ks : List Nat} (hk : ks.all (fun i => !Γ.contains i) = true) (h : DSs X W Γ sts Γ' a) : DSs X W Γ sts Γ' (sWk ks a) := pss_imp h fun D σ H h => wk_s hk h
/-! simple statements -/
theorem at_s (F : List Addr) (GO : List (Nat × Addr)) {σ : L2.St} {H : Hp} {ρ : Ev} {D : Ends} (E : EnvR X.K Γ F GO σ H ρ) {f : Da → R Out} {R' : V → Hp → Prop} (h : FinS X.K X.mg W Γ' F GO H ((se ρ).bind f) D)
    (hk : ∀ d v H1, Same H H1 → Res X.K H H1 (Ads GO ++ F) fl v d → EnvR X.K Γ F GO σ H1 ρ → FinS X.K X.mg W Γ' F GO H1 (f d) D → R' v H1) : tDE X.K X.mg W Γ fl se σ H R' :=
  ⟨ρ, F, GO, E, h.ofG.imp fun d _ q v H1 s r => hk d v H1 s r (E.mono s) (FinS.later (.of_same s) same_new q)⟩
theorem ds_asg {g : STg} {is : List Nat} (he : DE X W Γ e fl se) (hg : DG X Γ tg is g) (hf : storable [fl] = true := by kernel_rfl) (hs : swapsWithSole [tg] e pos.line X.env = pure false := by kernel_rfl) (hw : swappedStores [tg] e X.env = pure none := by kernel_rfl)
    (h1 : (assignEach [tg] X.env).map (·.2) = [assign tg X.env] := by kernel_rfl) : DS X W Γ (.Assign [tg] e pos) Γ (sAsg g se) :=
  ps_imp (ps_asg he hg.1 hs hw h1) fun D σ H h => by
    obtain ⟨ρ, F, GO, E, h⟩ := h
    refine at_s F GO E h fun d v H1 s1 r1 E1 h1 => ⟨ρ, F, GO, d, E1, r1.stored hf, ?_⟩
    cases q : g d ρ with
    | ok ρ' => rw [q] at h1; exact fun σ' E' _ => h1 σ' H1 GO E' (.refl H1) same_new
    | exc _ => exact absurd q (hg.2 _ _ _)
    | bad => rw [q] at h1; exact h1.elim
/-- x = e -/
theorem ds_set {i : Nat} {x : Str} (hN : X.N.Nodup) (hi : X.N[i]? = some x) (hx : Loc X.env.scope x) (hΓ : Γ.contains i = false) (he : DE X W Γ e fl se) (hf : storable [fl] = true := by kernel_rfl) (hs : swapsWith e (some (.Name x p)) pos.line X.env = pure false := by kernel_rfl) (hff : X.fn x = true ∨ X.env.scope.names.lookup x = some .local := by first | exact .inl rfl | exact .inr rfl | assumption) :
    DS X W Γ (.Assign [.Name x p] e pos) Γ (sAsg (gVar i) se) :=
  ps_imp (ps_set hN hi hx he hs hff) fun D σ H h => by
    obtain ⟨ρ, F, GO, E, h⟩ := h
    refine at_s F GO E h fun d v H1 s1 r1 E1 h1 => ?_
    have hi' : i ∉ Γ := fun z => by rw [List.contains_iff_mem.mpr z] at hΓ; cases hΓ
    exact h1 _ H1 GO (E1.setS hi' (r1.stored hf)) (.refl H1) same_new
theorem EnvR.setO {K : PySem.W.Frag} {F : List Addr} {GO : List (Nat × Addr)} {σ : L2.St} {H0 H : Hp} {ρ : Ev} (E0 : EnvR K Γ F GO σ H0 ρ) (s : Same H0 H) {i : Nat} {p : Addr} {d : Da} (hi : i ∉ Γ) (hl : i < ρ.length) (hp : H0 p = none) (h : Own K H (p :: (Ads GO ++ F)) p d) :
    EnvR K (i :: Γ) F ((i, p) :: GO) (σ.set i (some (.ref p))) H (ρ.set i (some d)) := by
  have hn : p ∉ Ads GO ++ F := E0.newp hp
  have g : Grow [] (Ads GO ++ F) (p :: (Ads GO ++ F)) H0 H := Grow.more s hp
  have E := E0.mono s
  refine ⟨by rw [List.length_set, List.length_set, E.len], by rw [List.map_cons, E.dom], ?_, fun q hq => ?_, E.frn, fun j q hj => ?_, fun j d' hj hd => ?_⟩
  · exact List.nodup_cons.mpr ⟨fun z => hn (List.mem_append_left _ z), E.inj⟩
  · rcases List.mem_cons.mp hq with e | hq
    · subst e; exact fun z => hn (List.mem_append_right _ z)
    · exact E.dis q hq
  · rcases List.mem_cons.mp hj with e | hj
    · cases e
      exact ⟨List.getElem?_set_self (by rw [← E.len]; exact hl), d, List.getElem?_set_self hl, h⟩
    · have hij : i ≠ j := fun z => hi (by rw [← E.dom, z]; exact List.mem_map.mpr ⟨_, hj, rfl⟩)
      obtain ⟨h1, d', h2, h3⟩ := E0.own j q hj
      exact ⟨by rw [List.getElem?_set_ne hij]; exact h1, d', by rw [List.getElem?_set_ne hij]; exact h2, h3.mono g List.not_mem_nil⟩
  · have hij : i ≠ j := fun z => hj (by rw [z]; exact List.mem_cons_self)
    rw [List.getElem?_set_ne hij] at hd ⊢
    obtain ⟨v, h1, h2⟩ := E0.sh j d' (fun z => hj (List.mem_cons_of_mem _ z)) hd
    exact ⟨v, h1, h2.mono g⟩
/-- x = e, e a new list: x owns it -/
theorem own_s {i : Nat} {D : Ends} {σ : L2.St} {H : Hp} (hΓ : Γ.contains i = false) (h : tDS X.K X.mg W Γ (i :: Γ) (sOwn i se) D σ H) : tDE X.K X.mg W Γ .fr se σ H fun x H1 => gName i x σ H1 D.nx := by
  obtain ⟨ρ, F, GO, E, h⟩ := h
  have hi' : i ∉ Γ := fun z => by rw [List.contains_iff_mem.mpr z] at hΓ; cases hΓ
  unfold sOwn at h
  refine ⟨ρ, F, GO, E, h.ofG.imp fun d _ h1 v H1 s1 r1 => ?_⟩
  cases d with
  | list ds =>
    obtain ⟨p, rfl, hp, ho⟩ := r1.2 ds rfl
    have h2 : FinS X.K X.mg W (i :: Γ) F GO H (if i < ρ.length then .ok (.nx (ρ.set i (some (.list ds)))) else .bad) D := h1
    split at h2
    · rename_i hl
      exact h2 _ H1 _ (E.setO s1 hi' hl hp ho) (.of_same s1) (fun b hb => by
        rcases List.mem_cons.mp hb with e | hb
        · subst e; exact .inr hp
        · exact .inl hb)
    · exact h2.elim
  | _ => exact h1.elim
theorem ds_own {i : Nat} {x : Str} (hN : X.N.Nodup) (hi : X.N[i]? = some x) (hx : Loc X.env.scope x) (hΓ : Γ.contains i = false) (he : DE X W Γ e .fr se) (hs : swapsWith e (some (.Name x p)) pos.line X.env = pure false := by kernel_rfl) (hff : X.fn x = true ∨ X.env.scope.names.lookup x = some .local := by first | exact .inl rfl | exact .inr rfl | assumption) :
    DS X W Γ (.Assign [.Name x p] e pos) (i :: Γ) (sOwn i se) :=
  ps_imp (ps_set hN hi hx he hs hff) fun D σ H h => own_s hΓ h
/-! x = [.. for ..] on one line -/
section
variable {elt iter : Expr} {ifs : List Expr} {scope : Scope} {own : List (Str × Nat)} {si : SI} {is : List Nat} {g : STg} {ct : SE}
theorem ds_setLc {i : Nat} {y : Str} {py : Pos} {spos : Pos} (hc : X.calm = true) (hN : X.N.Nodup) (hy : X.N[i]? = some y) (hyl : X.env.scope.names.lookup y = some .local) (hΓ : Γ.contains i = false)
    (hsw : swapsWith (.ListComp elt [⟨tg, iter, ifs, 0⟩] scope pos) (some (.Name y py)) spos.line X.env = pure true) (hi : DI X W Γ tg iter false si) (ok : BlkOk X.N X.env.scope scope own)
    (hown : (own.map (·.2)).all (fun i => !Γ.contains i) = true) (his : is.all (fun i => (own.map (·.2)).contains i) = true)
    (hg : ∀ (s : Shared) (H : Hp) (C : Addr) (cl : List (Str × Addr)) (fp : List Addr), DG (X.blk s H scope (compEnvC scope cl C X.env) fp) Γ tg is g)
    (ht : ∀ (s : Shared) (H : Hp) (C : Addr) (cl : List (Str × Addr)) (fp : List Addr), DTs (X.blk s H scope (compEnvC scope cl C X.env) fp) W0 Γ ifs ct)
    (he : ∀ (s : Shared) (H : Hp) (C : Addr) (cl : List (Str × Addr)) (fp : List Addr), DE (X.blk s H scope (compEnvC scope cl C X.env) fp) W0 Γ elt fl se) (hf : storable [fl] = true := by kernel_rfl)
    (hs : ∀ x, foldedSetIterable iter X.env x = pure x := by intro _; rfl) :
    DS X W Γ (.Assign [.Name y py] (.ListComp elt [⟨tg, iter, ifs, 0⟩] scope pos) spos) (i :: Γ) (sOwn i (eLc si g (own.map (·.2)) ct se)) :=
  ps_imp (ps_setLc (wi := tDI X.K X.mg W Γ false si) (g := tDG X.K Γ is g) (tt := tDT X.K X.mg W0 Γ ct) (te := tDE X.K X.mg W0 Γ fl se) hc hN hy hyl hsw hi ok (fun s H C cl fp => (hg s H C cl fp).1) ht he hs) fun D σ H h =>
    lc_s hown his hf (own_s hΓ h)
end
theorem ds_if {c : Expr} {A B : List Stmt} (hc : DT X W Γ c sc) (ha : DSs X W Γ A Γ1 a) (hb : DSs X W Γ B Γ1 b) : DS X W Γ (.If c A B pos) Γ1 (sIf sc a b) :=
  ps_imp (ps_if hc ha hb) fun D σ H h => by
    obtain ⟨ρ, F, GO, E, h⟩ := h
    unfold sIf at h
    refine ⟨ρ, F, GO, E, h.ofG.imp fun d _ h1 H1 s1 => ?_⟩
    cases q : tru d with
    | true =>
      rw [if_pos rfl]
      rw [q, if_pos rfl] at h1
      exact ⟨ρ, F, GO, E.mono s1, FinS.later (.of_same s1) same_new h1⟩
    | false =>
      rw [if_neg Bool.false_ne_true]
      rw [q, if_neg Bool.false_ne_true] at h1
      exact ⟨ρ, F, GO, E.mono s1, FinS.later (.of_same s1) same_new h1⟩
theorem ds_ret (he : DE X W Γ e fl se) (hf : storable [fl] = true := by kernel_rfl) : DS X W Γ (.Return (some e) pos) Γ' (sRet se) :=
  ps_imp (ps_ret he) fun D σ H h => by
    obtain ⟨ρ, F, GO, E, h⟩ := h
    unfold sRet at h
    refine ⟨ρ, F, GO, E, h.ofG.imp fun d _ h1 v H1 s1 r1 => ?_⟩
    exact h1 v H1 (.of_same s1) (Rp.mono (.sub_ (.refl H1) fun b hb => List.mem_append_right _ hb) (r1.stored hf))
theorem ds_expr (he : DE X W Γ e fl se) (hs : swapsWith e none pos.line X.env = pure false := by kernel_rfl) : DS X W Γ (.Expr e pos) Γ (sExpr se) :=
  ps_imp (ps_expr he hs) fun D σ H h => by
    obtain ⟨ρ, F, GO, E, h⟩ := h
    refine at_s F GO E h fun d v H1 s1 r1 E1 h1 => ?_
    exact h1 σ H1 GO E1 (.refl H1) same_new
theorem ds_raise {x : Str} {C : Addr} {e : Expr} {pos : Pos} (hc : X.calm = true) (tk : Takes X W) (hm : X.mg x = some (.ref C)) (he : PMk X e (fun _ H Q => Q (.ref C) none H)) : DS X W Γ (.Raise (some e) none pos) Γ' (sRaise x) :=
  ps_imp (ps_raise hc tk he) fun D σ H h => by
    obtain ⟨ρ, F, GO, E, h⟩ := h
    exact h C σ H hm (.refl H)
/-- nothing leaves a part of the body -/
theorem PS.nox {t : TS} (h : PS X.nox st t) : PS X st t := ⟨fun pins s σ H D I hw =>
  wpAny_mono (h.run pins s σ H D (I.wish _) hw) (fun _ _ q => q.unwish) fun _ _ z => False.elim z⟩
theorem ds_nox (h : DS X.nox W0 Γ st Γ' a) : DS X W Γ st Γ' (sNox a) := ps_imp (PS.nox h) fun D σ H h => by
  obtain ⟨ρ, F, GO, E, h⟩ := h
  refine ⟨ρ, F, GO, E, ?_⟩
  unfold sNox at h
  show FinS _ _ _ _ _ _ _ (a ρ) _
  cases q : a ρ with
  | ok o =>
    rw [q] at h
    cases o with
    | nx _ => exact h
    | rt _ => exact h
  | exc _ => rw [q] at h; exact h.elim
  | bad => rw [q] at h; exact h.elim
theorem news_trans {G G' G3 : List Addr} {H1 H H2 : Hp} (k : Keep G H1 H) (s2 : Same H H2) (n : ∀ b, b ∈ G' → b ∈ G ∨ H1 b = none) (n3 : ∀ b, b ∈ G3 → b ∈ G' ∨ H2 b = none) : ∀ b, b ∈ G3 → b ∈ G ∨ H1 b = none := fun b hb => by
  rcases n3 b hb with z | e
  · exact n b z
  · have e1 : H b = none := s2.free e
    cases q : H1 b with
    | none => exact .inr rfl
    | some o =>
      by_cases hb' : b ∈ G
      · exact .inl hb'
      · rw [k b o q fun z => absurd z hb'] at e1
        cases e1
theorem keep_trans3 {G G' : List Addr} {H1 H H2 H3 : Hp} (k : Keep G H1 H) (s2 : Same H H2) (n : ∀ b, b ∈ G' → b ∈ G ∨ H1 b = none) (k3 : Keep G' H2 H3) : Keep G H1 H3 :=
  (k.trans (.of_same s2) (G' := []) fun _ z => (List.not_mem_nil z).elim).trans k3 n
/-! loops -/
theorem ds_for {iter : Expr} {body : List Stmt} {si : SI} {g : STg} {is : List Nat} (hx : X.xe = fun _ _ => False) (hc : X.calm = true) (hi : DI X W0 Γ tg iter true si) (hg : DG X Γ tg is g) (hb : DSs X W0 Γ body Γ b)
    (hs : ∀ x, foldedSetIterable iter X.env x = pure x := by intro _; rfl) : DS X W0 Γ (.For tg iter body [] pos) Γ (sFor si g b) := by
  have hp : PassesOwn (model X.prog X.w) X.A X.env X.xe := by rw [hx]; exact PassesOwn.never
  refine ps_imp (ps_for hp hc hi hg.1 hb hs) fun D σ H0 h => ?_
  obtain ⟨ρ, F, GO, E, h⟩ := h
  unfold sFor at h
  refine ⟨ρ, F, GO, E, h.ofG.imp fun xs _ h J H1 s1 itd hlen => ?_⟩
  have h := FinS.later (GO1 := GO) (.of_same s1) same_new h
  refine ⟨fun i m σ H => i ≤ xs.length ∧ m = xs.length - i ∧ ∃ ρ' GO', EnvR X.K Γ F GO' σ H ρ' ∧ Keep (Ads GO) H1 H ∧ (∀ b, b ∈ Ads GO' → b ∈ Ads GO ∨ H1 b = none) ∧ FinS X.K X.mg W0 Γ F GO' H (forL g b (xs.drop i) ρ') D,
    ⟨xs.length, Nat.zero_le _, rfl, ρ, GO, E.mono s1, .refl H1, same_new, h⟩, ?_⟩
  rintro i m σ1 H ⟨hi, rfl, ρ', GO', E', k, n, h⟩
  have gr : Grow (Ads GO ++ F) (Ads GO ++ F) (Ads GO' ++ F) H1 H := ⟨keep_less (fun b hb => List.mem_append_left _ hb) k, fun b hb => hb, fun b hb => by
    rcases List.mem_append.mp hb with hb | hb
    · exact (n b hb).imp (fun z => List.mem_append_left _ z) id
    · exact .inl (List.mem_append_right _ hb)⟩
  obtain ⟨it1, it2⟩ := itd i H _ gr
  by_cases hlt : i < xs.length
  · refine .inr ?_
    obtain ⟨go, yld⟩ := it1 _ (List.getElem?_eq_getElem hlt)
    rw [List.drop_eq_getElem_cons hlt] at h
    refine ⟨go, fun σ' H' => ∃ ρ' GO', EnvR X.K Γ F GO' σ' H' ρ' ∧ Keep (Ads GO) H1 H' ∧ (∀ b, b ∈ Ads GO' → b ∈ Ads GO ∨ H1 b = none) ∧ FinS X.K X.mg W0 Γ F GO' H' (forL g b (xs.drop (i + 1)) ρ') D, fun σ' H' hw => ⟨xs.length - (i + 1), by omega, hlt, rfl, hw⟩, fun v H' hv => ?_⟩
    obtain ⟨s2, rv⟩ := yld v H' hv
    have h : FinS X.K X.mg W0 Γ F GO' H ((g xs[i] ρ').bind fun ρ1 => (b ρ1).bind fun o => andThen o (forL g b (xs.drop (i + 1)))) D := h
    refine ⟨ρ', F, GO', xs[i], E'.mono s2, rv, ?_⟩
    cases q1 : g xs[i] ρ' with
    | ok ρ1 =>
      rw [q1] at h
      have h : FinS X.K X.mg W0 Γ F GO' H ((b ρ1).bind fun o => andThen o (forL g b (xs.drop (i + 1)))) D := h
      have h := FinS.later (GO1 := GO') (.of_same s2) same_new h
      intro σ2 E2 _
      refine ⟨ρ1, F, GO', E2, ?_⟩
      show FinS _ _ _ _ _ _ _ (b ρ1) _
      cases q2 : b ρ1 with
      | ok o =>
        rw [q2] at h
        cases o with
        | nx ρ2 =>
          have h : FinS X.K X.mg W0 Γ F GO' H' (forL g b (xs.drop (i + 1)) ρ2) D := h
          exact fun σ3 H3 GO3 E3 k3 n3 => ⟨ρ2, GO3, E3, keep_trans3 k s2 n k3, news_trans k s2 n n3, FinS.later k3 n3 h⟩
        | rt d => exact h
      | exc c => rw [q2] at h; exact h
      | bad => rw [q2] at h; exact h
    | exc _ => exact absurd q1 (hg.2 _ _ _)
    | bad => rw [q1] at h; exact h.elim
  · refine .inl ⟨it2 (by omega), ?_⟩
    rw [List.drop_of_length_le (by omega)] at h
    exact h σ1 H GO' E' (.refl H) same_new
theorem ds_while {c : Expr} {body : List Stmt} (hx : X.xe = fun _ _ => False) (hc : DT X W0 Γ c sc) (hb : DSs X W0 Γ body Γ b) : DS X W0 Γ (.While c body [] pos) Γ (sWhile sc b) := by
  have hp : PassesOwn (model X.prog X.w) X.A X.env X.xe := by rw [hx]; exact PassesOwn.never
  refine ps_imp (ps_while hp hc hb) fun D σ H1 h => ?_
  obtain ⟨ρ, F, GO, E, h⟩ := h
  unfold sWhile at h
  refine ⟨fun m σ H => ∃ ρ' GO', EnvR X.K Γ F GO' σ H ρ' ∧ Keep (Ads GO) H1 H ∧ (∀ b, b ∈ Ads GO' → b ∈ Ads GO ∨ H1 b = none) ∧ FinS X.K X.mg W0 Γ F GO' H (whileF sc b m ρ') D,
    ⟨fuel, ρ, GO, E, .refl H1, same_new, h⟩, ?_⟩
  rintro m σ1 H ⟨ρ', GO', E', k, n, h⟩
  cases m with
  | zero => exact h.elim
  | succ m =>
    have h : FinS X.K X.mg W0 Γ F GO' H ((sc ρ').bind fun x => if tru x then (b ρ').bind fun o => andThen o (whileF sc b m) else .ok (.nx ρ')) D := h
    refine ⟨ρ', F, GO', E', h.ofG.imp fun d _ h H2 s2 => ?_⟩
    have h := FinS.later (GO1 := GO') (.of_same s2) same_new h
    cases q : tru d with
    | true =>
      refine iteT ?_
      rw [q, if_pos rfl] at h
      refine ⟨fun σ' H' => ∃ ρ' GO', EnvR X.K Γ F GO' σ' H' ρ' ∧ Keep (Ads GO) H1 H' ∧ (∀ b, b ∈ Ads GO' → b ∈ Ads GO ∨ H1 b = none) ∧ FinS X.K X.mg W0 Γ F GO' H' (whileF sc b m ρ') D, fun σ' H' hw => ⟨m, Nat.lt_succ_self m, hw⟩, ρ', F, GO', E'.mono s2, ?_⟩
      show FinS _ _ _ _ _ _ _ (b ρ') _
      cases q2 : b ρ' with
      | ok o =>
        rw [q2] at h
        cases o with
        | nx ρ2 =>
          have h : FinS X.K X.mg W0 Γ F GO' H2 (whileF sc b m ρ2) D := h
          exact fun σ3 H3 GO3 E3 k3 n3 => ⟨ρ2, GO3, E3, keep_trans3 k s2 n k3, news_trans k s2 n n3, FinS.later k3 n3 h⟩
        | rt d => exact h
      | exc c => rw [q2] at h; exact h
      | bad => rw [q2] at h; exact h
    | false =>
      refine iteF ?_
      rw [q, if_neg Bool.false_ne_true] at h
      exact h σ1 H2 GO' (E'.mono s2) (.refl H2) same_new
end
end DL
set_option Elab.async false
set_option linter.all false
set_option maxRecDepth 100000
namespace DL
open PySem PySem.Spec PyProof.Rows L2

/-! ### own lists changed -/
section
variable {X : Cx} {W : WX} {Γ Γ' : List Nat} {e k : Expr} {fl fk : Fl} {se sk : SE} {pos p p2 : Pos}
/-- the object of an own slot is written -/
theorem EnvR.write {K : PySem.W.Frag} {F : List Addr} {GO : List (Nat × Addr)} {σ : L2.St} {H : Hp} {ρ : Ev} (E : EnvR K Γ F GO σ H ρ) {i : Nat} {q : Addr} (hi : (i, q) ∈ GO) {o : HO} {d : Da} (h : Own K (upd H q o) (Ads GO ++ F) q d) : EnvR K Γ F GO σ (upd H q o) (ρ.set i (some d)) ∧ Keep (Ads GO) H (upd H q o) := by
  have hq : q ∈ Ads GO := List.mem_map.mpr ⟨_, hi, rfl⟩
  have kq : Keep [q] H (upd H q o) := fun b u e hb => by
    by_cases z : b = q
    · subst z
      obtain ⟨_, d', _, h3⟩ := E.own i b hi
      obtain ⟨u', e', m⟩ := h3.mut
      rw [e] at e'
      cases e'
      rw [hb List.mem_cons_self] at m
      cases m
    · rw [upd_ne z]; exact e
  have sub : ∀ b, b ∈ [q] → b ∈ Ads GO ++ F := fun b hb => by
    rw [List.mem_singleton] at hb
    subst hb
    exact List.mem_append_left _ hq
  have g : Grow [q] (Ads GO ++ F) (Ads GO ++ F) H (upd H q o) := ⟨kq, sub, fun b hb => .inl hb⟩
  have hl : i < ρ.length := by
    obtain ⟨_, d', h2, _⟩ := E.own i q hi
    exact (List.getElem?_eq_some_iff.mp h2).1
  have uniq : ∀ j r, (j, r) ∈ GO → r = q → j = i := fun j r hj e => by
    subst e
    obtain ⟨i1, hi1, e1⟩ := List.mem_iff_getElem.mp hi
    obtain ⟨i2, hi2, e2⟩ := List.mem_iff_getElem.mp hj
    have a1 : (Ads GO)[i1]? = some r := by rw [List.getElem?_map, List.getElem?_eq_getElem hi1, e1]; rfl
    have a2 : (Ads GO)[i2]? = some r := by rw [List.getElem?_map, List.getElem?_eq_getElem hi2, e2]; rfl
    have q12 : i1 = i2 := by
      obtain ⟨b1, c1⟩ := List.getElem?_eq_some_iff.mp a1
      obtain ⟨b2, c2⟩ := List.getElem?_eq_some_iff.mp a2
      exact (List.getElem_inj E.inj).mp (c1.trans c2.symm)
    subst q12
    rw [e1] at e2
    exact (congrArg Prod.fst e2).symm
  refine ⟨⟨by rw [List.length_set, E.len], E.dom, E.inj, E.dis, fun b hb z => ?_, fun j r hj => ?_, fun j d' hj hd => ?_⟩, fun b u e hb => kq b u e fun z => hb (by rw [List.mem_singleton] at z; subst z; exact hq)⟩
  · by_cases e : b = q
    · subst e; rw [upd_same] at z; cases z
    · rw [upd_ne e] at z; exact E.frn b hb z
  · obtain ⟨h1, d', h2, h3⟩ := E.own j r hj
    by_cases e : j = i
    · subst e
      have er : r = q := by
        obtain ⟨g1, _⟩ := E.own j q hi
        rw [h1] at g1
        cases g1
        rfl
      subst er
      exact ⟨h1, d, List.getElem?_set_self hl, h⟩
    · have er : r ≠ q := fun z => e (uniq j r hj z)
      exact ⟨h1, d', by rw [List.getElem?_set_ne fun z => e z.symm]; exact h2, h3.mono g fun z => er (by simpa using z)⟩
  · have hij : i ≠ j := fun z => hj (by rw [← E.dom, ← z]; exact List.mem_map.mpr ⟨_, hi, rfl⟩)
    rw [List.getElem?_set_ne hij] at hd
    obtain ⟨v, h1, h2⟩ := E.sh j d' hj hd
    exact ⟨v, h1, h2.mono g⟩
/-- the own list of a slot -/
theorem EnvR.ownL {K : PySem.W.Frag} {F : List Addr} {GO : List (Nat × Addr)} {σ : L2.St} {H : Hp} {ρ : Ev} (E : EnvR K Γ F GO σ H ρ) {i : Nat} (hi : Γ.contains i = true) : ∃ q d, (i, q) ∈ GO ∧ σ[i]? = some (some (.ref q)) ∧ ρ[i]? = some (some d) ∧ Own K H (Ads GO ++ F) q d := by
  have hi' := List.contains_iff_mem.mp hi
  rw [← E.dom] at hi'
  obtain ⟨⟨j, q⟩, hq, rfl⟩ := List.mem_map.mp hi'
  obtain ⟨h1, d, h2, h3⟩ := E.own j q hq
  exact ⟨q, d, hq, h1, h2, h3⟩
/-- x.append(e) -/
theorem ds_append {i : Nat} {x : Str} {apos cpos : Pos} (hN : X.N[i]? = some x) (hv : Vis X.env.scope x) (hΓ : Γ.contains i = true) (he : DE X W Γ e fl se) (hf : storable [fl] = true := by kernel_rfl)
    (hd : (x == ("__debug__" : Str)) = false := by decide) (hcd : (x == ("__classdict__" : Str)) = false := by decide)
    (hs : starEach [e] X.env = (false, eval e X.env) :: starEach [] X.env := by kernel_rfl) (hsw : swapsWith (.Call (.Attribute (.Name x p) "append" apos) [e] [] cpos) none pos.line X.env = pure false := by kernel_rfl)
    (hb : attributeBase (.Name x p) "append" X.env (eval (.Name x p) X.env) = eval (.Name x p) X.env := by kernel_rfl) (hl : (apos.endLine == cpos.line) = true := by kernel_rfl)
    (hfew : ((backTo cpos (starEach [e] X.env)).all (!·.1) && (backToKw cpos (keywordEach [] X.env)).all (·.1.isSome) && decide ([e].length + ([] : List Keyword).length + (if ([] : List Keyword).isEmpty then 0 else 1) < 30)) = true := by kernel_rfl) :
    DS X W Γ (.Expr (.Call (.Attribute (.Name x p) "append" apos) [e] [] cpos) pos) Γ (sAppend i se) :=
  ps_imp (ps_expr (pe_bm PySem.F.plainAttrs_list PySem.F.slot_list_append PySem.F.type_list_append mt_append (pe_var (i := i) hN hv hd hcd) (pa_cons he pa_nil hs) hb hfew hl hs) hsw) fun D σ H h => by
    obtain ⟨ρ, F, GO, E, h⟩ := h
    obtain ⟨q, d0, hq, h1, h2, h3⟩ := E.ownL hΓ
    cases d0 with
    | list ds =>
      obtain ⟨vs0, g1, _, _⟩ := id h3
      refine ⟨.ref q, h1, .inl ⟨rfl, _, .inl (.inl g1)⟩, ?_⟩
      unfold sAppend at h
      refine at_s F GO E h fun d v H1 s1 r1 E1 h4 => ?_
      obtain ⟨q', d1, hq', k1, k2, k3⟩ := E1.ownL hΓ
      have eq' : q' = q := by rw [h1] at k1; cases k1; rfl
      subst eq'
      unfold updE at h4
      rw [k2] at h4
      cases d1 with
      | list ds1 =>
        obtain ⟨vs, g1, g2, g3⟩ := k3
        have h5 : FinS X.K X.mg W Γ F GO H1 ((if ds1.length < big then R.ok (PyData.list (ds1 ++ [d])) else .bad).bind fun d' => .ok (.nx (ρ.set i (some d')))) D := h4
        split at h5
        · rename_i hlt
          refine ⟨q', vs, v, rfl, rfl, g1, by rw [g2.length]; exact Nat.lt_of_lt_of_le hlt (big_le (Nat.le_refl _)), ?_⟩
          have rv := r1.stored hf
          have kq : Keep [q'] H1 (upd H1 q' (.lst (vs ++ [v]))) := fun b u e hb => by
            by_cases z : b = q'
            · subst z
              rw [g1] at e
              cases e
              cases hb List.mem_cons_self
            · rw [upd_ne z]; exact e
          have g : Grow [q'] (Ads GO ++ F) (Ads GO ++ F) H1 (upd H1 q' (.lst (vs ++ [v]))) := ⟨kq, fun b hb => by
            rw [List.mem_singleton] at hb
            subst hb
            exact List.mem_append_left _ (List.mem_map.mpr ⟨_, hq', rfl⟩), fun b hb => .inl hb⟩
          obtain ⟨E2, K2⟩ := E1.write hq' (o := .lst (vs ++ [v])) (d := .list (ds1 ++ [d])) ⟨_, upd_same, (g2.append (.cons rv .nil)).mono g, by rw [List.length_append, List.length_singleton]; exact hlt⟩
          exact h5 σ _ GO E2 K2 same_new
        · exact h5.elim
      | _ => exact k3.elim
    | _ => exact h3.elim
theorem ixD_N (n : Nat) (i : Int) : ixD n i = ixN n i := rfl
/-- x[k] = e -/
theorem ds_setI {i : Nat} {x : Str} {tpos : Pos} (hN : X.N[i]? = some x) (hv : Vis X.env.scope x) (hΓ : Γ.contains i = true) (he : DE X W Γ e fl se) (hk : DE X W Γ k fk sk) (hf : storable [fl] = true := by kernel_rfl)
    (hd : (x == ("__debug__" : Str)) = false := by decide) (hcd : (x == ("__classdict__" : Str)) = false := by decide)
    (ha : ∀ v, assign (.Subscript (.Name x p) k tpos) X.env v = (do
      let ov ← holding [v] (eval (.Name x p) X.env)
      let iv ← holding [v, ov] (eval k X.env)
      standAt tpos
      holding [v, ov, iv] (setItem ov iv v)
      release [v, ov, iv] []) := by intro _; rfl)
    (hs : swapsWithSole [.Subscript (.Name x p) k tpos] e pos.line X.env = pure false := by kernel_rfl) (hw : swappedStores [.Subscript (.Name x p) k tpos] e X.env = pure none := by kernel_rfl)
    (h1 : (assignEach [.Subscript (.Name x p) k tpos] X.env).map (·.2) = [assign (.Subscript (.Name x p) k tpos) X.env] := by kernel_rfl) :
    DS X W Γ (.Assign [.Subscript (.Name x p) k tpos] e pos) Γ (sSet i sk se) :=
  ps_imp (ps_asg he (pg_sub (pe_var (i := i) hN hv hd hcd) hk set_list ha) hs hw h1) fun D σ H h => by
    obtain ⟨ρ, F, GO, E, h⟩ := h
    unfold sSet at h
    refine at_s F GO E h fun d v H1 s1 r1 E1 h4 => ?_
    obtain ⟨q, d0, hq, k1, k2, k3⟩ := E1.ownL hΓ
    refine ⟨.ref q, k1, ?_⟩
    refine at_s F GO E1 h4 fun j w H2 s2 r2 E2 h5 => ?_
    obtain ⟨q', d1, hq', k1', k2', k3'⟩ := E2.ownL hΓ
    have eq' : q' = q := by rw [k1] at k1'; cases k1'; rfl
    subst eq'
    unfold updE at h5
    rw [k2'] at h5
    cases d1 with
    | list ds1 =>
      obtain ⟨vs, g1, g2, g3⟩ := k3'
      have h6 : FinS X.K X.mg W Γ F GO H2 (((toI j).bind fun ii => (oR (ixD ds1.length ii)).bind fun jj => R.ok (PyData.list (ds1.set jj d))).bind fun d' => .ok (.nx (ρ.set i (some d')))) D := h5
      cases j with
      | int ii =>
        cases r2.int
        have h6 : FinS X.K X.mg W Γ F GO H2 (((oR (ixD ds1.length ii)).bind fun jj => R.ok (PyData.list (ds1.set jj d))).bind fun d' => .ok (.nx (ρ.set i (some d')))) D := h6
        cases q2 : ixD ds1.length ii with
        | none => rw [q2] at h6; exact h6.elim
        | some jj =>
          rw [q2] at h6
          have h7 : FinS X.K X.mg W Γ F GO H2 (.ok (.nx (ρ.set i (some (.list (ds1.set jj d)))))) D := h6
          have rv := r1.stored hf
          refine ⟨q', vs, ii, jj, rfl, rfl, g1, by rw [g2.length]; exact q2, ?_⟩
          have kq : Keep [q'] H2 (upd H2 q' (.lst (vs.set jj v))) := fun b u e hb => by
            by_cases z : b = q'
            · subst z
              rw [g1] at e
              cases e
              cases hb List.mem_cons_self
            · rw [upd_ne z]; exact e
          have g : Grow [q'] (Ads GO ++ F) (Ads GO ++ F) H2 (upd H2 q' (.lst (vs.set jj v))) := ⟨kq, fun b hb => by
            rw [List.mem_singleton] at hb
            subst hb
            exact List.mem_append_left _ (List.mem_map.mpr ⟨_, hq', rfl⟩), fun b hb => .inl hb⟩
          obtain ⟨E3, K3⟩ := E2.write hq' (o := .lst (vs.set jj v)) (d := .list (ds1.set jj d)) ⟨_, upd_same, (RpAll.set (rv.mono (.same s2)) jj g2).mono g, by rw [List.length_set]; exact g3⟩
          exact h7 σ _ GO E3 K3 same_new
      | _ => exact h6.elim
    | _ => exact k3'.elim
/-- x op= e, x a plain local -/
theorem ds_aug {i : Nat} {x : Str} {op : Operator} {ti : R2} {f : Da → Da → R Da} (hN : X.N.Nodup) (hi : X.N[i]? = some x) (hx : Loc X.env.scope x) (hΓ : Γ.contains i = false) (he : DE X W Γ e fl se) (ho : PIp X op ti) (hs : OpS X ti .fr f) (hff : X.fn x = true ∨ X.env.scope.names.lookup x = some .local := by first | exact .inl rfl | exact .inr rfl | assumption) :
    DS X W Γ (.AugAssign (.Name x p) op e pos) Γ (sAsg (gVar i) (e2 f (eVar i) se)) :=
  ps_imp (ps_aug hN hi hx he ho hff) fun D σ H h => by
    obtain ⟨ρ, F, GO, E, h⟩ := h
    have hi' : i ∉ Γ := fun z => by rw [List.contains_iff_mem.mpr z] at hΓ; cases hΓ
    have h0 : FinS X.K X.mg W Γ F GO H (((vGet ρ[i]?).bind fun x => (se ρ).bind fun y => f x y).bind fun d => .ok (.nx (ρ.set i (some d)))) D := h
    cases q : ρ[i]? with
    | none => rw [q] at h0; exact h0.elim
    | some o =>
      rw [q] at h0
      cases o with
      | none => exact h0.elim
      | some d0 =>
        obtain ⟨v, h1, h2⟩ := E.sh i d0 hi' q
        have h3 : FinS X.K X.mg W Γ F GO H ((se ρ).bind fun y => (f d0 y).bind fun d => .ok (.nx (ρ.set i (some d)))) D := by
          cases q2 : se ρ with
          | ok y => rw [q2] at h0; exact h0
          | exc c => rw [q2] at h0; exact h0
          | bad => rw [q2] at h0; exact h0
        refine ⟨v, h1, at_s F GO E h3 fun d w H1 s1 r1 E1 h4 => ?_⟩
        refine hs X.mg W σ (Ads GO ++ F) H1 H1 v w d0 d _ E1.fresh (.inl (h2.mono (.same s1))) r1.bo (h4.ofG.imp fun d2 _ h5 v2 H2 s2 r2 => ?_)
        exact h5 _ H2 GO ((E1.mono s2).setS hi' r2.1) (.of_same s2) same_new
theorem pip_add : PIp X .Add (rI0 fun i j => .int (i + j)) := ip_add
theorem pip_sub : PIp X .Sub (rI0 fun i j => .int (i - j)) := ip_sub
theorem os_addI : OpS X (rI0 fun i j => .int (i + j)) .fr addI := by
  intro mg W σ O H0 H x y a b Q nw hx hy h
  unfold addI at h
  split at h
  · cases hx.int; cases hy.int
    exact ⟨_, _, rfl, rfl, PE_.flat h (.int _) rfl⟩
  · exact h.elim
end

/-! ### raise X() -/
section
variable {X : Cx} {C : Addr} {bmB : List Value} {B newId initId : String}
theorem pmk_own0 {x : Str} {p pos : Pos} (F : ExcBaseFacts B newId initId bmB) (q : PySem.W.excIn X.K C bmB newId = true) (gC : X.mg x = some (.ref C)) (kC : PySem.W.keepIn X.K (.ref C) = true) (r : Raises X (.ref C)) (hg : Gl X x)
    (hdb : (x == ("__debug__" : Str)) = false := by decide) : PMk X (.Call (.Name x p) [] [] pos) (fun _ H Q => Q (.ref C) none H) := by
  intro pins s σ H Q I h
  refine wpAny_Call_Name_kw (ld_glob I hg gC ?_ hdb)
  refine PySem.W.callWith_K0 I.kIn kC ?_
  obtain ⟨bm, N, nm, qn, bs, hdct, sn, sub, ab, col, dd, k0, k1, k2, k3, k5, mN, hC, hN, hni, T⟩ := exc_obj I.kIn q
  refine wpAny_call_exc_subT F T hC hN hni (fun h' e hm => ?_) (by show 0 ≤ sizeLine; exact Nat.zero_le _)
  exact mk_of I hm r h (I.hok.gone hm.new)
end

/-! ### a def -/
section
variable {P : Program} {w : World} {K : PySem.W.Frag} {mg : MG} {base : Heap}
theorem env_start {H : Hp} {O : List Addr} {vs : List V} {ds : List Da} (r : RpAll K H O vs ds) (a : ∀ b, b ∈ O → H b ≠ none) (N : List Str) : EnvR K [] O [] (L2.start N vs) H (ds.map some ++ List.replicate (N.length - ds.length) none) where
  len := by unfold L2.start; rw [List.length_append, List.length_append, List.length_map, List.length_map, List.length_replicate, List.length_replicate, r.length]
  dom := rfl
  inj := List.Pairwise.nil
  dis := fun p hp => (List.not_mem_nil hp).elim
  frn := a
  own := fun i p hp => (List.not_mem_nil hp).elim
  sh := fun i d _ hd => by
    have hl : i < ds.length := by
      by_cases hl : i < ds.length
      · exact hl
      · rw [List.getElem?_append_right (by rw [List.length_map]; omega), List.getElem?_replicate] at hd
        split at hd <;> cases hd
    rw [List.getElem?_append_left (by rw [List.length_map]; exact hl), List.getElem?_map] at hd
    cases q : ds[i]? with
    | none => rw [q] at hd; cases hd
    | some d' =>
      rw [q] at hd
      cases hd
      obtain ⟨v, h1, h2⟩ := r.get q
      refine ⟨v, ?_, h2⟩
      unfold L2.start
      rw [List.getElem?_append_left (by rw [List.length_map, r.length]; exact hl), List.getElem?_map, h1]
      rfl
/-- THE RULE for a def: its body's reading is a plain function -/
theorem okF {x qual : Str} {params : Arguments} {body : List Stmt} {scope : Scope} {f : Addr} {fd : FuncData} {N ps : List Str} {k n : Nat} {Γ' : List Nat} {b : SS} {g : List Da → R Da} (F : FunD K x qual params body scope [] [] f fd) (S : FnScope N ps scope) (hn : ps.length = n)
    (hbody : ∀ (cdv : Value) (A : Around) (outer : List Env) (s : Shared) (H : Hp) (E : XK), Room k (A.deeper (envOfC qual scope s.heap.objs.size f cdv)) → DSs (cxOf (L2.CX P w) P w K mg base N qual scope f cdv A outer s H E) (fun cls d _ H => E cls d H) [] body Γ' b)
    (hg : g = runDef N.length b) : FnOk P w K mg base (L2.CX P w) (k + 1) f fd ps (spD K mg n g) := by
  subst hn hg
  refine F.ok S (fun vs H Q E h => h.1) (fun cdv A outer s H vs Q E hr h => ⟨_, hbody cdv A outer s H E hr, ?_⟩)
  obtain ⟨hl, ds, O, al, r, h⟩ := h
  refine ⟨_, O, [], env_start r al N, ?_⟩
  unfold runDef at h
  show FinS K mg _ Γ' O [] H (b (ds.map some ++ List.replicate (N.length - ds.length) none)) _
  cases q : b (ds.map some ++ List.replicate (N.length - ds.length) none) with
  | ok o =>
    rw [q] at h
    cases o with
    | nx ρ' => exact fun σ' H' GO' E' k n => h .non H' k.nil .non
    | rt d => exact fun v H' k r' => h v H' k.nil r'
  | exc c =>
    rw [q] at h
    exact fun C σ' H' hc k => h C H' hc k.nil
  | bad => rw [q] at h; exact h.elim
theorem okD {x qual : Str} {params : Arguments} {body : List Stmt} {scope : Scope} {f : Addr} {fd : FuncData} {N ps : List Str} {k n : Nat} {Γ' : List Nat} {b : SS} {g : List Da → R Da} (F : FunD K x qual params body scope [] [] f fd) (S : FnScope N ps scope) (hn : ps.length = n)
    (hb : ∀ (kV doc pm : Value) (an : Option Addr) (cdv ct : Value) (us : List Value), us.length = ps.length → bindArgs (PySem.W.fnOf x qual params body scope .none kV doc pm an cdv ct) ⟨us, []⟩ = pure (ps.zip us)) (hm : mg x = some (.ref f))
    (hbody : ∀ (cdv : Value) (A : Around) (outer : List Env) (s : Shared) (H : Hp) (E : XK), Room k (A.deeper (envOfC qual scope s.heap.objs.size f cdv)) → DSs (cxOf (L2.CX P w) P w K mg base N qual scope f cdv A outer s H E) (fun cls d _ H => E cls d H) [] body Γ' b)
    (hg : g = runDef N.length b) : FnD P w K mg base x (k + 1) n g :=
  ⟨f, fd, ps, okF F S hn hbody hg, hm, F.kp, F.bindsN hb⟩
end
end DL
set_option Elab.async false
set_option linter.all false
set_option maxRecDepth 100000
namespace DL
open PySem PySem.Spec PyProof.Rows L2

theorem s63a (k : Int) (h : k.natAbs < 9223372036854775808) : -(2 ^ 63) ≤ k := by omega
theorem s63b (k : Int) (h : k.natAbs < 9223372036854775808) : k < 2 ^ 63 := by omega
/-! ### short words for the printed terms -/
section
variable {X : Cx} {W : WX} {Γ Γ' Γ1 : List Nat} {e a b c d : Expr} {es : List Expr} {fls : List Fl} {fl fa fb fc : Fl} {se sa sb sc : SE} {pos p p2 p3 : Pos}
theorem u64 {k : Nat} {A : Around} (h : Room k A) : A.units + 64 < cLine := h.units
theorem u65 {k : Nat} {A : Around} (h : Room k A) : A.units + 65 < cLine := by have := h.un; omega
theorem de_len (m : X.mg "len" = none) (he : DE X W Γ e fl se) (hg : Gl X "len" := by show _ = _; kernel_rfl) (h1 : starEach [e] X.env = (false, eval e X.env) :: starEach [] X.env := by kernel_rfl) (h2 : (backTo pos (starEach [] X.env)).any (·.1) = false := by kernel_rfl) : DE X W Γ (.Call (.Name "len" p) [e] [] pos) .fr (eA dLen (aCons se aNil)) :=
  de_callB call_len_seq cs_len hg m boot_len (da_cons he da_nil h1) (by decide) (by decide) h1 h2
theorem de_abs (m : X.mg "abs" = none) (he : DE X W Γ e fl se) (hg : Gl X "abs" := by show _ = _; kernel_rfl) (h1 : starEach [e] X.env = (false, eval e X.env) :: starEach [] X.env := by kernel_rfl) (h2 : (backTo pos (starEach [] X.env)).any (·.1) = false := by kernel_rfl) : DE X W Γ (.Call (.Name "abs" p) [e] [] pos) .fr (eA dAbs (aCons se aNil)) :=
  de_callB call_abs cs_abs hg m boot_abs (da_cons he da_nil h1) (by decide) (by decide) h1 h2
theorem de_minL (hc : X.calm = true) (m : X.mg "min" = none) (he : DE X W Γ e fl se) (hg : Gl X "min" := by show _ = _; kernel_rfl) (h1 : starEach [e] X.env = (false, eval e X.env) :: starEach [] X.env := by kernel_rfl) (h2 : (backTo pos (starEach [] X.env)).any (·.1) = false := by kernel_rfl) : DE X W Γ (.Call (.Name "min" p) [e] [] pos) .fr (eA dMinL (aCons se aNil)) :=
  de_callB (cr_min hc) cs_min hg m boot_min (da_cons he da_nil h1) (by decide) (by decide) h1 h2
theorem de_maxL (hc : X.calm = true) (m : X.mg "max" = none) (he : DE X W Γ e fl se) (hg : Gl X "max" := by show _ = _; kernel_rfl) (h1 : starEach [e] X.env = (false, eval e X.env) :: starEach [] X.env := by kernel_rfl) (h2 : (backTo pos (starEach [] X.env)).any (·.1) = false := by kernel_rfl) : DE X W Γ (.Call (.Name "max" p) [e] [] pos) .fr (eA dMaxL (aCons se aNil)) :=
  de_callB (cr_max hc) cs_max hg m boot_max (da_cons he da_nil h1) (by decide) (by decide) h1 h2
theorem de_all (hc : X.calm = true) (m : X.mg "all" = none) (he : DE X W Γ e fl se) (hg : Gl X "all" := by show _ = _; kernel_rfl) (h1 : starEach [e] X.env = (false, eval e X.env) :: starEach [] X.env := by kernel_rfl) (h2 : (backTo pos (starEach [] X.env)).any (·.1) = false := by kernel_rfl) : DE X W Γ (.Call (.Name "all" p) [e] [] pos) .fr (eA dAll (aCons se aNil)) :=
  de_callB (cr_all hc) cs_all hg m boot_all (da_cons he da_nil h1) (by decide) (by decide) h1 h2
theorem de_any (hc : X.calm = true) (m : X.mg "any" = none) (he : DE X W Γ e fl se) (hg : Gl X "any" := by show _ = _; kernel_rfl) (h1 : starEach [e] X.env = (false, eval e X.env) :: starEach [] X.env := by kernel_rfl) (h2 : (backTo pos (starEach [] X.env)).any (·.1) = false := by kernel_rfl) : DE X W Γ (.Call (.Name "any" p) [e] [] pos) .fr (eA dAny (aCons se aNil)) :=
  de_callB (cr_any hc) cs_any hg m boot_any (da_cons he da_nil h1) (by decide) (by decide) h1 h2
theorem de_int1 (m : X.mg "int" = none) (he : DE X W Γ e fl se) (hg : Gl X "int" := by show _ = _; kernel_rfl) (h1 : starEach [e] X.env = (false, eval e X.env) :: starEach [] X.env := by kernel_rfl) (h2 : (backTo pos (starEach [] X.env)).any (·.1) = false := by kernel_rfl) : DE X W Γ (.Call (.Name "int" p) [e] [] pos) .fr (eA dInt (aCons se aNil)) :=
  de_callTy call_int1 cs_int hg m boot_int (da_cons he da_nil h1) (by decide) (by decide) h1 h2
theorem de_tuple (m : X.mg "tuple" = none) (he : DE X W Γ e fl se) (hg : Gl X "tuple" := by show _ = _; kernel_rfl) (h1 : starEach [e] X.env = (false, eval e X.env) :: starEach [] X.env := by kernel_rfl) (h2 : (backTo pos (starEach [] X.env)).any (·.1) = false := by kernel_rfl) : DE X W Γ (.Call (.Name "tuple" p) [e] [] pos) .fr (eA dTuple (aCons se aNil)) :=
  de_callTy call_tuple_of cs_tuple hg m boot_tuple (da_cons he da_nil h1) (by decide) (by decide) h1 h2
theorem de_list (m : X.mg "list" = none) (he : DE X W Γ e fl se) (hg : Gl X "list" := by show _ = _; kernel_rfl) (h1 : starEach [e] X.env = (false, eval e X.env) :: starEach [] X.env := by kernel_rfl) (h2 : (backTo pos (starEach [] X.env)).any (·.1) = false := by kernel_rfl) : DE X W Γ (.Call (.Name "list" p) [e] [] pos) .fr (eA dList (aCons se aNil)) :=
  de_callTy call_list_of cs_list hg m boot_list (da_cons he da_nil h1) (by decide) (by decide) h1 h2
theorem de_min2 (hc : X.calm = true) (m : X.mg "min" = none) (ha : DE X W Γ a fa sa) (hb : DE X W Γ b fb sb) (hg : Gl X "min" := by show _ = _; kernel_rfl) (h1 : starEach [a, b] X.env = (false, eval a X.env) :: starEach [b] X.env := by kernel_rfl) (h2 : starEach [b] X.env = (false, eval b X.env) :: starEach [] X.env := by kernel_rfl) (h3 : (backTo pos (starEach [b] X.env)).any (·.1) = false := by kernel_rfl) : DE X W Γ (.Call (.Name "min" p) [a, b] [] pos) .fr (eA dMin2 (aCons sa (aCons sb aNil))) :=
  de_callB (call_min2 hc) cs_min2 hg m boot_min (da_cons ha (da_cons hb da_nil h2) h1) (by decide) (by decide) h1 h3
theorem de_max2 (hc : X.calm = true) (m : X.mg "max" = none) (ha : DE X W Γ a fa sa) (hb : DE X W Γ b fb sb) (hg : Gl X "max" := by show _ = _; kernel_rfl) (h1 : starEach [a, b] X.env = (false, eval a X.env) :: starEach [b] X.env := by kernel_rfl) (h2 : starEach [b] X.env = (false, eval b X.env) :: starEach [] X.env := by kernel_rfl) (h3 : (backTo pos (starEach [b] X.env)).any (·.1) = false := by kernel_rfl) : DE X W Γ (.Call (.Name "max" p) [a, b] [] pos) .fr (eA dMax2 (aCons sa (aCons sb aNil))) :=
  de_callB (call_max2 hc) cs_max2 hg m boot_max (da_cons ha (da_cons hb da_nil h2) h1) (by decide) (by decide) h1 h3
theorem de_gcd (m : X.mg "gcd" = some (.builtin "math.gcd")) (ha : DE X W Γ a fa sa) (hb : DE X W Γ b fb sb) (hg : Gl X "gcd" := by show _ = _; kernel_rfl) (h1 : starEach [a, b] X.env = (false, eval a X.env) :: starEach [b] X.env := by kernel_rfl) (h2 : starEach [b] X.env = (false, eval b X.env) :: starEach [] X.env := by kernel_rfl) (h3 : (backTo pos (starEach [b] X.env)).any (·.1) = false := by kernel_rfl) : DE X W Γ (.Call (.Name "gcd" p) [a, b] [] pos) .fr (eA dGcd (aCons sa (aCons sb aNil))) :=
  de_callG cr_gcd cs_gcd hg m (da_cons ha (da_cons hb da_nil h2) h1) (by decide) h1 h3
theorem de_isiT (T : Ty) (x : Str) (hx : x = T.nm) (m : X.mg "isinstance" = none) (m2 : X.mg x = none) (he : DE X W Γ e fl se) (hv2 : bootBuiltins x = some (.type T.nm)) (hn2 : x ≠ "__name__" := by decide) (hd2 : (x == ("__debug__" : Str)) = false := by decide) (hg : Gl X "isinstance" := by show _ = _; kernel_rfl) (hg2 : Gl X x := by show _ = _; kernel_rfl)
    (hs1 : starEach [e, .Name x p2] X.env = (false, eval e X.env) :: starEach [.Name x p2] X.env := by kernel_rfl) (hs2 : starEach [.Name x p2] X.env = (false, eval (.Name x p2) X.env) :: starEach [] X.env := by kernel_rfl) (hpl : (backTo pos (starEach [.Name x p2] X.env)).any (·.1) = false := by kernel_rfl) :
    DE X W Γ (.Call (.Name "isinstance" p) [e, .Name x p2] [] pos) .fr (e1 (dIsi T) se) := by
  subst hx
  exact de_isi T he hg m hg2 m2 hv2 hn2 hd2 hs1 hs2 hpl
/-! tests that compare -/
theorem dt_val {f : Da → R Da} (h : PE X e (tDE X.K X.mg W Γ fl se)) (h2 : PT X e (tB (tDE X.K X.mg W Γ fl se))) (bl : ∀ ρ z, se ρ = .ok z → ∃ k, z = .bool k) : DT X W Γ e se :=
  pt_imp h2 fun σ H Q h => by
    obtain ⟨ρ, F, GO, E, h⟩ := h
    refine ⟨ρ, F, GO, E, h.imp fun d e q v H1 s1 r1 => ?_⟩
    obtain ⟨k, rfl⟩ := bl _ _ e
    cases r1.bool
    exact ⟨k, rfl, q H1 s1⟩
theorem dt_isN {j : Nat} {pos' : Pos} (ha : DE X W Γ a fa sa) : DT X W Γ (.Compare a [.Is] [.Constant .none j pos'] pos) (e1 dIsN sa) :=
  pt_imp (pt_cmp (pc_isN ha) rfl) fun σ H Q h => by
    obtain ⟨ρ, F, GO, E, h⟩ := h
    refine at_e E h fun d v H1 s1 r1 E1 h1 => ⟨_, rfl, ?_⟩
    rw [r1.nonB]
    exact h1 H1 s1
theorem dt_notN {j : Nat} {pos' : Pos} (ha : DE X W Γ a fa sa) : DT X W Γ (.Compare a [.IsNot] [.Constant .none j pos'] pos) (e1 dNotN sa) :=
  pt_imp (pt_cmp (pc_notN ha) rfl) fun σ H Q h => by
    obtain ⟨ρ, F, GO, E, h⟩ := h
    refine at_e E h fun d v H1 s1 r1 E1 h1 => ⟨_, rfl, ?_⟩
    rw [r1.nonB]
    exact h1 H1 s1
theorem dt_isB {k : Bool} {j : Nat} {pos' : Pos} (ha : DE X W Γ a fa sa) : DT X W Γ (.Compare a [.Is] [.Constant (.bool k) j pos'] pos) (e1 (dIsB k) sa) :=
  pt_imp (pt_cmpR op_isBl ha pe_bl (nomark _)) fun σ H Q h => by
    obtain ⟨ρ, F, GO, E, h⟩ := h
    refine at_e E h fun d v H1 s1 r1 E1 h1 => ?_
    unfold dIsB at h1
    split at h1
    · cases r1.bool
      exact ⟨_, _, rfl, rfl, _, rfl, h1 H1 s1⟩
    · exact h1.elim
theorem dt_notB {k : Bool} {j : Nat} {pos' : Pos} (ha : DE X W Γ a fa sa) : DT X W Γ (.Compare a [.IsNot] [.Constant (.bool k) j pos'] pos) (e1 (dIsNotB k) sa) :=
  pt_imp (pt_cmpR op_notBl ha pe_bl (nomark _)) fun σ H Q h => by
    obtain ⟨ρ, F, GO, E, h⟩ := h
    refine at_e E h fun d v H1 s1 r1 E1 h1 => ?_
    unfold dIsNotB at h1
    split at h1
    · cases r1.bool
      exact ⟨_, _, rfl, rfl, _, rfl, h1 H1 s1⟩
    · exact h1.elim
/-! tuple(range(..)), list(range(..)) -/
theorem toL_of {K : PySem.W.Frag} {H : Hp} {O : List Addr} {lo hi : Int} : RpAll K H O (rgV lo hi) (rngD lo (hi - lo).toNat) := by
  unfold rgV rngD
  generalize (hi - lo).toNat = n
  generalize List.range n = l
  induction l with
  | nil => exact .nil
  | cons i l ih => exact .cons (.int _) ih
theorem rg_s1 {ta : TE} {σ : L2.St} {H : Hp} {Q : VK} (tl : Bool) (h : tDE X.K X.mg W Γ .fr (fun ρ => (iRng1 sa ρ).bind fun xs => .ok (if tl then .tuple xs else .list xs)) σ H Q) :
    (tRg1 (tDE X.K X.mg W Γ fa sa)) σ H fun a b H1 => RgOk a b ∧ ∀ q, H1 q = none → Q (.ref q) (upd H1 q (if tl then .tup (rgV a b) else .lst (rgV a b))) := by
  obtain ⟨ρ, F, GO, E, h⟩ := h
  have h0 : FinG X.mg W σ H ((sa ρ).bind fun x => ((toI x).bind fun n => dRng 0 n).bind fun xs => .ok (if tl then .tuple xs else .list xs)) (PE_ X.K H (Ads GO ++ F) .fr Q) := by
    have h : FinG X.mg W σ H (((sa ρ).bind fun x => (toI x).bind fun n => dRng 0 n).bind fun xs => .ok (if tl then .tuple xs else .list xs)) (PE_ X.K H (Ads GO ++ F) .fr Q) := h
    rw [R.bind_assoc] at h
    exact h
  refine at_e E h0 fun d v H1 s1 r1 E1 h1 => ?_
  cases d with
  | int j =>
    cases r1.int
    have h2 : FinG X.mg W σ H1 ((dRng 0 j).bind fun xs => .ok (if tl then .tuple xs else .list xs)) (PE_ X.K H (Ads GO ++ F) .fr Q) := h1
    unfold dRng at h2
    split at h2
    · rename_i c
      obtain ⟨c1, c2, c3, c4, c5⟩ := rngC c
      refine ⟨j, rfl, ⟨c1, c2, c3, c4, c5⟩, fun q hq => ?_⟩
      have h3 : PE_ X.K H (Ads GO ++ F) .fr Q (if tl then .tuple (rngD 0 (j - 0).toNat) else .list (rngD 0 (j - 0).toNat)) := h2
      cases tl with
      | true => exact PE_.newT (PE_.mono s1 h3) toL_of (by rw [rngD_len]; exact c5) hq
      | false => exact PE_.newL (PE_.mono s1 h3) toL_of (by rw [rngD_len]; exact c5) hq (E1.newp hq)
    · exact h2.elim
  | _ => exact h1.elim
theorem rg_s2 {σ : L2.St} {H : Hp} {Q : VK} (tl : Bool) (h : tDE X.K X.mg W Γ .fr (fun ρ => (iRng2 sa sb ρ).bind fun xs => .ok (if tl then .tuple xs else .list xs)) σ H Q) :
    (tRg2 (tDE X.K X.mg W Γ fa sa) (tDE X.K X.mg W Γ fb sb)) σ H fun a b H1 => RgOk a b ∧ ∀ q, H1 q = none → Q (.ref q) (upd H1 q (if tl then .tup (rgV a b) else .lst (rgV a b))) := by
  obtain ⟨ρ, F, GO, E, h⟩ := h
  have h0 : FinG X.mg W σ H ((sa ρ).bind fun x => (sb ρ).bind fun y => ((toI x).bind fun i => (toI y).bind fun j => dRng i j).bind fun xs => .ok (if tl then .tuple xs else .list xs)) (PE_ X.K H (Ads GO ++ F) .fr Q) := by
    have h : FinG X.mg W σ H (((sa ρ).bind fun x => (sb ρ).bind fun y => (toI x).bind fun i => (toI y).bind fun j => dRng i j).bind fun xs => .ok (if tl then .tuple xs else .list xs)) (PE_ X.K H (Ads GO ++ F) .fr Q) := h
    rw [R.bind_assoc] at h
    have e : (fun a => ((sb ρ).bind fun y => (toI a).bind fun i => (toI y).bind fun j => dRng i j).bind fun xs => R.ok (if tl then PyData.tuple xs else PyData.list xs)) = fun a => (sb ρ).bind fun y => ((toI a).bind fun i => (toI y).bind fun j => dRng i j).bind fun xs => .ok (if tl then .tuple xs else .list xs) := by
      funext a
      rw [R.bind_assoc]
    rw [e] at h
    exact h
  refine at_e E h0 fun d v H1 s1 r1 E1 h1 => at_e E1 h1 fun d2 v2 H2 s2 r2 E2 h2 => ?_
  cases d with
  | int i =>
    cases d2 with
    | int j =>
      cases r1.int
      cases r2.int
      have h2 : FinG X.mg W σ H2 ((dRng i j).bind fun xs => .ok (if tl then .tuple xs else .list xs)) (PE_ X.K H (Ads GO ++ F) .fr Q) := h2
      unfold dRng at h2
      split at h2
      · rename_i c
        obtain ⟨c1, c2, c3, c4, c5⟩ := rngC c
        refine ⟨i, j, rfl, rfl, ⟨c1, c2, c3, c4, c5⟩, fun q hq => ?_⟩
        have h3 : PE_ X.K H (Ads GO ++ F) .fr Q (if tl then .tuple (rngD i (j - i).toNat) else .list (rngD i (j - i).toNat)) := h2
        cases tl with
        | true => exact PE_.newT (PE_.mono (s1.trans s2) h3) toL_of (by rw [rngD_len]; exact c5) hq
        | false => exact PE_.newL (PE_.mono (s1.trans s2) h3) toL_of (by rw [rngD_len]; exact c5) hq (E2.newp hq)
      · exact h2.elim
    | _ => exact h2.elim
  | _ =>
    cases d2 <;> exact h2.elim
theorem de_tupR1 (hc : X.calm = true) (m : X.mg "tuple" = none) (m2 : X.mg "range" = none) (ha : DE X W Γ a fa sa) (hg : Gl X "tuple" := by show _ = _; kernel_rfl) (hg2 : Gl X "range" := by show _ = _; kernel_rfl) (na : starEach [a] X.env = (false, eval a X.env) :: starEach [] X.env := by kernel_rfl) (ne : starEach [.Call (.Name "range" p2) [a] [] p3] X.env = (false, eval (.Call (.Name "range" p2) [a] [] p3) X.env) :: starEach [] X.env := by kernel_rfl) :
    DE X W Γ (.Call (.Name "tuple" p) [.Call (.Name "range" p2) [a] [] p3] [] pos) .fr (eTupI (iRng1 sa)) :=
  pe_imp (pe_tupRg hc hg m (prg_1 hg2 m2 ha na) ne) fun σ H Q h => rg_s1 (ta := tDE X.K X.mg W Γ fa sa) true h
theorem de_lstR1 (hc : X.calm = true) (m : X.mg "list" = none) (m2 : X.mg "range" = none) (ha : DE X W Γ a fa sa) (hg : Gl X "list" := by show _ = _; kernel_rfl) (hg2 : Gl X "range" := by show _ = _; kernel_rfl) (na : starEach [a] X.env = (false, eval a X.env) :: starEach [] X.env := by kernel_rfl) (ne : starEach [.Call (.Name "range" p2) [a] [] p3] X.env = (false, eval (.Call (.Name "range" p2) [a] [] p3) X.env) :: starEach [] X.env := by kernel_rfl) :
    DE X W Γ (.Call (.Name "list" p) [.Call (.Name "range" p2) [a] [] p3] [] pos) .fr (eLstI (iRng1 sa)) :=
  pe_imp (pe_listRg hc hg m (prg_1 hg2 m2 ha na) ne) fun σ H Q h => rg_s1 (ta := tDE X.K X.mg W Γ fa sa) false h
theorem de_tupR2 (hc : X.calm = true) (m : X.mg "tuple" = none) (m2 : X.mg "range" = none) (ha : DE X W Γ a fa sa) (hb : DE X W Γ b fb sb) (hg : Gl X "tuple" := by show _ = _; kernel_rfl) (hg2 : Gl X "range" := by show _ = _; kernel_rfl) (na : starEach [a, b] X.env = (false, eval a X.env) :: starEach [b] X.env := by kernel_rfl) (nb : starEach [b] X.env = (false, eval b X.env) :: starEach [] X.env := by kernel_rfl) (hp : (backTo p3 (starEach [b] X.env)).any (·.1) = false := by kernel_rfl) (ne : starEach [.Call (.Name "range" p2) [a, b] [] p3] X.env = (false, eval (.Call (.Name "range" p2) [a, b] [] p3) X.env) :: starEach [] X.env := by kernel_rfl) :
    DE X W Γ (.Call (.Name "tuple" p) [.Call (.Name "range" p2) [a, b] [] p3] [] pos) .fr (eTupI (iRng2 sa sb)) :=
  pe_imp (pe_tupRg hc hg m (prg_2 hg2 m2 ha hb na nb hp) ne) fun σ H Q h => rg_s2 true h
theorem de_lstR2 (hc : X.calm = true) (m : X.mg "list" = none) (m2 : X.mg "range" = none) (ha : DE X W Γ a fa sa) (hb : DE X W Γ b fb sb) (hg : Gl X "list" := by show _ = _; kernel_rfl) (hg2 : Gl X "range" := by show _ = _; kernel_rfl) (na : starEach [a, b] X.env = (false, eval a X.env) :: starEach [b] X.env := by kernel_rfl) (nb : starEach [b] X.env = (false, eval b X.env) :: starEach [] X.env := by kernel_rfl) (hp : (backTo p3 (starEach [b] X.env)).any (·.1) = false := by kernel_rfl) (ne : starEach [.Call (.Name "range" p2) [a, b] [] p3] X.env = (false, eval (.Call (.Name "range" p2) [a, b] [] p3) X.env) :: starEach [] X.env := by kernel_rfl) :
    DE X W Γ (.Call (.Name "list" p) [.Call (.Name "range" p2) [a, b] [] p3] [] pos) .fr (eLstI (iRng2 sa sb)) :=
  pe_imp (pe_listRg hc hg m (prg_2 hg2 m2 ha hb na nb hp) ne) fun σ H Q h => rg_s2 false h
/-! raise -/
structure Exn (K : PySem.W.Frag) (mg : MG) (x : Str) : Prop where
  ex : ∃ C, mg x = some (.ref C) ∧ PySem.W.excIn K C He.veBase "ValueError.__new__" = true ∧ PySem.W.keepIn K (.ref C) = true ∧ PySem.W.subIn K (.ref C) (.type "BaseException") = some true ∧ PySem.W.typeIn K (.ref C) = some (.type "type")
theorem ds_raiseX {x : Str} (T : Exn X.K X.mg x) (hc : X.calm = true) (tk : Takes X W) (hg : Gl X x := by show _ = _; kernel_rfl) (hdb : (x == ("__debug__" : Str)) = false := by decide) : DS X W Γ (.Raise (some (.Call (.Name x p) [] [] p2)) none pos) Γ' (sRaise x) := by
  obtain ⟨C, gC, h1, h2, h3, h4⟩ := T.ex
  exact ds_raise hc tk gC (pmk_own0 PySem.F.excBase_ValueError h1 gC h2 (raises_own h3 h4) hg hdb)
/-! slots forgotten behind a block -/
theorem dss_wkp {sts : List Stmt} {sx : SS} {ks : List Nat} (hk : ks.all (fun i => !Γ'.contains i) = true) (h : DSs X W Γ sts Γ' sx) : DSs X W Γ sts Γ' (sPost ks sx) := pss_imp h fun D σ H h => by
  obtain ⟨ρ, F, GO, E, h⟩ := h
  refine ⟨ρ, F, GO, E, ?_⟩
  unfold sPost at h
  show FinS _ _ _ _ _ _ _ (sx ρ) _
  cases q : sx ρ with
  | ok o =>
    rw [q] at h
    cases o with
    | nx ρ' => exact fun σ' H' GO' E' k n => h σ' H' GO' (E'.killAll fun i hi hz => by
        have := List.all_eq_true.mp hk i hi
        rw [List.contains_iff_mem.mpr hz] at this
        cases this) k n
    | rt d => exact h
  | exc c => rw [q] at h; exact h
  | bad => rw [q] at h; exact h
/-! [a] * n -/
theorem de_repL (ha : DE X W Γ a .fr sa) (hb : DE X W Γ b fb sb) : DE X W Γ (.BinOp a .Mult b pos) .fr (e2 repD sa sb) :=
  pe_imp (pe_op op_rep ha hb) fun σ H Q h => by
    obtain ⟨ρ, F, GO, E, h⟩ := h
    refine at_e E h fun d v H1 s1 r1 E1 h1 => at_e E1 h1 fun d2 v2 H2 s2 r2 E2 h2 => ?_
    unfold repD at h2
    split at h2
    · obtain ⟨p, rfl, _, ho⟩ := (r1.mono s2).2 _ rfl
      cases r2.int
      obtain ⟨vs, g1, g2, g3⟩ := ho
      split at h2
      · rename_i c
        obtain ⟨c1, c2'⟩ := c
        have c2 := s63a _ c2'
        have c3 := s63b _ c2'
        have g2' := g2.mono (.sub_ (.refl H2) (O' := Ads GO ++ F) fun b hb => List.mem_cons_of_mem _ hb)
        refine ⟨p, _, vs, rfl, rfl, g1, c2, c3, by rw [g2.length]; exact big_le c1, fun t ht => PE_.newL (PE_.mono (s1.trans s2) h2) (g2'.rep _) ?_ ht (E2.newp ht)⟩
        rw [PyProof.Rows.lm_len_rep_flat, Nat.mul_comm]
        exact c1
      · exact h2.elim
    · exact h2.elim
end
end DL
set_option Elab.async false
set_option linter.all false
set_option maxRecDepth 100000
/-! enumerate, zip over lists and tuples -/
namespace PySem
open Sem (wp)
set_option maxHeartbeats 1000000 in
theorem meets_enumerate_newB1 {v : Value} {o : Obj} {H : Heap → Prop} (B : Begins v o H) :
    Meets (Builtin.«enumerate.__new__» ⟨[.type "enumerate", v], []⟩) (fun _ R s => H s.heap ∧
      R (.ok (.ret (.ref (s.heap.push o).objs.size))) { s with heap := (s.heap.push o).push { cls := .type "enumerate", data := .fields #[.none, .bool false, .ref s.heap.objs.size, rawInt 0, .none, .none] } }) :=
  .of_wp fun prog w A R s h => by
    obtain ⟨hp, g, d, tk, os⟩ := s; obtain ⟨h1, h⟩ := h
    have hsub := sub_enumerate
    have q1 : ∀ {A' : Around} {E : Value → Shared → Prop} {Q : Value → Shared → Prop}, Q (.ref hp.objs.size) ⟨hp.push o, g, d, tk, os⟩ → wpAny (model prog w) A' (pyIter v) Q E ⟨hp, g, d, tk, os⟩ :=
      fun q => B.iter prog w _ _ ⟨hp, g, d, tk, os⟩ _ h1 q
    wp_walk using q1
    refine wpAny_stack_any fun st => wpAny_pure ?_
    split
    · rename_i c _ _ _ _ _
      cases (c == Value.type "enumerate")
      · wp_walk using q1
        exact ⟨_, rfl, h⟩
      · wp_walk using q1
        exact ⟨_, rfl, h⟩
    · wp_walk using q1
      exact ⟨_, rfl, h⟩
theorem enum_begins1 {prog : Program} {w : World} {A : Around} {E : Value → Shared → Prop} {s : Shared} {v : Value} {o : Obj} {H : Heap → Prop} {Q : Value → Shared → Prop} (B : Begins v o H) (h1 : H s.heap)
    (h : ∀ h', IsEnum h' (s.heap.objs.size + 1) s.heap.objs.size 0 .none → h'.get? s.heap.objs.size = some o → h'.objs.size = s.heap.objs.size + 2 →
      (∀ b o, s.heap.get? b = some o → h'.get? b = some o) → Q (.ref (s.heap.objs.size + 1)) { s with heap := h' }) :
    wpAny (model prog w) A (call (.type "enumerate") [v]) Q E s := by
  refine callType_new F.called_enumerate (by decide) (F.typeCall_enumerate_1 _) (F.newCall_enumerate_1 _) (fun obj => F.args_object_init_2 obj _) F.entry_enumerate_new
    (meets_enumerate_newB1 B) ⟨h1, ?_⟩
  have hz : (s.heap.push o).objs.size = s.heap.objs.size + 1 := Heap.size_push ..
  show _ ∧ _
  rw [hz]
  have he : IsEnum ((s.heap.push o).push { cls := .type "enumerate", data := .fields #[.none, .bool false, .ref s.heap.objs.size, rawInt 0, .none, .none] }) (s.heap.objs.size + 1) s.heap.objs.size 0 .none := by
    have := Heap.get?_push_size (s.heap.push o) (o := { cls := .type "enumerate", data := .fields #[.none, .bool false, .ref s.heap.objs.size, rawInt 0, .none, .none] }) rfl
    rw [hz] at this; exact this
  refine ⟨⟨_, he, rfl⟩, h _ he (Heap.get?_push_of_some _ (Heap.get?_push_size _ B.free)) (by rw [Heap.size_push, hz]) fun b o x => Heap.get?_push_of_some _ (Heap.get?_push_of_some _ x)⟩
end PySem
namespace DL
open PySem PySem.Spec PyProof.Rows L2

/-! ### a list (k false) or a tuple (k true) -/
def SqK (k : Bool) (K : PySem.W.Frag) (H : Hp) (a : Addr) (xs : List V) : Prop := match k with
  | true => SqT K H a xs
  | false => SqL K H a xs
def IsQ (k : Bool) (h : Heap) (a : Addr) (its : Array Value) : Prop := match k with
  | true => h.IsTuple a its
  | false => h.IsList a its
def IsQIter (k : Bool) (h : Heap) (it a : Addr) (i : Nat) : Prop := match k with
  | true => h.IsTupleIter it a i
  | false => h.IsListIter it a i
def iterO (k : Bool) (a : Addr) : Obj := match k with
  | true => { cls := .type "tuple_iterator", data := .fields #[.ref a, .int 0 0] }
  | false => { cls := .type "list_iterator", data := .fields #[.ref a, .int 0 0] }
theorem IsQ.at {k : Bool} {h h' : Heap} {a : Addr} {its : Array Value} (x : IsQ k h a its) (e : ∀ o, h.get? a = some o → h'.get? a = some o) : IsQ k h' a its := by
  cases k with
  | true => exact Heap.IsTuple.at x e
  | false => exact Heap.IsList.at x e
theorem IsQIter.at {k : Bool} {h h' : Heap} {it a : Addr} {i : Nat} (x : IsQIter k h it a i) (e : ∀ o, h.get? it = some o → h'.get? it = some o) : IsQIter k h' it a i := by
  cases k with
  | true => exact Heap.IsTupleIter.at x e
  | false => exact Heap.IsListIter.at x e
theorem IsQIter.obj {k : Bool} {h : Heap} {it a : Addr} {i : Nat} (x : IsQIter k h it a i) : ∃ o, h.get? it = some o ∧ ∀ v, o.data ≠ .cell v := by
  cases k with
  | true =>
    obtain ⟨o, ho, _, d⟩ := x
    exact ⟨o, ho, fun v q => by rw [d] at q; cases q⟩
  | false =>
    obtain ⟨o, ho, _, d⟩ := x
    exact ⟨o, ho, fun v q => by rw [d] at q; cases q⟩
theorem IsQ.ne {k k' : Bool} {h : Heap} {it a b : Addr} {i : Nat} {its : Array Value} (x : IsQ k h a its) (y : IsQIter k' h it b i) : a ≠ it := by
  intro e
  subst e
  cases k <;> cases k' <;>
  · obtain ⟨o, ho, c, _⟩ := x
    obtain ⟨o', ho', c', _⟩ := y
    rw [ho] at ho'
    cases ho'
    rw [c] at c'
    exact absurd c' (by decide)
theorem drawsQ {prog : Program} {w : World} {A : Around} (hh : A.handled = none) (k : Bool) (it a : Addr) (hne : a ≠ it) (items : Array Value) :
    Draws prog w A it [it, a] items.size (fun i v => items[i]? = some v) (fun i h => IsQIter k h it a i ∧ IsQ k h a items) := by
  cases k with
  | true => exact Draws.tuple hh it a hne items
  | false => exact Draws.list hh it a hne items
theorem beginsQ (k : Bool) (a : Addr) (items : Array Value) : Begins (.ref a) (iterO k a) (fun h => IsQ k h a items) := by
  cases k with
  | true => exact begins_tuple a items
  | false => exact begins_list a items
theorem iterQ {k : Bool} {h : Heap} {it a : Addr} (e : h.get? it = some (iterO k a)) : IsQIter k h it a 0 := by
  cases k with
  | true => exact ⟨_, e, rfl, rfl⟩
  | false => exact ⟨_, e, rfl, rfl⟩
section
variable {X : Cx} {pins : List (Addr × Obj)} {σ : L2.St} {H : Hp} {s : Shared} {a : Addr} {xs ys : List V} {k : Bool}
theorem invQ (I : Inv X pins σ H s) (h : SqK k X.K H a xs) : ∃ its : List Value, Vals xs its ∧ IsQ k s.heap a its.toArray ∧ xs.length ≤ sizeLine := by
  cases k with
  | true =>
    obtain ⟨its, r, t, z⟩ := I.tuple h
    exact ⟨its, r, t, z⟩
  | false =>
    obtain ⟨its, r, t, z⟩ := I.list h
    exact ⟨its, r, t.isList, z⟩
theorem invQ_inj (I : Inv X pins σ H s) (h : SqK k X.K H a xs) (h' : SqK k X.K H a ys) : xs = ys := by
  cases k with
  | true => exact I.tuple_inj h h'
  | false => exact I.list_inj h h'
end
/-- enumerate -/
def IteQ (k : Bool) (K : PySem.W.Frag) (a : Addr) : It :=
  ⟨fun i H => ∃ (xs : List V) (x : V), SqK k K H a xs ∧ xs[i]? = some x, fun i H v H' => ∃ T x, v = .ref T ∧ H T = none ∧ H' = upd H T (.tup [.int (i : Nat), x]) ∧ ∀ xs, SqK k K H a xs → xs[i]? = some x, fun i H => ∃ xs : List V, SqK k K H a xs ∧ xs.length = i⟩
theorem turn_enumQ {P : Program} {w : World} {K : PySem.W.Frag} {elts : List Expr} {kk : Nat} {tpos : Pos} (k : Bool) (a e it : Addr) :
    Turn P w K (.Tuple elts kk tpos) (IteQ k K a) [e, it] e (fun i h => (∃ old, IsEnum h e it ((i : Nat) : Int) old) ∧ IsQIter k h it a i ∧ e ≠ it ∧ e ≠ a) where
  mem := by simp
  obj := fun i h st b hb => by
    obtain ⟨⟨old, he⟩, hi, _⟩ := st
    have e' : b = e ∨ b = it := by simpa using hb
    rcases e' with z | z
    · rw [z]; exact ⟨_, he, fun v q => nomatch q⟩
    · rw [z]; exact hi.obj
  keep := fun i h h' st k => let ⟨⟨old, he⟩, hi, hne⟩ := st; ⟨⟨old, k e (by simp) _ he⟩, hi.at fun o q => k it (by simp) o q, hne⟩
  item := by
    intro X hP hw hK hc i pins s σ H E I hf st hg
    subst hP hw hK
    obtain ⟨⟨old, he⟩, hit, hne, hea⟩ := st
    obtain ⟨xs, x, hq, hx⟩ := hg
    obtain ⟨its, rv, p, hz⟩ := invQ I hq
    obtain ⟨u, hu, ru⟩ := rv.get hx
    have hel : e < s.heap.objs.size := Heap.lt_size he
    have hil : it < s.heap.objs.size := by obtain ⟨_, q, _⟩ := hit.obj; exact Heap.lt_size q
    have D := drawsQ (prog := X.prog) (w := X.w) (A := X.A.in1) (I.ok.hd hc) k it a (p.ne hit) its.toArray
    have hlt : i < its.toArray.size := by
      have := (List.getElem?_eq_some_iff.mp hu).1
      simpa using this
    refine wpAny_pyNext_enum_itemD D he ⟨hit, p⟩ hlt hne (by simp [hne, hea]) fun x' h' tk hP ho hst hT hsz hk => ?_
    obtain ⟨hit', p'⟩ := hst
    have hxu : x' = u := by
      have q1 : its.toArray[i]? = some x' := hP
      have q2 : its.toArray[i]? = some u := by simpa using hu
      rw [q1] at q2
      exact Option.some.inj q2
    subst hxu
    refine ⟨_, rfl, wpAny_letOwnedTupleGo_enum (s := { s with heap := h', toks := tk + 1 }) ho fun h'' he' sb => ?_⟩
    have hT2 : h''.get? s.heap.objs.size = some { cls := .type "tuple", data := .seq #[.int i tk, x'] } := (sb.2 _ (Nat.ne_of_gt hel)).trans hT
    have new : ObjOk X.prog X.w (upd H s.heap.objs.size (.tup [.int (i : Nat), x])) h'' s.heap.objs.size (.tup [.int (i : Nat), x]) :=
      ⟨by show 2 ≤ sizeLine; decide, [.int i tk, x'], .cons ⟨_, rfl⟩ (.cons ru .nil), ⟨_, hT2, rfl, _, rfl⟩⟩
    have I1 : Inv X pins σ (upd H s.heap.objs.size (.tup [.int (i : Nat), x])) { s with heap := h'', toks := tk + 1 } :=
      I.turnedNew (ch := [e, it]) (fun b ob hb q => (sb.2 b (fun z => hb (by simp [z]))).trans (hk b ob (fun z => hb (by simp [z])) (fun z => hb (by simp [z])) q)) hf (Nat.le_refl _) new
    refine ⟨.ref s.heap.objs.size, _, I1, rfl, ⟨_, x, rfl, I.hok.fresh (Nat.le_refl _), rfl, fun ys hy => by rw [invQ_inj I hy hq]; exact hx⟩, ⟨⟨x', ?_⟩, hit'.at fun o q => (sb.2 it (Ne.symm hne)).trans q, hne, hea⟩, fun b hb => ?_⟩
    · have e1 : ((i + 1 : Nat) : Int) = (i : Int) + 1 := by omega
      rw [e1]; exact he'
    · have hb' : b < s.heap.objs.size := by
        have e' : b = e ∨ b = it := by simpa using hb
        rcases e' with z | z
        · rw [z]; exact hel
        · rw [z]; exact hil
      rw [upd_ne (Nat.ne_of_lt hb')]
      exact (hf b hb).1
  done := by
    intro X hP hw hK hc i pins s σ H E I hf st hg
    subst hP hw hK
    obtain ⟨⟨old, he⟩, hit, hne, hea⟩ := st
    obtain ⟨xs, hq, hx⟩ := hg
    obtain ⟨its, rv, p, hz⟩ := invQ I hq
    obtain ⟨f0, f1, f2, f3, f4, f5⟩ := hf it (by simp)
    have hl := rv.length
    have D := drawsQ (prog := X.prog) (w := X.w) (A := X.A.in1) (I.ok.hd hc) k it a (p.ne hit) its.toArray
    have en : its.toArray.size = i := by rw [List.size_toArray]; omega
    refine wpAny_pyNext_enum_endD D he ?_ fun h' eb => ⟨rfl, I.turned (t' := s.toks) (fun b o hb q => eb b o hb q) f0 f1 f3 f4 f5⟩
    rw [en]
    exact ⟨hit, p⟩
  self := fun A i s Q E st h => let ⟨⟨_, he⟩, _⟩ := st; wpAny_pyIter_enum he h
def iEnumQ (K : PySem.W.Frag) (ta : TA) : TI := fun σ H R' => ta σ H fun vs H1 => ∃ a xs k, vs = [.ref a] ∧ SqK k K H1 a xs ∧ R' (IteQ k K a) H1
theorem pi_enumQ {X : Cx} {e : Expr} {ta : TA} {p pos tpos : Pos} {elts : List Expr} {kk : Nat} (hg : Gl X "enumerate") (hm : X.mg "enumerate" = none) (ha : PA X [e] ta) (hs : starEach [e] X.env = [(false, eval e X.env)] := by kernel_rfl) :
    PI X (.Tuple elts kk tpos) (.Call (.Name "enumerate" p) [e] [] pos) (iEnumQ X.K ta) := by
  refine ⟨fun pins s σ H R I h => ?_⟩
  refine Call_ (ld_blt I hg hm boot_enumerate (PyProof.Rows.callWith_type1 (thn (ha.run pos pins s σ H _ I h) fun us s1 ⟨vs, H1, I1, r1, q1⟩ => ?_) hs rfl))
  obtain ⟨a, xs, k, ex, hq, q⟩ := q1
  subst ex
  cases r1 with
  | cons r rr =>
    cases rr
    cases r
    obtain ⟨its, rv, p', hz⟩ := invQ I1 hq
    have hal : a < s1.heap.objs.size := by
      cases k with
      | true => obtain ⟨o, ho, _⟩ := p'; exact Heap.lt_size ho
      | false => obtain ⟨o, ho, _⟩ := p'; exact Heap.lt_size ho
    refine enum_begins1 (beginsQ k a its.toArray) p' fun h' he hit hsz hk => wpAny_pyIter_enum he ?_
    have I2 : Inv X pins σ H1 { s1 with heap := h' } := I1.kept (t' := s1.toks) hk
    refine ⟨s1.heap.objs.size + 1, [s1.heap.objs.size + 1, s1.heap.objs.size], _, _, H1, rfl, I2, turn_enumQ k a (s1.heap.objs.size + 1) s1.heap.objs.size, ⟨⟨.none, he⟩, iterQ hit, Nat.succ_ne_self _, Nat.ne_of_gt (Nat.lt_succ_of_lt hal)⟩, fun b hb => ?_, q⟩
    have e' : b = s1.heap.objs.size + 1 ∨ b = s1.heap.objs.size := by simpa using hb
    have hle : s1.heap.objs.size ≤ b := by
      rcases e' with z | z
      · rw [z]; exact Nat.le_add_right _ _
      · rw [z]; exact Nat.le_refl _
    exact I1.fpOk hle (I1.hok.fresh hle)
/-- zip -/
def ItzQ (k1 k2 : Bool) (K : PySem.W.Frag) (a b : Addr) : It :=
  ⟨fun i H => ∃ (xs ys : List V) (x y : V), SqK k1 K H a xs ∧ SqK k2 K H b ys ∧ xs[i]? = some x ∧ ys[i]? = some y,
    fun i H v H' => ∃ T x y, v = .ref T ∧ H T = none ∧ H' = upd H T (.tup [x, y]) ∧ (∀ xs, SqK k1 K H a xs → xs[i]? = some x) ∧ ∀ ys, SqK k2 K H b ys → ys[i]? = some y,
    fun i H => ∃ xs ys : List V, SqK k1 K H a xs ∧ SqK k2 K H b ys ∧ i ≤ xs.length ∧ i ≤ ys.length ∧ (i = xs.length ∨ i = ys.length)⟩
theorem turn_zipQ {P : Program} {w : World} {K : PySem.W.Frag} {elts : List Expr} {kk : Nat} {tpos : Pos} (k1 k2 : Bool) {a b z TI TO i1 i2 : Addr} (S : ZipSep2 z TI TO i1 i2 [i1, a] [i2, b]) :
    Turn P w K (.Tuple elts kk tpos) (ItzQ k1 k2 K a b) [z, TI, TO, i1, i2] z (fun i h => IsZip h z TI TO .none ∧ IsTupOf2 h TI (.ref i1) (.ref i2) ∧ (∃ x y, IsTupOf2 h TO x y) ∧ IsQIter k1 h i1 a i ∧ IsQIter k2 h i2 b i) where
  mem := by simp
  obj := fun i h st c hc => by
    obtain ⟨hz, hTI, ⟨x, y, hTO⟩, h1, h2⟩ := st
    have e' : c = z ∨ c = TI ∨ c = TO ∨ c = i1 ∨ c = i2 := by simpa using hc
    rcases e' with q | q | q | q | q
    · rw [q]; exact ⟨_, hz, fun v q => nomatch q⟩
    · rw [q]; exact ⟨_, hTI, fun v q => nomatch q⟩
    · rw [q]; exact ⟨_, hTO, fun v q => nomatch q⟩
    · rw [q]; exact h1.obj
    · rw [q]; exact h2.obj
  keep := fun i h h' st k => by
    obtain ⟨hz, hTI, ⟨x, y, hTO⟩, h1, h2⟩ := st
    exact ⟨k z (by simp) _ hz, k TI (by simp) _ hTI, ⟨x, y, k TO (by simp) _ hTO⟩, h1.at fun o q => k i1 (by simp) o q, h2.at fun o q => k i2 (by simp) o q⟩
  item := by
    intro X hP hw hK hc i pins s σ H E I hf st hg
    subst hP hw hK
    obtain ⟨hz, hTI, ⟨x0, y0, hTO⟩, h1, h2⟩ := st
    obtain ⟨xs, ys, x, y, hqx, hqy, hx, hy⟩ := hg
    obtain ⟨its, rv, p, _⟩ := invQ I hqx
    obtain ⟨its2, rv2, p2, _⟩ := invQ I hqy
    obtain ⟨u, hu, ru⟩ := rv.get hx
    obtain ⟨u2, hu2, ru2⟩ := rv2.get hy
    have hzl : z < s.heap.objs.size := Heap.lt_size hz
    have D1 := drawsQ (prog := X.prog) (w := X.w) (A := X.A.in1) (I.ok.hd hc) k1 i1 a (p.ne h1) its.toArray
    have D2 := drawsQ (prog := X.prog) (w := X.w) (A := X.A.in1) (I.ok.hd hc) k2 i2 b (p2.ne h2) its2.toArray
    have hlt1 : i < its.toArray.size := by
      have := (List.getElem?_eq_some_iff.mp hu).1
      simpa using this
    have hlt2 : i < its2.toArray.size := by
      have := (List.getElem?_eq_some_iff.mp hu2).1
      simpa using this
    refine wpAny_pyNext_zipD2_item S D1 D2 hz hTI hTO ⟨h1, p⟩ ⟨h2, p2⟩ hlt1 hlt2 fun y1 y2 h' tk hy1 hy2 z' TO' st1 st2 hT hsz hk => ?_
    obtain ⟨h1', _⟩ := st1
    obtain ⟨h2', _⟩ := st2
    have e1 : y1 = u := by
      have q2 : its.toArray[i]? = some u := by simpa using hu
      rw [show its.toArray[i]? = some y1 from hy1] at q2
      exact Option.some.inj q2
    have e2 : y2 = u2 := by
      have q2 : its2.toArray[i]? = some u2 := by simpa using hu2
      rw [show its2.toArray[i]? = some y2 from hy2] at q2
      exact Option.some.inj q2
    subst e1 e2
    refine ⟨_, rfl, wpAny_letOwnedTupleGo_zip (s := { s with heap := h', toks := tk }) z' fun h'' z'' sb => ?_⟩
    have hT2 : h''.get? s.heap.objs.size = some { cls := .type "tuple", data := .seq #[y1, y2] } := (sb.2 _ (Nat.ne_of_gt hzl)).trans hT
    have new : ObjOk X.prog X.w (upd H s.heap.objs.size (.tup [x, y])) h'' s.heap.objs.size (.tup [x, y]) :=
      ⟨by show 2 ≤ sizeLine; decide, [y1, y2], .cons ru (.cons ru2 .nil), ⟨_, hT2, rfl, _, rfl⟩⟩
    have I1 : Inv X pins σ (upd H s.heap.objs.size (.tup [x, y])) { s with heap := h'', toks := tk } :=
      I.turnedNew (t' := tk) (ch := [z, TI, TO, i1, i2]) (fun c o hb q => (sb.2 c (fun q' => hb (by simp [q']))).trans (hk c o (fun q' => hb (by simp [q'])) (fun q' => hb (by simp [q'])) (fun q' => hb (by simp [q'])) (fun q' => hb (by simp [q'])) q)) hf (Nat.le_refl _) new
    refine ⟨.ref s.heap.objs.size, _, I1, rfl, ⟨_, x, y, rfl, I.hok.fresh (Nat.le_refl _), rfl, fun l hl => by rw [invQ_inj I hl hqx]; exact hx, fun l hl => by rw [invQ_inj I hl hqy]; exact hy⟩, ⟨z'', ?_, ⟨y1, y2, ?_⟩, ?_, ?_⟩, fun c hcm => ?_⟩
    · exact (sb.2 _ S.TIz).trans (hk _ _ S.TIz S.TITO S.TIi1 S.TIi2 hTI)
    · exact (sb.2 _ S.TOz).trans TO'
    · exact h1'.at fun o q => (sb.2 _ (Ne.symm S.zi1)).trans q
    · exact h2'.at fun o q => (sb.2 _ (Ne.symm S.zi2)).trans q
    · have hlt : c < s.heap.objs.size := by
        have e' : c = z ∨ c = TI ∨ c = TO ∨ c = i1 ∨ c = i2 := by simpa using hcm
        rcases e' with q | q | q | q | q
        · rw [q]; exact hzl
        · rw [q]; exact Heap.lt_size hTI
        · rw [q]; exact Heap.lt_size hTO
        · rw [q]; obtain ⟨_, e1, _⟩ := h1.obj; exact Heap.lt_size e1
        · rw [q]; obtain ⟨_, e2, _⟩ := h2.obj; exact Heap.lt_size e2
      rw [upd_ne (Nat.ne_of_lt hlt)]
      exact (hf c hcm).1
  done := by
    intro X hP hw hK hc i pins s σ H E I hf st hg
    subst hP hw hK
    obtain ⟨hz, hTI, ⟨x0, y0, hTO⟩, h1, h2⟩ := st
    obtain ⟨xs, ys, hqx, hqy, l1, l2, hend⟩ := hg
    obtain ⟨its, rv, p, _⟩ := invQ I hqx
    obtain ⟨its2, rv2, p2, _⟩ := invQ I hqy
    have e1 := rv.length
    have e2 := rv2.length
    have D1 := drawsQ (prog := X.prog) (w := X.w) (A := X.A.in1) (I.ok.hd hc) k1 i1 a (p.ne h1) its.toArray
    have D2 := drawsQ (prog := X.prog) (w := X.w) (A := X.A.in1) (I.ok.hd hc) k2 i2 b (p2.ne h2) its2.toArray
    exact wpAny_pyNext_zipD2_end S D1 D2 hz hTI hTO ⟨h1, p⟩ ⟨h2, p2⟩ (by rw [List.size_toArray]; omega) (by rw [List.size_toArray]; omega) (by rw [List.size_toArray, List.size_toArray]; omega) fun h' tk hk => ⟨rfl, I.turnedL (t' := tk) (ch := [z, TI, TO, i1, i2]) (fun c o hb q =>
      hk c o (fun q' => hb (by simp [q'])) (fun q' => hb (by simp [q'])) (fun q' => hb (by simp [q'])) (fun q' => hb (by simp [q'])) q) hf⟩
  self := fun A i s Q E st h => wpAny_pyIter_zip st.1 h
def iZipQ (K : PySem.W.Frag) (ta : TA) : TI := fun σ H R' => ta σ H fun vs H1 => ∃ a b xs ys k1 k2, vs = [.ref a, .ref b] ∧ SqK k1 K H1 a xs ∧ SqK k2 K H1 b ys ∧ R' (ItzQ k1 k2 K a b) H1
theorem IsQ.lt {k : Bool} {h : Heap} {a : Addr} {its : Array Value} (x : IsQ k h a its) : a < h.objs.size := by
  cases k with
  | true => obtain ⟨o, ho, _⟩ := x; exact Heap.lt_size ho
  | false => obtain ⟨o, ho, _⟩ := x; exact Heap.lt_size ho
theorem pi_zipQ {X : Cx} {e e2 : Expr} {ta : TA} {p pos tpos : Pos} {elts : List Expr} {kk : Nat} (hg : Gl X "zip") (hm : X.mg "zip" = none) (ha : PA X [e, e2] ta) (hs : starEach [e, e2] X.env = (false, eval e X.env) :: starEach [e2] X.env := by kernel_rfl) (hpl : (backTo pos (starEach [e2] X.env)).any (·.1) = false := by kernel_rfl) :
    PI X (.Tuple elts kk tpos) (.Call (.Name "zip" p) [e, e2] [] pos) (iZipQ X.K ta) := by
  refine ⟨fun pins s σ H R I h => ?_⟩
  refine Call_ (ld_blt I hg hm boot_zip (PyProof.Rows.callWith_type1 (thn (ha.run pos pins s σ H _ I h) fun us s1 ⟨vs, H1, I1, r1, q1⟩ => ?_) hs hpl))
  obtain ⟨a, b, xs, ys, k1, k2, ex, hq, hq2, q⟩ := q1
  subst ex
  obtain ⟨u1, u2, rfl, r, rr⟩ := r1.two
  cases r
  cases rr
  obtain ⟨its, rv, p1, hz⟩ := invQ I1 hq
  obtain ⟨its2, rv2, p2, hz2⟩ := invQ I1 hq2
  refine zip_begins2 (beginsQ k1 a its.toArray) (beginsQ k2 b its2.toArray) p1 p2 fun h' hz' hTI hTO hi1 hi2 hsz hk => wpAny_pyIter_zip hz' ?_
  have I2 : Inv X pins σ H1 { s1 with heap := h' } := I1.kept (t' := s1.toks) hk
  have S := zip_sep2 (N := s1.heap.objs.size) (fp1 := [a]) (fp2 := [b]) (fun c hc => by rw [List.mem_singleton] at hc; subst hc; exact p1.lt) (fun c hc => by rw [List.mem_singleton] at hc; subst hc; exact p2.lt)
  refine ⟨s1.heap.objs.size + 4, [s1.heap.objs.size + 4, s1.heap.objs.size + 2, s1.heap.objs.size + 3, s1.heap.objs.size, s1.heap.objs.size + 1], _, _, H1, rfl, I2, turn_zipQ k1 k2 S, ⟨hz', hTI, ⟨_, _, hTO⟩, iterQ hi1, iterQ hi2⟩, fun c hc => ?_, q⟩
  have hle : s1.heap.objs.size ≤ c := by
    have e' : c = s1.heap.objs.size + 4 ∨ c = s1.heap.objs.size + 2 ∨ c = s1.heap.objs.size + 3 ∨ c = s1.heap.objs.size ∨ c = s1.heap.objs.size + 1 := by simpa using hc
    rcases e' with z | z | z | z | z <;> rw [z] <;> first | exact Nat.le_refl _ | exact Nat.le_add_right _ _
  exact I1.fpOk hle (I1.hok.fresh hle)

/-! ### .. as data -/
section
variable {X : Cx} {W : WX} {Γ : List Nat} {e a b : Expr} {fl fa fb : Fl} {se sa sb : SE} {pos p p2 tpos : Pos} {elts : List Expr} {kk : Nat}
theorem Res.staysQ {K : PySem.W.Frag} {H0 H1 : Hp} {GO : List (Nat × Addr)} {F : List Addr} {v : V} {d : Da} {ds : List Da} (h : Res K H0 H1 (Ads GO ++ F) fl v d) (hd : toL d = .ok ds) (s : Bool) (hs : s = true → storable [fl] = true) :
    ∃ k p vs, v = .ref p ∧ RpAll K H1 (Ads GO ++ F) vs ds ∧ ds.length ≤ big ∧ ∀ H O', Grow (sto s (Ads GO ++ F)) (Ads GO ++ F) O' H1 H → SqK k K H p vs := by
  cases d with
  | list xs =>
    cases hd
    obtain ⟨p, vs, e, r, n, st⟩ := h.stays s hs
    exact ⟨false, p, vs, e, r, n, st⟩
  | tuple xs =>
    cases hd
    obtain ⟨p, vs, rfl, q1, r2, n2⟩ := h.tuple
    exact ⟨true, p, vs, rfl, r2, n2, fun H O' g => sqt_keep g.keep q1⟩
  | _ => cases hd
theorem grow_refl {GO : List (Nat × Addr)} {F : List Addr} {H : Hp} (s : Bool) : Grow (sto s (Ads GO ++ F)) (Ads GO ++ F) (Ads GO ++ F) H H := ⟨.refl H, fun b hb => by
  cases s with
  | true => exact hb
  | false => exact (List.not_mem_nil hb).elim, fun b hb => .inl hb⟩
theorem enumD_get : ∀ (xs : List Da) (k i : Nat) (y : Da), (enumD k xs)[i]? = some y → ∃ x, xs[i]? = some x ∧ y = .tuple [.int ((k + i : Nat) : Int), x]
  | [], _, _, _, h => by simp [enumD] at h
  | x :: xs, k, 0, y, h => by
    unfold enumD at h
    simp at h
    exact ⟨x, rfl, h.symm⟩
  | x :: xs, k, i + 1, y, h => by
    unfold enumD at h
    obtain ⟨z, h1, h2⟩ := enumD_get xs (k + 1) i y (by simpa using h)
    exact ⟨z, by simpa using h1, by rw [h2, Nat.add_right_comm]; rfl⟩
theorem enumD_len : ∀ (xs : List Da) (k : Nat), (enumD k xs).length = xs.length
  | [], _ => rfl
  | x :: xs, k => congrArg (· + 1) (enumD_len xs (k + 1))
theorem di_enum (s : Bool) (hm : X.mg "enumerate" = none) (he : DE X W Γ e fl se) (hs : s = true → storable [fl] = true) (hg : Gl X "enumerate" := by show _ = _; kernel_rfl) (h1 : starEach [e] X.env = [(false, eval e X.env)] := by kernel_rfl) : DI X W Γ (.Tuple elts kk tpos) (.Call (.Name "enumerate" p) [e] [] pos) s (iEnum se) :=
  pi_imp (pi_enumQ hg hm (pa_cons he pa_nil h1) h1) fun σ H Q h => by
    obtain ⟨ρ, F, GO, E, h⟩ := h
    refine at_e E h fun d v H1 s1 r1 E1 h1 => ?_
    cases hd : toL d with
    | ok ds =>
      rw [hd] at h1
      obtain ⟨k, p, vs, rfl, r2, n2, st⟩ := r1.staysQ hd s hs
      refine ⟨p, vs, k, rfl, st H1 _ (grow_refl s), h1 (IteQ k X.K p) H1 s1 (fun i H' O' g => ⟨fun y hy => ?_, fun hl => ?_⟩) (by rw [enumD_len]; exact n2)⟩
      · obtain ⟨x, hx, rfl⟩ := enumD_get ds 0 i y hy
        obtain ⟨v, hv, rv⟩ := (r2.mono g).get hx
        have q := st H' O' g
        refine ⟨⟨vs, v, q, hv⟩, fun v' H'' ⟨T, x', e1, hT, e2, hx'⟩ => ?_⟩
        subst e1 e2
        have := hx' vs q
        rw [hv] at this
        cases this
        refine ⟨same_upd hT, .tup (.of upd_same) (by show 2 ≤ big; decide) (.cons ?_ (.cons (rv.mono (.same (same_upd hT))) .nil))⟩
        rw [Nat.zero_add]
        exact .int _
      · rw [enumD_len] at hl
        exact ⟨vs, st H' O' g, by rw [r2.length, hl]⟩
    | exc c => rw [hd] at h1; exact absurd hd (by cases d <;> exact fun z => nomatch z)
    | bad => rw [hd] at h1; exact h1.elim
theorem zipD_get : ∀ (xs ys : List Da) (i : Nat) (z : Da), (zipD xs ys)[i]? = some z → ∃ x y, xs[i]? = some x ∧ ys[i]? = some y ∧ z = .tuple [x, y]
  | [], _, _, _, h => by simp [zipD] at h
  | _ :: _, [], _, _, h => by simp [zipD] at h
  | x :: xs, y :: ys, 0, z, h => by
    unfold zipD at h
    simp at h
    exact ⟨x, y, rfl, rfl, h.symm⟩
  | x :: xs, y :: ys, i + 1, z, h => by
    unfold zipD at h
    obtain ⟨a, b, h1, h2, h3⟩ := zipD_get xs ys i z (by simpa using h)
    exact ⟨a, b, by simpa using h1, by simpa using h2, h3⟩
theorem zipD_len : ∀ (xs ys : List Da), (zipD xs ys).length = min xs.length ys.length
  | [], ys => by simp [zipD]
  | _ :: _, [] => by simp [zipD]
  | x :: xs, y :: ys => by
    unfold zipD
    rw [List.length_cons, zipD_len xs ys, List.length_cons, List.length_cons]
    omega
theorem toL_nx (d : Da) (c : Str) : toL d ≠ .exc c := by cases d <;> exact fun z => nomatch z
theorem di_zip (s : Bool) (hm : X.mg "zip" = none) (ha : DE X W Γ a fa sa) (hb : DE X W Γ b fb sb) (hs : s = true → storable [fa] = true) (hs2 : s = true → storable [fb] = true) (hg : Gl X "zip" := by show _ = _; kernel_rfl) (h1 : starEach [a, b] X.env = (false, eval a X.env) :: starEach [b] X.env := by kernel_rfl) (h2 : starEach [b] X.env = (false, eval b X.env) :: starEach [] X.env := by kernel_rfl) (hpl : (backTo pos (starEach [b] X.env)).any (·.1) = false := by kernel_rfl) : DI X W Γ (.Tuple elts kk tpos) (.Call (.Name "zip" p) [a, b] [] pos) s (iZip sa sb) :=
  pi_imp (pi_zipQ hg hm (pa_cons ha (pa_cons hb pa_nil h2) h1) h1 hpl) fun σ H Q h => by
    obtain ⟨ρ, F, GO, E, h⟩ := h
    refine at_e E h fun d v H1 s1 r1 E1 h1 => at_e E1 h1 fun d2 v2 H2 s2 r2 E2 h2 => ?_
    obtain ⟨ds, hd, h2⟩ := FinG.bind_ok (toL_nx d) h2
    obtain ⟨ds2, hd2, h2⟩ := FinG.bind_ok (toL_nx d2) h2
    obtain ⟨k, p, vs, rfl, q1, n1, st1⟩ := (r1.mono s2).staysQ hd s hs
    obtain ⟨k2, p2, vs2, rfl, q2, n2, st2⟩ := r2.staysQ hd2 s hs2
    refine ⟨p, p2, vs, vs2, k, k2, rfl, st1 H2 _ (grow_refl s), st2 H2 _ (grow_refl s), h2 (ItzQ k k2 X.K p p2) H2 (s1.trans s2) (fun i H' O' g => ⟨fun z hz => ?_, fun hl => ?_⟩) (by rw [zipD_len]; omega)⟩
    · obtain ⟨x, y, hx, hy, rfl⟩ := zipD_get ds ds2 i z hz
      obtain ⟨v, hv, rv⟩ := (q1.mono g).get hx
      obtain ⟨w, hw, rw'⟩ := (q2.mono g).get hy
      have t1 := st1 H' O' g
      have t2 := st2 H' O' g
      refine ⟨⟨vs, vs2, v, w, t1, t2, hv, hw⟩, fun v' H'' ⟨T, x', y', e1, hT, e2, hx', hy'⟩ => ?_⟩
      subst e1 e2
      have g1 := hx' vs t1
      rw [hv] at g1
      cases g1
      have g2 := hy' vs2 t2
      rw [hw] at g2
      cases g2
      exact ⟨same_upd hT, .tup (.of upd_same) (by show 2 ≤ big; decide) (.cons (rv.mono (.same (same_upd hT))) (.cons (rw'.mono (.same (same_upd hT))) .nil))⟩
    · rw [zipD_len] at hl
      exact ⟨vs, vs2, st1 H' O' g, st2 H' O' g, by rw [q1.length]; omega, by rw [q2.length]; omega, by rw [q1.length, q2.length]; omega⟩
end
end DL
set_option Elab.async false
set_option linter.all false
set_option maxRecDepth 100000
namespace DL
open PySem PySem.Spec PyProof.Rows L2

/-! ### sorting -/
theorem insI_perm (x : Int) : ∀ l : List Int, (insI x l).Perm (x :: l)
  | [] => List.Perm.refl _
  | y :: l => by
    unfold insI
    split
    · exact List.Perm.refl _
    · exact ((insI_perm x l).cons y).trans (List.Perm.swap x y l)
theorem insI_sorted (x : Int) : ∀ l : List Int, l.Pairwise (· ≤ ·) → (insI x l).Pairwise (· ≤ ·)
  | [], _ => List.pairwise_singleton _ _
  | y :: l, h => by
    unfold insI
    obtain ⟨h1, h2⟩ := List.pairwise_cons.mp h
    split
    · rename_i q
      exact List.pairwise_cons.mpr ⟨fun z hz => by
        rcases List.mem_cons.mp hz with e | hz
        · subst e; exact q
        · have := h1 z hz; omega, h⟩
    · rename_i q
      exact List.pairwise_cons.mpr ⟨fun z hz => by
        rcases List.mem_cons.mp ((insI_perm x l).mem_iff.mp hz) with e | hz
        · subst e; omega
        · exact h1 z hz, insI_sorted x l h2⟩
theorem sortI_perm : ∀ l : List Int, (sortI l).Perm l
  | [] => List.Perm.refl _
  | x :: l => (insI_perm x (sortI l)).trans ((sortI_perm l).cons x)
theorem sortI_sorted : ∀ l : List Int, (sortI l).Pairwise (· ≤ ·)
  | [] => List.Pairwise.nil
  | x :: l => insI_sorted x _ (sortI_sorted l)
theorem sorted_one : ∀ (l m : List Int), l.Perm m → l.Pairwise (· ≤ ·) → m.Pairwise (· ≤ ·) → l = m
  | [], m, p, _, _ => (List.Perm.eq_nil p.symm).symm
  | x :: l, [], p, _, _ => absurd p.length_eq (by simp)
  | x :: l, y :: m, p, h1, h2 => by
    obtain ⟨a1, a2⟩ := List.pairwise_cons.mp h1
    obtain ⟨b1, b2⟩ := List.pairwise_cons.mp h2
    have e : x = y := by
      have q1 : x ∈ y :: m := p.mem_iff.mp List.mem_cons_self
      have q2 : y ∈ x :: l := p.mem_iff.mpr List.mem_cons_self
      rcases List.mem_cons.mp q1 with q1 | q1
      · exact q1
      · rcases List.mem_cons.mp q2 with q2 | q2
        · exact q2.symm
        · have := a1 y q2
          have := b1 x q1
          omega
    subst e
    rw [sorted_one l m ((List.perm_cons x).mp p) a2 b2]

section
variable {X : Cx} {W : WX} {Γ Γ' Γ1 : List Nat} {e a b c d k : Expr} {es : List Expr} {fls : List Fl} {fl fa fb fc fk : Fl} {se sa sb sc sk : SE} {pos p p2 p3 : Pos}
theorem RpAll.intsR {K : PySem.W.Frag} {H : Hp} {O : List Addr} : ∀ is : List Int, RpAll K H O (is.map V.int) (is.map PyData.int)
  | [] => .nil
  | i :: is => .cons (.int i) (RpAll.intsR is)
theorem intsD_len : ∀ {xs : List Da} {is : List Int}, intsD xs = .ok is → is.length = xs.length
  | [], is, e => by unfold intsD at e; cases e; rfl
  | x :: xs, is, e => by
    cases x with
    | int i =>
      unfold intsD at e
      cases q : intsD xs with
      | ok js =>
        rw [q] at e
        cases e
        rw [List.length_cons, List.length_cons, intsD_len q]
      | exc c => rw [q] at e; cases e
      | bad => rw [q] at e; cases e
    | _ => unfold intsD at e; cases e
/-! ### range with a step -/
theorem rng3_get {lo c : Int} {n i : Nat} {x : Da} (h : (rng3D lo c n)[i]? = some x) : i < n ∧ x = .int (lo + (i : Nat) * c) := by
  unfold rng3D at h
  rw [List.getElem?_map] at h
  by_cases hi : i < n
  · rw [List.getElem?_range hi] at h
    exact ⟨hi, (Option.some.inj h).symm⟩
  · rw [List.getElem?_eq_none (by rw [List.length_range]; omega)] at h
    cases h
theorem rng3_len (lo c : Int) (n : Nat) : (rng3D lo c n).length = n := by unfold rng3D; rw [List.length_map, List.length_range]
theorem itD_rng3 {K : PySem.W.Frag} {G O : List Addr} {H1 : Hp} {lo c : Int} {n : Nat} : ItD K G O H1 (Itc lo c n) (rng3D lo c n) := fun i H O' g =>
  ⟨fun x hx => by
    obtain ⟨hi, rfl⟩ := rng3_get hx
    exact ⟨hi, fun v H' ⟨e1, e2⟩ => by subst e1 e2; exact ⟨.refl _, .int _⟩⟩, fun hl => by rw [rng3_len] at hl; exact Nat.le_of_eq hl.symm⟩

/-! ### an owned list written -/
theorem EnvR.writeL {K : PySem.W.Frag} {F : List Addr} {GO : List (Nat × Addr)} {σ : L2.St} {H : Hp} {ρ : Ev} (E : EnvR K Γ F GO σ H ρ) {i : Nat} {q : Addr} {vs vs' : List V} {ds' : List Da} (hq : (i, q) ∈ GO) (g1 : H q = some (.lst vs)) (r : RpAll K H (Ads GO ++ F) vs' ds') (n : ds'.length ≤ big) :
    EnvR K Γ F GO σ (upd H q (.lst vs')) (ρ.set i (some (.list ds'))) ∧ Keep (Ads GO) H (upd H q (.lst vs')) := by
  have kq : Keep [q] H (upd H q (.lst vs')) := fun b u e hb => by
    by_cases z : b = q
    · subst z
      rw [g1] at e
      cases e
      cases hb List.mem_cons_self
    · rw [upd_ne z]; exact e
  have g : Grow [q] (Ads GO ++ F) (Ads GO ++ F) H (upd H q (.lst vs')) := ⟨kq, fun b hb => by
    rw [List.mem_singleton] at hb
    subst hb
    exact List.mem_append_left _ (List.mem_map.mpr ⟨_, hq, rfl⟩), fun b hb => .inl hb⟩
  exact E.write hq (o := .lst vs') (d := .list ds') ⟨_, upd_same, r.mono g, n⟩

/-! ### x[k] += e -/
def rIxG (K : PySem.W.Frag) : V → V → Hp → VK → Prop := fun x y H Q => rIxL K x y H Q
theorem get_list : PGet X (rIxG X.K) := by
  intro pins s σ H x y v u Q I rx ry h
  obtain ⟨p, xs, i, z, rfl, rfl, hq, he, q⟩ := h
  cases rx
  obtain ⟨t, rfl⟩ := ry
  obtain ⟨its, r, pl, hz⟩ := I.list hq
  obtain ⟨j, h1, h2, h3, h4, h5⟩ := atI_get he
  obtain ⟨w, ew, rw'⟩ := r.get h2
  have hl := r.length
  have hn := line63
  have fin : EP X pins σ Q w s := ⟨z, H, I, rw', q⟩
  by_cases h0 : 0 ≤ i
  · have hj : i.toNat = j := by
      rw [seqIndex_of h0 h5] at h1
      exact Option.some.inj h1
    exact wpAny_getItem_list pl.isList h0 (by omega) (by rw [hj]; simpa using ew) fin
  · have hj : (i + (its.toArray.size : Int)).toNat = j := by
      rw [seqIndex_neg (by omega) h4] at h1
      rw [List.size_toArray, ← hl]
      exact Option.some.inj h1
    exact wpAny_getItem_list_neg pl.isList (by omega) (by rw [List.size_toArray] <;> omega) (by omega) (by rw [hj]; simpa using ew) fin
theorem ds_augI {i : Nat} {x : Str} {tpos : Pos} (hN : X.N[i]? = some x) (hv : Vis X.env.scope x) (hΓ : Γ.contains i = true) (hk : DE X W Γ k fk sk) (he : DE X W Γ e fl se)
    (hd : (x == ("__debug__" : Str)) = false := by decide) (hcd : (x == ("__classdict__" : Str)) = false := by decide)
    (ha : ∀ ov iv new, augStore k ov iv new = (do holding [new, ov, iv] (setItem ov iv new); release [new, ov, iv] []; pure Flow.next) := by intros; rfl) :
    DS X W Γ (.AugAssign (.Subscript (.Name x p) k tpos) .Add e pos) Γ (sAugI i sk se) :=
  ps_imp (ps_augS (pe_var (i := i) hN hv hd hcd) hk get_list he ip_add set_list ha) fun D σ H h => by
    obtain ⟨ρ, F, GO, E, h⟩ := h
    unfold sAugI at h
    obtain ⟨q, d0, hq, k1, k2, k3⟩ := E.ownL hΓ
    refine ⟨.ref q, k1, ?_⟩
    refine at_s F GO E h fun j w H1 s1 r1 E1 h1 => ?_
    obtain ⟨q', d1, hq', k1', k2', k3'⟩ := E1.ownL hΓ
    have eq' : q' = q := by rw [k1] at k1'; cases k1'; rfl
    subst eq'
    rw [k2'] at h1
    cases d1 with
    | list ds1 =>
      obtain ⟨vs, g1, g2, g3⟩ := k3'
      cases j with
      | int ii =>
        cases r1.int
        have h2 : FinS X.K X.mg W Γ F GO H1 ((oR (atD ds1 ii)).bind fun x => (se ρ).bind fun y => (addI x y).bind fun z => updE ρ i (setD (.int ii) z)) D := h1
        cases e1 : atD ds1 ii with
        | none => rw [e1] at h2; exact h2.elim
        | some x0 =>
          rw [e1] at h2
          obtain ⟨v0, e2, r2⟩ := atD_get g2 e1
          refine ⟨q', vs, ii, v0, rfl, rfl, .inl (.inl g1), atD_I _ _ e2, ?_⟩
          have h3 : FinS X.K X.mg W Γ F GO H1 ((se ρ).bind fun y => (addI x0 y).bind fun z => updE ρ i (setD (.int ii) z)) D := h2
          refine at_s F GO E1 h3 fun y w2 H2 s2 r3 E2 h4 => ?_
          cases x0 with
          | int a0 =>
            cases r2
            cases y with
            | int b0 =>
              cases r3.int
              have h5 : FinS X.K X.mg W Γ F GO H2 (updE ρ i (setD (.int ii) (.int (a0 + b0)))) D := h4
              refine ⟨a0, b0, rfl, rfl, ?_⟩
              unfold updE at h5
              rw [k2'] at h5
              have h6 : FinS X.K X.mg W Γ F GO H2 (((oR (ixD ds1.length ii)).bind fun jj => R.ok (PyData.list (ds1.set jj (.int (a0 + b0))))).bind fun d' => .ok (.nx (ρ.set i (some d')))) D := h5
              cases e3 : ixD ds1.length ii with
              | none => rw [e3] at h6; exact h6.elim
              | some jj =>
                rw [e3] at h6
                have h7 : FinS X.K X.mg W Γ F GO H2 (.ok (.nx (ρ.set i (some (.list (ds1.set jj (.int (a0 + b0)))))))) D := h6
                have g1' := s2 _ _ g1
                obtain ⟨E3, K3⟩ := E2.writeL hq' g1' (vs' := vs.set jj (.int (a0 + b0))) (ds' := ds1.set jj (.int (a0 + b0))) (RpAll.set (.int _) jj (g2.mono (.same s2))) (by rw [List.length_set]; exact g3)
                exact ⟨q', vs, ii, jj, rfl, rfl, g1', by rw [g2.length]; exact e3, h7 σ _ GO E3 K3 same_new⟩
            | _ => exact h4.elim
          | _ => exact h4.elim
      | _ => exact h1.elim
    | _ => exact k3'.elim
theorem name_s {i : Nat} {D : Ends} {σ : L2.St} {H : Hp} (hΓ : Γ.contains i = false) (hf : storable [fl] = true) (h : tDS X.K X.mg W Γ Γ (sAsg (gVar i) se) D σ H) : tDE X.K X.mg W Γ fl se σ H fun x H1 => gName i x σ H1 D.nx := by
  obtain ⟨ρ, F, GO, E, h⟩ := h
  refine at_s F GO E h fun d v H1 s1 r1 E1 h1 => ?_
  have hi' : i ∉ Γ := fun z => by rw [List.contains_iff_mem.mpr z] at hΓ; cases hΓ
  exact h1 _ H1 GO (E1.setS hi' (r1.stored hf)) (.refl H1) same_new
end
end DL
set_option Elab.async false
set_option linter.all false
set_option maxRecDepth 100000
namespace DL
open PySem PySem.Spec PyProof.Rows L2
section
variable {X : Cx} {W : WX} {Γ Γ' Γ1 : List Nat} {e a b c d k : Expr} {es : List Expr} {fls : List Fl} {fl fa fb fc fk : Fl} {se sa sb sc sk : SE} {pos p p2 p3 : Pos}
theorem rgC3 {i j c : Int} (h1 : i.natAbs < 1073741824) (h2 : j.natAbs < 1073741824) (hc : 0 < c) (h3 : c.natAbs < 1073741824) : RgC i j c (r3n i j c) := by
  have e : Builtin.Range.rangeSize i j c = (r3n i j c : Int) := by
    unfold Builtin.Range.rangeSize r3n
    rw [if_pos hc]
    split
    · have := Int.ediv_nonneg (show 0 ≤ j - i - 1 by omega) (show 0 ≤ c by omega)
      omega
    · rfl
  have hle : (r3n i j c : Int) ≤ 2147483648 ∧ (i < j → (r3n i j c : Int) = (j - i - 1) / c + 1) := by
    unfold r3n
    split
    · have g1 := Int.ediv_nonneg (show 0 ≤ j - i - 1 by omega) (show 0 ≤ c by omega)
      have g2 := Int.ediv_le_self c (show 0 ≤ j - i - 1 by omega)
      omega
    · omega
  refine ⟨by omega, h3, ?_, e⟩
  unfold Builtin.Range.small
  rw [e, if_pos hc]
  simp only [Builtin.Range.rangeFitsLong, Bool.and_eq_true, Bool.or_eq_true, decide_eq_true_eq, beq_iff_eq]
  omega
theorem di_rng3 (s : Bool) (hg : Gl X "range") (hm : X.mg "range" = none) {tg : Expr} (ha : DA X W Γ [a, b, c] [fa, fb, fc] (aCons sa (aCons sb (aCons sc aNil)))) (hs : starEach [a, b, c] X.env = (false, eval a X.env) :: starEach [b, c] X.env := by kernel_rfl) (hpl : (backTo pos (starEach [b, c] X.env)).any (·.1) = false := by kernel_rfl) : DI X W Γ tg (.Call (.Name "range" p) [a, b, c] [] pos) s (DL.iRng3 sa sb sc) :=
  pi_imp (pi_range3 hg hm ha hs hpl) fun σ H Q h => by
    obtain ⟨ρ, F, GO, E, h⟩ := h
    have h : FinG X.mg W σ H ((aCons sa (aCons sb (aCons sc aNil)) ρ).bind fun xs => match xs with | [x, y, z] => (toI x).bind fun i => (toI y).bind fun j => (toI z).bind fun k => dRng3 i j k | _ => .bad) fun xs => ∀ J H1, Same H H1 → ItD X.K (sto s (Ads GO ++ F)) (Ads GO ++ F) H1 J xs → xs.length ≤ big → Q J H1 := by
      have h0 : FinG X.mg W σ H ((sa ρ).bind fun x => (sb ρ).bind fun y => (sc ρ).bind fun z => (toI x).bind fun i => (toI y).bind fun j => (toI z).bind fun k => dRng3 i j k) fun xs => ∀ J H1, Same H H1 → ItD X.K (sto s (Ads GO ++ F)) (Ads GO ++ F) H1 J xs → xs.length ≤ big → Q J H1 := h
      unfold aCons
      cases q : sa ρ with
      | ok x =>
        rw [q] at h0
        have h0 : FinG X.mg W σ H ((sb ρ).bind fun y => (sc ρ).bind fun z => (toI x).bind fun i => (toI y).bind fun j => (toI z).bind fun k => dRng3 i j k) _ := h0
        cases q2 : sb ρ with
        | ok y =>
          rw [q2] at h0
          have h0 : FinG X.mg W σ H ((sc ρ).bind fun z => (toI x).bind fun i => (toI y).bind fun j => (toI z).bind fun k => dRng3 i j k) _ := h0
          cases q3 : sc ρ with
          | ok z => rw [q3] at h0; simpa [q2, q3] using h0
          | exc c => rw [q3] at h0; simpa [q2, q3] using h0
          | bad => rw [q3] at h0; simpa [q2, q3] using h0
        | exc c => rw [q2] at h0; simpa [q2] using h0
        | bad => rw [q2] at h0; simpa [q2] using h0
      | exc c => rw [q] at h0; exact h0
      | bad => rw [q] at h0; exact h0
    refine at_a E h fun ds vs H1 s1 r1 E1 h1 => ?_
    cases r1 with
    | cons q1 t1 =>
      cases t1 with
      | cons q2 t2 =>
        cases t2 with
        | cons q3 t3 =>
          cases t3
          rename_i v1 d1 v2 d2 v3 d3
          have h1 : FinG X.mg W σ H1 ((toI d1).bind fun i => (toI d2).bind fun j => (toI d3).bind fun k => dRng3 i j k) fun xs => ∀ J H1, Same H H1 → ItD X.K (sto s (Ads GO ++ F)) (Ads GO ++ F) H1 J xs → xs.length ≤ big → Q J H1 := h1
          cases d1 with
          | int i =>
            cases d2 with
            | int j =>
              cases d3 with
              | int k =>
                cases q1.int
                cases q2.int
                cases q3.int
                have h2 : FinG X.mg W σ H1 (dRng3 i j k) fun xs => ∀ J H1, Same H H1 → ItD X.K (sto s (Ads GO ++ F)) (Ads GO ++ F) H1 J xs → xs.length ≤ big → Q J H1 := h1
                unfold dRng3 at h2
                split at h2
                · rename_i cc
                  obtain ⟨c1, c2, c3, c4, c5⟩ := cc
                  exact ⟨i, j, k, r3n i j k, rfl, rgC3 c1 c2 c3 c4, h2 (Itc i k (r3n i j k)) H1 s1 itD_rng3 (by rw [rng3_len]; exact c5)⟩
                · split at h2
                  · rename_i cc
                    obtain ⟨c0, c1, c2, c5⟩ := cc
                    subst c0
                    exact ⟨i, j, -1, (i - j).toNat, rfl, RgC.neg (by omega) (by omega) (by omega) (by omega), h2 (Itc i (-1) (i - j).toNat) H1 s1 itD_rng3 (by rw [rng3_len]; exact c5)⟩
                  · exact h2.elim
              | _ => exact h1.elim
            | _ => exact h1.elim
          | _ => exact h1.elim
/-! ### two for's -/
theorem lcL2_cons {f : Da → R (List Da)} {x : Da} {xs ys : List Da} (h : lcL2 f (x :: xs) = .ok ys) : ∃ y zs, f x = .ok y ∧ lcL2 f xs = .ok zs ∧ ys = y ++ zs := by
  unfold lcL2 at h
  cases e : f x with
  | ok y =>
    rw [e] at h
    cases q : lcL2 f xs with
    | ok zs =>
      rw [q] at h
      exact ⟨y, zs, rfl, rfl, (R.ok.inj h).symm⟩
    | exc _ => rw [q] at h; cases h
    | bad => rw [q] at h; cases h
  | exc _ => rw [e] at h; cases h
  | bad => rw [e] at h; cases h
theorem lcL2_nx {f : Da → R (List Da)} : ∀ (xs : List Da) (c : Str), lcL2 f xs ≠ .exc c
  | [], c, h => nomatch h
  | x :: xs, c, h => by
    unfold lcL2 at h
    cases e : f x with
    | ok y =>
      rw [e] at h
      cases q : lcL2 f xs with
      | ok zs => rw [q] at h; cases h
      | exc _ => rw [q] at h; cases h
      | bad => rw [q] at h; cases h
    | exc _ => rw [e] at h; cases h
    | bad => rw [e] at h; cases h
theorem R.bind_ok_inv {α β : Type} {r : R α} {f : α → R β} {b : β} (h : r.bind f = .ok b) : ∃ a, r = .ok a ∧ f a = .ok b := by
  cases r with
  | ok a => exact ⟨a, rfl, h⟩
  | exc c => cases h
  | bad => cases h
theorem lc2_s {own vs1 : List Nat} {si si1 : SI} {is is1 : List Nat} {g g1 : STg} {st st1 se : SE} {fl : Fl} (hown : own.all (fun i => !Γ.contains i) = true) (hvs : vs1.all (fun i => own.contains i) = true) (his : is.all (fun i => own.contains i) = true) (his1 : is1.all (fun i => vs1.contains i) = true) (hf : storable [fl] = true)
    {σ : L2.St} {H0 : Hp} {Q : VK} (h : tDE X.K X.mg W Γ .fr (eLc2 si g own st si1 g1 vs1 st1 se) σ H0 Q) :
    tLc2 (tDI X.K X.mg W Γ false si) (tDG X.K Γ is g) (tDT X.K X.mg W0 Γ st) (tDI X.K X.mg W0 Γ true si1) (tDG X.K Γ is1 g1) (tDT X.K X.mg W0 Γ st1) (tDE X.K X.mg W0 Γ fl se) own vs1 σ H0 Q := by
  obtain ⟨ρ, F, GO, E, h⟩ := h
  have hown' : ∀ i, i ∈ own → i ∉ Γ := fun i hi hz => by
    have := List.all_eq_true.mp hown i hi
    rw [List.contains_iff_mem.mpr hz] at this
    cases this
  have hvs' : ∀ i, i ∈ vs1 → i ∈ own := fun i hi => List.contains_iff_mem.mp (List.all_eq_true.mp hvs i hi)
  have his' : ∀ i, i ∈ is → i ∈ own := fun i hi => List.contains_iff_mem.mp (List.all_eq_true.mp his i hi)
  have his1' : ∀ i, i ∈ is1 → i ∈ vs1 := fun i hi => List.contains_iff_mem.mp (List.all_eq_true.mp his1 i hi)
  unfold eLc2 at h
  refine ⟨ρ, F, GO, E, h.bind.imp fun xs _ h J H1 s1 itd hlen D hD => ?_⟩
  obtain ⟨ys, hys, h⟩ := FinG.bind_ok (lcL2_nx xs) h
  have h : FinG X.mg W σ H0 (if ys.length ≤ big then R.ok (PyData.list ys) else .bad) (PE_ X.K H0 (Ads GO ++ F) .fr Q) := h
  split at h
  case isFalse => exact h.elim
  rename_i hbig
  have hq : PE_ X.K H0 (Ads GO ++ F) .fr Q (.list ys) := h
  have E1 := E.mono s1
  have hnD : D ∉ Ads GO ++ F := E1.newp hD
  have sub : ∀ b, b ∈ Ads GO ++ F → b ∈ Ads GO ++ (D :: F) := fun b hb => by
    rcases List.mem_append.mp hb with hb | hb
    · exact List.mem_append_left _ hb
    · exact List.mem_append_right _ (List.mem_cons_of_mem _ hb)
  refine ⟨fun i m H => i ≤ xs.length ∧ m = xs.length - i ∧ Same H1 H ∧ ∃ acc ds zs, H D = some (.lst acc) ∧ RpAll X.K H (Ads GO ++ (D :: F)) acc ds ∧ lcL2 (lcF2 g own st si1 g1 vs1 st1 se ρ) (xs.drop i) = .ok zs ∧ ds ++ zs = ys,
    ⟨xs.length, Nat.zero_le _, rfl, Same.upd_new hD (.refl H1), [], [], ys, upd_same, .nil, hys, rfl⟩, ?_⟩
  rintro i m H ⟨hi, rfl, sH, acc, ds, zs, hacc, racc, hzs, hcat⟩
  have gr : ∀ {H : Hp}, Same H1 H → Grow [] (Ads GO ++ F) (Ads GO ++ (D :: F)) H1 H := fun sH => ⟨.of_same sH, fun _ z => (List.not_mem_nil z).elim, fun b hb => by
    rcases List.mem_append.mp hb with hb | hb
    · exact .inl (List.mem_append_left _ hb)
    · rcases List.mem_cons.mp hb with e | hb
      · subst e; exact .inr hD
      · exact .inl (List.mem_append_right _ hb)⟩
  obtain ⟨it1, it2⟩ := itd i H _ (gr sH)
  by_cases hlt : i < xs.length
  · refine .inr ?_
    have hx : xs[i]? = some xs[i] := List.getElem?_eq_getElem hlt
    obtain ⟨go, yld⟩ := it1 _ hx
    have hdrop : xs.drop i = xs[i] :: xs.drop (i + 1) := List.drop_eq_getElem_cons hlt
    rw [hdrop] at hzs
    obtain ⟨y, ws, e1, e2, e3⟩ := lcL2_cons hzs
    subst e3
    refine ⟨go, fun H' => Same H1 H' ∧ ∃ acc ds zs, H' D = some (.lst acc) ∧ RpAll X.K H' (Ads GO ++ (D :: F)) acc ds ∧ lcL2 (lcF2 g own st si1 g1 vs1 st1 se ρ) (xs.drop (i + 1)) = .ok zs ∧ ds ++ zs = ys, fun H' hw => ⟨xs.length - (i + 1), by omega, hlt, rfl, hw⟩, fun v H' hv => ?_⟩
    obtain ⟨s2, rv⟩ := yld v H' hv
    have sH' : Same H1 H' := sH.trans s2
    have hD' : H' D = some (.lst acc) := s2 _ _ hacc
    have EB : EnvR X.K Γ (D :: F) GO (wipe σ own) H' (kill ρ own) := (E1.under hD sH' (by rw [hD']; exact fun z => nomatch z)).wipeAll hown'
    unfold lcF2 at e1
    obtain ⟨ρ1, q1, e1⟩ := R.bind_ok_inv e1
    refine ⟨kill ρ own, D :: F, GO, xs[i], EB, rv, ?_⟩
    rw [q1]
    intro σ2 E2 w2
    refine ⟨(w2 own his').trans (wipe_ext (wipe_length _ _) fun j hj => ?_), ?_⟩
    · by_cases hl : j < σ.length
      · rw [wipe_get σ own j hl, if_neg hj]
      · rw [List.getElem?_eq_none (by rw [wipe_length]; omega), List.getElem?_eq_none (by omega)]
    obtain ⟨b, q2, e1⟩ := R.bind_ok_inv e1
    refine ⟨ρ1, D :: F, GO, E2, ok_of_fin ⟨b, q2, fun H3 s3 => ?_⟩⟩
    cases q3 : tru b with
    | false =>
      rw [if_neg Bool.false_ne_true]
      rw [q3, if_neg Bool.false_ne_true] at e1
      have ey : y = [] := (R.ok.inj e1).symm
      subst ey
      exact ⟨sH'.trans s3, acc, ds, ws, s3 _ _ hD', racc.mono (.same (s2.trans s3)), e2, hcat⟩
    | true =>
      rw [if_pos rfl]
      rw [q3, if_pos rfl] at e1
      obtain ⟨xs1, q4, e4⟩ := R.bind_ok_inv e1
      refine ⟨ρ1, D :: F, GO, E2.mono s3, ok_of_fin ⟨xs1, q4, fun J1 H4 s4 itd1 hlen1 => ?_⟩⟩
      have E4 : EnvR X.K Γ (D :: F) GO σ2 H4 ρ1 := (E2.mono s3).mono s4
      have hD4 : H4 D = some (.lst acc) := s4 _ _ (s3 _ _ hD')
      have sH4 : Same H1 H4 := (sH'.trans s3).trans s4
      refine ⟨fun j k H => j ≤ xs1.length ∧ k = xs1.length - j ∧ Keep [D] H4 H ∧ Same H1 H ∧ ∃ acc ds zs, H D = some (.lst acc) ∧ RpAll X.K H (Ads GO ++ (D :: F)) acc ds ∧ lcL (lcF g1 vs1 st1 se ρ1) (xs1.drop j) = .ok zs ∧ ds ++ (zs ++ ws) = ys,
        ⟨xs1.length, Nat.zero_le _, rfl, .refl H4, sH4, acc, ds, y, hD4, racc.mono (.same ((s2.trans s3).trans s4)), e4, by rw [← hcat]⟩, ?_⟩
      rintro j k H5 ⟨hj, rfl, k5, sH5, acc5, ds5, zs5, hacc5, racc5, hzs5, hcat5⟩
      have gD : ∀ {Ha Hb : Hp}, Keep [D] Ha Hb → Grow [D] (Ads GO ++ (D :: F)) (Ads GO ++ (D :: F)) Ha Hb := fun k => ⟨k, fun b hb => by
        rw [List.mem_singleton] at hb
        subst hb
        exact List.mem_append_right _ List.mem_cons_self, fun b hb => .inl hb⟩
      have gO : Grow (Ads GO ++ (D :: F)) (Ads GO ++ (D :: F)) (Ads GO ++ (D :: F)) H4 H5 := ⟨keep_less (fun b hb => by
        rw [List.mem_singleton] at hb
        subst hb
        exact List.mem_append_right _ List.mem_cons_self) k5, fun b hb => hb, fun b hb => .inl hb⟩
      obtain ⟨jt1, jt2⟩ := itd1 j H5 _ gO
      -- the slots at this place: what they own is not D
      have E5 : EnvR X.K Γ (D :: F) GO σ2 H5 ρ1 := by
        have ow : ∀ p, p ∈ Ads GO → p ∉ [D] := fun p hp hz => by
          rw [List.mem_singleton] at hz
          subst hz
          exact hnD (List.mem_append_left _ hp)
        refine ⟨E4.len, E4.dom, E4.inj, E4.dis, fun b hb z => ?_, fun i2 p2 hp2 => ?_, fun i2 d2 hi2 hd2 => ?_⟩
        · rcases List.mem_cons.mp hb with e | hb2
          · subst e; rw [hacc5] at z; cases z
          · cases q9 : H4 b with
            | none => exact E4.frn b hb q9
            | some o =>
              by_cases e : b = D
              · subst e; rw [hacc5] at z; cases z
              · rw [k5 b o q9 fun hz => absurd (by simpa using hz) e] at z; cases z
        · obtain ⟨h1, d', h2, h3⟩ := E4.own i2 p2 hp2
          exact ⟨h1, d', h2, h3.mono (gD k5) (ow p2 (List.mem_map.mpr ⟨_, hp2, rfl⟩))⟩
        · obtain ⟨v2, h1, h2⟩ := E4.sh i2 d2 hi2 hd2
          exact ⟨v2, h1, h2.mono (gD k5)⟩
      by_cases hlt1 : j < xs1.length
      · refine .inr ?_
        obtain ⟨go1, yld1⟩ := jt1 _ (List.getElem?_eq_getElem hlt1)
        rw [List.drop_eq_getElem_cons hlt1] at hzs5
        obtain ⟨y6, ws6, f1, f2, f3⟩ := lcL_cons hzs5
        refine ⟨go1, fun H' => Keep [D] H4 H' ∧ Same H1 H' ∧ ∃ acc ds zs, H' D = some (.lst acc) ∧ RpAll X.K H' (Ads GO ++ (D :: F)) acc ds ∧ lcL (lcF g1 vs1 st1 se ρ1) (xs1.drop (j + 1)) = .ok zs ∧ ds ++ (zs ++ ws) = ys, fun H' hw => ⟨xs1.length - (j + 1), by omega, hlt1, rfl, hw⟩, fun v6 H6 hv6 => ?_⟩
        obtain ⟨s6, rv6⟩ := yld1 v6 H6 hv6
        have hD6 : H6 D = some (.lst acc5) := s6 _ _ hacc5
        have k6 : Keep [D] H4 H6 := fun b o e hb => s6 _ _ (k5 b o e hb)
        have E6 : EnvR X.K Γ (D :: F) GO (wipe σ2 vs1) H6 (kill ρ1 vs1) := (E5.mono s6).wipeAll fun i hi => hown' i (hvs' i hi)
        unfold lcF at f1
        obtain ⟨ρ2, q6, f1⟩ := R.bind_ok_inv f1
        refine ⟨kill ρ1 vs1, D :: F, GO, xs1[j], E6, rv6, ?_⟩
        rw [q6]
        intro σ3 E7 w3
        refine ⟨(w3 vs1 his1').trans (wipe_ext (wipe_length _ _) fun j2 hj2 => ?_), ?_⟩
        · by_cases hl : j2 < σ2.length
          · rw [wipe_get σ2 vs1 j2 hl, if_neg hj2]
          · rw [List.getElem?_eq_none (by rw [wipe_length]; omega), List.getElem?_eq_none (by omega)]
        obtain ⟨b7, q7, f1⟩ := R.bind_ok_inv f1
        refine ⟨ρ2, D :: F, GO, E7, ok_of_fin ⟨b7, q7, fun H7 s7 => ?_⟩⟩
        cases q8 : tru b7 with
        | false =>
          rw [if_neg Bool.false_ne_true]
          rw [q8, if_neg Bool.false_ne_true] at f1
          have ey : y6 = none := (R.ok.inj f1).symm
          subst ey
          subst f3
          exact ⟨fun b o e hb => s7 _ _ (k6 b o e hb), (sH5.trans s6).trans s7, acc5, ds5, zs5, s7 _ _ hD6, racc5.mono (.same (s6.trans s7)), f2, hcat5⟩
        | true =>
          rw [if_pos rfl]
          rw [q8, if_pos rfl] at f1
          obtain ⟨d8, q9, f1⟩ := R.bind_ok_inv f1
          have ey : y6 = some d8 := (R.ok.inj f1).symm
          subst ey
          refine ⟨ρ2, D :: F, GO, E7.mono s7, ok_of_fin ⟨d8, q9, fun v8 H8 s8 r8 => ?_⟩⟩
          have hD8 : H8 D = some (.lst acc5) := s8 _ _ (s7 _ _ hD6)
          have r8' := r8.stored hf
          have kk : Keep [D] H8 (upd H8 D (.lst (acc5 ++ [v8]))) := fun b o e hb => by
            by_cases q : b = D
            · subst q
              rw [hD8] at e
              cases e
              cases hb List.mem_cons_self
            · rw [upd_ne q]; exact e
          have racc8 : RpAll X.K H8 (Ads GO ++ (D :: F)) acc5 ds5 := racc5.mono (.same ((s6.trans s7).trans s8))
          have lenB : ds5.length < big := by
            have e9 := congrArg List.length hcat5
            rw [f3] at e9
            simp only [List.length_append, List.length_cons] at e9
            omega
          refine ⟨acc5, hD8, by rw [racc5.length]; exact Nat.lt_of_lt_of_le lenB (big_le (Nat.le_refl _)), fun b o e hb => kk b o (s8 _ _ (s7 _ _ (k6 b o e hb))) hb, Same.upd_new hD (((sH5.trans s6).trans s7).trans s8), acc5 ++ [v8], ds5 ++ [d8], ws6, upd_same, (racc8.append (.cons r8' .nil)).mono (gD kk), f2, ?_⟩
          rw [← hcat5, f3, List.append_assoc]
          rfl
      · have hj' : j = xs1.length := by omega
        refine .inl ⟨jt2 hj', ?_⟩
        have ez : zs5 = [] := by
          rw [List.drop_of_length_le (by omega)] at hzs5
          cases hzs5; rfl
        subst ez
        exact ⟨sH5, acc5, ds5, ws, hacc5, racc5, e2, by rw [← hcat5]; rfl⟩
  · have hi' : i = xs.length := by omega
    refine .inl ⟨it2 (by omega), ?_⟩
    have ez : zs = [] := by
      rw [List.drop_of_length_le (by omega)] at hzs
      cases hzs; rfl
    subst ez
    rw [List.append_nil] at hcat
    subst hcat
    have g5 : Grow [] (Ads GO ++ (D :: F)) (Ads GO ++ F) H H := .sub_ (.refl H) sub
    have g6 : Grow [] (Ads GO ++ (D :: F)) (D :: (Ads GO ++ F)) H H := .sub_ (.refl H) fun b hb => by
      rcases List.mem_cons.mp hb with e | hb
      · subst e; exact List.mem_append_right _ List.mem_cons_self
      · exact sub b hb
    refine hq _ _ (s1.trans sH) ⟨.lst (.inl ⟨.inl hacc, hnD⟩) hbig (racc.mono g5), fun ds' e => ?_⟩
    cases e
    exact ⟨D, rfl, s1.free hD, acc, hacc, racc.mono g6, hbig⟩
theorem de_lc2 {elt tg iter tg1 iter1 : Expr} {ifs ifs1 : List Expr} {scope : Scope} {own : List (Str × Nat)} {vs1 : List Nat} {si si1 : SI} {is is1 : List Nat} {g g1 : STg} {st st1 se : SE} {fl : Fl}
    (hc : X.calm = true) (hN : X.N.Nodup) (hi : DI X W Γ tg iter false si) (ok : BlkOk X.N X.env.scope scope own)
    (hown : (own.map (·.2)).all (fun i => !Γ.contains i) = true) (hvs : vs1.all (fun i => (own.map (·.2)).contains i) = true) (his : is.all (fun i => (own.map (·.2)).contains i) = true) (his1 : is1.all (fun i => vs1.contains i) = true)
    (hg : ∀ (s : Shared) (H : Hp) (C : Addr) (cl : List (Str × Addr)) (fp : List Addr), DG (X.blk s H scope (compEnvC scope cl C X.env) fp) Γ tg is g)
    (ht : ∀ (s : Shared) (H : Hp) (C : Addr) (cl : List (Str × Addr)) (fp : List Addr), DTs (X.blk s H scope (compEnvC scope cl C X.env) fp) W0 Γ ifs st)
    (hi1 : ∀ (s : Shared) (H : Hp) (C : Addr) (cl : List (Str × Addr)) (fp : List Addr), DI (X.blk s H scope (compEnvC scope cl C X.env) fp) W0 Γ tg1 iter1 true si1)
    (hg1 : ∀ (s : Shared) (H : Hp) (C : Addr) (cl : List (Str × Addr)) (fp : List Addr), DG (X.blk s H scope (compEnvC scope cl C X.env) fp) Γ tg1 is1 g1)
    (ht1 : ∀ (s : Shared) (H : Hp) (C : Addr) (cl : List (Str × Addr)) (fp : List Addr), DTs (X.blk s H scope (compEnvC scope cl C X.env) fp) W0 Γ ifs1 st1)
    (he : ∀ (s : Shared) (H : Hp) (C : Addr) (cl : List (Str × Addr)) (fp : List Addr), DE (X.blk s H scope (compEnvC scope cl C X.env) fp) W0 Γ elt fl se) (hf : storable [fl] = true := by kernel_rfl)
    (hs : ∀ x, foldedSetIterable iter X.env x = pure x := by intro _; rfl) (hs1 : ∀ env x, foldedSetIterable iter1 env x = pure x := by intro _ _; rfl) :
    DE X W Γ (.ListComp elt [⟨tg, iter, ifs, 0⟩, ⟨tg1, iter1, ifs1, 0⟩] scope pos) .fr (eLc2 si g (own.map (·.2)) st si1 g1 vs1 st1 se) :=
  pe_imp (pe_lc2 (vs1 := vs1) (wi := tDI X.K X.mg W Γ false si) (g := tDG X.K Γ is g) (tt := tDT X.K X.mg W0 Γ st) (wi1 := tDI X.K X.mg W0 Γ true si1) (g1 := tDG X.K Γ is1 g1) (tt1 := tDT X.K X.mg W0 Γ st1) (te := tDE X.K X.mg W0 Γ fl se) hc hN hi ok (fun i hi => List.contains_iff_mem.mp (List.all_eq_true.mp hvs i hi)) (fun s H C cl fp => (hg s H C cl fp).1) ht hi1 (fun s H C cl fp => (hg1 s H C cl fp).1) ht1 he hs hs1) fun σ H0 Q h => lc2_s hown hvs his his1 hf h
section
variable {elt tg iter tg1 iter1 : Expr} {ifs ifs1 : List Expr} {scope : Scope} {own : List (Str × Nat)} {vs1 : List Nat} {si si1 : SI} {is is1 : List Nat} {g g1 : STg} {st st1 se : SE} {fl : Fl} {i : Nat} {y : Str} {py spos : Pos}
theorem ds_setLc2 (hc : X.calm = true) (hN : X.N.Nodup) (hy : X.N[i]? = some y) (hyl : X.env.scope.names.lookup y = some .local) (hΓ : Γ.contains i = false)
    (hsw : swapsWith (.ListComp elt [⟨tg, iter, ifs, 0⟩, ⟨tg1, iter1, ifs1, 0⟩] scope pos) (some (.Name y py)) spos.line X.env = pure true) (hi : DI X W Γ tg iter false si) (ok : BlkOk X.N X.env.scope scope own)
    (hown : (own.map (·.2)).all (fun i => !Γ.contains i) = true) (hvs : vs1.all (fun i => (own.map (·.2)).contains i) = true) (his : is.all (fun i => (own.map (·.2)).contains i) = true) (his1 : is1.all (fun i => vs1.contains i) = true)
    (hg : ∀ (s : Shared) (H : Hp) (C : Addr) (cl : List (Str × Addr)) (fp : List Addr), DG (X.blk s H scope (compEnvC scope cl C X.env) fp) Γ tg is g)
    (ht : ∀ (s : Shared) (H : Hp) (C : Addr) (cl : List (Str × Addr)) (fp : List Addr), DTs (X.blk s H scope (compEnvC scope cl C X.env) fp) W0 Γ ifs st)
    (hi1 : ∀ (s : Shared) (H : Hp) (C : Addr) (cl : List (Str × Addr)) (fp : List Addr), DI (X.blk s H scope (compEnvC scope cl C X.env) fp) W0 Γ tg1 iter1 true si1)
    (hg1 : ∀ (s : Shared) (H : Hp) (C : Addr) (cl : List (Str × Addr)) (fp : List Addr), DG (X.blk s H scope (compEnvC scope cl C X.env) fp) Γ tg1 is1 g1)
    (ht1 : ∀ (s : Shared) (H : Hp) (C : Addr) (cl : List (Str × Addr)) (fp : List Addr), DTs (X.blk s H scope (compEnvC scope cl C X.env) fp) W0 Γ ifs1 st1)
    (he : ∀ (s : Shared) (H : Hp) (C : Addr) (cl : List (Str × Addr)) (fp : List Addr), DE (X.blk s H scope (compEnvC scope cl C X.env) fp) W0 Γ elt fl se) (hf : storable [fl] = true := by kernel_rfl)
    (hs : ∀ x, foldedSetIterable iter X.env x = pure x := by intro _; rfl) (hs1 : ∀ env x, foldedSetIterable iter1 env x = pure x := by intro _ _; rfl) :
    DS X W Γ (.Assign [.Name y py] (.ListComp elt [⟨tg, iter, ifs, 0⟩, ⟨tg1, iter1, ifs1, 0⟩] scope pos) spos) (i :: Γ) (sOwn i (eLc2 si g (own.map (·.2)) st si1 g1 vs1 st1 se)) :=
  ps_imp (ps_setLc2 (vs1 := vs1) (wi := tDI X.K X.mg W Γ false si) (g := tDG X.K Γ is g) (tt := tDT X.K X.mg W0 Γ st) (wi1 := tDI X.K X.mg W0 Γ true si1) (g1 := tDG X.K Γ is1 g1) (tt1 := tDT X.K X.mg W0 Γ st1) (te := tDE X.K X.mg W0 Γ fl se) hc hN hy hyl hsw hi ok (fun i hi => List.contains_iff_mem.mp (List.all_eq_true.mp hvs i hi)) (fun s H C cl fp => (hg s H C cl fp).1) ht hi1 (fun s H C cl fp => (hg1 s H C cl fp).1) ht1 he hs hs1) fun D σ H0 h => lc2_s hown hvs his his1 hf (own_s hΓ h)
theorem ds_setLcS2 (hc : X.calm = true) (hN : X.N.Nodup) (hy : X.N[i]? = some y) (hyl : X.env.scope.names.lookup y = some .local) (hΓ : Γ.contains i = false)
    (hsw : swapsWith (.ListComp elt [⟨tg, iter, ifs, 0⟩, ⟨tg1, iter1, ifs1, 0⟩] scope pos) (some (.Name y py)) spos.line X.env = pure true) (hi : DI X W Γ tg iter false si) (ok : BlkOk X.N X.env.scope scope own)
    (hown : (own.map (·.2)).all (fun i => !Γ.contains i) = true) (hvs : vs1.all (fun i => (own.map (·.2)).contains i) = true) (his : is.all (fun i => (own.map (·.2)).contains i) = true) (his1 : is1.all (fun i => vs1.contains i) = true)
    (hg : ∀ (s : Shared) (H : Hp) (C : Addr) (cl : List (Str × Addr)) (fp : List Addr), DG (X.blk s H scope (compEnvC scope cl C X.env) fp) Γ tg is g)
    (ht : ∀ (s : Shared) (H : Hp) (C : Addr) (cl : List (Str × Addr)) (fp : List Addr), DTs (X.blk s H scope (compEnvC scope cl C X.env) fp) W0 Γ ifs st)
    (hi1 : ∀ (s : Shared) (H : Hp) (C : Addr) (cl : List (Str × Addr)) (fp : List Addr), DI (X.blk s H scope (compEnvC scope cl C X.env) fp) W0 Γ tg1 iter1 true si1)
    (hg1 : ∀ (s : Shared) (H : Hp) (C : Addr) (cl : List (Str × Addr)) (fp : List Addr), DG (X.blk s H scope (compEnvC scope cl C X.env) fp) Γ tg1 is1 g1)
    (ht1 : ∀ (s : Shared) (H : Hp) (C : Addr) (cl : List (Str × Addr)) (fp : List Addr), DTs (X.blk s H scope (compEnvC scope cl C X.env) fp) W0 Γ ifs1 st1)
    (he : ∀ (s : Shared) (H : Hp) (C : Addr) (cl : List (Str × Addr)) (fp : List Addr), DE (X.blk s H scope (compEnvC scope cl C X.env) fp) W0 Γ elt fl se) (hf : storable [fl] = true := by kernel_rfl)
    (hs : ∀ x, foldedSetIterable iter X.env x = pure x := by intro _; rfl) (hs1 : ∀ env x, foldedSetIterable iter1 env x = pure x := by intro _ _; rfl) :
    DS X W Γ (.Assign [.Name y py] (.ListComp elt [⟨tg, iter, ifs, 0⟩, ⟨tg1, iter1, ifs1, 0⟩] scope pos) spos) Γ (sAsg (gVar i) (eLc2 si g (own.map (·.2)) st si1 g1 vs1 st1 se)) :=
  ps_imp (ps_setLc2 (vs1 := vs1) (wi := tDI X.K X.mg W Γ false si) (g := tDG X.K Γ is g) (tt := tDT X.K X.mg W0 Γ st) (wi1 := tDI X.K X.mg W0 Γ true si1) (g1 := tDG X.K Γ is1 g1) (tt1 := tDT X.K X.mg W0 Γ st1) (te := tDE X.K X.mg W0 Γ fl se) hc hN hy hyl hsw hi ok (fun i hi => List.contains_iff_mem.mp (List.all_eq_true.mp hvs i hi)) (fun s H C cl fp => (hg s H C cl fp).1) ht hi1 (fun s H C cl fp => (hg1 s H C cl fp).1) ht1 he hs hs1) fun D σ H0 h => lc2_s hown hvs his his1 hf (name_s (fl := .fr) hΓ rfl h)
end
end
end DL
set_option Elab.async false
set_option linter.all false
set_option maxRecDepth 100000
namespace DL
open PySem PySem.Spec PyProof.Rows L2

/-! ### sum, sorted of a tuple -/
section
variable {prog : Program} {w : World} {A : Around} {E : Value → Shared → Prop} {s : Shared}
theorem coll_tup {l : Addr} {vs : List Value} {R' : List Value → Shared → Prop} (x : s.heap.IsTuple l vs.toArray) (hz : vs.length ≤ sizeLine)
    (q : R' vs { s with heap := (s.heap.push (seqObj "list" #[] 0)).update s.heap.objs.size (Obj.mapSeq (· ++ vs.toArray)) }) : wpAny (model prog w) A (collect (.ref l)) R' E s := by
  obtain ⟨o1, g1, c1, n1, d1⟩ := id x
  unfold collect
  refine wpAny_bind (wpAny_runValue (codeAny_builtin F.entry_proto_collect ?_))
  show wpAny _ _ (newList [] >>= fun y => again (.builtin "list.__iadd__" ⟨[y, .ref l], []⟩)) _ _ s
  refine wpAny_bind (wpAny_newList ?_)
  refine wpAny_pure ⟨Code.quiet_builtin _ (by decide +kernel), codeAny_builtin F.entry_list_iadd ?_⟩
  show wpAny _ _ (Builtin.List.listExtendWith (.ref s.heap.objs.size) (.ref l) (.ref s.heap.objs.size)) _ _ _
  have g2 : (s.heap.push (seqObj "list" #[] 0)).get? l = some o1 := Heap.get?_push_of_some _ g1
  unfold Builtin.List.listExtendWith
  refine wpAny_bind (wpAny_typeOf (T := "tuple") ⟨o1, g2, c1⟩ ?_)
  rw [if_pos (by have e1 : (Value.type "tuple" == Value.type "tuple") = true := by rfl
                 rw [e1]; simp)]
  refine wpAny_bind (listItems_at g2 d1 (wpAny_bind (listItems_at (xs := #[]) (n := 0) (Heap.get?_push_size _ rfl) rfl ?_)))
  rw [if_neg (by simp)]
  refine wpAny_bind (listUpdate_at (xs := #[]) (n := 0) (Heap.get?_push_size _ rfl) rfl ?_ (Nat.zero_le _) (by
    show (#[] ++ vs.toArray).size ≤ sizeLine + 1
    rw [Array.size_append, List.size_toArray]
    show 0 + vs.length ≤ sizeLine + 1
    omega))
  refine wpAny_pure ?_
  refine wpAny_bind (wpAny_load (get?_update_seq (Heap.get?_push_size _ rfl) _) ?_)
  have e2 : ((#[] : Array Value) ++ vs.toArray).toList = vs := by simp
  show wpAny _ _ (pure ((#[] : Array Value) ++ vs.toArray).toList) _ _ _
  rw [e2]
  exact wpAny_pure q
end
section
variable {X : Cx} {W : WX} {Γ Γ' Γ1 : List Nat} {e a b c d k : Expr} {es : List Expr} {fls : List Fl} {fl fa fb fc fk : Fl} {se sa sb sc sk : SE} {pos p p2 p3 : Pos}
theorem cr_or {f : Value} {r1 r2 : List V → Hp → VK → Prop} (h1 : CallR X f r1) (h2 : CallR X f r2) : CallR X f (fun xs H Q => r1 xs H Q ∨ r2 xs H Q) := by
  intro pins s σ H vs us Q I r h
  rcases h with h | h
  · exact h1 pins s σ H vs us Q I r h
  · exact h2 pins s σ H vs us Q I r h
def rSumT (K : PySem.W.Frag) : List V → Hp → VK → Prop := fun vs H Q => ∃ (a : Addr) (ns : List Int), vs = [V.ref a] ∧ SqT K H a (ns.map V.int) ∧ Q (.int ns.sum) H
theorem cr_sumT (hc : X.calm = true) : CallR X (.builtin "sum") (rSumT X.K) := by
  intro pins s σ H vs us Q I r h
  obtain ⟨a, ns, rfl, hs, q⟩ := h
  obtain ⟨its, rv, t, _⟩ := I.tuple hs
  rw [Vals.ref1 r]
  obtain ⟨xs, ex⟩ := rv.ints.allInts.items
  have hn : numsOf (intItems xs).toList = ns := by rw [← ex]; exact rv.ints.numsOf
  rw [nums_intItems] at hn
  have t2 : s.heap.IsTuple a (intItems xs) := by rw [← ex]; exact t
  refine PySem.W.ktm_sumG (I.ok.hd hc) t2 fun h' tk t' hk => ?_
  rw [preSum_eq, List.take_of_length_le (by simp), hn]
  exact ⟨.int _, H, I.kept hk, ⟨_, rfl⟩, q⟩
theorem cs_sumA : CallS X (fun xs H Q => rSum X.K xs H Q ∨ rSumT X.K xs H Q) .fr dSumL := by
  intro mg W σ O H0 H fls xs as Q nw hx h
  unfold dSumL at h
  split at h
  · cases hx with
    | cons h1 t =>
      cases t
      obtain ⟨p, vs, rfl, s1, r1, n1⟩ := h1.list
      obtain ⟨is, e, h⟩ := FinG.bind_ok (intsD_nx _) h
      rw [r1.ints e] at s1
      exact .inl ⟨p, is, rfl, s1, PE_.flat h (.int _) rfl⟩
  · cases hx with
    | cons h1 t =>
      cases t
      obtain ⟨p, vs, rfl, s1, r1, n1⟩ := h1.tuple
      obtain ⟨is, e, h⟩ := FinG.bind_ok (intsD_nx _) h
      rw [r1.ints e] at s1
      exact .inr ⟨p, is, rfl, s1, PE_.flat h (.int _) rfl⟩
  · exact h.elim
theorem de_sum (hc : X.calm = true) (m : X.mg "sum" = none) (he : DE X W Γ e fl se) (hg : Gl X "sum" := by show _ = _; kernel_rfl) (h1 : starEach [e] X.env = (false, eval e X.env) :: starEach [] X.env := by kernel_rfl) (h2 : (backTo pos (starEach [] X.env)).any (·.1) = false := by kernel_rfl) : DE X W Γ (.Call (.Name "sum" p) [e] [] pos) .fr (eA dSumL (aCons se aNil)) :=
  de_callB (cr_or (cr_sum hc) (cr_sumT hc)) cs_sumA hg m boot_sum (da_cons he da_nil h1) (by decide) (by decide) h1 h2
/-- sorted(t), t a tuple of whole numbers -/
def rSortedIT (K : PySem.W.Frag) : List V → Hp → VK → Prop := fun vs H Q => ∃ (a : Addr) (ns : List Int), vs = [V.ref a] ∧ SqT K H a (ns.map V.int) ∧
  ∀ (ns' : List Int) (p : Addr), ns'.Perm ns → ns'.Pairwise (· ≤ ·) → H p = none → Q (.ref p) (upd H p (.lst (ns'.map V.int)))
theorem cr_sortedIT : CallR X (.builtin "sorted") (rSortedIT X.K) := by
  intro pins s σ H vs us Q I r h
  obtain ⟨a, ns, rfl, hs, q⟩ := h
  obtain ⟨its, rv, tp, hz⟩ := I.tuple hs
  rw [Vals.ref1 r]
  have hi := rv.ints
  have hz' : its.length ≤ sizeLine := by rw [← rv.length]; exact hz
  refine Calls.call_function_entry kind_sorted plain_sorted entry_sorted (args_sorted1 _) ?_
  unfold Builtin.«sorted»
  refine wpAny_bind (m := checkCount "sorted" 1 1 _) (wpAny_pure (wpAny_bind (coll_tup tp hz' (wpAny_bind (wpAny_newList ?_ hz')))))
  have z1 : ((s.heap.push (seqObj "list" #[] 0)).update s.heap.objs.size (Obj.mapSeq (· ++ its.toArray))).objs.size = s.heap.objs.size + 1 := by
    rw [Heap.size_update, size_push']
  have z2 : (((s.heap.push (seqObj "list" #[] 0)).update s.heap.objs.size (Obj.mapSeq (· ++ its.toArray))).push (seqObj "list" its.toArray 0)).get? (s.heap.objs.size + 1) = some (seqObj "list" its.toArray 0) := by
    rw [← z1]; exact Heap.get?_push_size _ rfl
  show wpAny _ _ _ _ _ { s with heap := ((s.heap.push (seqObj "list" #[] 0)).update s.heap.objs.size (Obj.mapSeq (· ++ its.toArray))).push (seqObj "list" its.toArray 0) }
  rw [z1]
  refine wpAny_bind (wpAny_holding (wpAny_call_entry slot_list_sort ⟨_, z2, rfl⟩ entry_list_sort
    (SrtO.list_sort_ord SrtO.swo_int z2 hz' (fun h2 => SrtO.ints_sortable hi h2) fun out h1 h2 => ⟨_, rfl, wpAny_pure ⟨_, rfl, ?_⟩⟩) (args_list_sort _)))
  obtain ⟨k1, k2, k3⟩ := SrtO.ints_out hi h1 h2
  obtain ⟨ep, he'⟩ := PyProof.Rows.sortedAll_at s.heap its out.toArray
  have hlen : ((out.map SrtO.iv).map V.int).length ≤ sizeLine := by
    rw [List.length_map, k2.length_eq, ← List.length_map (f := V.int)]
    exact hz
  exact ⟨.ref _, upd H (s.heap.objs.size + 1) (.lst ((out.map SrtO.iv).map V.int)), I.laid (t' := s.toks) (fun _ _ => PyProof.Rows.sortedAll_old) (Nat.le_succ _) ⟨hlen, out, ep, vals_of_ints k1, he'⟩, rfl, q _ _ k2 k3 (I.hok.fresh (Nat.le_succ _))⟩
theorem cs_sorted : CallS X (fun xs H Q => rSortedI X.K xs H Q ∨ rSortedIT X.K xs H Q) .fr dSorted := by
  intro mg W σ O H0 H fls xs as Q nw hx h
  have fin : ∀ (ds : List Da) (is : List Int), intsD ds = .ok is → ds.length ≤ big → FinG mg W σ H (R.ok (PyData.list ((sortI is).map PyData.int))) (PE_ X.K H O .fr Q) → ∀ (ns' : List Int) (r : Addr), ns'.Perm is → ns'.Pairwise (· ≤ ·) → H r = none → Q (.ref r) (upd H r (.lst (ns'.map V.int))) := fun ds is e n1 h ns' r hp ho hr => by
    have hs : ns' = sortI is := sorted_one _ _ (hp.trans (sortI_perm is).symm) ho (sortI_sorted is)
    subst hs
    have hl : ((sortI is).map PyData.int).length ≤ big := by
      rw [List.length_map, (sortI_perm is).length_eq, intsD_len e]
      exact n1
    exact PE_.newL h (RpAll.intsR _) hl hr (nw r hr)
  unfold dSorted at h
  split at h
  · cases hx with
    | cons h1 t =>
      cases t
      obtain ⟨p, vs, rfl, s1, r1, n1⟩ := h1.list
      obtain ⟨is, e, h⟩ := FinG.bind_ok (intsD_nx _) h
      rw [r1.ints e] at s1
      exact .inl ⟨p, is, rfl, s1, fin _ _ e n1 h⟩
  · cases hx with
    | cons h1 t =>
      cases t
      obtain ⟨p, vs, rfl, s1, r1, n1⟩ := h1.tuple
      obtain ⟨is, e, h⟩ := FinG.bind_ok (intsD_nx _) h
      rw [r1.ints e] at s1
      exact .inr ⟨p, is, rfl, s1, fin _ _ e n1 h⟩
  · exact h.elim
theorem de_sorted (m : X.mg "sorted" = none) (he : DE X W Γ e fl se) (hg : Gl X "sorted" := by show _ = _; kernel_rfl) (h1 : starEach [e] X.env = (false, eval e X.env) :: starEach [] X.env := by kernel_rfl) (h2 : (backTo pos (starEach [] X.env)).any (·.1) = false := by kernel_rfl) : DE X W Γ (.Call (.Name "sorted" p) [e] [] pos) .fr (eA dSorted (aCons se aNil)) :=
  de_callB (cr_or cr_sortedI cr_sortedIT) cs_sorted hg m boot_sorted (da_cons he da_nil h1) (by decide) (by decide) h1 h2
end
end DL
set_option Elab.async false
set_option linter.all false
set_option maxRecDepth 100000
namespace DL
open PySem PySem.Spec PyProof.Rows L2

/-! ### len(set(..)), whole numbers -/
theorem ddI_mem (x : Int) : ∀ l : List Int, x ∈ ddI l ↔ x ∈ l
  | [] => Iff.rfl
  | y :: l => by
    have ih := ddI_mem x l
    show x ∈ (if y ∈ ddI l then ddI l else y :: ddI l) ↔ _
    by_cases q : y ∈ ddI l
    · rw [if_pos q, ih, List.mem_cons]
      constructor
      · exact .inr
      · rintro (e | e)
        · subst e; exact (ddI_mem x l).mp q
        · exact e
    · rw [if_neg q, List.mem_cons, List.mem_cons, ih]
theorem ddI_nodup : ∀ l : List Int, (ddI l).Nodup
  | [] => List.nodup_nil
  | y :: l => by
    show (if y ∈ ddI l then ddI l else y :: ddI l).Nodup
    by_cases q : y ∈ ddI l
    · rw [if_pos q]; exact ddI_nodup l
    · rw [if_neg q]; exact List.nodup_cons.mpr ⟨q, ddI_nodup l⟩
theorem nodup_le : ∀ (l m : List Int), l.Nodup → (∀ x, x ∈ l → x ∈ m) → l.length ≤ m.length
  | [], m, _, _ => Nat.zero_le _
  | x :: l, m, h, s => by
    obtain ⟨h1, h2⟩ := List.nodup_cons.mp h
    have hx := s x List.mem_cons_self
    have := nodup_le l (m.erase x) h2 fun y hy => (List.mem_erase_of_ne (fun e => by subst e; exact h1 hy)).mpr (s y (List.mem_cons_of_mem _ hy))
    rw [List.length_erase_of_mem hx] at this
    have := List.length_pos_of_mem hx
    rw [List.length_cons]
    omega
theorem ddI_len {ns ks : List Int} (h : ks.Nodup) (m : ∀ x, x ∈ ks ↔ x ∈ ns) : ks.length = (ddI ns).length :=
  Nat.le_antisymm (nodup_le _ _ h fun x hx => (ddI_mem x ns).mpr ((m x).mp hx)) (nodup_le _ _ (ddI_nodup ns) fun x hx => (m x).mpr ((ddI_mem x ns).mp hx))
theorem met_nodup (ns : List Int) : (firstMet (fun i => ns.getD i 0) ns.length).Nodup ∧ ∀ x, x ∈ firstMet (fun i => ns.getD i 0) ns.length ↔ x ∈ ns := by
  have key : ∀ i, i ≤ ns.length → (firstMet (fun i => ns.getD i 0) i).Nodup ∧ ∀ x, x ∈ firstMet (fun i => ns.getD i 0) i ↔ x ∈ ns.take i := fun i => by
    induction i with
    | zero => exact fun _ => ⟨List.nodup_nil, fun x => Iff.rfl⟩
    | succ i ih =>
      intro hi
      obtain ⟨h1, h2⟩ := ih (by omega)
      have g : ns.getD i 0 = ns[i] := by simp [show i < ns.length by omega]
      have tk : ns.take (i + 1) = ns.take i ++ [ns[i]] := List.take_succ_eq_append_getElem (by omega)
      rw [firstMet_succ, tk]
      unfold step_dedup
      simp only [g]
      by_cases q : ns[i] ∈ firstMet (fun i => ns.getD i 0) i
      · have q' : (firstMet (fun i => ns.getD i 0) i).any (· == ns[i]) = true := List.any_eq_true.mpr ⟨_, q, beq_self_eq_true _⟩
        rw [if_pos q']
        refine ⟨h1, fun x => ?_⟩
        rw [List.mem_append, List.mem_singleton, h2]
        exact ⟨.inl, fun z => z.elim id fun e => by rw [e]; exact (h2 _).mp q⟩
      · have q' : ¬ (firstMet (fun i => ns.getD i 0) i).any (· == ns[i]) = true := fun z => by
          obtain ⟨y, hy, e⟩ := List.any_eq_true.mp z
          rw [beq_iff_eq.mp e] at hy
          exact q hy
        rw [if_neg q']
        refine ⟨List.nodup_append.mpr ⟨h1, by simp, fun a ha b hb e => ?_⟩, fun x => ?_⟩
        · rw [List.mem_singleton] at hb
          subst hb e
          exact q ha
        · rw [List.mem_append, List.mem_append, h2]
  obtain ⟨h1, h2⟩ := key ns.length (Nat.le_refl _)
  rw [List.take_length] at h2
  exact ⟨h1, h2⟩
section
variable {X : Cx} {W : WX} {Γ : List Nat} {e a : Expr} {fl : Fl} {se : SE} {pos p p2 q : Pos} {ta : TE}
def tLenSetA (K : PySem.W.Frag) (ta : TE) : TE := fun σ H Q => ta σ H fun x H1 => ∃ (l : Addr) (ns : List Int), x = V.ref l ∧ (SqL K H1 l (ns.map V.int) ∨ SqT K H1 l (ns.map V.int)) ∧ ns.length < 4000 ∧ Q (.int ((ddI ns).length : Nat)) H1
theorem pe_lenSetA (hc : X.calm = true) (g1 : Gl X "len") (m1 : X.mg "len" = none) (g2 : Gl X "set") (m2 : X.mg "set" = none) (ha : PE X a ta) (na : starEach [a] X.env = (false, eval a X.env) :: starEach [] X.env) :
    PE X (.Call (.Name "len" p) [.Call (.Name "set" p2) [a] [] q] [] pos) (tLenSetA X.K ta) := ⟨fun pins s σ H Q I h => by
  have boot1 := PySem.boot_len
  have boot2 := PyProof.Rows.boot_set
  refine Call_ (ld_blt I g1 m1 boot1 (PyProof.Rows.callWith_builtin1 (PyProof.Rows.args_cons (Call_ (ld_blt I g2 m2 boot2 (PyProof.Rows.callWith_type1 (PyProof.Rows.args_cons (thn (ha.run pins s σ H _ I h) fun v s1 ⟨x, H1, I1, r1, q1⟩ => PyProof.Rows.args_nil ?_) na) na rfl))) rfl) rfl rfl))
  obtain ⟨l, ns, rfl, hq, hn, q1⟩ := q1
  cases r1
  have fin : ∀ (h' : Heap) (tk : Nat) (o : Obj) (es : Array (Int × Value)) (ep : Nat) (t : SetTable), h'.get? s1.heap.objs.size = some o → o.ExactSet → o.data = .set es ep t → t.fits es.size = true → es.size = (ddI ns).length → (∀ b o, s1.heap.get? b = some o → h'.get? b = some o) →
      wpAny (model X.prog X.w) X.A (call (.builtin "len") [.ref s1.heap.objs.size]) (EP X pins σ Q) X.xe { s1 with heap := h', toks := tk } := fun h' tk o es ep t ho hex hd hf hsz hk => by
    have I2 : Inv X pins σ H1 { s1 with heap := h', toks := tk } := I1.kept hk
    have small : (ddI ns).length ≤ ns.length := nodup_le _ _ (ddI_nodup ns) fun x hx => (ddI_mem x ns).mp hx
    exact call_len_set ho hex hd hf (by rw [hsz]; omega) ⟨.int ((ddI ns).length : Nat), H1, I2.tok _, ⟨_, by rw [hsz]⟩, q1⟩
  rcases hq with hq | hq
  · obtain ⟨its, r, pl, _⟩ := I1.list hq
    have hl : its.toArray.size = ns.length := by rw [List.size_toArray, ← r.length, List.length_map]
    refine call_set_list (I1.ok.hd hc) pl.isList (ns := ns) (by simpa using r.ints) (by rw [hl]; unfold scanBound; omega) fun h' tk hS hk => PyProof.Rows.args_nil ?_
    rw [hl] at hS
    obtain ⟨o, es, ep, t, ho, hex, hd, _, _, _, hf, hz⟩ := hS
    obtain ⟨d1, d2⟩ := met_nodup ns
    exact fin h' tk o es ep t ho hex hd hf (by rw [hz, ddI_len d1 d2]) fun b o e => hk b o (Heap.lt_size e) e
  · obtain ⟨its, r, tp, _⟩ := I1.tuple hq
    refine call_set_tupI ns (I1.ok.hd hc) tp (by simpa using r.ints) (by unfold scanBound; omega) fun h' tk c hS _ hk => PyProof.Rows.args_nil ?_
    obtain ⟨o, es, ep, t, ho, hex, hd, _, nd, mem, _, hf, hz, _⟩ := hS
    refine fin h' tk o es ep t ho hex hd hf ?_ hk
    have e1 : es.size = (es.toList.map keyOf).length := by rw [List.length_map, Array.length_toList]
    rw [e1]
    exact ddI_len nd fun x => by rw [← mem x]; exact decide_eq_true_iff⟩
theorem de_lenSet (hc : X.calm = true) (m1 : X.mg "len" = none) (m2 : X.mg "set" = none) (he : DE X W Γ a fl se) (g1 : Gl X "len" := by show _ = _; kernel_rfl) (g2 : Gl X "set" := by show _ = _; kernel_rfl) (na : starEach [a] X.env = (false, eval a X.env) :: starEach [] X.env := by kernel_rfl) :
    DE X W Γ (.Call (.Name "len" p) [.Call (.Name "set" p2) [a] [] q] [] pos) .fr (e1 dLenSet se) := pe_imp (pe_lenSetA hc g1 m1 g2 m2 he na) fun σ H Q h => by
  obtain ⟨ρ, F, GO, E, h⟩ := h
  refine at_e E h fun d v H1 s1 r1 E1 h1 => ?_
  have fin : ∀ (ds : List Da) (is : List Int), intsD ds = .ok is → FinG X.mg W σ H1 (if is.length < 4000 then R.ok (PyData.int ((ddI is).length : Nat)) else .bad) (PE_ X.K H (Ads GO ++ F) .fr Q) → is.length < 4000 ∧ Q (.int ((ddI is).length : Nat)) H1 := fun ds is e h => by
    split at h
    · rename_i c
      exact ⟨c, PE_.flat (PE_.mono s1 h) (.int _) rfl⟩
    · exact h.elim
  unfold dLenSet at h1
  split at h1
  · obtain ⟨p, vs, rfl, q1, r2, n2⟩ := r1.list
    obtain ⟨is, e, h2⟩ := FinG.bind_ok (intsD_nx _) h1
    rw [r2.ints e] at q1
    exact ⟨p, is, rfl, .inl q1, fin _ _ e h2⟩
  · obtain ⟨p, vs, rfl, q1, r2, n2⟩ := r1.tuple
    obtain ⟨is, e, h2⟩ := FinG.bind_ok (intsD_nx _) h1
    rw [r2.ints e] at q1
    exact ⟨p, is, rfl, .inr q1, fin _ _ e h2⟩
  · exact h1.elim
end
end DL
set_option Elab.async false
set_option linter.all false
set_option maxRecDepth 100000
namespace DL
open PySem PySem.Spec PyProof.Rows L2

/-! ### a text times 0 or 1, a tuple times a number -/
section
variable {X : Cx} {W : WX} {Γ : List Nat} {e a b : Expr} {fl fa fb : Fl} {se sa sb : SE} {pos p p2 q : Pos}
def rRepS : R2 := fun x y H Q => ∃ s k, x = .str s ∧ y = .int k ∧ s.length ≤ big ∧ ((k = 0 ∧ Q (.str Str.empty) H) ∨ (k = 1 ∧ Q (.str s) H))
theorem op_repS : OpR X (binaryOp .Mult) rRepS := by
  intro pins s σ H x y v u Q I rx ry h
  obtain ⟨z, k, rfl, rfl, hz, h⟩ := h
  obtain ⟨t1, rfl⟩ := rx
  obtain ⟨t2, rfl⟩ := ry
  rcases h with ⟨rfl, h⟩ | ⟨rfl, h⟩
  · exact PySem.P.mul_str_none (by decide) (by decide) ⟨.str Str.empty, H, I.tok _, ⟨_, rfl⟩, h⟩
  · refine PySem.P.mul_str (by decide) (fun _ z => by cases z) (fun _ z => by cases z) ?_
    rw [if_neg (by decide), if_pos (by rfl)]
    exact ⟨.str z, H, I, ⟨_, rfl⟩, h⟩
theorem os_repS : OpS X rRepS .fr repS := by
  intro mg W σ O H0 H x y a b Q nw hx hy h
  unfold repS at h
  split at h
  · cases hy.int
    obtain ⟨rfl, hz⟩ := hx.str
    split at h
    · rename_i e
      exact ⟨_, _, rfl, rfl, hz, .inl ⟨e, PE_.flat h (.str _ (by decide)) rfl⟩⟩
    · split at h
      · rename_i e
        exact ⟨_, _, rfl, rfl, hz, .inr ⟨e, PE_.flat h (.str _ hz) rfl⟩⟩
      · exact h.elim
  · exact h.elim
theorem de_repS (ha : DE X W Γ a fa sa) (hb : DE X W Γ b fb sb) : DE X W Γ (.BinOp a .Mult b pos) .fr (e2 repS sa sb) := de_bin op_repS os_repS ha hb
/-! ### a tuple times 0, () times a number -/
open AutoSeq1 (wpAny_loadPart') in
theorem tuple_mul_nil (l : Addr) (n : Nat) (dd : Option Addr) (sl : Array (Option Value)) (x : Int) (u : Tok) (c0 : (decide (x < -(2 ^ 63)) || decide (x ≥ 2 ^ 63)) = false) :
    Meets (Builtin.«tuple.__mul__» ⟨[.ref l, .int x u], []⟩) (fun _ R s => s.heap.get? l = some { cls := .type "tuple", dict := dd, data := .seq #[] n, slots := sl } ∧ R (.ok (.ret (Value.ref l))) s) :=
  .of_wp fun prog w A R s h => by
    obtain ⟨hp, g, d, tk, os⟩ := s
    obtain ⟨g1, g2⟩ := h
    have f1 := AutoSeq1.idx_int
    have c1 : ((#[] : Array Value).isEmpty || x == 1) = true := by rw [show (#[] : Array Value).isEmpty = true from rfl, Bool.true_or]
    have tT : Shared.TypeIs ⟨hp, g, d, tk, os⟩ (.ref l) "tuple" := ⟨_, g1, rfl⟩
    wp_walk using wpAny_loadPart' g1, wpAny_typeOf tT
    repeat (first
      | (refine wpAny_ite_false (decide_eq_false (by rw [c0]; exact Bool.false_ne_true)) ?_; wp_walk using wpAny_loadPart' g1, wpAny_typeOf tT))
    exact ⟨_, rfl, g2⟩
open AutoSeq1 (wpAny_loadPart') in
theorem tuple_mul_zero (l : Addr) (items : Array Value) (n : Nat) (dd : Option Addr) (sl : Array (Option Value)) (u : Tok) (c1 : (items.isEmpty || (0 : Int) == 1) = false) :
    Meets (Builtin.«tuple.__mul__» ⟨[.ref l, .int 0 u], []⟩) (fun _ R s => s.heap.get? l = some { cls := .type "tuple", dict := dd, data := .seq items n, slots := sl } ∧
      R (.ok (.ret (Value.ref s.heap.objs.size))) { s with heap := s.heap.push { cls := Value.type "tuple", data := Data.seq #[] }, toks := s.toks }) :=
  .of_wp fun prog w A R s h => by
    obtain ⟨hp, g, d, tk, os⟩ := s
    obtain ⟨hl, h⟩ := h
    have f1 := AutoSeq1.idx_int
    have c2 : (decide ((0 : Int) ≤ 0) || items.isEmpty) = true := by rw [decide_eq_true (Int.le_refl 0), Bool.true_or]
    wp_walk using wpAny_loadPart' hl
    repeat (first
      | (refine wpAny_ite_false (decide_eq_false (by rw [c1]; exact Bool.false_ne_true)) ?_; wp_walk using wpAny_loadPart' hl))
    exact ⟨_, rfl, h⟩
open AutoSeq1 (wpAny_loadPart') in
theorem tuple_mul_one (l : Addr) (items : Array Value) (n : Nat) (dd : Option Addr) (sl : Array (Option Value)) (u : Tok) :
    Meets (Builtin.«tuple.__mul__» ⟨[.ref l, .int 1 u], []⟩) (fun _ R s => s.heap.get? l = some { cls := .type "tuple", dict := dd, data := .seq items n, slots := sl } ∧ R (.ok (.ret (Value.ref l))) s) :=
  .of_wp fun prog w A R s h => by
    obtain ⟨hp, g, d, tk, os⟩ := s
    obtain ⟨g1, g2⟩ := h
    have f1 := AutoSeq1.idx_int
    have c1 : (items.isEmpty || (1 : Int) == 1) = true := by rw [show ((1 : Int) == 1) = true from rfl, Bool.or_true]
    have tT : Shared.TypeIs ⟨hp, g, d, tk, os⟩ (.ref l) "tuple" := ⟨_, g1, rfl⟩
    wp_walk using wpAny_loadPart' g1, wpAny_typeOf tT
    exact ⟨_, rfl, g2⟩
def rRepT1 (K : PySem.W.Frag) : R2 := fun x y H Q => ∃ l xs, x = .ref l ∧ y = .int 1 ∧ SqT K H l xs ∧ Q (.ref l) H
theorem op_repT1 : OpR X (binaryOp .Mult) (rRepT1 X.K) := by
  intro pins s σ H x y v u Q I rx ry h
  obtain ⟨l, xs, rfl, rfl, hT, q⟩ := h
  cases rx
  obtain ⟨t, rfl⟩ := ry
  obtain ⟨its, r, ⟨⟨cls, dd, data, sl⟩, ho, hc, n, hd⟩, hs⟩ := I.tuple hT
  simp only at hc hd
  subst hc hd
  refine wpAny_binaryOp_repeat_ref (T := "tuple") (U := "int") (by decide) ⟨_, ho, rfl⟩ (fun s' => typeIs_int s' 1 t) noFill_tuple_mul F.fills_int_mul F.slot_int_rmul repeat_tuple F.slot_int_index.lookup
    (call_meets F.slot_int_rmul (typeIs_int s 1 t) F.entry_int_rmul (F.args_int_rmul_2 _ _) (int_rmul_tuple 1 t l its.toArray n dd sl) ⟨ho, rfl, ⟨_, ho, rfl⟩, ?_⟩)
  exact call_meets F.slot_tuple_mul ⟨_, ho, rfl⟩ F.entry_tuple_mul (F.args_tuple_mul_2 _ _) (tuple_mul_one l its.toArray n dd sl t) ⟨ho, ⟨.ref l, H, I, rfl, q⟩⟩
def rRepT0 (K : PySem.W.Frag) : R2 := fun x y H Q => ∃ l k xs, x = .ref l ∧ y = .int k ∧ SqT K H l xs ∧ ((xs = [] ∧ k.natAbs ≤ 1000 ∧ Q (.ref l) H) ∨ (xs ≠ [] ∧ k = 0 ∧ ∀ p, H p = none → Q (.ref p) (upd H p (.tup []))))
theorem op_repT0 : OpR X (binaryOp .Mult) (rRepT0 X.K) := by
  intro pins s σ H x y v u Q I rx ry h
  obtain ⟨l, k, xs, rfl, rfl, hT, h⟩ := h
  cases rx
  obtain ⟨t, rfl⟩ := ry
  obtain ⟨its, r, ⟨⟨cls, dd, data, sl⟩, ho, hc, n, hd⟩, hs⟩ := I.tuple hT
  simp only at hc hd
  subst hc hd
  refine wpAny_binaryOp_repeat_ref (T := "tuple") (U := "int") (by decide) ⟨_, ho, rfl⟩ (fun s' => typeIs_int s' k t) noFill_tuple_mul F.fills_int_mul F.slot_int_rmul repeat_tuple F.slot_int_index.lookup
    (call_meets F.slot_int_rmul (typeIs_int s k t) F.entry_int_rmul (F.args_int_rmul_2 _ _) (int_rmul_tuple k t l its.toArray n dd sl) ⟨ho, rfl, ⟨_, ho, rfl⟩, ?_⟩)
  rcases h with ⟨rfl, hk, q⟩ | ⟨hne, rfl, q⟩
  · cases r
    have c0 : (decide (k < -(2 ^ 63)) || decide (k ≥ 2 ^ 63)) = false := by
      rw [decide_eq_false (by omega), decide_eq_false (by omega)] <;> rfl
    exact call_meets F.slot_tuple_mul ⟨_, ho, rfl⟩ F.entry_tuple_mul (F.args_tuple_mul_2 _ _) (tuple_mul_nil l n dd sl k t c0) ⟨ho, ⟨.ref l, H, I, rfl, q⟩⟩
  · have hi : its.toArray.isEmpty = false := by
      cases r with
      | nil => exact absurd rfl hne
      | cons _ _ => rfl
    have c1 : (its.toArray.isEmpty || (0 : Int) == 1) = false := by
      rw [hi]
      rfl
    refine call_meets F.slot_tuple_mul ⟨_, ho, rfl⟩ F.entry_tuple_mul (F.args_tuple_mul_2 _ _) (tuple_mul_zero l its.toArray n dd sl t c1) ⟨ho, ?_⟩
    refine ⟨.ref s.heap.objs.size, _, I.laid (t' := s.toks) (o := .tup []) (fun b ob q => Heap.get?_push_of_some _ q) (Nat.le_refl _) ?_, rfl, q _ (I.hok.fresh (Nat.le_refl _))⟩
    exact ⟨Nat.zero_le _, [], .nil, IsTup.new _ _⟩
theorem op_or {op : Value → Value → Sem Value} {r1 r2 : R2} (h1 : OpR X op r1) (h2 : OpR X op r2) : OpR X op (fun x y H Q => r1 x y H Q ∨ r2 x y H Q) := by
  intro pins s σ H x y v u Q I rx ry h
  rcases h with h | h
  · exact h1 pins s σ H x y v u Q I rx ry h
  · exact h2 pins s σ H x y v u Q I rx ry h
theorem os_repT : OpS X (fun x y H Q => (rRepT X.K x y H Q ∨ rRepT1 X.K x y H Q) ∨ rRepT0 X.K x y H Q) .fr repT := by
  intro mg W σ O H0 H x y a b Q nw hx hy h
  unfold repT at h
  split at h
  · rename_i ds k
    cases hy.int
    obtain ⟨p, vs, rfl, q1, r1, n1⟩ := hx.tuple
    split at h
    · rename_i c
      obtain ⟨c1, c2, c3, c4⟩ := c
      refine .inl ?_
      by_cases e : k = 1
      · subst e
        have ee : (List.replicate (1 : Int).toNat ds).flatten = ds := by simp
        rw [ee] at h
        exact .inr ⟨p, vs, rfl, rfl, q1, PE_.now h (.nolist (.tup q1 n1 r1) fun _ z => nomatch z)⟩
      · refine .inl ⟨p, k, vs, rfl, rfl, q1, ?_, by omega, by omega, by rw [r1.length]; exact c1, fun t ht => PE_.newT h (r1.rep _) ?_ ht⟩
        · intro z
          have := r1.length
          rw [z] at this
          simp at this
          omega
        · rw [PyProof.Rows.lm_len_rep_flat]
          have : k.toNat * ds.length ≤ 1000 * 1000 := Nat.mul_le_mul (by omega) c1
          unfold big
          omega
    · split at h
      · rename_i c
        refine .inr ⟨p, k, vs, rfl, rfl, q1, ?_⟩
        by_cases e : vs = []
        · subst e
          cases r1
          refine .inl ⟨rfl, ?_, PE_.now h (.nolist (.tup q1 n1 .nil) fun _ z => nomatch z)⟩
          rcases c with c | c
          · subst c; decide
          · exact c.2
        · rcases c with c | c
          · exact .inr ⟨e, c, fun t ht => PE_.newT h .nil (Nat.zero_le _) ht⟩
          · have := r1.length
            exact absurd (List.eq_nil_of_length_eq_zero (by omega)) e
      · exact h.elim
  · exact h.elim
theorem de_repT (ha : DE X W Γ a fa sa) (hb : DE X W Γ b fb sb) : DE X W Γ (.BinOp a .Mult b pos) .fr (e2 repT sa sb) := de_bin (op_or (op_or op_repT op_repT1) op_repT0) os_repT ha hb
end
end DL
set_option Elab.async false
set_option linter.all false
set_option maxRecDepth 100000
namespace DL
open PySem PySem.Spec PyProof.Rows L2

/-! ### try: .. except X as n: .., a suite that answers by the error's class -/
theorem Rp.flat2 {K : PySem.W.Frag} {H : Hp} {O O' : List Addr} {v : V} {d : Da} (f : flatD d = true) (r : Rp K H O v d) : Rp K H O' v d := by
  cases d with
  | none => cases r; exact .non
  | bool b => cases r; exact .bl b
  | int i => cases r; exact .int i
  | str x => cases r with | str _ n => exact .str x n
  | tuple _ => cases f
  | list _ => cases f
  | dict _ => cases f
/-- a suite's reading: the error lies at a, in slot i; answer d -/
def tSu (K : PySem.W.Frag) (a : Addr) (i : Nat) (d : Da) : TS := fun D σ H => σ[i]? = some (some (.ref a)) ∧ ∀ v, Rp K H [] v d → D.rt v H
theorem ps_imp' {X : Cx} {st : Stmt} {t t' : TS} (h : PS X st t) (w : ∀ D σ H, t' D σ H → t D σ H) : PS X st t' := ps_imp h w
section
variable {X : Cx} {W : WX} {Γ Γ' : List Nat} {b : SS} {x n : Str} {c : Value} {i : Nat} {body suite : List Stmt} {b₀ : Stmt} {np pos pos' : Pos} {ok : List Str} {hv : Str → Da}
theorem takes_len (tk : Takes X W) : Takes X (fun cls d σ H => σ.length = X.N.length → W cls d σ H) := fun u s' ⟨a, B, sI, pins, σ, H, cls, d, e, I, nb, up, sky, na, os, ag, w⟩ =>
  tk u s' ⟨a, B, sI, pins, σ, H, cls, d, e, I, nb, up, sky, na, os, ag, w I.len⟩
theorem ds_try (hs : X.stack = X.env :: X.outer) (hf : X.env.frame = some X.env.locals) (hN : X.N.Nodup) (hi : X.N[i]? = some n) (hln : X.env.kindOf n = some .local) (hc : Names X x c) (tk : Takes X W)
    (hfl : ∀ y, y ∈ ok → flatD (hv y) = true) (hex : ∀ y, y ∈ ok → ∀ C, X.mg y = some (.ref C) → PySem.W.exmOne X.K (.ref C) c = some true)
    (hb : ∀ (W : WX) (pn : List (Addr × Obj)) (xe : Value → Shared → Prop), Takes (X.tr pn xe) W → PassesOwn (model X.prog X.w) X.A X.env xe → DSs (X.tr pn xe) W Γ body Γ' b)
    (hsu : ∀ y, y ∈ ok → ∀ (C a : Addr) (oe : Obj) (pn : List (Addr × Obj)), X.mg y = some (.ref C) → Zc (.ref C) none oe → (∃ vs, oe.data = .fields vs) → PSs (X.suite a ((a, oe) :: pn)) (b₀ :: suite) (tSu X.K a i (hv y))) :
    DS X W Γ (.Try body [.ExceptHandler (some (.Name x np)) (some n) (b₀ :: suite) pos'] [] [] pos) Γ' (sTry b ok hv) :=
  ps_imp (ps_try_as (tb := fun W => tDS X.K X.mg (fun cls d σ H => σ.length = X.N.length → W cls d σ H) Γ Γ' b)
    (ts := fun a cls d => fun D σ H => ∃ y C, y ∈ ok ∧ X.mg y = some (.ref C) ∧ cls = .ref C ∧ d = none ∧ tSu X.K a i (hv y) D σ H) hs hf hN hi hln hc tk
    (fun W pn xe tk2 ps => hb _ pn xe (takes_len tk2) ps)
    (fun a oe cls d pn hz hv => ⟨fun pins s σ H D I h => by
      obtain ⟨y, C, hy, hm, e1, e2, h⟩ := h
      subst e1 e2
      exact (hsu y hy C a oe pn hm hz hv).run pins s σ H D I h⟩)) fun D σ H h => by
    obtain ⟨ρ, F, GO, E, h⟩ := h
    refine ⟨ρ, F, GO, E, ?_⟩
    unfold sTry at h
    show FinS _ _ _ _ _ _ _ (b ρ) _
    cases q : b ρ with
    | ok o =>
      rw [q] at h
      cases o with
      | nx _ => exact h
      | rt _ => exact h
    | bad => rw [q] at h; exact h
    | exc y =>
      rw [q] at h
      dsimp only at h
      split at h
      · rename_i hy
        intro C σ' H' hC k hlen
        refine ⟨true, hex y hy C hC, fun _ a na => ⟨y, C, hy, hC, rfl, rfl, ?_, fun v r => ?_⟩, fun z => Bool.noConfusion z⟩
        · obtain ⟨hl, _⟩ := List.getElem?_eq_some_iff.mp hi
          exact List.getElem?_set_self (by rw [hlen]; exact hl)
        · exact h v H' k (Rp.flat2 (hfl y hy) r)
      · exact h.elim
/-- isinstance(wrong, C1) in the suite -/
theorem pe_isE {D C1 a : Addr} {oe : Obj} {pn : List (Addr × Obj)} {m x1 : Str} {bb : Bool} {p p1 p2 : Pos} (EC : ExcC X.K D) (hz : Zc (.ref D) none oe) (hf : ∃ vs, oe.data = .fields vs)
    (hg : Gl X "isinstance") (hm : X.mg "isinstance" = none) (hN : X.N[i]? = some n) (hv : Vis X.env.scope n) (hd : (n == ("__debug__" : Str)) = false) (hcd : (n == ("__classdict__" : Str)) = false)
    (hg1 : Gl X x1) (hm1 : X.mg x1 = some (.ref C1)) (hd1 : (x1 == ("__debug__" : Str)) = false) (hk : PySem.W.kitOne X.K (.ref D) (.ref C1) = some bb)
    (hs1 : starEach [.Name n p1, .Name x1 p2] X.env = (false, eval (.Name n p1) X.env) :: starEach [.Name x1 p2] X.env := by rfl) (hs2 : starEach [.Name x1 p2] X.env = (false, eval (.Name x1 p2) X.env) :: starEach [] X.env := by rfl)
    (hpl : (backTo pos (starEach [.Name x1 p2] X.env)).any (·.1) = false := by rfl) :
    PE (X.suite a ((a, oe) :: pn)) (.Call (.Name "isinstance" p) [.Name n p1, .Name x1 p2] [] pos) (fun σ H Q => σ[i]? = some (some (.ref a)) ∧ Q (.bl bb) H) :=
  pe_imp (pe_callB (X := X.suite a ((a, oe) :: pn)) (call_isE EC hz hf) hg hm boot_isinstance (pa_cons (pe_var (X := X.suite a ((a, oe) :: pn)) hN hv hd hcd) (pa_cons (pe_glob (X := X.suite a ((a, oe) :: pn)) (v := .ref C1) hg1 hm1 rfl hd1) pa_nil hs2) hs1) (by decide) (by decide) hs1 hpl) fun σ H Q h =>
    ⟨.ref a, h.1, .ref C1, .ref C1, bb, rfl, fun u r => r, hk, h.2⟩
/-! the suites themselves -/
section
variable {D C1 C2 a : Addr} {oe : Obj} {pn : List (Addr × Obj)} {w1 w2 : Str} {b1 b2 : Bool} {e1 e2 : Expr} {p p1 p2 p3 p4 p5 p6 : Pos}
def tE (a : Addr) (i : Nat) (bb : Bool) : TE := fun σ H Q => σ[i]? = some (some (.ref a)) ∧ Q (.bl bb) H
/-- return isinstance(wrong, C) -/
theorem su_ret {Y : Cx} (hY : Y.K = X.K) (h1 : PE Y e1 (tE a i b1)) : PSs Y [.Return (some e1) p] (tSu X.K a i (.bool b1)) := pss_one (ps_imp' (ps_ret h1) fun D σ H h => ⟨h.1, h.2 _ (.bl b1)⟩)
/-- if isinstance(wrong, C1): return 'w1' / return 'w2' * int(isinstance(wrong, C2)) -/
theorem su_two {Y : Cx} (hY : Y.K = X.K) {f1 : Expr} {as1 : List Expr} {k1 : List Keyword} {q1 q2 q3 q4 q5 q6 : Pos} {j1 j2 : Nat} (h1 : PE Y (.Call f1 as1 k1 p1) (tE a i b1)) (h2 : PE Y e2 (tE a i b2)) (n1 : w1.length ≤ big) (n2 : w2.length ≤ big)
    (m : Y.mg "int" = none) (hg : Gl Y "int") (hs1 : starEach [e2] Y.env = (false, eval e2 Y.env) :: starEach [] Y.env := by rfl) (hs2 : (backTo q6 (starEach [] Y.env)).any (·.1) = false := by rfl) :
    PSs Y [.If (.Call f1 as1 k1 p1) [.Return (some (.Constant (.str w1) j1 q1)) q2] [] q3, .Return (some (.BinOp (.Constant (.str w2) j2 q4) .Mult (.Call (.Name "int" p2) [e2] [] q6) q5)) p3]
      (tSu X.K a i (if b1 then .str w1 else if b2 then .str w2 else .str Str.empty)) :=
  pss_imp (pss_cons (ps_if (pt_val h1) (pss_one (ps_ret pe_str)) pss_nil) (pss_one (ps_ret (pe_op op_repS pe_str (pe_callTy call_int1 hg m boot_int (pa_cons h2 pa_nil hs1) (by decide) (by decide) hs1 hs2))))) fun D σ H h => by
    obtain ⟨h3, h4⟩ := h
    refine ⟨h3, b1, rfl, ?_⟩
    cases b1 with
    | true => exact h4 _ (.str w1 n1)
    | false =>
      refine ⟨h3, .inr ⟨b2, rfl, ?_⟩⟩
      cases b2 with
      | true => exact ⟨w2, 1, rfl, rfl, n2, .inr ⟨rfl, h4 _ (.str w2 n2)⟩⟩
      | false => exact ⟨w2, 0, rfl, rfl, n2, .inl ⟨rfl, h4 _ (.str _ (by decide))⟩⟩
end
end
/-! what the head shows of an error's class -/
def excCB (K : PySem.W.Frag) (D : Addr) : Bool :=
  decide (PySem.W.findIn K (.ref D) "__getattribute__" = some (some (.builtin "BaseException.__getattribute__"))) &&
  (decide (PySem.W.findIn K (.ref D) "__getattr__" = some none) && (decide (PySem.W.subIn K (.ref D) (.type "BaseException") = some true) && (PySem.W.hasDictIn K D &&
  (decide (PySem.W.findIn K (.ref D) "__class__" = some (some (.builtin "object.__class__"))) && (decide (PySem.W.specialIn K (.builtin "object.__class__") "__get__" = some (some (.builtin "getset_descriptor.__get__"))) &&
  (decide (PySem.W.takesIn K (.builtin "object.__class__") = some true) && decide (PySem.W.mroIn K D (.type "object") = some true)))))))
theorem excC_of {K : PySem.W.Frag} {D : Addr} (h : excCB K D = true) : ExcC K D := by
  unfold excCB at h
  simp only [Bool.and_eq_true, decide_eq_true_eq] at h
  obtain ⟨h1, h2, h3, h4, h5, h6, h7, h8⟩ := h
  exact ⟨h1, h2, h3, h4, h5, h6, h7, h8⟩
/-- an error x raised, under except y, asked after the classes z -/
def catB (K : PySem.W.Frag) (x y : Str) : Bool := decide (PySem.W.exmOne K (.ref (He.ga K x)) (.ref (He.ga K y)) = some true) && excCB K (He.ga K x)
def isB (K : PySem.W.Frag) (x z : Str) (b : Bool) : Bool := decide (PySem.W.kitOne K (.ref (He.ga K x)) (.ref (He.ga K z)) = some b)
/-- .. as a fact about names -/
structure Cat (K : PySem.W.Frag) (mg : MG) (x y : Str) : Prop where
  ex : ∃ C N, mg x = some (.ref C) ∧ mg y = some (.ref N) ∧ PySem.W.exmOne K (.ref C) (.ref N) = some true ∧ ExcC K C
structure IsE (K : PySem.W.Frag) (mg : MG) (x z : Str) (b : Bool) : Prop where
  ex : ∃ C N, mg x = some (.ref C) ∧ mg z = some (.ref N) ∧ PySem.W.kitOne K (.ref C) (.ref N) = some b
theorem cat_of {K : PySem.W.Frag} {h : Heap} {mg : MG} {x y : Str} (X : K.In h) (G : h.Ns mainGlobals mg) (c1 : (He.Fa.glo x).ok K = true) (c2 : (He.Fa.glo y).ok K = true) (c : catB K x y = true) : Cat K mg x y := by
  unfold catB at c
  simp only [Bool.and_eq_true, decide_eq_true_eq] at c
  exact ⟨_, _, He.glo_ok X G c1, He.glo_ok X G c2, c.1, excC_of c.2⟩
theorem isE_of {K : PySem.W.Frag} {h : Heap} {mg : MG} {x z : Str} {b : Bool} (X : K.In h) (G : h.Ns mainGlobals mg) (c1 : (He.Fa.glo x).ok K = true) (c2 : (He.Fa.glo z).ok K = true) (c : isB K x z b = true) : IsE K mg x z b := by
  unfold isB at c
  simp only [decide_eq_true_eq] at c
  exact ⟨_, _, He.glo_ok X G c1, He.glo_ok X G c2, c⟩
section
variable {X : Cx} {W : WX} {Γ Γ' : List Nat} {b : SS} {x n x1 x2 y0 w1 w2 : Str} {i : Nat} {body : List Stmt} {np pos pos' p p1 p2 p3 p4 p5 p6 p7 p8 q q1 q2 q3 q4 q5 q6 : Pos} {ok : List Str} {hv : Str → Da} {j1 j2 : Nat}
theorem ds_try1 (hs : X.stack = X.env :: X.outer) (hf : X.env.frame = some X.env.locals) (hN : X.N.Nodup) (hi : nameOk X.N X.env.scope i n = true) (hln : X.env.kindOf n = some .local) (hgx : Gl X x) (hdx : (x == ("__debug__" : Str)) = false) (tk : Takes X W)
    (hy0 : y0 ∈ ok) (hcat : ∀ y, y ∈ ok → Cat X.K X.mg y x) (his : ∀ y, y ∈ ok → ∃ b1, IsE X.K X.mg y x1 b1 ∧ hv y = .bool b1)
    (hgi : Gl X "isinstance") (hmi : X.mg "isinstance" = none) (hg1 : Gl X x1) (hd1 : (x1 == ("__debug__" : Str)) = false)
    (hb : ∀ (W : WX) (pn : List (Addr × Obj)) (xe : Value → Shared → Prop), Takes (X.tr pn xe) W → PassesOwn (model X.prog X.w) X.A X.env xe → DSs (X.tr pn xe) W Γ body Γ' b)
    (hs1 : starEach [.Name n p1, .Name x1 p2] X.env = (false, eval (.Name n p1) X.env) :: starEach [.Name x1 p2] X.env := by rfl) (hs2 : starEach [.Name x1 p2] X.env = (false, eval (.Name x1 p2) X.env) :: starEach [] X.env := by rfl)
    (hpl : (backTo q (starEach [.Name x1 p2] X.env)).any (·.1) = false := by rfl) :
    DS X W Γ (.Try body [.ExceptHandler (some (.Name x np)) (some n) [.Return (some (.Call (.Name "isinstance" p) [.Name n p1, .Name x1 p2] [] q)) q1] pos'] [] [] pos) Γ' (sTry b ok hv) := by
  obtain ⟨C0, N0, m0, mN, _, _⟩ := (hcat y0 hy0).ex
  obtain ⟨hi1, hi2, hi3, hi4⟩ := nameOk_of hi
  refine ds_try (c := .ref N0) hs hf hN hi1 hln ⟨hgx, hdx, .inl mN⟩ tk (fun y hy => ?_) (fun y hy C hC => ?_) hb fun y hy C a oe pn hC hz hfl => ?_
  · obtain ⟨b1, _, e⟩ := his y hy
    rw [e]; rfl
  · obtain ⟨C', N', e1, e2, e3, _⟩ := (hcat y hy).ex
    rw [hC] at e1; rw [mN] at e2
    cases e1; cases e2
    exact e3
  · obtain ⟨C', N', e1, e2, _, e4⟩ := (hcat y hy).ex
    obtain ⟨b1, ⟨C2, N2, f1, f2, f3⟩, e⟩ := his y hy
    rw [hC] at e1 f1
    cases e1; cases f1
    rw [e]
    exact su_ret rfl (pe_isE (m := n) e4 hz hfl hgi hmi hi1 hi2 hi3 hi4 hg1 f2 hd1 f3 hs1 hs2 hpl)
theorem ds_try2 (hs : X.stack = X.env :: X.outer) (hf : X.env.frame = some X.env.locals) (hN : X.N.Nodup) (hi : nameOk X.N X.env.scope i n = true) (hln : X.env.kindOf n = some .local) (hgx : Gl X x) (hdx : (x == ("__debug__" : Str)) = false) (tk : Takes X W)
    (hy0 : y0 ∈ ok) (hcat : ∀ y, y ∈ ok → Cat X.K X.mg y x) (his : ∀ y, y ∈ ok → ∃ b1 b2, IsE X.K X.mg y x1 b1 ∧ IsE X.K X.mg y x2 b2 ∧ hv y = if b1 then .str w1 else if b2 then .str w2 else .str Str.empty)
    (n1 : w1.length ≤ big) (n2 : w2.length ≤ big) (hmt : X.mg "int" = none) (hgt : Gl X "int")
    (hgi : Gl X "isinstance") (hmi : X.mg "isinstance" = none) (hg1 : Gl X x1) (hd1 : (x1 == ("__debug__" : Str)) = false) (hg2 : Gl X x2) (hd2 : (x2 == ("__debug__" : Str)) = false)
    (hb : ∀ (W : WX) (pn : List (Addr × Obj)) (xe : Value → Shared → Prop), Takes (X.tr pn xe) W → PassesOwn (model X.prog X.w) X.A X.env xe → DSs (X.tr pn xe) W Γ body Γ' b)
    (hs1 : starEach [.Name n p1, .Name x1 p2] X.env = (false, eval (.Name n p1) X.env) :: starEach [.Name x1 p2] X.env := by rfl) (hs2 : starEach [.Name x1 p2] X.env = (false, eval (.Name x1 p2) X.env) :: starEach [] X.env := by rfl)
    (hpl : (backTo q (starEach [.Name x1 p2] X.env)).any (·.1) = false := by rfl)
    (hs3 : starEach [.Name n p5, .Name x2 p6] X.env = (false, eval (.Name n p5) X.env) :: starEach [.Name x2 p6] X.env := by rfl) (hs4 : starEach [.Name x2 p6] X.env = (false, eval (.Name x2 p6) X.env) :: starEach [] X.env := by rfl)
    (hpl2 : (backTo q4 (starEach [.Name x2 p6] X.env)).any (·.1) = false := by rfl)
    (hs5 : starEach [.Call (.Name "isinstance" p4) [.Name n p5, .Name x2 p6] [] q4] X.env = (false, eval (.Call (.Name "isinstance" p4) [.Name n p5, .Name x2 p6] [] q4) X.env) :: starEach [] X.env := by rfl) (hpl3 : (backTo q5 (starEach [] X.env)).any (·.1) = false := by rfl) :
    DS X W Γ (.Try body [.ExceptHandler (some (.Name x np)) (some n) [.If (.Call (.Name "isinstance" p) [.Name n p1, .Name x1 p2] [] q) [.Return (some (.Constant (.str w1) j1 q1)) q2] [] q3,
      .Return (some (.BinOp (.Constant (.str w2) j2 p7) .Mult (.Call (.Name "int" p3) [.Call (.Name "isinstance" p4) [.Name n p5, .Name x2 p6] [] q4] [] q5) q6)) p8] pos'] [] [] pos) Γ' (sTry b ok hv) := by
  obtain ⟨C0, N0, m0, mN, _, _⟩ := (hcat y0 hy0).ex
  obtain ⟨hi1, hi2, hi3, hi4⟩ := nameOk_of hi
  refine ds_try (c := .ref N0) hs hf hN hi1 hln ⟨hgx, hdx, .inl mN⟩ tk (fun y hy => ?_) (fun y hy C hC => ?_) hb fun y hy C a oe pn hC hz hfl => ?_
  · obtain ⟨b1, b2, _, _, e⟩ := his y hy
    rw [e]
    cases b1 <;> cases b2 <;> rfl
  · obtain ⟨C', N', e1, e2, e3, _⟩ := (hcat y hy).ex
    rw [hC] at e1; rw [mN] at e2
    cases e1; cases e2
    exact e3
  · obtain ⟨C', N', e1, e2, _, e4⟩ := (hcat y hy).ex
    obtain ⟨b1, b2, ⟨C2, N2, f1, f2, f3⟩, ⟨C3, N3, k1, k2, k3⟩, e⟩ := his y hy
    rw [hC] at e1 f1 k1
    cases e1; cases f1; cases k1
    rw [e]
    exact su_two (Y := X.suite a ((a, oe) :: pn)) rfl (pe_isE (m := n) e4 hz hfl hgi hmi hi1 hi2 hi3 hi4 hg1 f2 hd1 f3 hs1 hs2 hpl) (pe_isE (m := n) e4 hz hfl hgi hmi hi1 hi2 hi3 hi4 hg2 k2 hd2 k3 hs3 hs4 hpl2) n1 n2 hmt hgt hs5 hpl3
end
end DL
set_option Elab.async false
set_option linter.all false
set_option maxRecDepth 100000
namespace DL
open PySem PySem.Spec PyProof.Rows L2
/-! ### data in order -/
theorem alkB_ok {xs : List Da} (h : alkB xs = true) : PySem.W.AlikeAll xs ∧ PyData.depthAll xs ≤ 50 ∧ PyData.canLayAll0 xs = true := by
  unfold alkB at h
  simp only [Bool.and_eq_true, List.all_eq_true, decide_eq_true_eq] at h
  refine ⟨⟨fun x hx y hy => h.1 x hx y hy, fun x hx e => ?_⟩, h.2.2.1, h.2.2.2⟩
  have := h.2.1 x hx
  subst e
  cases this
theorem srtB_ok {xs : List Da} (h : srtB xs = true) : PySem.W.Sortable xs := by
  unfold srtB at h
  rcases Bool.or_eq_true_iff.mp h with h | h
  · refine .inl fun d hd => ?_
    have := List.all_eq_true.mp h d hd
    unfold tupD1 at this
    split at this
    · exact ⟨_, _, rfl⟩
    · cases this
  · refine .inr fun d hd => ?_
    have := List.all_eq_true.mp h d hd
    unfold othD1 at this
    split at this
    · cases this
    · cases this
    · rename_i n1 n2
      exact ⟨n1, fun xs => n2 xs⟩
theorem depth_mem {xs : List Da} {d : Da} (h : d ∈ xs) : d.depth ≤ PyData.depthAll xs := by
  induction xs with
  | nil => cases h
  | cons x xs ih =>
    simp only [PyData.depthAll]
    rcases List.mem_cons.mp h with e | h
    · subst e; omega
    · have := ih h; omega
theorem lay_mem {xs : List Da} {d : Da} (l : PyData.canLayAll0 xs = true) (h : d ∈ xs) : d.canLay0 = true := by
  induction xs with
  | nil => cases h
  | cons x xs ih =>
    simp only [PyData.canLayAll0, Bool.and_eq_true] at l
    rcases List.mem_cons.mp h with e | h
    · subst e; exact l.1
    · exact ih l.2 h
theorem minD_mem : ∀ (xs : List Da) (x : Da), PySem.W.minD x xs ∈ x :: xs
  | [], x => List.mem_cons_self
  | y :: xs, x => by
    show PySem.W.minD (if PySem.W.dataLt y x then y else x) xs ∈ _
    have := minD_mem xs (if PySem.W.dataLt y x then y else x)
    rcases List.mem_cons.mp this with e | h
    · rw [e]; split
      · exact List.mem_cons_of_mem _ List.mem_cons_self
      · exact List.mem_cons_self
    · exact List.mem_cons_of_mem _ (List.mem_cons_of_mem _ h)
theorem maxD_mem : ∀ (xs : List Da) (x : Da), PySem.W.maxD x xs ∈ x :: xs
  | [], x => List.mem_cons_self
  | y :: xs, x => by
    show PySem.W.maxD (if PySem.W.dataLt x y then y else x) xs ∈ _
    have := maxD_mem xs (if PySem.W.dataLt x y then y else x)
    rcases List.mem_cons.mp this with e | h
    · rw [e]; split
      · exact List.mem_cons_of_mem _ List.mem_cons_self
      · exact List.mem_cons_self
    · exact List.mem_cons_of_mem _ (List.mem_cons_of_mem _ h)
section
variable {X : Cx} {W : WX} {Γ : List Nat} {e : Expr} {fl : Fl} {se : SE} {pos p : Pos}
theorem Vals.at : ∀ {xs : List V} {us : List Value} {i : Nat} {u : Value}, Vals xs us → us[i]? = some u → ∃ x, xs[i]? = some x ∧ RelV x u
  | _, _, _, _, .nil, h => by simp at h
  | _, _, 0, _, .cons r t, h => by
    have := Option.some.inj h
    subst this
    exact ⟨_, rfl, r⟩
  | _, _, i + 1, _, .cons r t, h => by
    obtain ⟨x, a, b⟩ := Vals.at t (i := i) (by simpa using h)
    exact ⟨x, by simpa using a, b⟩
/-- min, max of a list or tuple of data: an item that reads so -/
def rBest (K : PySem.W.Frag) (f : Da → List Da → Da) : List V → Hp → VK → Prop := fun vs H Q => ∃ (a : Addr) (ws : List V) (x : Da) (xs : List Da), vs = [V.ref a] ∧ (SqL K H a ws ∨ SqT K H a ws) ∧ DpAll K H ws (x :: xs) ∧ alkB (x :: xs) = true ∧
  ∀ (i : Nat) (v : V), ws[i]? = some v → (x :: xs)[i]? = some (f x xs) → Q v H
theorem reads_at {h : Heap} {its : List Value} {ds : List Da} {as : List Addr} (lay : PyData.canLayAll0 ds = true) (r : ReadsAll h its ds as) {i : Nat} {v : Value} {d : Da} {bs : List Addr} (hv : its[i]? = some v) (hr : Reads h v d bs) (hd : d ∈ ds) : ds[i]? = some d := by
  have e1 := SeqAt.readsAll_map ds its as lay r
  have e2 : SeqAt.readOf h v = d := SeqAt.readOf_eq (lay_mem lay hd) hr
  rw [← e1, List.getElem?_map, hv, ← e2]
  rfl
theorem keepsAll {h h' : Heap} (k : ∀ b o, h.get? b = some o → h'.get? b = some o) : ∀ {its : List Value} {ds : List Da} {as : List Addr}, ReadsAll h its ds as → ReadsAll h' its ds as
  | _, _, _, .nil => .nil
  | _, _, _, .cons r t => .cons (PyProof.Rows.Reads.keeps k r) (keepsAll k t)
theorem cr_minG (hc : X.calm = true) (hu : X.A.units + 64 < cLine) : CallR X (.builtin "min") (rBest X.K PySem.W.minD) := by
  intro pins s σ H vs us Q I r h
  obtain ⟨a, ws, x, xs, rfl, hs, dp, ab, q⟩ := h
  obtain ⟨al, dep, lay⟩ := alkB_ok ab
  rw [Vals.ref1 r]
  rcases hs with hs | hs
  · obtain ⟨its, rv, hl, _⟩ := I.list hs
    obtain ⟨as, rd⟩ := Dp.readsAll I (x :: xs) ws its dp rv
    refine PySem.W.min_list_data (I.ok.hd hc) hl.isList rd al (by omega) fun i v h' tk bs hv hr hk => ?_
    have hv' : its[i]? = some v := by simpa using hv
    obtain ⟨w, hw, rw_⟩ := Vals.at rv hv'
    exact ⟨w, H, I.kept hk, rw_, q i w hw (reads_at lay (keepsAll hk rd) hv' hr (minD_mem xs x))⟩
  · obtain ⟨its, rv, hl, _⟩ := I.tuple hs
    obtain ⟨as, rd⟩ := Dp.readsAll I (x :: xs) ws its dp rv
    refine PySem.W.min_tuple_data (I.ok.hd hc) hl rd al (by omega) fun i v h' tk bs hv hr hk => ?_
    have hv' : its[i]? = some v := by simpa using hv
    obtain ⟨w, hw, rw_⟩ := Vals.at rv hv'
    exact ⟨w, H, I.kept hk, rw_, q i w hw (reads_at lay (keepsAll hk rd) hv' hr (minD_mem xs x))⟩
theorem cr_maxG (hc : X.calm = true) (hu : X.A.units + 64 < cLine) : CallR X (.builtin "max") (rBest X.K PySem.W.maxD) := by
  intro pins s σ H vs us Q I r h
  obtain ⟨a, ws, x, xs, rfl, hs, dp, ab, q⟩ := h
  obtain ⟨al, dep, lay⟩ := alkB_ok ab
  rw [Vals.ref1 r]
  rcases hs with hs | hs
  · obtain ⟨its, rv, hl, _⟩ := I.list hs
    obtain ⟨as, rd⟩ := Dp.readsAll I (x :: xs) ws its dp rv
    refine PySem.W.max_list_data (I.ok.hd hc) hl.isList rd al (by omega) fun i v h' tk bs hv hr hk => ?_
    have hv' : its[i]? = some v := by simpa using hv
    obtain ⟨w, hw, rw_⟩ := Vals.at rv hv'
    exact ⟨w, H, I.kept hk, rw_, q i w hw (reads_at lay (keepsAll hk rd) hv' hr (maxD_mem xs x))⟩
  · obtain ⟨its, rv, hl, _⟩ := I.tuple hs
    obtain ⟨as, rd⟩ := Dp.readsAll I (x :: xs) ws its dp rv
    refine PySem.W.max_tuple_data (I.ok.hd hc) hl rd al (by omega) fun i v h' tk bs hv hr hk => ?_
    have hv' : its[i]? = some v := by simpa using hv
    obtain ⟨w, hw, rw_⟩ := Vals.at rv hv'
    exact ⟨w, H, I.kept hk, rw_, q i w hw (reads_at lay (keepsAll hk rd) hv' hr (maxD_mem xs x))⟩
theorem best_s {mg : MG} {W : WX} {σ : L2.St} {O : List Addr} {H0 H : Hp} {fl : Fl} {v : V} {a : Da} {xs : List Da} {Q : VK} {f : Da → List Da → Da} {g : List Da → R Da} (hg0 : g [] = .bad) (hg : ∀ x xs, g (x :: xs) = if alkB (x :: xs) then .ok (f x xs) else .bad)
    (hx : Res X.K H0 H O fl v a) (ha : a = .list xs ∨ a = .tuple xs) (h : FinG mg W σ H (g xs) (PE_ X.K H O .sh Q)) : rBest X.K f [v] H Q := by
  cases xs with
  | nil => rw [hg0] at h; exact h.elim
  | cons x xs =>
    rw [hg] at h
    split at h
    · rename_i c
      have fin : ∀ {ws : List V}, RpAll X.K H O ws (x :: xs) → ∀ (i : Nat) (v : V), ws[i]? = some v → (x :: xs)[i]? = some (f x xs) → Q v H := fun r i v hv hd => by
        obtain ⟨d, e, rd⟩ := r.getV hv
        rw [hd] at e
        cases e
        exact PE_.now h rd
      rcases ha with rfl | rfl
      · obtain ⟨p, vs, rfl, s1, r1, n1⟩ := hx.list
        exact ⟨p, vs, x, xs, rfl, .inl s1, r1.dp, c, fin r1⟩
      · obtain ⟨p, vs, rfl, s1, r1, n1⟩ := hx.tuple
        exact ⟨p, vs, x, xs, rfl, .inr s1, r1.dp, c, fin r1⟩
    · exact h.elim
theorem cs_minG : CallS X (rBest X.K PySem.W.minD) .sh dMinG := by
  intro mg W σ O H0 H fls xs as Q nw hx h
  unfold dMinG at h
  split at h
  · cases hx with
    | cons h1 t => cases t; exact best_s rfl (fun _ _ => rfl) h1 (.inl rfl) h
  · cases hx with
    | cons h1 t => cases t; exact best_s rfl (fun _ _ => rfl) h1 (.inr rfl) h
  · exact h.elim
theorem cs_maxG : CallS X (rBest X.K PySem.W.maxD) .sh dMaxG := by
  intro mg W σ O H0 H fls xs as Q nw hx h
  unfold dMaxG at h
  split at h
  · cases hx with
    | cons h1 t => cases t; exact best_s rfl (fun _ _ => rfl) h1 (.inl rfl) h
  · cases hx with
    | cons h1 t => cases t; exact best_s rfl (fun _ _ => rfl) h1 (.inr rfl) h
  · exact h.elim
theorem de_minG (hc : X.calm = true) (hu : X.A.units + 64 < cLine) (m : X.mg "min" = none) (he : DE X W Γ e fl se) (hg : Gl X "min" := by show _ = _; kernel_rfl) (h1 : starEach [e] X.env = (false, eval e X.env) :: starEach [] X.env := by kernel_rfl) (h2 : (backTo pos (starEach [] X.env)).any (·.1) = false := by kernel_rfl) : DE X W Γ (.Call (.Name "min" p) [e] [] pos) .sh (eA dMinG (aCons se aNil)) :=
  de_callB (cr_minG hc hu) cs_minG hg m boot_min (da_cons he da_nil h1) (by decide) (by decide) h1 h2
theorem de_maxG (hc : X.calm = true) (hu : X.A.units + 64 < cLine) (m : X.mg "max" = none) (he : DE X W Γ e fl se) (hg : Gl X "max" := by show _ = _; kernel_rfl) (h1 : starEach [e] X.env = (false, eval e X.env) :: starEach [] X.env := by kernel_rfl) (h2 : (backTo pos (starEach [] X.env)).any (·.1) = false := by kernel_rfl) : DE X W Γ (.Call (.Name "max" p) [e] [] pos) .sh (eA dMaxG (aCons se aNil)) :=
  de_callB (cr_maxG hc hu) cs_maxG hg m boot_max (da_cons he da_nil h1) (by decide) (by decide) h1 h2
/-! sorted -/
def rSortG (K : PySem.W.Frag) : List V → Hp → VK → Prop := fun vs H Q => ∃ (a : Addr) (bs : List (V × Da)), vs = [V.ref a] ∧ SqL K H a (bs.map (·.1)) ∧ DpAll K H (bs.map (·.1)) (bs.map (·.2)) ∧ alkB (bs.map (·.2)) = true ∧ srtB (bs.map (·.2)) = true ∧
  ∀ p, H p = none → Q (.ref p) (upd H p (.lst ((bs.mergeSort (PySem.W.dataLe false (·.2))).map (·.1))))
theorem each_vals : ∀ {bs : List (V × Da)} {its : List Value}, Vals (bs.map (·.1)) its → PySem.W.EachIs (fun u b => RelV b.1 u) its bs
  | [], _, h => by cases h; exact .nil
  | b :: bs, _, h => by
    rw [List.map_cons] at h
    cases h with
    | cons r t => exact .cons r (each_vals t)
theorem vals_each : ∀ {bs : List (V × Da)} {its : List Value}, PySem.W.EachIs (fun u b => RelV b.1 u) its bs → Vals (bs.map (·.1)) its
  | _, _, .nil => .nil
  | _, _, .cons r t => .cons r (vals_each t)
theorem each_reads {h : Heap} : ∀ {bs : List (V × Da)} {its : List Value} {as : List Addr}, ReadsAll h its (bs.map (·.2)) as → PySem.W.EachIs (fun u b => ∃ as, Reads h u b.2 as) its bs
  | [], _, _, h => by cases h; exact .nil
  | b :: bs, _, _, h => by
    rw [List.map_cons] at h
    cases h with
    | cons r t => exact .cons ⟨_, r⟩ (each_reads t)
theorem cr_sortG (hu : X.A.units + 64 < cLine) : CallR X (.builtin "sorted") (rSortG X.K) := by
  intro pins s σ H vs us Q I r h
  obtain ⟨a, bs, rfl, hs, dp, ab, sb, q⟩ := h
  obtain ⟨al, dep, lay⟩ := alkB_ok ab
  rw [Vals.ref1 r]
  obtain ⟨its, rv, hl, hz⟩ := I.list hs
  obtain ⟨as, rd⟩ := Dp.readsAll I (bs.map (·.2)) _ its dp rv
  rw [List.length_map] at hz
  refine PySem.W.sorted_data (enc := fun b : V × Da => b.2) hl.isList (each_vals rv) (each_reads rd) (fun d hd d' hd' => al.1 d hd d' hd') (srtB_ok sb) hz (fun b hb => by
    have := depth_mem (List.mem_map.mpr ⟨b, hb, rfl⟩ : b.2 ∈ bs.map (·.2))
    omega) fun out ho eo => ?_
  obtain ⟨ep, he'⟩ := PyProof.Rows.sortedAll_at s.heap its out.toArray
  have hlen : ((bs.mergeSort (PySem.W.dataLe false (·.2))).map (·.1)).length ≤ sizeLine := by
    rw [List.length_map, List.length_mergeSort]
    exact hz
  exact ⟨.ref _, upd H (s.heap.objs.size + 1) (.lst ((bs.mergeSort (PySem.W.dataLe false (·.2))).map (·.1))), I.laid (t' := s.toks) (fun _ _ => PyProof.Rows.sortedAll_old) (Nat.le_succ _) ⟨hlen, out, ep, vals_each eo, he'⟩, rfl, q _ (I.hok.fresh (Nat.le_succ _))⟩
theorem RpAll.zip {K : PySem.W.Frag} {H : Hp} {O : List Addr} : ∀ {vs : List V} {ds : List Da}, RpAll K H O vs ds → ∃ bs : List (V × Da), vs = bs.map (·.1) ∧ ds = bs.map (·.2) ∧ ∀ b, b ∈ bs → Rp K H O b.1 b.2
  | _, _, .nil => ⟨[], rfl, rfl, fun _ h => nomatch h⟩
  | _, _, .cons (v := v) (d := d) h t => by
    obtain ⟨bs, e1, e2, e3⟩ := RpAll.zip t
    subst e1 e2
    exact ⟨(v, d) :: bs, rfl, rfl, fun b hb => by
      rcases List.mem_cons.mp hb with e | hb
      · subst e; exact h
      · exact e3 b hb⟩
theorem RpAll.unzip {K : PySem.W.Frag} {H : Hp} {O : List Addr} : ∀ {bs : List (V × Da)}, (∀ b, b ∈ bs → Rp K H O b.1 b.2) → RpAll K H O (bs.map (·.1)) (bs.map (·.2))
  | [], _ => .nil
  | b :: bs, h => .cons (h b List.mem_cons_self) (RpAll.unzip fun c hc => h c (List.mem_cons_of_mem _ hc))
theorem cs_sortG : CallS X (rSortG X.K) .fr dSortG := by
  intro mg W σ O H0 H fls xs as Q nw hx h
  unfold dSortG at h
  split at h
  · cases hx with
    | cons h1 t =>
      cases t
      obtain ⟨p, vs, rfl, s1, r1, n1⟩ := h1.list
      split at h
      · rename_i c
        obtain ⟨c1, c2⟩ := Bool.and_eq_true_iff.mp c
        obtain ⟨bs, e1, e2, e3⟩ := r1.zip
        subst e1 e2
        refine ⟨p, bs, rfl, s1, r1.dp, c1, c2, fun q hq => ?_⟩
        have em : (bs.mergeSort (PySem.W.dataLe false (·.2))).map (·.2) = (bs.map (·.2)).mergeSort (PySem.W.dataLe false id) := List.map_mergeSort fun a _ b _ => rfl
        have r2 : RpAll X.K H O ((bs.mergeSort (PySem.W.dataLe false (·.2))).map (·.1)) ((bs.map (·.2)).mergeSort (PySem.W.dataLe false id)) := by
          rw [← em]
          exact RpAll.unzip fun b hb => e3 b ((List.mergeSort_perm _ _).mem_iff.mp hb)
        exact PE_.newL h r2 (by rw [List.length_mergeSort]; exact n1) hq (nw q hq)
      · exact h.elim
  · exact h.elim
theorem de_sortG (hu : X.A.units + 64 < cLine) (m : X.mg "sorted" = none) (he : DE X W Γ e fl se) (hg : Gl X "sorted" := by show _ = _; kernel_rfl) (h1 : starEach [e] X.env = (false, eval e X.env) :: starEach [] X.env := by kernel_rfl) (h2 : (backTo pos (starEach [] X.env)).any (·.1) = false := by kernel_rfl) : DE X W Γ (.Call (.Name "sorted" p) [e] [] pos) .fr (eA dSortG (aCons se aNil)) :=
  de_callB (cr_sortG hu) cs_sortG hg m boot_sorted (da_cons he da_nil h1) (by decide) (by decide) h1 h2
/-! comparisons -/
def rCmpG (K : PySem.W.Frag) (f : Da → Da → Bool) : R2 := fun x y H Q => ∃ d e, Dp K H x d ∧ Dp K H y e ∧ alkB [d, e] = true ∧ Q (.bl (f d e)) H
theorem alk2 {a b : Da} (h : alkB [a, b] = true) : PySem.W.alike a b = true ∧ a ≠ .none ∧ min a.depth b.depth ≤ 50 := by
  obtain ⟨⟨h1, h2⟩, h3, _⟩ := alkB_ok h
  have := depth_mem (xs := [a, b]) (d := a) List.mem_cons_self
  exact ⟨h1 a List.mem_cons_self b (List.mem_cons_of_mem _ List.mem_cons_self), h2 a List.mem_cons_self, by omega⟩
theorem op_ltG (hu : X.A.units + 64 < cLine) : OpR X (compareOp .Lt) (rCmpG X.K fun a b => PySem.W.dataLt a b) := by
  intro pins s σ H x y v u Q I rx ry h
  obtain ⟨d, e, hd, he, ab, q⟩ := h
  obtain ⟨as, r1⟩ := Dp.reads I d x v hd rx
  obtain ⟨bs, r2⟩ := Dp.reads I e y u he ry
  obtain ⟨a1, a2, a3⟩ := alk2 ab
  exact PySem.W.lt_data r1 r2 a1 a2 (by omega) ⟨.bl _, H, I, rfl, q⟩
theorem op_gtG (hu : X.A.units + 64 < cLine) : OpR X (compareOp .Gt) (rCmpG X.K fun a b => PySem.W.dataLt b a) := by
  intro pins s σ H x y v u Q I rx ry h
  obtain ⟨d, e, hd, he, ab, q⟩ := h
  obtain ⟨as, r1⟩ := Dp.reads I d x v hd rx
  obtain ⟨bs, r2⟩ := Dp.reads I e y u he ry
  obtain ⟨a1, a2, a3⟩ := alk2 ab
  exact PySem.W.gt_data r1 r2 a1 a2 (by omega) ⟨.bl _, H, I, rfl, q⟩
theorem op_leG (hu : X.A.units + 64 < cLine) : OpR X (compareOp .LtE) (rCmpG X.K fun a b => !PySem.W.dataLt b a) := by
  intro pins s σ H x y v u Q I rx ry h
  obtain ⟨d, e, hd, he, ab, q⟩ := h
  obtain ⟨as, r1⟩ := Dp.reads I d x v hd rx
  obtain ⟨bs, r2⟩ := Dp.reads I e y u he ry
  obtain ⟨a1, a2, a3⟩ := alk2 ab
  exact PySem.W.le_data r1 r2 a1 a2 (by omega) ⟨.bl _, H, I, rfl, q⟩
theorem op_geG (hu : X.A.units + 64 < cLine) : OpR X (compareOp .GtE) (rCmpG X.K fun a b => !PySem.W.dataLt a b) := by
  intro pins s σ H x y v u Q I rx ry h
  obtain ⟨d, e, hd, he, ab, q⟩ := h
  obtain ⟨as, r1⟩ := Dp.reads I d x v hd rx
  obtain ⟨bs, r2⟩ := Dp.reads I e y u he ry
  obtain ⟨a1, a2, a3⟩ := alk2 ab
  exact PySem.W.ge_data r1 r2 a1 a2 (by omega) ⟨.bl _, H, I, rfl, q⟩
theorem os_cmpG {f : Da → Da → Bool} {g : Da → Da → R Da} (hg : ∀ a b, g a b = if alkB [a, b] then .ok (.bool (f a b)) else .bad) : OpS X (rCmpG X.K f) .fr g := by
  intro mg W σ O H0 H x y a b Q nw hx hy h
  rw [hg] at h
  split at h
  · rename_i c
    exact ⟨a, b, hx.dp, hy.dp, c, PE_.flat h (.bl _) rfl⟩
  · exact h.elim
theorem os_ltG : OpS X (rCmpG X.K fun a b => PySem.W.dataLt a b) .fr dLtG := os_cmpG fun _ _ => rfl
theorem os_gtG : OpS X (rCmpG X.K fun a b => PySem.W.dataLt b a) .fr dGtG := os_cmpG fun _ _ => rfl
theorem os_leG : OpS X (rCmpG X.K fun a b => !PySem.W.dataLt b a) .fr dLeG := os_cmpG fun _ _ => rfl
theorem os_geG : OpS X (rCmpG X.K fun a b => !PySem.W.dataLt a b) .fr dGeG := os_cmpG fun _ _ => rfl
theorem bl_G {f : Da → Da → Bool} {g : Da → Da → R Da} (hg : ∀ a b, g a b = if alkB [a, b] then .ok (.bool (f a b)) else .bad) (x y z : Da) (h : g x y = .ok z) : ∃ k, z = .bool k := by
  rw [hg] at h
  split at h
  · cases h; exact ⟨_, rfl⟩
  · cases h
theorem bl_ltG (x y z : Da) (h : dLtG x y = .ok z) : ∃ k, z = .bool k := bl_G (f := fun a b => PySem.W.dataLt a b) (g := dLtG) (fun _ _ => rfl) x y z h
theorem bl_gtG (x y z : Da) (h : dGtG x y = .ok z) : ∃ k, z = .bool k := bl_G (f := fun a b => PySem.W.dataLt b a) (g := dGtG) (fun _ _ => rfl) x y z h
theorem bl_leG (x y z : Da) (h : dLeG x y = .ok z) : ∃ k, z = .bool k := bl_G (f := fun a b => !PySem.W.dataLt b a) (g := dLeG) (fun _ _ => rfl) x y z h
theorem bl_geG (x y z : Da) (h : dGeG x y = .ok z) : ∃ k, z = .bool k := bl_G (f := fun a b => !PySem.W.dataLt a b) (g := dGeG) (fun _ _ => rfl) x y z h
end
end DL
set_option Elab.async false
set_option linter.all false
set_option maxRecDepth 100000
namespace DL
open PySem PySem.Spec PyProof.Rows L2
/-! ### e[::-1] -/
section
variable {prog : Program} {w : World} {A : Around} {E : Value → Shared → Prop} {s : Shared}
theorem adjust_back (n : Nat) : Builtin.Slice.sliceAdjust none none (-1) (n : Int) = ((n : Int) - 1, -1) := by
  first | rfl | simp [Builtin.Slice.sliceAdjust]
theorem places_back (n : Nat) : Builtin.Slice.slicePlaces ((n : Int) - 1) (-1) (-1) = n := by
  unfold Builtin.Slice.slicePlaces
  simp
  omega
theorem applied_back {sl : Addr} {t : Tok} {n : Nat} {Q : Int × Int × Nat → Shared → Prop} (hs : s.heap.IsSliceOf sl .none .none (.int (-1) t))
    (h : Q ((n : Int) - 1, -1, n) s) : wpAny (model prog w) A (Builtin.Slice.sliceApplied (.ref sl) (pure (n : Int))) Q E s := by
  obtain ⟨os, hos, hcs, hds⟩ := hs
  unfold Builtin.Slice.sliceApplied
  unfold Builtin.Slice.sliceFields
  refine wpAny_bind ?_
  refine wpAny_bind (wpAny_field hos hds (x := .none) rfl ?_)
  refine wpAny_bind (wpAny_field hos hds (x := .none) rfl ?_)
  refine wpAny_bind (wpAny_field hos hds (x := .int (-1) t) rfl (wpAny_pure ?_))
  refine wpAny_bind (slicePart_int ?_)
  show wpAny _ _ (if ((-1 : Int) == 0) = true then _ else _) _ _ s
  rw [if_neg (by decide)]
  refine wpAny_bind (slicePart_none (wpAny_bind (slicePart_none (wpAny_bind (wpAny_pure ?_)))))
  show wpAny _ _ (match Builtin.Slice.sliceAdjust none none (-1) (n : Int) with | (lo, hi) => pure (lo, (-1 : Int), Builtin.Slice.slicePlaces lo hi (-1))) _ _ s
  rw [adjust_back n]
  show wpAny _ _ (pure (((n : Int) - 1), (-1 : Int), Builtin.Slice.slicePlaces ((n : Int) - 1) (-1) (-1))) _ _ s
  rw [places_back]
  exact wpAny_pure h
theorem pick_back (xs : Array Value) : ((List.range xs.size).filterMap fun (m : Nat) => xs[(((xs.size : Int) - 1) + (m : Int) * -1).toNat]?).toArray = xs.toList.reverse.toArray := by
  have e : (List.range xs.size).filterMap (fun (m : Nat) => xs[(((xs.size : Int) - 1) + (m : Int) * -1).toNat]?) = ((List.range xs.size).map fun k => xs.size - 1 - k).filterMap (xs[·]?) := by
    rw [List.filterMap_map]
    congr 1
    funext m
    show xs[(((xs.size : Int) - 1) + (m : Int) * -1).toNat]? = xs[xs.size - 1 - m]?
    congr 1
    omega
  rw [e, PySem.W.krv_range, List.filterMap_reverse, PySem.W.krv_all]
theorem getItem_tuple_back {t sl : Addr} {items : Array Value} {tk : Tok} {Q : Value → Shared → Prop} (ht : IsTup s.heap t items) (hs : s.heap.IsSliceOf sl .none .none (.int (-1) tk))
    (h : Q (.ref s.heap.objs.size) { s with heap := s.heap.push { cls := .type "tuple", data := .seq items.toList.reverse.toArray } }) (hsz : items.size ≤ sizeLine) : wpAny (model prog w) A (getItem (.ref t) (.ref sl)) Q E s := by
  have hok : sizeOk (.seq items.toList.reverse.toArray) := by
    show items.toList.reverse.toArray.size ≤ sizeLine
    simpa using hsz
  obtain ⟨os, hos, hcs, hds⟩ := id hs
  have hT : s.TypeIs (.ref sl) "slice" := ⟨os, hos, hcs⟩
  unfold getItem
  try with_reducible refine wpAny_holding ?_
  first | refine wpAny_bind (wpAny_pure ?_) | skip
  refine wpAny_bind (wpAny_sequenceKey ht.typeIs (by decide) ?_)
  have se := PyProof.Rows.slot_tuple_getitem
  refine wpAny_bind (wpAny_callSpecial?_slot (name := Str.ofString "__getitem__") ht.typeIs se (wpAny_call_entry se ht.typeIs entry_tuple_getitem ?_ (args_tuple_getitem _ _)))
  show wpAny _ _ (Builtin.Tuple.tupleItemsOf (.ref t) >>= _) _ _ s
  refine wpAny_bind (tupleItemsOf_ ht (wpAny_bind (wpAny_typeOf hT ?_)))
  rw [if_pos (by decide)]
  refine wpAny_bind (applied_back hs ?_)
  show wpAny _ _ (if (((items.size : Int) - 1) == 0 && (-1 : Int) == 1 && items.size == items.size) = true then _ else _) _ _ s
  rw [if_neg (by simp), pick_back]
  first
    | exact wpAny_bind (m := Builtin.Tuple.tupleExact _) (wpAny_newObj_type (wpAny_pure ⟨_, rfl, wpAny_pure h⟩) hok)
    | exact wpAny_bind (m := Builtin.Tuple.tupleExact _) (wpAny_newObj_type (wpAny_bind (wpAny_pure (wpAny_pure ⟨_, rfl, wpAny_pure h⟩))) hok)
    | exact wpAny_bind (wpAny_bind (m := Builtin.Tuple.tupleExact _) (wpAny_newObj_type (wpAny_pure (wpAny_pure ⟨_, rfl, wpAny_pure h⟩)) hok))
    | exact wpAny_bind (wpAny_bind (m := Builtin.Tuple.tupleExact _) (wpAny_newObj_type (wpAny_pure ⟨_, rfl, wpAny_pure h⟩) hok))
end
section
variable {X : Cx} {W : WX} {Γ : List Nat} {e : Expr} {fl : Fl} {se : SE} {pos p p1 p2 p3 : Pos} {k : Nat}
/-- e[::-1], e a list or a tuple -/
def tRevA (K : PySem.W.Frag) (te : TE) : TE := fun σ H Q => te σ H fun x H1 => ∃ a xs, x = .ref a ∧
  ((SqL K H1 a xs ∧ ∀ q, H1 q = none → Q (.ref q) (upd H1 q (.lst xs.reverse))) ∨ (SqT K H1 a xs ∧ ∀ q, H1 q = none → Q (.ref q) (upd H1 q (.tup xs.reverse))))
theorem pe_revA {te : TE} (he : PE X e te) : PE X (.Subscript e (.Slice none none (some (.UnaryOp .USub (.Constant (.int 1) k p1) p2)) p3) pos) (tRevA X.K te) := by
  refine ⟨fun pins s σ H Q I h => Subscript_ (thn (he.run pins s σ H _ I h) fun v s1 ⟨x, H1, I1, r1, a, xs, ex, q⟩ => ?_)⟩
  subst ex
  cases r1
  have minus : PO X (some (.UnaryOp .USub (.Constant (.int 1) k p1) p2)) (tPart (tUn (rU fun i => .int (-i)) (tC (.int 1)))) := po_some (pe_un un_neg pe_int)
  have no1 := po_none.run pins s1 σ H1 (fun o H2 => o = none ∧ H2 = H1) I1 ⟨rfl, rfl⟩
  refine wpAny_Slice (thn no1 ?_)
  rintro vl s2 ⟨l, H2, I2, pl, rfl, rfl⟩
  have no2 := po_none.run pins s2 σ H2 (fun o H3 => o = none ∧ H3 = H2) I2 ⟨rfl, rfl⟩
  refine thn no2 ?_
  rintro vu s3 ⟨u, H3, I3, pu, rfl, rfl⟩
  have st := minus.run pins s3 σ H3 (fun o H4 => o = some (-1) ∧ H4 = H3) I3 ⟨1, rfl, -1, rfl, rfl, rfl⟩
  refine thn st ?_
  rintro vs s4 ⟨o, H4, I4, ps, rfl, rfl⟩
  have I5 : Inv X pins σ H4 { s4 with heap := s4.heap.push { cls := .type "slice", data := .fields #[vl, vu, vs] } } := I4.kept (t' := s4.toks) fun b ob q => Heap.get?_push_of_some _ q
  show wpAny (model X.prog X.w) X.A (subscriptTail e (.Slice none none (some (.UnaryOp .USub (.Constant (.int 1) k p1) p2)) p3) (.ref a) (.ref s4.heap.objs.size)) (EP X pins σ Q) X.xe { s4 with heap := s4.heap.push { cls := .type "slice", data := .fields #[vl, vu, vs] } }
  rcases q with ⟨hx, q⟩ | ⟨hx, q⟩
  · obtain ⟨its, r, ht, hz⟩ := I5.list hx
    have hlen := r.length
    refine tail_any (ops := [.ref a, .ref s4.heap.objs.size]) ht.isList.typeIs PySem.slot_list_getitem.lookup ?_ (by with_unfolding_all rfl)
    refine wpAny_getItem_list_slice ht.isList (Heap.IsSliceOf.new _ vl vu vs) pl pu ps (by decide) ?_ (by rw [List.size_toArray]; omega)
    rw [PySem.W.krv_pick]
    exact ⟨.ref _, _, I5.laid (t' := s4.toks) (o := .lst xs.reverse) (fun b ob q => Heap.get?_push_of_some _ q) (Nat.le_refl _) ⟨by rw [List.length_reverse]; exact hz, _, 0, r.reverse, Heap.get?_push_size _ rfl⟩, rfl, q _ (I5.hok.fresh (Nat.le_refl _))⟩
  · obtain ⟨its, r, ht, hz⟩ := I5.tuple hx
    have hlen := r.length
    cases pl
    cases pu
    cases ps
    refine tail_any (ops := [.ref a, .ref s4.heap.objs.size]) ht.typeIs PyProof.Rows.slot_tuple_getitem.lookup ?_ (by with_unfolding_all rfl)
    refine getItem_tuple_back ht (Heap.IsSliceOf.new _ _ _ _) ?_ (by rw [List.size_toArray]; omega)
    exact ⟨.ref _, _, I5.laid (t' := s4.toks) (o := .tup xs.reverse) (fun b ob q => Heap.get?_push_of_some _ q) (Nat.le_refl _) ⟨by rw [List.length_reverse]; exact hz, _, r.reverse, IsTup.new _ _⟩, rfl, q _ (I5.hok.fresh (Nat.le_refl _))⟩
theorem de_rev (he : DE X W Γ e fl se) : DE X W Γ (.Subscript e (.Slice none none (some (.UnaryOp .USub (.Constant (.int 1) k p1) p2)) p3) pos) .fr (e1 dRev se) :=
  pe_imp (pe_revA he) fun σ H Q h => by
    obtain ⟨ρ, F, GO, E, h⟩ := h
    refine at_e E h fun d v H1 s1 r1 E1 h1 => ?_
    cases d with
    | list ds =>
      obtain ⟨q, vs, rfl, sq, r, n⟩ := r1.list
      have h2 : FinG X.mg W σ H1 (R.ok (PyData.list ds.reverse)) (PE_ X.K H (Ads GO ++ F) .fr Q) := h1
      exact ⟨q, vs, rfl, .inl ⟨sq, fun t ht => PE_.newL (K := X.K) (Q := Q) (O := Ads GO ++ F) (PE_.mono s1 h2) r.reverse (by rw [List.length_reverse]; exact n) ht (E1.fresh t ht)⟩⟩
    | tuple ds =>
      obtain ⟨q, vs, rfl, sq, r, n⟩ := r1.tuple
      have h2 : FinG X.mg W σ H1 (R.ok (PyData.tuple ds.reverse)) (PE_ X.K H (Ads GO ++ F) .fr Q) := h1
      exact ⟨q, vs, rfl, .inr ⟨sq, fun t ht => PE_.newT (PE_.mono s1 h2) r.reverse (by rw [List.length_reverse]; exact n) ht⟩⟩
    | none => exact h1.elim
    | bool _ => exact h1.elim
    | int _ => exact h1.elim
    | str _ => exact h1.elim
    | dict _ => exact h1.elim
end
end DL
set_option Elab.async false
set_option linter.all false
set_option maxRecDepth 100000
namespace DL
open PySem PySem.Spec PyProof.Rows L2

def locB (sc : Scope) (x : Str) : Bool := match sc.names.lookup x with
  | some .local => true
  | some .cell => true
  | _ => false
theorem locK {sc : Scope} {x : Str} (h : locB sc x = true) : Loc sc x := by
  unfold locB at h
  split at h
  · exact .inl (by assumption)
  · exact .inr (by assumption)
  · cases h
theorem glK {X : Cx} {x : Str} (h : X.env.kindOf x = some .globalImplicit) : Gl X x := h
def lclB (sc : Scope) (x : Str) : Bool := match sc.names.lookup x with
  | some .local => true
  | _ => false
theorem fnK {X : Cx} {x : Str} (h : (X.fn x || lclB X.env.scope x) = true) : X.fn x = true ∨ X.env.scope.names.lookup x = some .local := by
  rcases Bool.or_eq_true_iff.mp h with h | h
  · exact .inl h
  · refine .inr ?_
    unfold lclB at h
    split at h
    · assumption
    · cases h
theorem bt_int : bootBuiltins "int" = some (.type "int") := by decide +kernel
theorem bt_bool : bootBuiltins "bool" = some (.type "bool") := by decide +kernel
theorem bt_str : bootBuiltins "str" = some (.type "str") := by decide +kernel
theorem bt_tuple : bootBuiltins "tuple" = some (.type "tuple") := by decide +kernel
theorem bt_list : bootBuiltins "list" = some (.type "list") := by decide +kernel
theorem bt_dict : bootBuiltins "dict" = some (.type "dict") := by decide +kernel

section
variable {X : Cx} {W : WX} {Γ Γ' Γ1 : List Nat} {e a b c d : Expr} {es : List Expr} {fls : List Fl} {fl fa fb fc : Fl} {se sa sb sc : SE} {pos p p2 p3 : Pos}
section
variable {elt tg iter : Expr} {ifs : List Expr} {scope : Scope} {own : List (Str × Nat)} {si : SI} {is : List Nat} {g : STg} {ct : SE}
theorem ds_setLcS {i : Nat} {y : Str} {py : Pos} {spos : Pos} (hc : X.calm = true) (hN : X.N.Nodup) (hy : X.N[i]? = some y) (hyl : X.env.scope.names.lookup y = some .local) (hΓ : Γ.contains i = false)
    (hsw : swapsWith (.ListComp elt [⟨tg, iter, ifs, 0⟩] scope pos) (some (.Name y py)) spos.line X.env = pure true) (hi : DI X W Γ tg iter false si) (ok : BlkOk X.N X.env.scope scope own)
    (hown : (own.map (·.2)).all (fun i => !Γ.contains i) = true) (his : is.all (fun i => (own.map (·.2)).contains i) = true)
    (hg : ∀ (s : Shared) (H : Hp) (C : Addr) (cl : List (Str × Addr)) (fp : List Addr), DG (X.blk s H scope (compEnvC scope cl C X.env) fp) Γ tg is g)
    (ht : ∀ (s : Shared) (H : Hp) (C : Addr) (cl : List (Str × Addr)) (fp : List Addr), DTs (X.blk s H scope (compEnvC scope cl C X.env) fp) W0 Γ ifs ct)
    (he : ∀ (s : Shared) (H : Hp) (C : Addr) (cl : List (Str × Addr)) (fp : List Addr), DE (X.blk s H scope (compEnvC scope cl C X.env) fp) W0 Γ elt fl se) (hf : storable [fl] = true := by kernel_rfl)
    (hs : ∀ x, foldedSetIterable iter X.env x = pure x := by intro _; rfl) :
    DS X W Γ (.Assign [.Name y py] (.ListComp elt [⟨tg, iter, ifs, 0⟩] scope pos) spos) Γ (sAsg (gVar i) (eLc si g (own.map (·.2)) ct se)) :=
  ps_imp (ps_setLc (wi := tDI X.K X.mg W Γ false si) (g := tDG X.K Γ is g) (tt := tDT X.K X.mg W0 Γ ct) (te := tDE X.K X.mg W0 Γ fl se) hc hN hy hyl hsw hi ok (fun s H C cl fp => (hg s H C cl fp).1) ht he hs) fun D σ H h =>
    lc_s hown his hf (name_s (fl := .fr) hΓ rfl h)
end
end
theorem exn_of {K : PySem.W.Frag} {h : Heap} {mg : MG} {x : Str} (X : K.In h) (G : h.Ns mainGlobals mg) (c : (He.Fa.exc x).ok K = true) (c2 : (He.Fa.glo x).ok K = true) : Exn K mg x :=
  let ⟨a, b, d, e⟩ := He.exc_ok c
  ⟨_, He.glo_ok X G c2, a, b, d, e⟩

/-! ### the head's facts and one more Bool -/
abbrev AlE : Type := He.AlD × Bool
def SaysE (fa : List He.Fa) (fn : List He.DefD) (ex : PySem.W.Frag → Bool) (K : PySem.W.Frag) : Prop := He.SaysD fa fn K ∧ ex K = true
def obsEG (n : Nat) (fa : List He.Fa) (fn : List He.DefD) (ex : PySem.W.Frag → Bool) (g : Addr → Option Obj) : AlE := (He.obsD fa fn (He.frG g (He.asD g n)), ex (He.frG g (He.asD g n)))
def hookE (n : Nat) (fa : List He.Fa) (fn : List He.DefD) (ex : PySem.W.Frag → Bool) : PySem.W.Hook where
  α := AlE
  obs := fun s => obsEG n fa fn ex s.heap.get?
  val := fun _ => (He.valD fn, true)
  says := fun _ h => ∃ K : PySem.W.Frag, K.In h ∧ SaysE fa fn ex K
  of := fun _ _ e => ⟨_, He.frG_in, congrArg (fun z : AlE => z.1) e, congrArg (fun z : AlE => z.2) e⟩
  keeps := fun _ _ _ ⟨K, hK, c⟩ k => ⟨K, PySem.W.Frag.In.keeps hK k, c⟩
theorem obsEG_eq {n : Nat} {fa : List He.Fa} {fn : List He.DefD} {ex : PySem.W.Frag → Bool} {g : Addr → Option Obj} {s : Shared} (h : ∀ a, g a = s.heap.get? a) : obsEG n fa fn ex g = (hookE n fa fn ex).obs s := by
  have e : g = s.heap.get? := funext h
  rw [e] <;> rfl
theorem walk_ofX {l : PySem.W.OpenLaw} {n k : Nat} {q : Program} {loose : List Str} {XP : (Str → Option Value) → Heap → Prop} {YP : World → Heap → Prop} {d : DefRec} {x : Str}
    (hn : l.most = some n) (hn2 : n ≤ sizeLine) (hdf : d.params.defaults = []) (hr : Room k callerA)
    (F : ∀ (w : World) (mg : Str → Option Value) (fa : Addr) (h : Heap), YP w h → h.Ns mainGlobals mg → mg d.name = some (.ref fa) →
      ∃ (K : PySem.W.Frag) (fd : FuncData) (sp : Sp), K.In h ∧ (∀ (s : Shared) (u : Value), BindsTo s fd ⟨[u], []⟩ [(x, u)]) ∧
        (∀ (H : Hp) (a : Addr) (ns : List Int), ns.length ≤ n → Only H → SqL K H a (ns.map V.int) → sp [.ref a] H (fun v _ => v = .bl true) fun _ _ _ => False) ∧
        ∀ base : Heap, K.In base → base.Ns mainGlobals mg → FnOk l.prog w K mg base (L2.CX l.prog w) k fa fd [x] sp) :
    PySem.W.WalkO q loose XP YP l.row.toRowW d [] (fun f vs => PySem.call f vs) := by
  refine Att.attach_call hn hdf fun w s₀ s₁ mg mb fa o pm cd doc a vs ns G Y ho hd hcd hmg hobj hints hlen hg => ?_
  obtain ⟨K, fd, sp, KX, hb, hsp, hF⟩ := F w mg fa _ Y G.T.g hmg
  exact law_call KX G.T.g G.T.b G.T.builtins G.T.nolimit hg hobj hints (Nat.le_trans hlen hn2) hr hF hb (fun H hO hS => hsp H a ns hlen hO hS) fun H e s' ⟨_, _, _, _, _, _, _, _, _, _, _, _, hE⟩ => hE.elim
theorem law_sp {K : PySem.W.Frag} {mg : MG} {g : List Da → R Da} {n : Nat} (hn : n ≤ big) (hg : ∀ ns : List Int, ns.length ≤ n → g [.list (ns.map PyData.int)] = .ok (.bool true)) (H : Hp) (a : Addr) (ns : List Int) (hl : ns.length ≤ n) (hO : Only H) (hS : SqL K H a (ns.map V.int)) :
    spD K mg 1 g [.ref a] H (fun v _ => v = .bl true) fun _ _ _ => False := by
  refine ⟨rfl, [.list (ns.map PyData.int)], [], fun b hb => (List.not_mem_nil hb).elim, .cons (.lst (xs := ns.map V.int) ?_ (by rw [List.length_map]; omega) ?_) .nil, ?_⟩
  · rcases hS with h | h
    · exact .inl ⟨h, fun z => (List.not_mem_nil z).elim⟩
    · exact .inr h
  · clear hl hS
    induction ns with
    | nil => exact .nil
    | cons i ns ih => exact .cons (.int i) ih
  · rw [hg ns hl]
    intro v H' _ r
    cases r; rfl
end DL
set_option Elab.async false
set_option linter.all false
/-! Plain lemmas on the D semantics: loops, comprehensions, ranges. -/
namespace DL
open PySem

/-- the end of a def -/
def finO : Out → Da
  | .nx _ => .none
  | .rt d => d
@[simp] theorem finO_nx (ρ : Ev) : finO (.nx ρ) = .none := rfl
@[simp] theorem finO_rt (d : Da) : finO (.rt d) = d := rfl
theorem runDef_ (n : Nat) (body : SS) (ds : List Da) : runDef n body ds = (body (ds.map some ++ List.replicate (n - ds.length) none)).bind fun o => .ok (finO o) := by
  unfold runDef
  congr 1
  funext o
  cases o <;> rfl
/-! the operators at their kinds -/
def di (k : Nat) : Da := .int (k : Int)
@[simp] theorem dAdd_int (i j : Int) : dAdd (.int i) (.int j) = .ok (.int (i + j)) := rfl
@[simp] theorem addI_int (i j : Int) : addI (.int i) (.int j) = .ok (.int (i + j)) := rfl
@[simp] theorem dSub_int (i j : Int) : dSub (.int i) (.int j) = .ok (.int (i - j)) := rfl
theorem mulI_int (i j : Int) : mulI (.int i) (.int j) = if mulOk i j then .ok (.int (i * j)) else .bad := rfl
theorem mulI_l (i j : Int) (h1 : -(2 ^ 64) < i) (h2 : i < 2 ^ 64) : mulI (.int i) (.int j) = .ok (.int (i * j)) := by
  rw [mulI_int]
  have : mulOk i j = true := by unfold mulOk; simp; omega
  rw [if_pos this]
theorem mulI_r (i j : Int) (h1 : -(2 ^ 64) < j) (h2 : j < 2 ^ 64) : mulI (.int i) (.int j) = .ok (.int (i * j)) := by
  rw [mulI_int]
  have : mulOk i j = true := by unfold mulOk; simp; omega
  rw [if_pos this]
theorem mulI_big (i j : Int) (a b : Nat) (ha : i.natAbs < 2 ^ a) (hb : j.natAbs < 2 ^ b) (h0 : 0 < a) (h1 : 0 < b) (h : a + b ≤ 1000000) : mulI (.int i) (.int j) = .ok (.int (i * j)) := by
  have l1 : ∀ (x c : Nat), x < 2 ^ c → 0 < c → x.log2 < c := fun x c h h0 => by
    by_cases z : x = 0
    · subst z; simpa using h0
    · exact (Nat.log2_lt z).mpr h
  have g1 := l1 _ _ ha h0
  have g2 := l1 _ _ hb h1
  have : mulOk i j = true := by unfold mulOk; simp; omega
  rw [mulI_int, if_pos this]
theorem s64a (m : Int) (h : -1073741824 < m) : -(2 ^ 64) < m := by omega
theorem s64b (m : Int) (h : m < 1073741824) : m < 2 ^ 64 := by omega
/-- a small factor -/
theorem mulI_sr (i j : Int) (h1 : -1073741824 < j) (h2 : j < 1073741824) : mulI (.int i) (.int j) = .ok (.int (i * j)) := mulI_r i j (s64a _ h1) (s64b _ h2)
theorem mulI_sl (i j : Int) (h1 : -1073741824 < i) (h2 : i < 1073741824) : mulI (.int i) (.int j) = .ok (.int (i * j)) := mulI_l i j (s64a _ h1) (s64b _ h2)
theorem dDiv_int (i j : Int) : dDiv (.int i) (.int j) = if j ≠ 0 ∧ j.natAbs < 1073741824 then .ok (.int (i.fdiv j)) else .bad := rfl
theorem dMod_int (i j : Int) : dMod (.int i) (.int j) = if j ≠ 0 then .ok (.int (i.fmod j)) else .bad := rfl
theorem dDiv_pos (i j : Int) (h : 0 < j) (h2 : j < 1073741824) : dDiv (.int i) (.int j) = .ok (.int (i / j)) := by
  rw [dDiv_int, if_pos ⟨by omega, by omega⟩, Int.fdiv_eq_ediv_of_nonneg _ (by omega)]
theorem dMod_pos (i j : Int) (h : 0 < j) : dMod (.int i) (.int j) = .ok (.int (i % j)) := by
  rw [dMod_int, if_pos (by omega), Int.fmod_eq_emod_of_nonneg _ (by omega)]
theorem dDiv_nat (a b : Nat) (h : 0 < b) (h2 : b < 1073741824) : dDiv (di a) (di b) = .ok (di (a / b)) := by
  have h3 : (0 : Int) < (b : Int) := by omega
  have h4 : (b : Int) < 1073741824 := by omega
  exact (dDiv_pos a b h3 h4).trans (congrArg (fun z => R.ok (PyData.int z)) (Int.natCast_ediv a b).symm)
theorem dMod_nat (a b : Nat) (h : 0 < b) : dMod (di a) (di b) = .ok (di (a % b)) := by
  have h3 : (0 : Int) < (b : Int) := by omega
  exact (dMod_pos a b h3).trans (congrArg (fun z => R.ok (PyData.int z)) (Int.natCast_emod a b).symm)
theorem mulI_nat (a b : Nat) (h : b < 1073741824) : mulI (di a) (di b) = .ok (di (a * b)) := by
  have h3 : -1073741824 < (b : Int) := by omega
  have h4 : (b : Int) < 1073741824 := by omega
  exact (mulI_sr a b h3 h4).trans (congrArg (fun z => R.ok (PyData.int z)) (Int.natCast_mul a b).symm)
theorem dAdd_nat (a b : Nat) : dAdd (di a) (di b) = .ok (di (a + b)) := congrArg (fun z => R.ok (PyData.int z)) (Int.natCast_add a b).symm
theorem addI_nat (a b : Nat) : addI (di a) (di b) = .ok (di (a + b)) := congrArg (fun z => R.ok (PyData.int z)) (Int.natCast_add a b).symm
theorem dEq_nat (a b : Nat) : dEq (di a) (di b) = .ok (.bool (decide (a = b))) := by
  show R.ok (PyData.bool (decide ((a : Int) = b))) = _
  congr 2
  exact decide_eq_decide.mpr (by omega)
theorem dNe_nat (a b : Nat) : dNe (di a) (di b) = .ok (.bool (!decide (a = b))) := by
  unfold dNe
  rw [dEq_nat]
  rfl
theorem dLt_nat (a b : Nat) : dLt (di a) (di b) = .ok (.bool (decide (a < b))) := by
  show R.ok (PyData.bool (decide ((a : Int) < b))) = _
  congr 2
  exact decide_eq_decide.mpr (by omega)
theorem dLe_nat (a b : Nat) : dLe (di a) (di b) = .ok (.bool (decide (a ≤ b))) := by
  show R.ok (PyData.bool (decide ((a : Int) ≤ b))) = _
  congr 2
  exact decide_eq_decide.mpr (by omega)
theorem dGt_nat (a b : Nat) : dGt (di a) (di b) = .ok (.bool (decide (b < a))) := by
  show R.ok (PyData.bool (decide ((b : Int) < a))) = _
  congr 2
  exact decide_eq_decide.mpr (by omega)
theorem dGe_nat (a b : Nat) : dGe (di a) (di b) = .ok (.bool (decide (b ≤ a))) := by
  show R.ok (PyData.bool (decide ((b : Int) ≤ a))) = _
  congr 2
  exact decide_eq_decide.mpr (by omega)
theorem dSub_nat (a b : Nat) (h : b ≤ a) : dSub (di a) (di b) = .ok (di (a - b)) := congrArg (fun z => R.ok (PyData.int z)) (Int.natCast_sub h).symm
theorem dMin2_nat (a b : Nat) : dMin2 [di a, di b] = .ok (di (min b a)) := by
  show R.ok (PyData.int (if (b : Int) < a then (b : Int) else a)) = _
  congr 2
  split <;> omega
theorem dMax2_nat (a b : Nat) : dMax2 [di a, di b] = .ok (di (max b a)) := by
  show R.ok (PyData.int (if (b : Int) > a then (b : Int) else a)) = _
  congr 2
  split <;> omega
theorem dGcd_nat (a b : Nat) : dGcd [di a, di b] = .ok (di (Nat.gcd a b)) := rfl
@[simp] theorem dInt_nat (a : Nat) : dInt [di a] = .ok (di a) := rfl
theorem dIx_list_nat (xs : List Da) (n : Nat) : dIx (.list xs) (di n) = oR xs[n]? := by
  show oR (atD xs (n : Int)) = _
  unfold atD
  rw [if_pos (Int.natCast_nonneg n)]
  rfl
theorem dIx_tuple_nat (xs : List Da) (n : Nat) : dIx (.tuple xs) (di n) = oR xs[n]? := by
  show oR (atD xs (n : Int)) = _
  unfold atD
  rw [if_pos (Int.natCast_nonneg n)]
  rfl
theorem dLen_list_nat (xs : List Da) : dLen [.list xs] = .ok (di xs.length) := rfl
theorem dLen_tuple_nat (xs : List Da) : dLen [.tuple xs] = .ok (di xs.length) := rfl
@[simp] theorem tru_di (n : Nat) : tru (di n) = decide (n ≠ 0) := by
  show ((n : Int) != 0) = _
  cases n <;> simp
  omega
@[simp] theorem toI_di (n : Nat) : toI (di n) = .ok (n : Int) := rfl
@[simp] theorem isNone_di (i : Nat) : isNone (di i) = false := rfl
@[simp] theorem isTy_int_di (i : Nat) : isTy .int (di i) = true := rfl
@[simp] theorem isTy_bool_di (i : Nat) : isTy .bool (di i) = false := rfl
@[simp] theorem isTy_tuple_di (i : Nat) : isTy .tuple (di i) = false := rfl
@[simp] theorem dNeg_int (i : Int) : dNeg (.int i) = .ok (.int (-i)) := rfl
@[simp] theorem dCmp_int (p : Int → Int → Bool) (i j : Int) : dCmp p (.int i) (.int j) = .ok (.bool (p i j)) := rfl
@[simp] theorem dEq_int (i j : Int) : dEq (.int i) (.int j) = .ok (.bool (decide (i = j))) := rfl
@[simp] theorem dEq_bool (i j : Bool) : dEq (.bool i) (.bool j) = .ok (.bool (decide (i = j))) := rfl
@[simp] theorem dEq_str (i j : Str) : dEq (.str i) (.str j) = .ok (.bool (decide (i = j))) := rfl
@[simp] theorem dEq_none : dEq .none .none = .ok (.bool true) := rfl
@[simp] theorem dEq_none_int (i : Int) : dEq .none (.int i) = .ok (.bool false) := rfl
@[simp] theorem dEq_int_none (i : Int) : dEq (.int i) .none = .ok (.bool false) := rfl
@[simp] theorem rNot_bool (b : Bool) : rNot (.ok (.bool b)) = .ok (.bool (!b)) := rfl
@[simp] theorem dNe_int (i j : Int) : dNe (.int i) (.int j) = .ok (.bool (!decide (i = j))) := rfl
@[simp] theorem dNe_str (i j : Str) : dNe (.str i) (.str j) = .ok (.bool (!decide (i = j))) := rfl
@[simp] theorem dNe_none : dNe .none .none = .ok (.bool false) := rfl
@[simp] theorem dNe_none_int (i : Int) : dNe .none (.int i) = .ok (.bool true) := rfl
@[simp] theorem dNe_int_none (i : Int) : dNe (.int i) .none = .ok (.bool true) := rfl
@[simp] theorem isNone_none : isNone .none = true := rfl
@[simp] theorem isNone_int (i : Int) : isNone (.int i) = false := rfl
@[simp] theorem isNone_bool (i : Bool) : isNone (.bool i) = false := rfl
@[simp] theorem isNone_str (i : Str) : isNone (.str i) = false := rfl
@[simp] theorem isNone_tuple (i : List Da) : isNone (.tuple i) = false := rfl
@[simp] theorem isNone_list (i : List Da) : isNone (.list i) = false := rfl
@[simp] theorem dIsN_ (a : Da) : dIsN a = .ok (.bool (isNone a)) := rfl
@[simp] theorem dNotN_ (a : Da) : dNotN a = .ok (.bool (!isNone a)) := rfl
@[simp] theorem dNot_ (a : Da) : dNot a = .ok (.bool (!tru a)) := rfl
@[simp] theorem dIsB_bool (k b : Bool) : dIsB k (.bool b) = .ok (.bool (decide (b = k))) := rfl
@[simp] theorem dIsNotB_bool (k b : Bool) : dIsNotB k (.bool b) = .ok (.bool (!decide (b = k))) := rfl
theorem dIx_list (xs : List Da) (i : Int) : dIx (.list xs) (.int i) = oR (atD xs i) := rfl
theorem dIx_tuple (xs : List Da) (i : Int) : dIx (.tuple xs) (.int i) = oR (atD xs i) := rfl
theorem dLen_list (xs : List Da) : dLen [.list xs] = .ok (.int xs.length) := rfl
theorem dLen_tuple (xs : List Da) : dLen [.tuple xs] = .ok (.int xs.length) := rfl
theorem dAbs_int (i : Int) : dAbs [.int i] = .ok (.int (if i < 0 then -i else i)) := rfl
theorem dMax2_int (i j : Int) : dMax2 [.int i, .int j] = .ok (.int (if j > i then j else i)) := rfl
theorem dMin2_int (i j : Int) : dMin2 [.int i, .int j] = .ok (.int (if j < i then j else i)) := rfl
theorem dSumL_list (xs : List Da) : dSumL [.list xs] = (intsD xs).bind fun is => .ok (.int is.sum) := rfl
theorem dMinL_list (xs : List Da) : dMinL [.list xs] = (intsD xs).bind fun is => (minI is).bind fun m => .ok (.int m) := rfl
theorem dMaxL_list (xs : List Da) : dMaxL [.list xs] = (intsD xs).bind fun is => (maxI is).bind fun m => .ok (.int m) := rfl
@[simp] theorem dAll_list (xs : List Da) : dAll [.list xs] = (blsD xs).bind fun bs => .ok (.bool (bs.all id)) := rfl
@[simp] theorem dAny_list (xs : List Da) : dAny [.list xs] = (blsD xs).bind fun bs => .ok (.bool (bs.any id)) := rfl
@[simp] theorem dInt_int (i : Int) : dInt [.int i] = .ok (.int i) := rfl
@[simp] theorem dInt_bool (b : Bool) : dInt [.bool b] = .ok (.int (if b then 1 else 0)) := rfl
@[simp] theorem dTuple_list (xs : List Da) : dTuple [.list xs] = .ok (.tuple xs) := rfl
@[simp] theorem dTuple_tuple (xs : List Da) : dTuple [.tuple xs] = .ok (.tuple xs) := rfl
@[simp] theorem dList_list (xs : List Da) : dList [.list xs] = .ok (.list xs) := rfl
@[simp] theorem dList_tuple (xs : List Da) : dList [.tuple xs] = .ok (.list xs) := rfl
@[simp] theorem dGcd_int (i j : Int) : dGcd [.int i, .int j] = .ok (.int (Nat.gcd i.natAbs j.natAbs : Nat)) := rfl
@[simp] theorem isTy_int_int (i : Int) : isTy .int (.int i) = true := rfl
@[simp] theorem isTy_int_bool (i : Bool) : isTy .int (.bool i) = true := rfl
@[simp] theorem isTy_bool_int (i : Int) : isTy .bool (.int i) = false := rfl
@[simp] theorem isTy_bool_bool (i : Bool) : isTy .bool (.bool i) = true := rfl
@[simp] theorem isTy_tuple_tuple (i : List Da) : isTy .tuple (.tuple i) = true := rfl
@[simp] theorem isTy_list_list (i : List Da) : isTy .list (.list i) = true := rfl
@[simp] theorem isTy_tuple_list (i : List Da) : isTy .tuple (.list i) = false := rfl
@[simp] theorem isTy_list_tuple (i : List Da) : isTy .list (.tuple i) = false := rfl
@[simp] theorem isTy_tuple_int (i : Int) : isTy .tuple (.int i) = false := rfl
@[simp] theorem isTy_tuple_none : isTy .tuple .none = false := rfl
@[simp] theorem isTy_int_none : isTy .int .none = false := rfl
@[simp] theorem isTy_int_tuple (i : List Da) : isTy .int (.tuple i) = false := rfl
@[simp] theorem dIsi_ (t : Ty) (a : Da) : dIsi t a = .ok (.bool (isTy t a)) := rfl
@[simp] theorem atD_0 {α : Type} (x : α) (xs : List α) : atD (x :: xs) 0 = some x := rfl
@[simp] theorem atD_1 {α : Type} (x y : α) (xs : List α) : atD (x :: y :: xs) 1 = some y := rfl
@[simp] theorem atD_2 {α : Type} (x y z : α) (xs : List α) : atD (x :: y :: z :: xs) 2 = some z := rfl
@[simp] theorem atD_3 {α : Type} (x y z u : α) (xs : List α) : atD (x :: y :: z :: u :: xs) 3 = some u := rfl
@[simp] theorem atD_4 {α : Type} (x y z u v : α) (xs : List α) : atD (x :: y :: z :: u :: v :: xs) 4 = some v := rfl
theorem atD_nat {α : Type} (xs : List α) (n : Nat) : atD xs (n : Int) = xs[n]? := by
  unfold atD
  rw [if_pos (Int.natCast_nonneg n)]
  rfl
theorem atD_pos {α : Type} (xs : List α) (i : Int) (h : 0 ≤ i) : atD xs i = xs[i.toNat]? := by
  unfold atD
  rw [if_pos h]
@[simp] theorem appD_list (x : Da) (xs : List Da) : appD x (.list xs) = if xs.length < big then .ok (.list (xs ++ [x])) else .bad := rfl
@[simp] theorem dSl_list (lo hi : Option Int) (xs : List Da) : dSl lo hi (.list xs) = .ok (.list (cutD xs lo hi)) := rfl
@[simp] theorem dSl_tuple (lo hi : Option Int) (xs : List Da) : dSl lo hi (.tuple xs) = .ok (.tuple (cutD xs lo hi)) := rfl
theorem sIxD_some (l d n : Nat) : sIxD l d (some (n : Int)) = min n l := by
  show (if (n : Int) < 0 then ((n : Int) + (l : Int)).toNat else min (n : Int).toNat l) = _
  rw [if_neg (by omega)]
  rfl
theorem sIxD_none (l d : Nat) : sIxD l d none = d := rfl
theorem cutD_from {α : Type} (xs : List α) (n : Nat) : cutD xs (some (n : Int)) none = xs.drop n := by
  unfold cutD
  rw [sIxD_some, sIxD_none]
  by_cases h : n ≤ xs.length
  · rw [show min n xs.length = n by omega, List.take_of_length_le (by rw [List.length_drop]; exact Nat.le_refl _)]
  · rw [show min n xs.length = xs.length by omega, Nat.sub_self, List.take_zero, List.drop_of_length_le (by omega)]
theorem cutD_to {α : Type} (xs : List α) (n : Nat) : cutD xs none (some (n : Int)) = xs.take n := by
  unfold cutD
  rw [sIxD_some, sIxD_none, List.drop_zero, Nat.sub_zero]
  by_cases h : n ≤ xs.length
  · rw [show min n xs.length = n by omega]
  · rw [show min n xs.length = xs.length by omega, List.take_of_length_le (Nat.le_refl _), List.take_of_length_le (by omega)]
@[simp] theorem cutD_from1 {α : Type} (xs : List α) : cutD xs (some 1) none = xs.drop 1 := cutD_from xs 1
@[simp] theorem cutD_to1 {α : Type} (xs : List α) : cutD xs none (some 1) = xs.take 1 := cutD_to xs 1
theorem bls_map {α : Type} (p : α → Bool) : ∀ l : List α, blsD (l.map fun x => .bool (p x)) = .ok (l.map p)
  | [] => rfl
  | x :: l => by simp [blsD, bls_map p l]
theorem ints_map {α : Type} (p : α → Int) : ∀ l : List α, intsD (l.map fun x => .int (p x)) = .ok (l.map p)
  | [] => rfl
  | x :: l => by simp [intsD, ints_map p l]

theorem forL_nil (g : STg) (body : SS) (ρ : Ev) : forL g body [] ρ = .ok (.nx ρ) := rfl
theorem forL_cons (g : STg) (body : SS) (x : Da) (xs : List Da) (ρ : Ev) : forL g body (x :: xs) ρ = (g x ρ).bind fun ρ1 => (body ρ1).bind fun o => andThen o (forL g body xs) := rfl
theorem whileF_succ' (c : SE) (body : SS) (n : Nat) (ρ : Ev) : whileF c body (n + 1) ρ = (c ρ).bind fun x => if tru x then (body ρ).bind fun o => andThen o (whileF c body n) else .ok (.nx ρ) := rfl
/-- a loop that goes through: a fold -/
theorem forL_fold {α S : Type} (e : α → Da) (V : S → Ev) (step : S → α → S) (I : S → Prop) {g : STg} {body : SS} : ∀ (xs : List α) (s : S), I s → (∀ s x, x ∈ xs → I s → I (step s x) ∧ ((g (e x) (V s)).bind fun ρ1 => body ρ1) = .ok (.nx (V (step s x)))) →
    forL g body (xs.map e) (V s) = .ok (.nx (V (xs.foldl step s))) ∧ I (xs.foldl step s)
  | [], s, hs, _ => ⟨rfl, hs⟩
  | x :: xs, s, hs, h => by
    obtain ⟨h1, h2⟩ := h s x List.mem_cons_self hs
    obtain ⟨h3, h4⟩ := forL_fold e V step I xs (step s x) h1 fun s y hy => h s y (List.mem_cons_of_mem _ hy)
    refine ⟨?_, h4⟩
    show (g (e x) (V s)).bind (fun ρ1 => (body ρ1).bind fun o => andThen o (forL g body (xs.map e))) = _
    rw [← R.bind_assoc, h2]
    exact h3
/-- a loop that may hand back: the first that does -/
def retFold {α S : Type} (step : S → α → S ⊕ Da) : S → List α → S ⊕ Da
  | s, [] => .inl s
  | s, x :: xs => match step s x with
    | .inl s' => retFold step s' xs
    | .inr d => .inr d
/-- a loop by an invariant of what is done -/
theorem forL_inv {α S : Type} (e : α → Da) (V : S → Ev) (I : List α → S → Prop) {g : STg} {body : SS} : ∀ (xs don : List α) (s : S), I don s →
    (∀ (don' : List α) (x : α) (s : S), (∃ rest, don ++ xs = don' ++ x :: rest) → I don' s → ∃ s', I (don' ++ [x]) s' ∧ ((g (e x) (V s)).bind fun ρ1 => body ρ1) = .ok (.nx (V s'))) →
    ∃ s', I (don ++ xs) s' ∧ forL g body (xs.map e) (V s) = .ok (.nx (V s'))
  | [], don, s, hs, _ => ⟨s, by rw [List.append_nil]; exact hs, rfl⟩
  | x :: xs, don, s, hs, h => by
    obtain ⟨s1, h1, h2⟩ := h don x s ⟨xs, rfl⟩ hs
    have ea : don ++ x :: xs = (don ++ [x]) ++ xs := by rw [List.append_assoc]; rfl
    obtain ⟨s2, h3, h4⟩ := forL_inv e V I xs (don ++ [x]) s1 h1 fun d y s' hy => h d y s' (by rw [ea]; exact hy)
    refine ⟨s2, by rw [ea]; exact h3, ?_⟩
    show (g (e x) (V s)).bind (fun ρ1 => (body ρ1).bind fun o => andThen o (forL g body (xs.map e))) = _
    rw [← R.bind_assoc, h2]
    exact h4
theorem sWhile_inv {S : Type} (V : S → Ev) (go : S → Bool) (I : S → Prop) (m : S → Nat) {c : SE} {body : SS}
    (hc : ∀ s, I s → c (V s) = .ok (.bool (go s))) (hb : ∀ s, I s → go s = true → ∃ s', body (V s) = .ok (.nx (V s')) ∧ I s' ∧ m s' < m s) :
    ∀ (n : Nat) (s : S), I s → m s < n → ∃ s', I s' ∧ go s' = false ∧ whileF c body n (V s) = .ok (.nx (V s'))
  | 0, s, _, h => absurd h (Nat.not_lt_zero _)
  | n + 1, s, hs, h => by
    rw [whileF_succ', hc s hs]
    cases q : go s with
    | false => exact ⟨s, hs, q, rfl⟩
    | true =>
      obtain ⟨s1, h1, h2, h3⟩ := hb s hs q
      obtain ⟨s', g1, g2, g3⟩ := sWhile_inv V go I m hc hb n s1 h2 (by omega)
      refine ⟨s', g1, g2, ?_⟩
      show (if tru (.bool true) then (body (V s)).bind (fun o => andThen o (whileF c body n)) else .ok (.nx (V s))) = _
      rw [tru_bool, if_pos rfl, h1]
      exact g3
theorem forL_ret {α S : Type} (e : α → Da) (V : S → Ev) (step : S → α → S ⊕ Da) (I : S → Prop) {g : STg} {body : SS} : ∀ (xs : List α) (s : S), I s →
    (∀ s x, x ∈ xs → I s → ((g (e x) (V s)).bind fun ρ1 => body ρ1) = .ok (match step s x with
      | .inl s' => .nx (V s')
      | .inr d => .rt d) ∧ ∀ s', step s x = .inl s' → I s') →
    forL g body (xs.map e) (V s) = .ok (match retFold step s xs with
      | .inl s' => .nx (V s')
      | .inr d => .rt d)
  | [], s, hs, _ => rfl
  | x :: xs, s, hs, h => by
    obtain ⟨h1, h2⟩ := h s x List.mem_cons_self hs
    show (g (e x) (V s)).bind (fun ρ1 => (body ρ1).bind fun o => andThen o (forL g body (xs.map e))) = _
    rw [← R.bind_assoc, h1]
    unfold retFold
    cases q : step s x with
    | inl s' => exact forL_ret e V step I xs s' (h2 s' q) fun s y hy => h s y (List.mem_cons_of_mem _ hy)
    | inr d => rfl
/-- .. with nothing carried: the first place where it hands back -/
def foundO {α : Type} (o : Option α) (r : α → Da) (ρ : Ev) : Out := match o with
  | some x => .rt (r x)
  | none => .nx ρ
@[simp] theorem foundO_some {α : Type} (x : α) (r : α → Da) (ρ : Ev) : foundO (some x) r ρ = .rt (r x) := rfl
@[simp] theorem foundO_none {α : Type} (r : α → Da) (ρ : Ev) : foundO (none : Option α) r ρ = .nx ρ := rfl
theorem forL_find {α : Type} (e : α → Da) (p : α → Bool) (r : α → Da) {g : STg} {body : SS} {ρ : Ev} : ∀ (xs : List α),
    (∀ x, x ∈ xs → ((g (e x) ρ).bind fun ρ1 => body ρ1) = .ok (if p x then .rt (r x) else .nx ρ)) →
    forL g body (xs.map e) ρ = .ok (foundO (xs.find? p) r ρ)
  | [], _ => rfl
  | x :: xs, h => by
    show (g (e x) ρ).bind (fun ρ1 => (body ρ1).bind fun o => andThen o (forL g body (xs.map e))) = _
    rw [← R.bind_assoc, h x List.mem_cons_self, List.find?_cons]
    cases q : p x with
    | true => rfl
    | false => exact forL_find e p r xs fun y hy => h y (List.mem_cons_of_mem _ hy)
theorem forL_same {α : Type} (e : α → Da) {g : STg} {body : SS} {ρ : Ev} : ∀ (xs : List α), (∀ x, x ∈ xs → ((g (e x) ρ).bind fun ρ1 => body ρ1) = .ok (.nx ρ)) → forL g body (xs.map e) ρ = .ok (.nx ρ)
  | [], _ => rfl
  | x :: xs, h => by
    show (g (e x) ρ).bind (fun ρ1 => (body ρ1).bind fun o => andThen o (forL g body (xs.map e))) = _
    rw [← R.bind_assoc, h x List.mem_cons_self]
    exact forL_same e xs fun y hy => h y (List.mem_cons_of_mem _ hy)
/-! while -/
theorem whileF_succ (c : SE) (body : SS) (n : Nat) (ρ : Ev) : whileF c body (n + 1) ρ = (c ρ).bind fun x => if tru x then (body ρ).bind fun o => andThen o (whileF c body n) else .ok (.nx ρ) := rfl
theorem sWhile_run {S : Type} (V : S → Ev) (go : S → Bool) (step : S → S) (I : S → Prop) (m : S → Nat) {c : SE} {body : SS}
    (hc : ∀ s, I s → c (V s) = .ok (.bool (go s))) (hb : ∀ s, I s → go s = true → body (V s) = .ok (.nx (V (step s))) ∧ I (step s) ∧ m (step s) < m s) :
    ∀ (n : Nat) (s : S), I s → m s < n → ∃ s', I s' ∧ go s' = false ∧ whileF c body n (V s) = .ok (.nx (V s')) ∧ ∃ k, s' = (Nat.repeat step k s)
  | 0, s, _, h => absurd h (Nat.not_lt_zero _)
  | n + 1, s, hs, h => by
    rw [whileF_succ, hc s hs]
    cases q : go s with
    | false => exact ⟨s, hs, q, rfl, 0, rfl⟩
    | true =>
      obtain ⟨h1, h2, h3⟩ := hb s hs q
      obtain ⟨s', g1, g2, g3, k, g4⟩ := sWhile_run V go step I m hc hb n (step s) h2 (by omega)
      refine ⟨s', g1, g2, ?_, k + 1, ?_⟩
      · show (if tru (.bool true) then (body (V s)).bind (fun o => andThen o (whileF c body n)) else .ok (.nx (V s))) = _
        rw [tru_bool, if_pos rfl, h1]
        exact g3
      · rw [g4]
        clear g1 g2 g3 g4 h1 h2 h3
        induction k with
        | zero => rfl
        | succ k ih => exact congrArg step ih
/-! comprehensions -/
theorem lcL_fm {α : Type} (e : α → Da) (h : α → Option Da) {f : Da → R (Option Da)} : ∀ (xs : List α), (∀ x, x ∈ xs → f (e x) = .ok (h x)) → lcL f (xs.map e) = .ok (xs.filterMap h)
  | [], _ => rfl
  | x :: xs, w => by
    have i := lcL_fm e h xs fun y hy => w y (List.mem_cons_of_mem _ hy)
    show (match f (e x) with
      | .ok y => (match lcL f (xs.map e) with
        | .ok ys => R.ok (match y with
          | none => ys
          | some v => v :: ys)
        | _ => .bad)
      | _ => .bad) = _
    rw [w x List.mem_cons_self, i, List.filterMap_cons]
    cases h x <;> rfl
theorem lcL_map {α : Type} (e : α → Da) (h : α → Da) {f : Da → R (Option Da)} (xs : List α) (w : ∀ x, x ∈ xs → f (e x) = .ok (some (h x))) : lcL f (xs.map e) = .ok (xs.map h) := by
  rw [lcL_fm e (fun x => some (h x)) xs w, List.filterMap_eq_map']
theorem lcL_filter {α : Type} (e : α → Da) (p : α → Bool) (h : α → Da) {f : Da → R (Option Da)} (xs : List α) (w : ∀ x, x ∈ xs → f (e x) = .ok (if p x then some (h x) else none)) : lcL f (xs.map e) = .ok ((xs.filter p).map h) := by
  rw [lcL_fm e (fun x => if p x then some (h x) else none) xs w]
  congr 1
  induction xs with
  | nil => rfl
  | cons x xs ih =>
    rw [List.filterMap_cons, List.filter_cons]
    cases p x with
    | true => simp [ih fun y hy => w y (List.mem_cons_of_mem _ hy)]
    | false => simp [ih fun y hy => w y (List.mem_cons_of_mem _ hy)]
/-! ranges, enumerations -/
theorem rngD_0 (n : Nat) : rngD 0 n = (List.range n).map di := by
  unfold rngD
  refine List.map_congr_left fun k _ => ?_
  show PyData.int (0 + (k : Int)) = .int (k : Int)
  rw [Int.zero_add]
theorem rngD_at (a n : Nat) : rngD (a : Int) n = (List.range' a n).map di := by
  unfold rngD
  rw [List.range'_eq_map_range, List.map_map]
  refine List.map_congr_left fun k _ => ?_
  show PyData.int ((a : Int) + (k : Int)) = .int ((a + k : Nat) : Int)
  rw [Int.natCast_add]
theorem dRng_0 (n : Nat) (h : n ≤ big) : dRng 0 (n : Int) = .ok ((List.range n).map di) := by
  unfold dRng
  have e : ((n : Int) - 0).toNat = n := by omega
  unfold big at h ⊢
  rw [if_pos ⟨by decide, by omega, by omega⟩, e, rngD_0]
theorem dRng_at (a b : Nat) (h0 : a ≤ b) (h : b ≤ big) : dRng (a : Int) (b : Int) = .ok ((List.range' a (b - a)).map di) := by
  unfold dRng
  unfold big at h ⊢
  have e : ((b : Int) - (a : Int)).toNat = b - a := by omega
  rw [if_pos ⟨by omega, by omega, by omega⟩, e, rngD_at]
theorem atD_mr {α : Type} (n : Nat) (f : Nat → α) (i : Int) (h0 : 0 ≤ i) (h : i < n) : atD ((List.range n).map f) i = some (f i.toNat) := by
  rw [atD_pos _ _ h0, List.getElem?_map, List.getElem?_range (by omega)]
  rfl
theorem atD_map {α β : Type} (f : α → β) (l : List α) (i : Nat) (h : i < l.length) : atD (l.map f) (i : Int) = some (f l[i]) := by
  rw [atD_nat, List.getElem?_map, List.getElem?_eq_getElem h]
  rfl
/-! numbers -/
theorem bezout (a b : Nat) : ∃ x y : Int, (Nat.gcd a b : Int) = x * a + y * b := by
  induction a, b using Nat.gcd.induction with
  | H0 n => exact ⟨0, 1, by simp⟩
  | H1 m n hm ih =>
    obtain ⟨x, y, e⟩ := ih
    refine ⟨y - x * ((n / m : Nat) : Int), x, ?_⟩
    rw [Nat.gcd_rec m n, e]
    have q : ((n % m : Nat) : Int) = n - m * ((n / m : Nat) : Int) := by
      have := Nat.div_add_mod n m
      omega
    rw [q]
    grind
/-- a common number's common part: gcd goes over lcm -/
theorem gcd_lcm_dvd {m n k : Nat} {z : Int} (hm : 0 < m) (h1 : ((Nat.gcd m k : Nat) : Int) ∣ z) (h2 : ((Nat.gcd n k : Nat) : Int) ∣ z) : ((Nat.gcd (Nat.lcm m n) k : Nat) : Int) ∣ z := by
  obtain ⟨u, v, e⟩ := bezout m n
  have hg : 0 < Nat.gcd m n := Nat.gcd_pos_of_pos_left _ hm
  obtain ⟨m', em⟩ := Nat.gcd_dvd_left m n
  obtain ⟨n', en⟩ := Nat.gcd_dvd_right m n
  have e1 : u * m' + v * n' = 1 := by
    have : (Nat.gcd m n : Int) * (u * m' + v * n') = Nat.gcd m n * 1 := by
      have em' : (m : Int) = (Nat.gcd m n : Int) * m' := by exact_mod_cast em
      have en' : (n : Int) = (Nat.gcd m n : Int) * n' := by exact_mod_cast en
      have e' : (Nat.gcd m n : Int) = u * ((Nat.gcd m n : Int) * m') + v * ((Nat.gcd m n : Int) * n') := by
        rw [← em', ← en']; exact e
      grind
    exact Int.eq_of_mul_eq_mul_left (by omega) this
  have l1 : m * n' = Nat.lcm m n := by
    have := Nat.gcd_mul_lcm m n
    have h3 : Nat.gcd m n * (m * n') = Nat.gcd m n * Nat.lcm m n := by rw [this, ← Nat.mul_assoc, Nat.mul_comm (Nat.gcd m n) m, Nat.mul_assoc, ← en]
    exact Nat.eq_of_mul_eq_mul_left hg h3
  have l2 : n * m' = Nat.lcm m n := by
    have := Nat.gcd_mul_lcm m n
    have h3 : Nat.gcd m n * (n * m') = Nat.gcd m n * Nat.lcm m n := by rw [this, ← Nat.mul_assoc, Nat.mul_comm (Nat.gcd m n) n, Nat.mul_assoc, ← em, Nat.mul_comm]
    exact Nat.eq_of_mul_eq_mul_left hg h3
  have key : ∀ (m n' : Nat), m * n' = Nat.lcm m' n' ∨ True → ((Nat.gcd m k : Nat) : Int) ∣ z → ((Nat.gcd (m * n') k : Nat) : Int) ∣ z * n' := fun m n' _ h => by
    obtain ⟨t, ht⟩ := h
    obtain ⟨x, y, ex⟩ := bezout m k
    have d1 : ((Nat.gcd (m * n') k : Nat) : Int) ∣ ((m * n' : Nat) : Int) := Int.natCast_dvd_natCast.mpr (Nat.gcd_dvd_left _ _)
    have d2 : ((Nat.gcd (m * n') k : Nat) : Int) ∣ (k : Int) := Int.natCast_dvd_natCast.mpr (Nat.gcd_dvd_right _ _)
    have : z * n' = ((m * n' : Nat) : Int) * (x * t) + (k : Int) * (y * t * n') := by
      rw [ht, ex]
      push_cast
      grind
    rw [this]
    exact Int.dvd_add (Int.dvd_mul_of_dvd_left d1) (Int.dvd_mul_of_dvd_left d2)
  have k1 := key m n' (.inr trivial) h1
  have k2 := key n m' (.inr trivial) h2
  rw [l1] at k1
  rw [l2] at k2
  have : z = z * n' * v + z * m' * u := by
    have : z * (u * m' + v * n') = z * 1 := by rw [e1]
    grind
  rw [this]
  exact Int.dvd_add (Int.dvd_mul_of_dvd_left k1) (Int.dvd_mul_of_dvd_left k2)
/-! plain data: no dict, not deep -/
mutual
def plD : Nat → Da → Bool
  | _, .none => true
  | _, .bool _ => true
  | _, .int _ => true
  | _, .str x => PyData.canLay0 (.str x)
  | 0, .list _ => false
  | n + 1, .list xs => plL n xs
  | 0, .tuple _ => false
  | n + 1, .tuple xs => plL n xs
  | _, .dict _ => false
def plL : Nat → List Da → Bool
  | _, [] => true
  | n, x :: xs => plD n x && plL n xs
end
mutual
theorem plD_can : ∀ {n : Nat} {d : Da}, plD n d = true → PyData.canLay0 d = true ∧ d.depth ≤ n + 1
  | n, .none, _ => by simp [PyData.canLay0, PyData.depth]
  | n, .bool _, _ => by simp [PyData.canLay0, PyData.depth]
  | n, .int _, _ => by simp [PyData.canLay0, PyData.depth]
  | n, .str x, h => by
    refine ⟨by simpa [plD] using h, by simp [PyData.depth]⟩
  | 0, .list xs, h => by simp [plD] at h
  | n + 1, .list xs, h => by
    have := plL_can (n := n) (xs := xs) (by simpa [plD] using h)
    simp [PyData.canLay0, PyData.depth, this.1]
    omega
  | 0, .tuple xs, h => by simp [plD] at h
  | n + 1, .tuple xs, h => by
    have := plL_can (n := n) (xs := xs) (by simpa [plD] using h)
    simp [PyData.canLay0, PyData.depth, this.1]
    omega
  | n, .dict _, h => by simp [plD] at h
theorem plL_can : ∀ {n : Nat} {xs : List Da}, plL n xs = true → PyData.canLayAll0 xs = true ∧ PyData.depthAll xs ≤ n + 1
  | n, [], _ => by simp [PyData.canLayAll0, PyData.depthAll]
  | n, x :: xs, h => by
    simp only [plL, Bool.and_eq_true] at h
    have h1 := plD_can h.1
    have h2 := plL_can h.2
    simp [PyData.canLayAll0, PyData.depthAll, h1.1, h2.1]
    omega
end
theorem shaped_pl {d : Da} (n : Nat) (hn : n ≤ 60) (h : plD n d = true) : SeqAt.shaped d = true := by
  have := plD_can h
  unfold SeqAt.shaped
  simp [this.1]
  omega
theorem plL_all {n : Nat} {xs : List Da} (h : ∀ x, x ∈ xs → plD n x = true) : plL n xs = true := by
  induction xs with
  | nil => simp [plL]
  | cons x xs ih => simp [plL, h x List.mem_cons_self, ih fun y hy => h y (List.mem_cons_of_mem _ hy)]
theorem plL_map {α : Type} {e : α → Da} {n : Nat} (h : ∀ x, plD n (e x) = true) (l : List α) : plL n (l.map e) = true := plL_all fun y hy => by
  obtain ⟨x, _, rfl⟩ := List.mem_map.mp hy
  exact h x
mutual
theorem eqv_refl : ∀ {n : Nat} {d : Da}, plD n d = true → PyData.eqv d d = true
  | n, .none, _ => by simp [PyData.eqv]
  | n, .bool _, _ => by simp [PyData.eqv]
  | n, .int _, _ => by simp [PyData.eqv]
  | n, .str x, h => by simp [PyData.eqv]
  | 0, .list xs, h => by simp [plD] at h
  | n + 1, .list xs, h => by
    simp only [PyData.eqv]
    exact eqvAll_refl (n := n) (by simpa [plD] using h)
  | 0, .tuple xs, h => by simp [plD] at h
  | n + 1, .tuple xs, h => by
    simp only [PyData.eqv]
    exact eqvAll_refl (n := n) (by simpa [plD] using h)
  | n, .dict _, h => by simp [plD] at h
theorem eqvAll_refl : ∀ {n : Nat} {xs : List Da}, plL n xs = true → PyData.eqvAll xs xs = true
  | n, [], _ => by simp [PyData.eqvAll]
  | n, x :: xs, h => by
    simp only [plL, Bool.and_eq_true] at h
    simp [PyData.eqvAll, eqv_refl h.1, eqvAll_refl h.2]
end
theorem dEq_eqv {a b : Da} (ha : SeqAt.shaped a = true) (hb : SeqAt.shaped b = true) : dEq a b = .ok (.bool (PyData.eqv a b)) := by
  have g : (eqD a b).bind (fun k => R.ok (PyData.bool k)) = .ok (.bool (PyData.eqv a b)) := by
    unfold eqD
    rw [ha, hb]
    simp
  unfold dEq
  split <;> first | exact g | (simp [PyData.eqv]; try rfl)
theorem dEq_refl {a : Da} (n : Nat) (hn : n ≤ 60) (h : plD n a = true) : dEq a a = .ok (.bool true) := by
  rw [dEq_eqv (shaped_pl n hn h) (shaped_pl n hn h), eqv_refl h]
theorem dNe_refl {a : Da} (n : Nat) (hn : n ≤ 60) (h : plD n a = true) : dNe a a = .ok (.bool false) := by
  unfold dNe
  rw [dEq_refl n hn h]
  rfl
/-- an encoding whose == tells unlike values apart -/
structure EqE {α : Type} [DecidableEq α] (n : Nat) (e : α → Da) : Prop where
  pl : ∀ x, plD n (e x) = true
  eq : ∀ x y, PyData.eqv (e x) (e y) = decide (x = y)
theorem EqE.di {n : Nat} : EqE n di := ⟨fun x => by simp [DL.di, plD], fun x y => by
  simp only [DL.di, PyData.eqv]
  by_cases h : x = y
  · subst h; simp
  · have : ¬ (x : Int) = y := by omega
    simp [h, this]⟩
theorem EqE.int {n : Nat} : EqE n PyData.int := ⟨fun x => by simp [plD], fun x y => by
  simp only [PyData.eqv]
  by_cases h : x = y
  · subst h; simp
  · simp [h]⟩
theorem eqvAll_map {α : Type} [DecidableEq α] {n : Nat} {e : α → Da} (h : EqE n e) : ∀ l m : List α, PyData.eqvAll (l.map e) (m.map e) = decide (l = m)
  | [], [] => by simp [PyData.eqvAll]
  | [], y :: m => by simp [PyData.eqvAll]
  | x :: l, [] => by simp [PyData.eqvAll]
  | x :: l, y :: m => by
    simp only [List.map_cons, PyData.eqvAll, h.eq, eqvAll_map h l m, List.cons.injEq]
    by_cases h1 : x = y <;> by_cases h2 : l = m <;> simp [h1, h2]
theorem EqE.tup {α : Type} [DecidableEq α] {n : Nat} {e : α → Da} (h : EqE n e) : EqE (n + 1) fun l : List α => .tuple (l.map e) :=
  ⟨fun l => by simp only [plD]; exact plL_map h.pl l, fun l m => by simp only [PyData.eqv]; exact eqvAll_map h l m⟩
theorem EqE.lst {α : Type} [DecidableEq α] {n : Nat} {e : α → Da} (h : EqE n e) : EqE (n + 1) fun l : List α => .list (l.map e) :=
  ⟨fun l => by simp only [plD]; exact plL_map h.pl l, fun l m => by simp only [PyData.eqv]; exact eqvAll_map h l m⟩
theorem EqE.pair {α β : Type} [DecidableEq α] [DecidableEq β] {n : Nat} {e : α → Da} {f : β → Da} (h : EqE n e) (g : EqE n f) : EqE (n + 1) fun p : α × β => .tuple [e p.1, f p.2] :=
  ⟨fun p => by simp [plD, plL, h.pl, g.pl], fun p q => by
    obtain ⟨a, b⟩ := p
    obtain ⟨c, d⟩ := q
    simp only [PyData.eqv, PyData.eqvAll, h.eq, g.eq, Prod.mk.injEq]
    by_cases h1 : a = c <;> by_cases h2 : b = d <;> simp [h1, h2]⟩
theorem EqE.dEq {α : Type} [DecidableEq α] {n : Nat} {e : α → Da} (h : EqE n e) (hn : n ≤ 60) (x y : α) : dEq (e x) (e y) = .ok (.bool (decide (x = y))) := by
  rw [dEq_eqv (shaped_pl n hn (h.pl x)) (shaped_pl n hn (h.pl y)), h.eq]
theorem EqE.dNe {α : Type} [DecidableEq α] {n : Nat} {e : α → Da} (h : EqE n e) (hn : n ≤ 60) (x y : α) : dNe (e x) (e y) = .ok (.bool (!decide (x = y))) := by
  unfold DL.dNe
  rw [h.dEq hn]
  rfl
/-! literals as numbers -/
theorem int_lit (n : Nat) : PyData.int (no_index (OfNat.ofNat n)) = di (OfNat.ofNat n) := rfl
theorem dIx_list_map {α : Type} (e : α → Da) (d : α) (l : List α) (k : Nat) (h : k < l.length) : dIx (.list (l.map e)) (di k) = .ok (e (l.getD k d)) := by
  rw [dIx_list_nat, List.getElem?_map, List.getElem?_eq_getElem h]
  simp [h]
theorem dIx_tuple_map {α : Type} (e : α → Da) (d : α) (l : List α) (k : Nat) (h : k < l.length) : dIx (.tuple (l.map e)) (di k) = .ok (e (l.getD k d)) := by
  rw [dIx_tuple_nat, List.getElem?_map, List.getElem?_eq_getElem h]
  simp [h]
theorem enumD_map' {α : Type} (e : α → Da) (d : α) : ∀ (l : List α) (k : Nat), enumD k (l.map e) = (List.range l.length).map fun i => .tuple [di (k + i), e (l.getD i d)]
  | [], k => rfl
  | x :: l, k => by
    rw [List.map_cons, enumD, enumD_map' e d l (k + 1), List.length_cons, List.range_succ_eq_map, List.map_cons, List.map_map]
    congr 1
    refine List.map_congr_left fun i _ => ?_
    simp [Nat.add_assoc, Nat.add_comm 1 i]
theorem EqE.dIn {α : Type} [DecidableEq α] {n : Nat} {e : α → Da} (h : EqE n e) (hn : n < 60) (x : α) (l : List α) : DL.dIn (e x) (.list (l.map e)) = .ok (.bool (decide (x ∈ l))) := by
  have s1 := shaped_pl n (by omega) (h.pl x)
  have s2 : SeqAt.shaped (.list (l.map e)) = true := shaped_pl (n + 1) (by omega) (by simp only [plD]; exact plL_map h.pl l)
  show (inD (e x) (l.map e)).bind _ = _
  unfold inD
  rw [s1, s2]
  simp only [Bool.and_self, if_true, R.bind_ok]
  congr 2
  rw [List.any_map]
  induction l with
  | nil => rfl
  | cons y l ih =>
    rw [List.any_cons, ih (shaped_pl (n + 1) (by omega) (by simp only [plD]; exact plL_map h.pl l))]
    simp only [Function.comp, h.eq, List.mem_cons]
    by_cases q1 : y = x
    · subst q1; simp
    · have : ¬ x = y := fun z => q1 z.symm
      simp [q1, this]
theorem EqE.dInT {α : Type} [DecidableEq α] {n : Nat} {e : α → Da} (h : EqE n e) (hn : n < 60) (x : α) (l : List α) : DL.dIn (e x) (.tuple (l.map e)) = .ok (.bool (decide (x ∈ l))) := h.dIn hn x l
theorem EqE.dNotIn {α : Type} [DecidableEq α] {n : Nat} {e : α → Da} (h : EqE n e) (hn : n < 60) (x : α) (l : List α) : DL.dNotIn (e x) (.list (l.map e)) = .ok (.bool (!decide (x ∈ l))) := by
  unfold DL.dNotIn
  rw [h.dIn hn]
  rfl
theorem EqE.dNotInT {α : Type} [DecidableEq α] {n : Nat} {e : α → Da} (h : EqE n e) (hn : n < 60) (x : α) (l : List α) : DL.dNotIn (e x) (.tuple (l.map e)) = .ok (.bool (!decide (x ∈ l))) := by
  unfold DL.dNotIn
  rw [h.dInT hn]
  rfl
/-! sorting whole numbers -/
def insN (x : Nat) : List Nat → List Nat
  | [] => [x]
  | y :: ys => if x ≤ y then x :: y :: ys else y :: insN x ys
def sortN (l : List Nat) : List Nat := l.foldr insN []
theorem insI_cast (x : Nat) : ∀ l : List Nat, insI (x : Int) (l.map fun n : Nat => (n : Int)) = (insN x l).map fun n : Nat => (n : Int)
  | [] => rfl
  | y :: l => by
    rw [List.map_cons, insI, insN]
    by_cases q : x ≤ y
    · rw [if_pos q, if_pos (by omega)]; rfl
    · rw [if_neg q, if_neg (by omega), insI_cast x l]; rfl
theorem sortI_cast : ∀ l : List Nat, sortI (l.map fun n : Nat => (n : Int)) = (sortN l).map fun n : Nat => (n : Int)
  | [] => rfl
  | x :: l => by
    show insI (x : Int) (sortI (l.map fun n : Nat => (n : Int))) = (insN x (sortN l)).map _
    rw [sortI_cast l, insI_cast]
theorem dSorted_di (l : List Nat) : dSorted [.list (l.map di)] = .ok (.list ((sortN l).map di)) := by
  have e : intsD (l.map di) = .ok (l.map fun n : Nat => (n : Int)) := ints_map (fun n : Nat => (n : Int)) l
  show (intsD (l.map di)).bind _ = _
  rw [e]
  show R.ok (PyData.list ((sortI _).map PyData.int)) = _
  rw [sortI_cast, List.map_map]
  rfl
theorem insN_perm (x : Nat) : ∀ l : List Nat, (insN x l).Perm (x :: l)
  | [] => List.Perm.refl _
  | y :: l => by
    unfold insN
    split
    · exact List.Perm.refl _
    · exact ((insN_perm x l).cons y).trans (List.Perm.swap x y l)
theorem insN_sorted (x : Nat) : ∀ l : List Nat, l.Pairwise (· ≤ ·) → (insN x l).Pairwise (· ≤ ·)
  | [], _ => List.pairwise_singleton _ _
  | y :: l, h => by
    unfold insN
    obtain ⟨h1, h2⟩ := List.pairwise_cons.mp h
    split
    · rename_i q
      exact List.pairwise_cons.mpr ⟨fun z hz => by
        rcases List.mem_cons.mp hz with e | hz
        · subst e; exact q
        · have := h1 z hz; omega, h⟩
    · rename_i q
      exact List.pairwise_cons.mpr ⟨fun z hz => by
        rcases List.mem_cons.mp ((insN_perm x l).mem_iff.mp hz) with e | hz
        · subst e; omega
        · exact h1 z hz, insN_sorted x l h2⟩
theorem sortN_perm : ∀ l : List Nat, (sortN l).Perm l
  | [] => List.Perm.refl _
  | x :: l => (insN_perm x (sortN l)).trans ((sortN_perm l).cons x)
theorem sortN_sorted : ∀ l : List Nat, (sortN l).Pairwise (· ≤ ·)
  | [] => List.Pairwise.nil
  | x :: l => insN_sorted x _ (sortN_sorted l)
theorem sortN_lt {l : List Nat} (h : l.Nodup) : (sortN l).Pairwise (· < ·) := by
  have h1 := sortN_sorted l
  have h2 : (sortN l).Nodup := (sortN_perm l).nodup_iff.mpr h
  exact (h1.and h2).imp fun ⟨a, b⟩ => Nat.lt_of_le_of_ne a b
end DL
set_option Elab.async false
set_option linter.all false
/-! Rows of numbers as data; the operators on numbers in one statement. -/
namespace DL
open PySem
/-! statements one behind another -/
theorem seq_nx {a b : SS} {ρ ρ' : Ev} {r : R Out} (h : a ρ = .ok (.nx ρ')) (k : b ρ' = r) : sSeq a b ρ = r := by
  show (a ρ).bind (fun o => andThen o b) = r
  rw [h]
  exact k
theorem seq_assoc (a b c : SS) : sSeq a (sSeq b c) = sSeq (sSeq a b) c := by
  funext ρ
  show (a ρ).bind (fun o => andThen o (sSeq b c)) = ((a ρ).bind fun o => andThen o b).bind fun o => andThen o c
  cases a ρ with
  | ok o => cases o <;> simp
  | exc _ => simp
  | bad => simp
theorem run_rt {n : Nat} {body : SS} {ds : List Da} {d : Da} (h : body (ds.map some ++ List.replicate (n - ds.length) none) = .ok (.rt d)) : runDef n body ds = .ok d := by
  rw [runDef_, h]
  rfl
/-- a row of numbers -/
def nl (l : List Nat) : List Da := l.map di
/-- a row of integers -/
def il (l : List Int) : List Da := l.map PyData.int
/-- a row of flags -/
def bl (l : List Bool) : List Da := l.map PyData.bool
@[simp] theorem nl_nil : nl [] = [] := rfl
@[simp] theorem nl_cons (x : Nat) (l : List Nat) : nl (x :: l) = di x :: nl l := rfl
@[simp] theorem nl_append (l m : List Nat) : nl (l ++ m) = nl l ++ nl m := by simp [nl]
@[simp] theorem nl_length (l : List Nat) : (nl l).length = l.length := by simp [nl]
@[simp] theorem nl_isEmpty (l : List Nat) : (nl l).isEmpty = l.isEmpty := by cases l <;> rfl
@[simp] theorem il_isEmpty (l : List Int) : (il l).isEmpty = l.isEmpty := by cases l <;> rfl
theorem nl_reverse (l : List Nat) : (nl l).reverse = nl l.reverse := by simp [nl, List.map_reverse]
theorem il_reverse (l : List Int) : (il l).reverse = il l.reverse := by simp [il, List.map_reverse]
theorem nl_take (l : List Nat) (n : Nat) : (nl l).take n = nl (l.take n) := by simp [nl, List.map_take]
theorem nl_drop (l : List Nat) (n : Nat) : (nl l).drop n = nl (l.drop n) := by simp [nl, List.map_drop]
theorem nl_set (l : List Nat) (n x : Nat) : (nl l).set n (di x) = nl (l.set n x) := by simp [nl, List.map_set]
@[simp] theorem il_nil : il [] = [] := rfl
@[simp] theorem il_cons (x : Int) (l : List Int) : il (x :: l) = .int x :: il l := rfl
@[simp] theorem il_append (l m : List Int) : il (l ++ m) = il l ++ il m := by simp [il]
@[simp] theorem il_length (l : List Int) : (il l).length = l.length := by simp [il]
theorem nl_il (l : List Nat) : nl l = il (l.map fun n : Nat => (n : Int)) := by
  unfold nl il
  rw [List.map_map]
  rfl
theorem getD_nl (l : List Nat) (k : Nat) (h : k < l.length) : (nl l)[k]? = some (di (l.getD k 0)) := by
  unfold nl
  rw [List.getElem?_map, List.getElem?_eq_getElem h]
  simp [h]
theorem getD_il (l : List Int) (k : Nat) (h : k < l.length) : (il l)[k]? = some (.int (l.getD k 0)) := by
  unfold il
  rw [List.getElem?_map, List.getElem?_eq_getElem h]
  simp [h]
@[simp] theorem bls_bl (l : List Bool) : blsD (bl l) = .ok l := by
  induction l with
  | nil => rfl
  | cons b l ih =>
    show (blsD (bl l)).bind _ = _
    rw [ih]
    rfl
@[simp] theorem ints_il (l : List Int) : intsD (il l) = .ok l := by
  have := ints_map (fun i : Int => i) l
  rw [List.map_id'] at this
  exact this
@[simp] theorem ints_nl (l : List Nat) : intsD (nl l) = .ok (l.map fun n : Nat => (n : Int)) := ints_map (fun n : Nat => (n : Int)) l
def sumN (l : List Nat) : Nat := l.foldr (· + ·) 0
@[simp] theorem sumN_nil : sumN [] = 0 := rfl
@[simp] theorem sumN_cons (x : Nat) (l : List Nat) : sumN (x :: l) = x + sumN l := rfl
theorem sumN_append : ∀ l m : List Nat, sumN (l ++ m) = sumN l + sumN m
  | [], m => by simp
  | x :: l, m => by rw [List.cons_append, sumN_cons, sumN_cons, sumN_append l m]; omega
theorem sumN_cast : ∀ l : List Nat, (l.map fun n : Nat => (n : Int)).sum = ((sumN l : Nat) : Int)
  | [] => rfl
  | x :: l => by
    rw [List.map_cons, List.sum_cons, sumN_cast l]
    simp
theorem int_cast (n : Nat) : PyData.int (n : Int) = di n := rfl
theorem dAbs_sub (a b : Nat) : dAbs [.int ((a : Int) - b)] = .ok (di ((a - b) + (b - a))) := by
  show R.ok (PyData.int _) = R.ok (PyData.int _)
  congr 2
  split <;> omega
theorem dSub_cast (a b : Nat) : dSub (di a) (di b) = .ok (.int ((a : Int) - b)) := rfl
/-- the operators on numbers -/
theorem dn : (∀ a b : Nat, dAdd (di a) (di b) = .ok (di (a + b))) ∧ (∀ a b : Nat, addI (di a) (di b) = .ok (di (a + b))) ∧
    (∀ a b : Nat, dEq (di a) (di b) = .ok (.bool (decide (a = b)))) ∧ (∀ a b : Nat, dNe (di a) (di b) = .ok (.bool (!decide (a = b)))) ∧
    (∀ a b : Nat, dLt (di a) (di b) = .ok (.bool (decide (a < b)))) ∧ (∀ a b : Nat, dLe (di a) (di b) = .ok (.bool (decide (a ≤ b)))) ∧
    (∀ a b : Nat, dGt (di a) (di b) = .ok (.bool (decide (b < a)))) ∧ (∀ a b : Nat, dGe (di a) (di b) = .ok (.bool (decide (b ≤ a)))) ∧
    (∀ a b : Nat, b ≤ a → dSub (di a) (di b) = .ok (di (a - b))) ∧
    (∀ a b : Nat, 0 < b → dMod (di a) (di b) = .ok (di (a % b))) ∧ (∀ a b : Nat, 0 < b → b < 1073741824 → dDiv (di a) (di b) = .ok (di (a / b))) ∧
    (∀ a b : Nat, b < 1073741824 → mulI (di a) (di b) = .ok (di (a * b))) ∧
    (∀ a b : Nat, dMin2 [di a, di b] = .ok (di (min b a))) ∧ (∀ a b : Nat, dMax2 [di a, di b] = .ok (di (max b a))) ∧
    (∀ a : Nat, dAbs [di a] = .ok (di a)) ∧ (∀ n : Nat, PyData.int (n : Int) = di n) :=
  ⟨dAdd_nat, addI_nat, dEq_nat, dNe_nat, dLt_nat, dLe_nat, dGt_nat, dGe_nat, dSub_nat, dMod_nat, dDiv_nat, mulI_nat, dMin2_nat, dMax2_nat, fun a => by
    show R.ok (PyData.int (if (a : Int) < 0 then -(a : Int) else a)) = _
    rw [if_neg (by omega)]; rfl, fun _ => rfl⟩
/-- rows of numbers: places, lengths -/
theorem dl : (∀ (l : List Nat) (k : Nat), k < l.length → dIx (.list (nl l)) (di k) = .ok (di (l.getD k 0))) ∧
    (∀ (l : List Nat) (k : Nat), k < l.length → dIx (.tuple (nl l)) (di k) = .ok (di (l.getD k 0))) ∧
    (∀ (l : List Int) (k : Nat), k < l.length → dIx (.list (il l)) (di k) = .ok (.int (l.getD k 0))) ∧
    (∀ (l : List Int) (k : Nat), k < l.length → dIx (.tuple (il l)) (di k) = .ok (.int (l.getD k 0))) ∧
    (∀ (l : List Nat), dLen [.list (nl l)] = .ok (di l.length)) ∧ (∀ (l : List Nat), dLen [.tuple (nl l)] = .ok (di l.length)) ∧
    (∀ (l : List Int), dLen [.list (il l)] = .ok (di l.length)) ∧ (∀ (l : List Int), dLen [.tuple (il l)] = .ok (di l.length)) ∧
    (∀ (l : List Nat), dSumL [.list (nl l)] = .ok (di (sumN l))) ∧ (∀ (l : List Nat), dSumL [.tuple (nl l)] = .ok (di (sumN l))) := by
  refine ⟨fun l k h => ?_, fun l k h => ?_, fun l k h => ?_, fun l k h => ?_, fun l => ?_, fun l => ?_, fun l => ?_, fun l => ?_, fun l => ?_, fun l => ?_⟩
  · rw [dIx_list_nat, getD_nl l k h]; rfl
  · rw [dIx_tuple_nat, getD_nl l k h]; rfl
  · rw [dIx_list_nat, getD_il l k h]; rfl
  · rw [dIx_tuple_nat, getD_il l k h]; rfl
  · rw [dLen_list_nat, nl_length]
  · rw [dLen_tuple_nat, nl_length]
  · rw [dLen_list_nat, il_length]
  · rw [dLen_tuple_nat, il_length]
  · rw [dSumL_list, ints_nl, R.bind_ok, sumN_cast]; rfl
  · show (intsD (nl l)).bind _ = _
    rw [ints_nl, R.bind_ok, sumN_cast]; rfl
/-- a comprehension over numbers -/
theorem lc_nl {f : Da → R (Option Da)} (g : Nat → Nat) (l : List Nat) (w : ∀ x, x ∈ l → f (di x) = .ok (some (di (g x)))) : lcL f (nl l) = .ok (nl (l.map g)) := by
  unfold nl
  rw [lcL_map di (fun x => di (g x)) l w, List.map_map]
  rfl
theorem lc_nlI {f : Da → R (Option Da)} (g : Nat → Int) (l : List Nat) (w : ∀ x, x ∈ l → f (di x) = .ok (some (.int (g x)))) : lcL f (nl l) = .ok (il (l.map g)) := by
  unfold nl il
  rw [lcL_map di (fun x => .int (g x)) l w, List.map_map]
  rfl
theorem lc_nlB {f : Da → R (Option Da)} (p : Nat → Bool) (l : List Nat) (w : ∀ x, x ∈ l → f (di x) = .ok (some (.bool (p x)))) : lcL f (nl l) = .ok (bl (l.map p)) := by
  unfold nl bl
  rw [lcL_map di (fun x => .bool (p x)) l w, List.map_map]
  rfl
theorem lc_nlF {f : Da → R (Option Da)} (p : Nat → Bool) (g : Nat → Nat) (l : List Nat) (w : ∀ x, x ∈ l → f (di x) = .ok (if p x then some (di (g x)) else none)) : lcL f (nl l) = .ok (nl ((l.filter p).map g)) := by
  unfold nl
  rw [lcL_filter di p (fun x => di (g x)) l w, List.map_map]
  rfl
theorem lc_nlFB {f : Da → R (Option Da)} (p q : Nat → Bool) (l : List Nat) (w : ∀ x, x ∈ l → f (di x) = .ok (if p x then some (.bool (q x)) else none)) : lcL f (nl l) = .ok (bl ((l.filter p).map q)) := by
  unfold nl bl
  rw [lcL_filter di p (fun x => .bool (q x)) l w, List.map_map]
  rfl
theorem rng_nl (n : Nat) (h : n ≤ big) : dRng 0 (n : Int) = .ok (nl (List.range n)) := dRng_0 n h
theorem rng_nl2 (a b : Nat) (ha : a ≤ big) (hb : b ≤ big) : dRng (a : Int) (b : Int) = .ok (nl (List.range' a (b - a))) := by
  by_cases h : a ≤ b
  · exact dRng_at a b h hb
  · unfold dRng
    unfold big at ha hb ⊢
    have e : ((b : Int) - (a : Int)).toNat = 0 := by omega
    have e2 : b - a = 0 := by omega
    rw [if_pos ⟨by omega, by omega, by omega⟩, e, e2]
    rfl
theorem dAbs_na (i : Int) : dAbs [.int i] = .ok (di i.natAbs) := by
  show R.ok (PyData.int _) = R.ok (PyData.int _)
  congr 2
  split <;> omega
theorem zipD_nl : ∀ B H : List Nat, zipD (nl B) (nl H) = (List.range (min B.length H.length)).map fun k => .tuple [di (B.getD k 0), di (H.getD k 0)]
  | [], _ => by simp [zipD]
  | _ :: _, [] => by simp [zipD]
  | b :: B, h :: H => by
    have e : min (b :: B).length (h :: H).length = min B.length H.length + 1 := by simp
    rw [e, List.range_succ_eq_map, List.map_cons, List.map_map, nl_cons, nl_cons]
    show PyData.tuple [di b, di h] :: zipD (nl B) (nl H) = _
    rw [zipD_nl B H]
    rfl
/-- pairs of integers -/
def p2 (z : Int × Int) : Da := .tuple [.int z.1, .int z.2]
theorem alike_p2 (x y : Int × Int) : PySem.W.alike (p2 x) (p2 y) = true := by simp [p2, PySem.W.alike, PySem.W.alikeAll]
theorem depth_p2 (x : Int × Int) : (p2 x).depth = 1 := by simp [p2, PyData.depth, PyData.depthAll]
theorem lay_p2 (x : Int × Int) : (p2 x).canLay0 = true := by simp [p2, PyData.canLay0, PyData.canLayAll0]
theorem alkB_map {α : Type} (e : α → Da) (n : Nat) (hn : n ≤ 50) (h1 : ∀ x y, PySem.W.alike (e x) (e y) = true) (h2 : ∀ x, (e x).depth ≤ n) (h3 : ∀ x, (e x).canLay0 = true) (h4 : ∀ x, someD (e x) = true) (l : List α) : alkB (l.map e) = true := by
  have d : PyData.depthAll (l.map e) ≤ n := by
    induction l with
    | nil => simp [PyData.depthAll]
    | cons x l ih => simp only [List.map_cons, PyData.depthAll]; have := h2 x; omega
  have c : PyData.canLayAll0 (l.map e) = true := by
    induction l with
    | nil => simp [PyData.canLayAll0]
    | cons x l ih =>
      simp only [List.map_cons, PyData.canLayAll0, h3, Bool.true_and]
      exact ih (by simp only [List.map_cons, PyData.depthAll] at d; omega)
  unfold alkB
  simp only [Bool.and_eq_true, List.all_eq_true, decide_eq_true_eq]
  refine ⟨fun x hx y hy => ?_, fun x hx => ?_, by omega, c⟩
  · obtain ⟨a, _, rfl⟩ := List.mem_map.mp hx
    obtain ⟨b, _, rfl⟩ := List.mem_map.mp hy
    exact h1 a b
  · obtain ⟨a, _, rfl⟩ := List.mem_map.mp hx
    exact h4 a
theorem alk_p2 (l : List (Int × Int)) : alkB (l.map p2) = true := alkB_map p2 1 (by decide) alike_p2 (fun x => by rw [depth_p2]; exact Nat.le_refl _) lay_p2 (fun _ => rfl) l
theorem srt_p2 (l : List (Int × Int)) : srtB (l.map p2) = true := by
  unfold srtB
  have : (l.map p2).all tupD1 = true := by
    rw [List.all_eq_true]
    intro x hx
    obtain ⟨a, _, rfl⟩ := List.mem_map.mp hx
    rfl
  rw [this]
  rfl
theorem lt_p2 (x y : Int × Int) : PySem.W.dataLt (p2 x) (p2 y) = decide (x.1 < y.1 ∨ (x.1 = y.1 ∧ x.2 < y.2)) := PySem.W.dataLt_ii _ _ _ _
/-- the first of the least -/
def mn2 (z : Int × Int) (l : List (Int × Int)) : Int × Int := l.foldl (fun a y => if decide (y.1 < a.1 ∨ (y.1 = a.1 ∧ y.2 < a.2)) then y else a) z
theorem minD_p2 : ∀ (l : List (Int × Int)) (z : Int × Int), PySem.W.minD (p2 z) (l.map p2) = p2 (mn2 z l)
  | [], z => rfl
  | y :: l, z => by
    show PySem.W.minD (if PySem.W.dataLt (p2 y) (p2 z) then p2 y else p2 z) (l.map p2) = p2 (mn2 (if decide (y.1 < z.1 ∨ (y.1 = z.1 ∧ y.2 < z.2)) then y else z) l)
    rw [lt_p2, ← minD_p2 l]
    split <;> rfl
theorem mn2_le : ∀ (l : List (Int × Int)) (z : Int × Int), mn2 z l ∈ z :: l ∧ ∀ y, y ∈ z :: l → (mn2 z l).1 < y.1 ∨ ((mn2 z l).1 = y.1 ∧ (mn2 z l).2 ≤ y.2)
  | [], z => ⟨List.mem_cons_self, fun y hy => by
    rw [List.mem_singleton] at hy; subst hy
    exact .inr ⟨rfl, Int.le_refl _⟩⟩
  | x :: l, z => by
    have e : mn2 z (x :: l) = mn2 (if decide (x.1 < z.1 ∨ (x.1 = z.1 ∧ x.2 < z.2)) then x else z) l := rfl
    obtain ⟨h1, h2⟩ := mn2_le l (if decide (x.1 < z.1 ∨ (x.1 = z.1 ∧ x.2 < z.2)) then x else z)
    rw [e]
    generalize hc : (if decide (x.1 < z.1 ∨ (x.1 = z.1 ∧ x.2 < z.2)) then x else z) = c at h1 h2
    have hcz : (c = x ∧ (x.1 < z.1 ∨ (x.1 = z.1 ∧ x.2 < z.2))) ∨ (c = z ∧ ¬(x.1 < z.1 ∨ (x.1 = z.1 ∧ x.2 < z.2))) := by
      by_cases q : x.1 < z.1 ∨ (x.1 = z.1 ∧ x.2 < z.2)
      · rw [decide_eq_true q, if_pos rfl] at hc
        exact .inl ⟨hc.symm, q⟩
      · rw [decide_eq_false q, if_neg Bool.false_ne_true] at hc
        exact .inr ⟨hc.symm, q⟩
    have hm := h2 c List.mem_cons_self
    refine ⟨?_, fun y hy => ?_⟩
    · rcases List.mem_cons.mp h1 with q | q
      · rw [q]
        rcases hcz with ⟨e1, _⟩ | ⟨e1, _⟩
        · rw [e1]; exact List.mem_cons_of_mem _ List.mem_cons_self
        · rw [e1]; exact List.mem_cons_self
      · exact List.mem_cons_of_mem _ (List.mem_cons_of_mem _ q)
    · rcases List.mem_cons.mp hy with q | hy
      · subst q
        rcases hcz with ⟨e1, e2⟩ | ⟨e1, e2⟩
        · subst e1; omega
        · subst e1; exact hm
      · rcases List.mem_cons.mp hy with q | hy
        · subst q
          rcases hcz with ⟨e1, e2⟩ | ⟨e1, e2⟩
          · subst e1; exact hm
          · subst e1; omega
        · exact h2 y (List.mem_cons_of_mem _ hy)
theorem minG_p2 (z : Int × Int) (l : List (Int × Int)) : minG (p2 z :: l.map p2) = .ok (p2 (mn2 z l)) := by
  have a : alkB (p2 z :: l.map p2) = true := alk_p2 (z :: l)
  show (if alkB (p2 z :: l.map p2) then R.ok (PySem.W.minD (p2 z) (l.map p2)) else .bad) = _
  rw [if_pos a, minD_p2]
theorem ltG_p2 (x y : Int × Int) : dLtG (p2 x) (p2 y) = .ok (.bool (decide (x.1 < y.1 ∨ (x.1 = y.1 ∧ x.2 < y.2)))) := by
  have a : alkB [p2 x, p2 y] = true := alk_p2 [x, y]
  unfold dLtG
  rw [if_pos a, lt_p2]
theorem eqE_p2 {n : Nat} : EqE (n + 1) p2 := EqE.pair EqE.int EqE.int
theorem maxI_cast : ∀ (xs : List Nat) (x : Nat), (xs.map fun n : Nat => (n : Int)).foldl max (x : Int) = ((xs.foldl max x : Nat) : Int)
  | [], x => rfl
  | y :: xs, x => by
    rw [List.map_cons, List.foldl_cons, List.foldl_cons, ← maxI_cast xs (max x y)]
    congr 1
    omega
theorem minI_castN : ∀ (xs : List Nat) (x : Nat), (xs.map fun n : Nat => (n : Int)).foldl min (x : Int) = ((xs.foldl min x : Nat) : Int)
  | [], x => rfl
  | y :: xs, x => by
    rw [List.map_cons, List.foldl_cons, List.foldl_cons, ← minI_castN xs (min x y)]
    congr 1
    omega
theorem dMaxL_nl (x : Nat) (l : List Nat) : dMaxL [.list (nl (x :: l))] = .ok (di (l.foldl max x)) := by
  rw [dMaxL_list, ints_nl, R.bind_ok]
  show R.ok (PyData.int _) = _
  rw [maxI_cast]
  rfl
theorem dMinL_nl (x : Nat) (l : List Nat) : dMinL [.list (nl (x :: l))] = .ok (di (l.foldl min x)) := by
  rw [dMinL_list, ints_nl, R.bind_ok]
  show R.ok (PyData.int _) = _
  rw [minI_castN]
  rfl
theorem foldl_max_leN : ∀ (l : List Nat) (x b : Nat), x ≤ b → (∀ y, y ∈ l → y ≤ b) → l.foldl max x ≤ b
  | [], _, _, h, _ => h
  | y :: l, x, b, h, h2 => foldl_max_leN l (max x y) b (by have := h2 y List.mem_cons_self; omega) fun z hz => h2 z (List.mem_cons_of_mem _ hz)
theorem foldl_max_geN : ∀ (l : List Nat) (x : Nat), ∀ y, y ∈ x :: l → y ≤ l.foldl max x
  | [], x, y, h => by rw [List.mem_singleton] at h; subst h; exact Nat.le_refl _
  | z :: l, x, y, h => by
    have g := foldl_max_geN l (max x z)
    rw [List.foldl_cons]
    rcases List.mem_cons.mp h with e | h
    · subst e
      have := g (max y z) List.mem_cons_self
      omega
    · rcases List.mem_cons.mp h with e | h
      · subst e
        have := g (max x y) List.mem_cons_self
        omega
      · exact g y (List.mem_cons_of_mem _ h)
theorem le_foldl_minN : ∀ (l : List Nat) (x b : Nat), b ≤ x → (∀ y, y ∈ l → b ≤ y) → b ≤ l.foldl min x
  | [], _, _, h, _ => h
  | y :: l, x, b, h, h2 => le_foldl_minN l (min x y) b (by have := h2 y List.mem_cons_self; omega) fun z hz => h2 z (List.mem_cons_of_mem _ hz)
theorem all_map_id {α : Type} (p : α → Bool) (l : List α) : (l.map p).all id = l.all p := by simp [List.all_map]
end DL
set_option Elab.async false
set_option linter.all false
set_option maxRecDepth 100000
/-! What the defs of the row compute, printed by gen.py. -/
namespace K74
open PySem DL
def b_is_integer : SS :=
    (sRet (eAnd (e1 (dIsi .int) (eVar 0)) (e1 dNot (e1 (dIsi .bool) (eVar 0)))))
def f_is_integer (ds : List Da) : R Da := runDef 1 b_is_integer ds

def b_is_between : SS :=
    (sRet (eAnd (eA f_is_integer (aCons (eVar 0) aNil)) (eChain dLe dLe (eVar 1) (eVar 0) (eVar 2))))
def f_is_between (ds : List Da) : R Da := runDef 3 b_is_between ds

def b_is_under : SS :=
    (sRet (eAnd (eA f_is_integer (aCons (eVar 0) aNil)) (eChain dLe dLt (eC (.int 0)) (eVar 0) (eVar 1))))
def f_is_under (ds : List Da) : R Da := runDef 2 b_is_under ds

def b_is_tuple_of : SS :=
    (sRet (eAnd (e1 (dIsi .tuple) (eVar 0)) (e2 dEq (eA dLen (aCons (eVar 0) aNil)) (eVar 1))))
def f_is_tuple_of (ds : List Da) : R Da := runDef 2 b_is_tuple_of ds

def b_unlike : SS :=
    (sRet (e2 dEq (e1 dLenSet (eVar 0)) (eA dLen (aCons (eVar 0) aNil))))
def f_unlike (ds : List Da) : R Da := runDef 1 b_unlike ds

def b_are_places : SS :=
    (sSeq (sIf (eOr (e1 dNot (e1 (dIsi .tuple) (eVar 0))) (eOr (e2 dGt (eA dLen (aCons (eVar 0) aNil)) (eVar 1)) (e1 dNot (eA dAll (aCons (eLc (iL (eVar 0)) (gVar 3) [3] eYes (eA f_is_between (aCons (eVar 3) (aCons (eC (.int 0)) (aCons (eC (.int 200)) aNil))))) aNil))))) (sRet (eC (.bool false))) sNx)
    (sRet (eA dAll (aCons (eLc (iRng2 (eC (.int 1)) (eA dLen (aCons (eVar 0) aNil))) (gVar 2) [2] eYes (e2 dLe (e2 dIx (eVar 0) (e2 dSub (eVar 2) (eC (.int 1)))) (e2 dIx (eVar 0) (eVar 2)))) aNil))))
def f_are_places (ds : List Da) : R Da := runDef 4 b_are_places ds

def b_need_fronts : SS :=
    (sIf (eOr (e1 dNot (eA f_are_places (aCons (eVar 0) (aCons (eC (.int 8)) aNil)))) (eOr (e1 dNot (eA f_are_places (aCons (eVar 1) (aCons (eC (.int 10)) aNil)))) (e2 dGt (eA dLen (aCons (eVar 0) aNil)) (eA dLen (aCons (eVar 1) aNil))))) (sRaise "NoButtons") sNx)
def f_need_fronts (ds : List Da) : R Da := runDef 2 b_need_fronts ds

def b_is_pairing_of : SS :=
    (sRet (eAnd (eA f_is_tuple_of (aCons (eVar 2) (aCons (eA dLen (aCons (eVar 0) aNil)) aNil))) (eAnd (eA dAll (aCons (eLc (iL (eVar 2)) (gVar 3) [3] eYes (eA f_is_under (aCons (eVar 3) (aCons (eA dLen (aCons (eVar 1) aNil)) aNil)))) aNil)) (eA f_unlike (aCons (eVar 2) aNil)))))
def f_is_pairing_of (ds : List Da) : R Da := runDef 4 b_is_pairing_of ds

def b_is_pairing : SS :=
    (sSeq (sExpr (eA f_need_fronts (aCons (eVar 0) (aCons (eVar 1) aNil))))
    (sRet (eA f_is_pairing_of (aCons (eVar 0) (aCons (eVar 1) (aCons (eVar 2) aNil))))))
def f_is_pairing (ds : List Da) : R Da := runDef 3 b_is_pairing ds

def b_cost_of : SS :=
    (sRet (eA dSumL (aCons (eLc (iZip (eVar 0) (eVar 2)) (gTupD [(gVar 3), (gVar 4)]) [3, 4] eYes (eA dAbs (aCons (e2 dSub (eVar 3) (e2 dIx (eVar 1) (eVar 4))) aNil))) aNil)))
def f_cost_of (ds : List Da) : R Da := runDef 5 b_cost_of ds

def b_pairing_cost : SS :=
    (sSeq (sExpr (eA f_need_fronts (aCons (eVar 0) (aCons (eVar 1) aNil))))
    (sSeq (sIf (e1 dNot (eA f_is_pairing_of (aCons (eVar 0) (aCons (eVar 1) (aCons (eVar 2) aNil))))) (sRaise "NoPlan") sNx)
    (sRet (eA f_cost_of (aCons (eVar 0) (aCons (eVar 1) (aCons (eVar 2) aNil)))))))
def f_pairing_cost (ds : List Da) : R Da := runDef 3 b_pairing_cost ds

def l_table_of_0 : SS :=
    (sPost [5, 6] (sSeq (sOwn 6 (eIf (e1 dIsN (e2 dIx (eVar 4) (e2 dSub (eVar 5) (eC (.int 1))))) (eLst aNil) (eLst (aCons (e2 dIx (eVar 4) (e2 dSub (eVar 5) (eC (.int 1)))) aNil))))
    (sSeq (sIf (e1 dNotN (e2 dIx (e2 dIx (eVar 2) (e2 dSub (eVar 3) (eC (.int 1)))) (e2 dSub (eVar 5) (eC (.int 1))))) (sAppend 6 (e2 dAdd (e2 dIx (e2 dIx (eVar 2) (e2 dSub (eVar 3) (eC (.int 1)))) (e2 dSub (eVar 5) (eC (.int 1)))) (eA dAbs (aCons (e2 dSub (e2 dIx (eVar 0) (e2 dSub (eVar 3) (eC (.int 1)))) (e2 dIx (eVar 1) (e2 dSub (eVar 5) (eC (.int 1))))) aNil)))) sNx)
    (sAppend 4 (eIf (eVar 6) (eA dMinL (aCons (eVar 6) aNil)) (eC .none))))))
def l_table_of_1 : SS :=
    (sPost [3, 4, 5, 6] (sSeq (sOwn 4 (eLst (aCons (eC .none) aNil)))
    (sSeq (sWk [5, 6] (sFor (iRng2 (eC (.int 1)) (e2 dAdd (eA dLen (aCons (eVar 1) aNil)) (eC (.int 1)))) (gVar 5) l_table_of_0))
    (sAppend 2 (eVar 4)))))
def b_table_of : SS :=
    (sSeq (sOwn 2 (eLst (aCons (e2 repD (eLst (aCons (eC (.int 0)) aNil)) (e2 dAdd (eA dLen (aCons (eVar 1) aNil)) (eC (.int 1)))) aNil)))
    (sSeq (sWk [3, 4, 5, 6] (sNox (sFor (iRng2 (eC (.int 1)) (e2 dAdd (eA dLen (aCons (eVar 0) aNil)) (eC (.int 1)))) (gVar 3) l_table_of_1)))
    (sRet (eVar 2))))
def f_table_of (ds : List Da) : R Da := runDef 7 b_table_of ds

def w_best_pairing_0 : SE :=
    (e2 dEq (e2 dIx (e2 dIx (eVar 2) (eVar 5)) (e2 dSub (eVar 4) (eC (.int 1)))) (e2 dIx (e2 dIx (eVar 2) (eVar 5)) (eVar 4)))
def l_best_pairing_0 : SS :=
    (sPost [0, 1] (sAsg (gVar 4) (e2 dSub (eVar 4) (eC (.int 1)))))
def l_best_pairing_1 : SS :=
    (sPost [1, 5] (sSeq (sWk [0, 1] (sWhile w_best_pairing_0 l_best_pairing_0))
    (sSeq (sAppend 3 (e2 dSub (eVar 4) (eC (.int 1))))
    (sAsg (gVar 4) (e2 dSub (eVar 4) (eC (.int 1)))))))
def b_best_pairing : SS :=
    (sSeq (sAsg (gVar 2) (eA f_table_of (aCons (eVar 0) (aCons (eVar 1) aNil))))
    (sSeq (sOwn 3 (eLst aNil))
    (sSeq (sAsg (gVar 4) (eA dLen (aCons (eVar 1) aNil)))
    (sSeq (sWk [1, 5] (sNox (sFor (iRng3 (eA dLen (aCons (eVar 0) aNil)) (eC (.int 0)) (e1 dNeg (eC (.int 1)))) (gVar 5) l_best_pairing_1)))
    (sRet (eA dTuple (aCons (e1 dRev (eVar 3)) aNil)))))))
def f_best_pairing (ds : List Da) : R Da := runDef 6 b_best_pairing ds

def b_button_best : SS :=
    (sSeq (sExpr (eA f_need_fronts (aCons (eVar 0) (aCons (eVar 1) aNil))))
    (sRet (eA f_best_pairing (aCons (eVar 0) (aCons (eVar 1) aNil)))))
def f_button_best (ds : List Da) : R Da := runDef 2 b_button_best ds

def b_button_least : SS :=
    (sSeq (sExpr (eA f_need_fronts (aCons (eVar 0) (aCons (eVar 1) aNil))))
    (sRet (e2 dIx (e2 dIx (eA f_table_of (aCons (eVar 0) (aCons (eVar 1) aNil))) (e1 dNeg (eC (.int 1)))) (e1 dNeg (eC (.int 1))))))
def f_button_least (ds : List Da) : R Da := runDef 2 b_button_least ds

def b_is_button_best : SS :=
    (sSeq (sExpr (eA f_need_fronts (aCons (eVar 0) (aCons (eVar 1) aNil))))
    (sRet (eAnd (eA f_is_pairing_of (aCons (eVar 0) (aCons (eVar 1) (aCons (eVar 2) aNil)))) (e2 dEq (eA f_cost_of (aCons (eVar 0) (aCons (eVar 1) (aCons (eVar 2) aNil)))) (e2 dIx (e2 dIx (eA f_table_of (aCons (eVar 0) (aCons (eVar 1) aNil))) (e1 dNeg (eC (.int 1)))) (e1 dNeg (eC (.int 1))))))))
def f_is_button_best (ds : List Da) : R Da := runDef 3 b_is_button_best ds

def b_are_prices : SS :=
    (sSeq (sIf (eOr (e1 dNot (eA f_is_tuple_of (aCons (eVar 2) (aCons (eC (.int 2)) aNil)))) (eOr (e1 dNot (eA f_is_tuple_of (aCons (e2 dIx (eVar 2) (eC (.int 0))) (aCons (eA dLen (aCons (eVar 0) aNil)) aNil)))) (e1 dNot (eA f_is_tuple_of (aCons (e2 dIx (eVar 2) (eC (.int 1))) (aCons (eA dLen (aCons (eVar 1) aNil)) aNil)))))) (sRet (eC (.bool false))) sNx)
    (sSeq (sIf (e1 dNot (eA dAll (aCons (eLc (iL (e2 dIx (eVar 2) (eC (.int 0)))) (gVar 7) [7] eYes (eA f_is_between (aCons (eVar 7) (aCons (e1 dNeg (eC (.int 1000))) (aCons (eC (.int 1000)) aNil))))) aNil))) (sRet (eC (.bool false))) sNx)
    (sSeq (sIf (e1 dNot (eA dAll (aCons (eLc (iL (e2 dIx (eVar 2) (eC (.int 1)))) (gVar 7) [7] eYes (eA f_is_between (aCons (eVar 7) (aCons (eC (.int 0)) (aCons (eC (.int 1000)) aNil))))) aNil))) (sRet (eC (.bool false))) sNx)
    (sRet (eA dAll (aCons (eLc2 (iZip (eVar 0) (e2 dIx (eVar 2) (eC (.int 0)))) (gTupD [(gVar 3), (gVar 4)]) [3, 4, 5, 6] eYes (iZip (eVar 1) (e2 dIx (eVar 2) (eC (.int 1)))) (gTupD [(gVar 5), (gVar 6)]) [5, 6] eYes (e2 dLe (e2 dSub (eVar 4) (eVar 6)) (eA dAbs (aCons (e2 dSub (eVar 3) (eVar 5)) aNil)))) aNil))))))
def f_are_prices (ds : List Da) : R Da := runDef 8 b_are_prices ds

def w_raised_2 : SE :=
    (eVar 4)
def l_raised_0 : SS :=
    (sPost [6, 8, 9] (sIf (e2 dGt (eVar 7) (e2 dAdd (eA dAbs (aCons (e2 dSub (eVar 5) (eVar 9)) aNil)) (e2 dIx (eVar 3) (eVar 8)))) (sSeq (sSet 3 (eVar 8) (e2 dSub (eVar 7) (eA dAbs (aCons (e2 dSub (eVar 5) (eVar 9)) aNil))))
    (sAsg (gVar 4) (eC (.bool true)))) sNx))
def l_raised_1 : SS :=
    (sPost [5, 6, 7, 8, 9] (sSeq (sAsg (gVar 7) (e2 dAdd (eA dAbs (aCons (e2 dSub (eVar 5) (e2 dIx (eVar 1) (eVar 6))) aNil)) (e2 dIx (eVar 3) (eVar 6))))
    (sWk [6, 8, 9] (sFor (iEnum (eVar 1)) (gTupD [(gVar 8), (gVar 9)]) l_raised_0))))
def l_raised_2 : SS :=
    (sPost [5, 6, 7, 8, 9] (sSeq (sAsg (gVar 4) (eC (.bool false)))
    (sWk [5, 6, 7, 8, 9] (sFor (iZip (eVar 0) (eVar 2)) (gTupD [(gVar 5), (gVar 6)]) l_raised_1))))
def b_raised : SS :=
    (sSeq (sOwn 3 (e2 repD (eLst (aCons (eC (.int 0)) aNil)) (eA dLen (aCons (eVar 1) aNil))))
    (sSeq (sAsg (gVar 4) (eC (.bool true)))
    (sSeq (sWk [5, 6, 7, 8, 9] (sNox (sWhile w_raised_2 l_raised_2)))
    (sRet (eVar 3)))))
def f_raised (ds : List Da) : R Da := runDef 10 b_raised ds

def b_button_prices : SS :=
    (sSeq (sExpr (eA f_need_fronts (aCons (eVar 0) (aCons (eVar 1) aNil))))
    (sSeq (sAsg (gVar 2) (eA f_best_pairing (aCons (eVar 0) (aCons (eVar 1) aNil))))
    (sSeq (sAsg (gVar 3) (eA f_raised (aCons (eVar 0) (aCons (eVar 1) (aCons (eVar 2) aNil)))))
    (sSeq (sAsg (gVar 4) (eLc (iZip (eVar 0) (eVar 2)) (gTupD [(gVar 5), (gVar 6)]) [5, 6] eYes (e2 dAdd (eA dAbs (aCons (e2 dSub (eVar 5) (e2 dIx (eVar 1) (eVar 6))) aNil)) (e2 dIx (eVar 3) (eVar 6)))))
    (sRet (eTup (aCons (eA dTuple (aCons (eVar 4) aNil)) (aCons (eA dTuple (aCons (eVar 3) aNil)) aNil))))))))
def f_button_prices (ds : List Da) : R Da := runDef 7 b_button_prices ds

def b_is_button_prices : SS :=
    (sSeq (sExpr (eA f_need_fronts (aCons (eVar 0) (aCons (eVar 1) aNil))))
    (sSeq (sIf (e1 dNot (eA f_are_prices (aCons (eVar 0) (aCons (eVar 1) (aCons (eVar 2) aNil))))) (sRet (eC (.bool false))) sNx)
    (sRet (e2 dEq (e2 dSub (eA dSumL (aCons (e2 dIx (eVar 2) (eC (.int 0))) aNil)) (eA dSumL (aCons (e2 dIx (eVar 2) (eC (.int 1))) aNil))) (e2 dIx (e2 dIx (eA f_table_of (aCons (eVar 0) (aCons (eVar 1) aNil))) (e1 dNeg (eC (.int 1)))) (e1 dNeg (eC (.int 1))))))))
def f_is_button_prices (ds : List Da) : R Da := runDef 3 b_is_button_prices ds

def b__law_whole : SS :=
    (sRet (eAnd (e1 (dIsi .int) (eVar 0)) (e1 dNot (e1 (dIsi .bool) (eVar 0)))))
def f__law_whole (ds : List Da) : R Da := runDef 1 b__law_whole ds

def b__law_mixed : SS :=
    (sSeq (sAsg (gVar 2) (e2 dAdd (e2 dAdd (e2 mulI (eA dInt (aCons (eVar 0) aNil)) (eC (.int 48271))) (e2 mulI (eVar 1) (eC (.int 69621)))) (eC (.int 11))))
    (sRet (e2 dMod (eA dInt (aCons (e2 dAdd (e2 mulI (eVar 2) (eC (.int 16807))) (e2 dDiv (eVar 2) (eC (.int 8191)))) aNil)) (eC (.int 2147483647)))))
def f__law_mixed (ds : List Da) : R Da := runDef 3 b__law_mixed ds

def l__law_row_0 : SS :=
    (sPost [6] (sIf (eVar 5) (sSeq (sAppend 3 (e2 dMod (eA dInt (aCons (eVar 4) aNil)) (eVar 2)))
    (sAsg (gVar 4) (e2 dDiv (eVar 4) (eVar 2)))) (sAppend 3 (e2 dMod (e2 dDiv (eA f__law_mixed (aCons (eVar 0) (aCons (eVar 6) aNil))) (eC (.int 7))) (eVar 2)))))
def b__law_row : SS :=
    (sSeq (sOwn 3 (eLst aNil))
    (sSeq (sAsg (gVar 4) (eA dInt (aCons (eVar 0) aNil)))
    (sSeq (sAsg (gVar 5) (e2 dGe (eVar 4) (eC (.int 1000000000000000000))))
    (sSeq (sWk [6] (sNox (sFor (iRng1 (eVar 1)) (gVar 6) l__law_row_0)))
    (sRet (eVar 3))))))
def f__law_row (ds : List Da) : R Da := runDef 7 b__law_row ds

def b__law_at : SS :=
    (sSeq (sIf (e2 dLt (eVar 1) (eA dLen (aCons (eVar 0) aNil))) (sRet (eA dInt (aCons (e2 dIx (eVar 0) (eVar 1)) aNil))) sNx)
    (sRet (e2 dAdd (eC (.int 5)) (e2 mulI (eC (.int 3)) (eVar 1)))))
def f__law_at (ds : List Da) : R Da := runDef 2 b__law_at ds

def b__law_places : SS :=
    (sSeq (sAsg (gVar 3) (eA f__law_row (aCons (eVar 0) (aCons (e2 dAdd (eVar 1) (eC (.int 1))) (aCons (eC (.int 1000)) aNil)))))
    (sRet (eA dTuple (aCons (eA dSorted (aCons (eLc (iRng1 (e2 dMod (e2 dIx (eVar 3) (eC (.int 0))) (e2 dAdd (eVar 1) (eC (.int 1))))) (gVar 4) [4] eYes (e2 dMod (e2 dIx (eVar 3) (e2 dAdd (eC (.int 1)) (eVar 4))) (eVar 2))) aNil)) aNil))))
def f__law_places (ds : List Da) : R Da := runDef 5 b__law_places ds

def w__law_fronts_0 : SE :=
    (e2 dLt (eA dLen (aCons (eVar 7) aNil)) (eA dLen (aCons (eVar 6) aNil)))
def l__law_fronts_0 : SS :=
    (sPost [0, 1, 2, 3, 4, 5] (sAsg (gVar 7) (eA dTuple (aCons (eA dSorted (aCons (e2 dAdd (eVar 7) (eTup (aCons (e2 dDiv (e2 dIx (eVar 6) (eA dLen (aCons (eVar 7) aNil))) (eC (.int 2))) aNil))) aNil)) aNil))))
def b__law_fronts : SS :=
    (sSeq (sAsg (gVar 5) (e2 dIx (eLst (aCons (eC (.int 6)) (aCons (eC (.int 30)) (aCons (eC (.int 201)) aNil)))) (e2 dIx (eA f__law_row (aCons (eVar 2) (aCons (eC (.int 1)) (aCons (eC (.int 3)) aNil)))) (eC (.int 0)))))
    (sSeq (sAsg (gVar 6) (eA f__law_places (aCons (eVar 0) (aCons (eVar 3) (aCons (eVar 5) aNil)))))
    (sSeq (sAsg (gVar 7) (eA f__law_places (aCons (eVar 1) (aCons (eVar 4) (aCons (eVar 5) aNil)))))
    (sSeq (sWk [0, 1, 2, 3, 4, 5] (sNox (sWhile w__law_fronts_0 l__law_fronts_0)))
    (sRet (eTup (aCons (eVar 6) (aCons (eVar 7) aNil))))))))
def f__law_fronts (ds : List Da) : R Da := runDef 8 b__law_fronts ds

def l__law_paired_0 : SS :=
    (sPost [0, 2, 7] (sIf (e2 dNotIn (eVar 7) (eVar 5)) (sAppend 4 (eTup (aCons (e2 dAdd (eVar 5) (eTup (aCons (eVar 7) aNil))) (aCons (e2 dAdd (eVar 6) (eA dAbs (aCons (e2 dSub (eVar 3) (e2 dIx (eVar 1) (eVar 7))) aNil))) aNil)))) sNx))
def l__law_paired_1 : SS :=
    (sPost [0, 5, 6, 7] (sWk [0, 2, 7] (sFor (iRng1 (eA dLen (aCons (eVar 1) aNil))) (gVar 7) l__law_paired_0)))
def l__law_paired_2 : SS :=
    (sPost [3, 4, 5, 6, 7] (sSeq (sOwn 4 (eLst aNil))
    (sSeq (sWk [0, 5, 6, 7] (sFor (iL (eVar 2)) (gTupD [(gVar 5), (gVar 6)]) l__law_paired_1))
    (sAsg (gVar 2) (eVar 4)))))
def b__law_paired : SS :=
    (sSeq (sAsg (gVar 2) (eLst (aCons (eTup (aCons (eTup aNil) (aCons (eC (.int 0)) aNil))) aNil)))
    (sSeq (sWk [3, 4, 5, 6, 7] (sNox (sFor (iL (eVar 0)) (gVar 3) l__law_paired_2)))
    (sRet (eVar 2))))
def f__law_paired (ds : List Da) : R Da := runDef 8 b__law_paired ds

def b__law_order : SS :=
    (sSeq (sAsg (gVar 2) (eA f__law_row (aCons (eVar 0) (aCons (eVar 1) (aCons (eC (.int 1000)) aNil)))))
    (sRet (eA dTuple (aCons (eLc (iL (eA dSortG (aCons (eLc (iRng1 (eVar 1)) (gVar 4) [4] eYes (eTup (aCons (e2 dIx (eVar 2) (eVar 4)) (aCons (eVar 4) aNil)))) aNil))) (gVar 3) [3] eYes (e2 dIx (eVar 3) (eC (.int 1)))) aNil))))
def f__law_order (ds : List Da) : R Da := runDef 5 b__law_order ds

def b__law_flag : SS :=
    (sSeq (sIf (eVar 1) (sRet (e1 (dIsB true) (eVar 0))) sNx)
    (sRet (e1 (dIsB false) (eVar 0))))
def f__law_flag (ds : List Da) : R Da := runDef 2 b__law_flag ds

def l__law_table_0 : SS :=
    (sPost [0, 5, 6] (sSeq (sOwn 6 (eLst aNil))
    (sSeq (sIf (e1 dNotN (e2 dIx (eVar 4) (eVar 5))) (sAppend 6 (e2 dIx (eVar 4) (eVar 5))) sNx)
    (sSeq (sIf (e1 dNotN (e2 dIx (eVar 2) (eVar 5))) (sAppend 6 (e2 dAdd (e2 dIx (eVar 2) (eVar 5)) (eA dAbs (aCons (e2 dSub (eVar 3) (e2 dIx (eVar 1) (eVar 5))) aNil)))) sNx)
    (sIf (eVar 6) (sAppend 4 (eA dMinL (aCons (eVar 6) aNil))) (sAppend 4 (eC .none)))))))
def l__law_table_1 : SS :=
    (sPost [3, 4, 5, 6] (sSeq (sOwn 4 (eLst (aCons (eC .none) aNil)))
    (sSeq (sWk [0, 5, 6] (sFor (iRng1 (eA dLen (aCons (eVar 1) aNil))) (gVar 5) l__law_table_0))
    (sAsg (gVar 2) (eVar 4)))))
def b__law_table : SS :=
    (sSeq (sAsg (gVar 2) (eLc (iRng1 (e2 dAdd (eA dLen (aCons (eVar 1) aNil)) (eC (.int 1)))) (gVar 5) [5] eYes (eC (.int 0))))
    (sSeq (sWk [3, 4, 5, 6] (sNox (sFor (iL (eVar 0)) (gVar 3) l__law_table_1)))
    (sRet (e2 dIx (eVar 2) (e1 dNeg (eC (.int 1)))))))
def f__law_table (ds : List Da) : R Da := runDef 7 b__law_table ds

def l__law_are_prices_0 : SS :=
    (sPost [3] (sIf (eA dAny (aCons (eLc (iRng1 (eA dLen (aCons (eVar 1) aNil))) (gVar 5) [5] eYes (e2 dGt (e2 dSub (e2 dIx (e2 dIx (eVar 2) (eC (.int 0))) (eVar 3)) (e2 dIx (e2 dIx (eVar 2) (eC (.int 1))) (eVar 5))) (eA dAbs (aCons (e2 dSub (e2 dIx (eVar 0) (eVar 3)) (e2 dIx (eVar 1) (eVar 5))) aNil)))) aNil)) (sRet (eC (.bool false))) sNx))
def b__law_are_prices : SS :=
    (sSeq (sIf (eOr (e1 dNot (e1 (dIsi .tuple) (eVar 2))) (eOr (e2 dNe (eA dLen (aCons (eVar 2) aNil)) (eC (.int 2))) (e1 dNot (eA dAll (aCons (eLc (iL (eVar 2)) (gVar 6) [6] eYes (e1 (dIsi .tuple) (eVar 6))) aNil))))) (sRet (eC (.bool false))) sNx)
    (sSeq (sIf (eOr (e2 dNe (eA dLen (aCons (e2 dIx (eVar 2) (eC (.int 0))) aNil)) (eA dLen (aCons (eVar 0) aNil))) (eOr (e2 dNe (eA dLen (aCons (e2 dIx (eVar 2) (eC (.int 1))) aNil)) (eA dLen (aCons (eVar 1) aNil))) (e1 dNot (eA dAll (aCons (eLc (iL (e2 dAdd (e2 dIx (eVar 2) (eC (.int 0))) (e2 dIx (eVar 2) (eC (.int 1))))) (gVar 4) [4] eYes (eA f__law_whole (aCons (eVar 4) aNil))) aNil))))) (sRet (eC (.bool false))) sNx)
    (sSeq (sIf (eOr (eA dAny (aCons (eLc (iL (e2 dAdd (e2 dIx (eVar 2) (eC (.int 0))) (e2 dIx (eVar 2) (eC (.int 1))))) (gVar 4) [4] eYes (e2 dGt (eA dAbs (aCons (eVar 4) aNil)) (eC (.int 1000)))) aNil)) (eA dAny (aCons (eLc (iL (e2 dIx (eVar 2) (eC (.int 1)))) (gVar 4) [4] eYes (e2 dLt (eVar 4) (eC (.int 0)))) aNil))) (sRet (eC (.bool false))) sNx)
    (sSeq (sWk [3] (sNox (sFor (iRng1 (eA dLen (aCons (eVar 0) aNil))) (gVar 3) l__law_are_prices_0)))
    (sRet (eC (.bool true)))))))
def f__law_are_prices (ds : List Da) : R Da := runDef 7 b__law_are_prices ds

def b__law_word : SS :=
    (sSeq (sTry (sIf (e2 dEq (eVar 2) (eC (.str "least"))) (sExpr (eA f_button_least (aCons (eVar 0) (aCons (eVar 1) aNil)))) (sExpr (eA f_pairing_cost (aCons (eVar 0) (aCons (eVar 1) (aCons (eVar 2) aNil)))))) ["NoButtons", "NoPlan"] (fun c => if c = ("NoButtons" : Str) then .str "buttons" else .str "plan"))
    (sRet (eC (.str "let"))))
def f__law_word (ds : List Da) : R Da := runDef 4 b__law_word ds

def t_law_0 : SS :=
    (sAsg (gVar 1) (e2 dIx (eA f__law_row (aCons (eA f__law_at (aCons (eVar 0) (aCons (eC (.int 2)) aNil))) (aCons (eC (.int 2)) (aCons (eC (.int 2)) aNil)))) (eC (.int 1))))
def t_law_1 : SS :=
    (sAsg (gTupD [(gVar 2), (gVar 3)]) (eA f__law_fronts (aCons (eA f__law_at (aCons (eVar 0) (aCons (eC (.int 0)) aNil))) (aCons (eA f__law_at (aCons (eVar 0) (aCons (eC (.int 1)) aNil))) (aCons (eA f__law_at (aCons (eVar 0) (aCons (eC (.int 2)) aNil))) (aCons (e2 dIx (eLst (aCons (eC (.int 4)) (aCons (eC (.int 8)) aNil))) (eVar 1)) (aCons (e2 dIx (eLst (aCons (eC (.int 6)) (aCons (eC (.int 10)) aNil))) (eVar 1)) aNil)))))))
def t_law_2 : SS :=
    (sAsg (gVar 4) (eA f__law_table (aCons (eVar 2) (aCons (eVar 3) aNil))))
def t_law_3 : SS :=
    (sAsg (gVar 5) (eA f_button_best (aCons (eVar 2) (aCons (eVar 3) aNil))))
def t_law_4 : SS :=
    (sIf (eOr (e2 dNe (eA f_button_least (aCons (eVar 2) (aCons (eVar 3) aNil))) (eVar 4)) (e1 (dIsNotB true) (eA f_is_button_best (aCons (eVar 2) (aCons (eVar 3) (aCons (eVar 5) aNil)))))) (sRet (eC (.bool false))) sNx)
def t_law_5 : SS :=
    (sIf (eAnd (e2 dEq (eVar 1) (eC (.int 0))) (e2 dNe (eVar 4) (eA dMinL (aCons (eLc (iL (eA f__law_paired (aCons (eVar 2) (aCons (eVar 3) aNil)))) (gVar 8) [8] eYes (e2 dIx (eVar 8) (eC (.int 1)))) aNil)))) (sRet (eC (.bool false))) sNx)
def t_law_6 : SS :=
    (sIf (eOr (e1 (dIsNotB true) (eA f_is_pairing (aCons (eVar 2) (aCons (eVar 3) (aCons (eVar 5) aNil))))) (e2 dNe (eA f_pairing_cost (aCons (eVar 2) (aCons (eVar 3) (aCons (eVar 5) aNil)))) (eVar 4))) (sRet (eC (.bool false))) sNx)
def t_law_7 : SS :=
    (sIf (eOr (e2 dNe (eA dSumL (aCons (eLc (iRng1 (eA dLen (aCons (eVar 5) aNil))) (gVar 15) [15] eYes (eA dAbs (aCons (e2 dSub (e2 dIx (eVar 2) (eVar 15)) (e2 dIx (eVar 3) (e2 dIx (eVar 5) (eVar 15)))) aNil))) aNil)) (eVar 4)) (e2 dNe (eA dLen (aCons (eVar 5) aNil)) (eA dLen (aCons (eVar 2) aNil)))) (sRet (eC (.bool false))) sNx)
def t_law_8 : SS :=
    (sAsg (gVar 6) (eSl (eA f__law_order (aCons (eA f__law_at (aCons (eVar 0) (aCons (eC (.int 3)) aNil))) (aCons (eA dLen (aCons (eVar 3) aNil)) aNil))) oNone (oSome (eA dLen (aCons (eVar 2) aNil)))))
def t_law_9 : SS :=
    (sAsg (gVar 7) (eA dSumL (aCons (eLc (iRng1 (eA dLen (aCons (eVar 2) aNil))) (gVar 15) [15] eYes (eA dAbs (aCons (e2 dSub (e2 dIx (eVar 2) (eVar 15)) (e2 dIx (eVar 3) (e2 dIx (eVar 6) (eVar 15)))) aNil))) aNil)))
def t_law_10 : SS :=
    (sIf (eOr (e1 (dIsNotB true) (eA f_is_pairing (aCons (eVar 2) (aCons (eVar 3) (aCons (eVar 6) aNil))))) (eOr (e2 dNe (eA f_pairing_cost (aCons (eVar 2) (aCons (eVar 3) (aCons (eVar 6) aNil)))) (eVar 7)) (e2 dLt (eVar 7) (eVar 4)))) (sRet (eC (.bool false))) sNx)
def t_law_11 : SS :=
    (sIf (e1 dNot (eA f__law_flag (aCons (eA f_is_button_best (aCons (eVar 2) (aCons (eVar 3) (aCons (eVar 6) aNil)))) (aCons (e2 dEq (eVar 7) (eVar 4)) aNil)))) (sRet (eC (.bool false))) sNx)
def t_law_12 : SS :=
    (sAsg (gVar 8) (eA f_button_prices (aCons (eVar 2) (aCons (eVar 3) aNil))))
def t_law_13 : SS :=
    (sIf (eOr (e1 dNot (eA f__law_are_prices (aCons (eVar 2) (aCons (eVar 3) (aCons (eVar 8) aNil))))) (e2 dNe (e2 dSub (eA dSumL (aCons (e2 dIx (eVar 8) (eC (.int 0))) aNil)) (eA dSumL (aCons (e2 dIx (eVar 8) (eC (.int 1))) aNil))) (eVar 4))) (sRet (eC (.bool false))) sNx)
def t_law_14 : SS :=
    (sIf (eOr (e1 (dIsNotB true) (eA f_is_button_prices (aCons (eVar 2) (aCons (eVar 3) (aCons (eVar 8) aNil))))) (e1 (dIsNotB false) (eA f_is_button_prices (aCons (eVar 2) (aCons (eVar 3) (aCons (eA dList (aCons (eVar 8) aNil)) aNil)))))) (sRet (eC (.bool false))) sNx)
def t_law_15 : SS :=
    (sAsg (gVar 9) (eA f__law_row (aCons (eA f__law_at (aCons (eVar 0) (aCons (eC (.int 4)) aNil))) (aCons (eC (.int 3)) (aCons (eC (.int 60)) aNil)))))
def l_law_0 : SS :=
    (sPost [0, 1, 5, 7, 12, 13, 14] (sAppend 10 (eTup (aCons (e2 dAdd (e2 dAdd (eSl (e2 dIx (eVar 8) (eC (.int 0))) oNone (oSome (eVar 11))) (eTup (aCons (e2 dAdd (e2 dIx (e2 dIx (eVar 8) (eC (.int 0))) (eVar 11)) (eVar 12)) aNil))) (eSl (e2 dIx (eVar 8) (eC (.int 0))) (oSome (e2 dAdd (eVar 11) (eC (.int 1)))) oNone)) (aCons (e2 dIx (eVar 8) (eC (.int 1))) aNil)))))
def t_law_17 : SS :=
    (sIf (eVar 2) (sSeq (sAsg (gVar 11) (e2 dMod (e2 dIx (eVar 9) (eC (.int 0))) (eA dLen (aCons (eVar 2) aNil))))
    (sWk [0, 1, 5, 7, 12, 13, 14] (sNox (sFor (iL (eLst (aCons (eC (.int 1)) (aCons (e2 dSub (eC (.int 0)) (eC (.int 1))) aNil)))) (gVar 12) l_law_0)))) sNx)
def l_law_1 : SS :=
    (sPost [0, 1, 5, 7, 9, 12, 13, 14] (sAppend 10 (eTup (aCons (e2 dIx (eVar 8) (eC (.int 0))) (aCons (e2 dAdd (e2 dAdd (eSl (e2 dIx (eVar 8) (eC (.int 1))) oNone (oSome (eVar 11))) (eTup (aCons (e2 dAdd (e2 dIx (e2 dIx (eVar 8) (eC (.int 1))) (eVar 11)) (eVar 12)) aNil))) (eSl (e2 dIx (eVar 8) (eC (.int 1))) (oSome (e2 dAdd (eVar 11) (eC (.int 1)))) oNone)) aNil)))))
def t_law_18 : SS :=
    (sIf (eVar 3) (sSeq (sAsg (gVar 11) (e2 dMod (e2 dIx (eVar 9) (eC (.int 1))) (eA dLen (aCons (eVar 3) aNil))))
    (sWk [0, 1, 5, 7, 9, 12, 13, 14] (sNox (sFor (iL (eLst (aCons (eC (.int 1)) (aCons (e2 dSub (eC (.int 0)) (eC (.int 1))) aNil)))) (gVar 12) l_law_1)))) sNx)
def t_law_19 : SS :=
    (sAppend 10 (eTup (aCons (eA dTuple (aCons (eLc (iL (e2 dIx (eVar 8) (eC (.int 0)))) (gVar 16) [16] eYes (e2 dAdd (eVar 16) (eC (.int 5)))) aNil)) (aCons (eA dTuple (aCons (eLc (iL (e2 dIx (eVar 8) (eC (.int 1)))) (gVar 16) [16] eYes (e2 dAdd (eVar 16) (eC (.int 5)))) aNil)) aNil))))
def l_law_2 : SS :=
    (sPost [0, 1, 5, 7, 8, 9, 11, 12, 13, 14] (sSeq (sAsg (gVar 14) (eA f__law_are_prices (aCons (eVar 2) (aCons (eVar 3) (aCons (eVar 13) aNil)))))
    (sSeq (sIf (eAnd (eVar 14) (e2 dGt (e2 dSub (eA dSumL (aCons (e2 dIx (eVar 13) (eC (.int 0))) aNil)) (eA dSumL (aCons (e2 dIx (eVar 13) (eC (.int 1))) aNil))) (eVar 4))) (sRet (eC (.bool false))) sNx)
    (sIf (e1 dNot (eA f__law_flag (aCons (eA f_is_button_prices (aCons (eVar 2) (aCons (eVar 3) (aCons (eVar 13) aNil)))) (aCons (eAnd (eVar 14) (e2 dEq (e2 dSub (eA dSumL (aCons (e2 dIx (eVar 13) (eC (.int 0))) aNil)) (eA dSumL (aCons (e2 dIx (eVar 13) (eC (.int 1))) aNil))) (eVar 4))) aNil)))) (sRet (eC (.bool false))) sNx))))
def t_law_20 : SS :=
    (sWk [0, 1, 5, 7, 8, 9, 11, 12, 13, 14] (sNox (sFor (iL (eVar 10)) (gVar 13) l_law_2)))
def l_law_3 : SS :=
    (sPost [0, 1, 4, 5, 7, 8, 9, 10, 11, 12, 13, 14] (sIf (eOr (e1 (dIsNotB false) (eA f_is_pairing (aCons (eVar 2) (aCons (eVar 3) (aCons (eVar 13) aNil))))) (e2 dNe (eA f__law_word (aCons (eVar 2) (aCons (eVar 3) (aCons (eVar 13) aNil)))) (eC (.str "plan")))) (sRet (eC (.bool false))) sNx))
def t_law_21 : SS :=
    (sWk [0, 1, 4, 5, 7, 8, 9, 10, 11, 12, 13, 14] (sNox (sFor (iL (eLst (aCons (eC .none) (aCons (eA dList (aCons (eVar 6) aNil)) (aCons (e2 dAdd (eVar 6) (eTup (aCons (eC (.int 0)) aNil))) (aCons (e2 dAdd (e2 repT (eTup (aCons (eA dLen (aCons (eVar 3) aNil)) aNil)) (eA dLen (aCons (eVar 2) aNil))) (eTup (aCons (eC (.int 0)) aNil))) aNil)))))) (gVar 13) l_law_3)))
def l_law_4 : SS :=
    (sPost [0, 1, 2, 3, 4, 5, 6, 7, 8, 9, 10, 11, 12, 13, 14] (sIf (eOr (e2 dNe (eA f__law_word (aCons (eVar 13) (aCons (e2 repT (eTup (aCons (eC (.int 1)) aNil)) (eC (.int 10))) (aCons (eC (.str "least")) aNil)))) (eC (.str "buttons"))) (e2 dNe (eA f__law_word (aCons (eVar 13) (aCons (e2 repT (eTup (aCons (eC (.int 1)) aNil)) (eC (.int 10))) (aCons (eC .none) aNil)))) (eC (.str "buttons")))) (sRet (eC (.bool false))) sNx))
def t_law_22 : SS :=
    (sWk [0, 1, 2, 3, 4, 5, 6, 7, 8, 9, 10, 11, 12, 13, 14] (sNox (sFor (iL (eLst (aCons (eC .none) (aCons (eLst (aCons (eC (.int 1)) aNil)) (aCons (eTup (aCons (e2 dSub (eC (.int 0)) (eC (.int 1))) aNil)) (aCons (eTup (aCons (eC (.int 201)) aNil)) (aCons (eTup (aCons (eC (.int 2)) (aCons (eC (.int 1)) aNil))) (aCons (eTup (aCons (eC (.bool true)) aNil)) (aCons (e2 repT (eTup (aCons (eC (.int 1)) aNil)) (eC (.int 9))) (aCons (eC (.str "?")) aNil)))))))))) (gVar 13) l_law_4)))
def t_law_23 : SS :=
    (sRet (eAnd (eA dAll (aCons (eLc (iL (eLst (aCons (eC .none) (aCons (eLst (aCons (eC (.int 1)) aNil)) (aCons (eTup (aCons (eC (.int 2)) (aCons (eC (.int 1)) aNil))) (aCons (e2 repT (eTup (aCons (eC (.int 1)) aNil)) (eC (.int 11))) aNil)))))) (gVar 13) [13] eYes (e2 dEq (eA f__law_word (aCons (eTup aNil) (aCons (eVar 13) (aCons (eC (.str "least")) aNil)))) (eC (.str "buttons")))) aNil)) (e2 dEq (eA f__law_word (aCons (eTup (aCons (eC (.int 1)) (aCons (eC (.int 2)) aNil))) (aCons (eTup (aCons (eC (.int 1)) aNil)) (aCons (eC .none) aNil)))) (eC (.str "buttons")))))
def b_law : SS :=
    (sSeq t_law_0
    (sSeq t_law_1
    (sSeq t_law_2
    (sSeq t_law_3
    (sSeq t_law_4
    (sSeq t_law_5
    (sSeq t_law_6
    (sSeq t_law_7
    (sSeq t_law_8
    (sSeq t_law_9
    (sSeq t_law_10
    (sSeq t_law_11
    (sSeq t_law_12
    (sSeq t_law_13
    (sSeq t_law_14
    (sSeq t_law_15
    (sSeq (sOwn 10 (eLst aNil))
    (sSeq t_law_17
    (sSeq t_law_18
    (sSeq t_law_19
    (sSeq t_law_20
    (sSeq t_law_21
    (sSeq t_law_22
    t_law_23)))))))))))))))))))))))
def f_law (ds : List Da) : R Da := runDef 17 b_law ds
end K74
set_option Elab.async false
set_option linter.all false
set_option maxRecDepth 10000
namespace K74
open PySem DL
/-! the defs that all laws share -/
theorem is_integer (i : Int) : f_is_integer [.int i] = .ok (.bool true) := by
  simp [f_is_integer, runDef, b_is_integer]
theorem is_between (i a b : Int) : f_is_between [.int i, .int a, .int b] = .ok (.bool (decide (a ≤ i) && decide (i ≤ b))) := by
  simp [f_is_between, runDef, b_is_between, is_integer]
  by_cases h : a ≤ i <;> simp [h]
theorem law_at' (ns : List Int) (k : Nat) : ∃ c : Int, f__law_at [.list (ns.map PyData.int), di k] = .ok (.int c) := by
  by_cases h : k < ns.length
  · have h1 : (k : Int) < (ns.length : Int) := by omega
    have e : dIx (.list (ns.map PyData.int)) (di k) = .ok (.int ns[k]) := by
      rw [dIx_list_nat, List.getElem?_map, List.getElem?_eq_getElem h]
      rfl
    have e2 : dLt (di k) (.int ns.length) = .ok (.bool true) := by simp [di, h]
    exact ⟨ns[k], by simp [f__law_at, runDef_, b__law_at, e, e2, dLen_list]⟩
  · have e2 : dLt (di k) (.int ns.length) = .ok (.bool false) := by simp [di]; omega
    have e3 : mulI (.int 3) (di k) = .ok (.int (3 * k)) := mulI_sl 3 k (by decide) (by decide)
    exact ⟨5 + 3 * k, by simp [f__law_at, runDef_, b__law_at, e2, e3, dLen_list]⟩
theorem law_at (ns : List Int) (k : Nat) : ∃ c : Int, f__law_at [.list (il ns), di k] = .ok (.int c) := law_at' ns k
theorem law_mixed (c : Int) (k : Nat) : ∃ v : Int, f__law_mixed [.int c, di k] = .ok (.int v) := by
  have m1 : mulI (.int c) (.int 48271) = .ok (.int (c * 48271)) := mulI_sr _ _ (by decide) (by decide)
  have m2 : mulI (di k) (.int 69621) = .ok (.int (k * 69621)) := mulI_sr _ _ (by decide) (by decide)
  have m3 : mulI (.int (c * 48271 + k * 69621 + 11)) (.int 16807) = .ok (.int ((c * 48271 + k * 69621 + 11) * 16807)) := mulI_sr _ _ (by decide) (by decide)
  have d1 := dDiv_pos (c * 48271 + k * 69621 + 11) 8191 (by decide) (by decide)
  have d2 := dMod_pos ((c * 48271 + k * 69621 + 11) * 16807 + (c * 48271 + k * 69621 + 11) / 8191) 2147483647 (by decide)
  refine ⟨((c * 48271 + k * 69621 + 11) * 16807 + (c * 48271 + k * 69621 + 11) / 8191) % 2147483647, ?_⟩
  simp [f__law_mixed, runDef_, b__law_mixed, m1, m2]
  simp [m3, d1]
  rw [d2]
  simp
/-- a script's number gives so many digits below top -/
theorem law_row' (c : Int) (many top : Nat) (hm : many ≤ big) (h0 : 0 < top) (h1 : top < 1073741824) : ∃ ds : List Nat, ds.length = many ∧ (∀ d, d ∈ ds → d < top) ∧ f__law_row [.int c, di many, di top] = .ok (.list (ds.map di)) := by
  let great : Bool := decide ((1000000000000000000 : Int) ≤ c)
  have t0 : (0 : Int) < top := by omega
  have t1 : (top : Int) < 1073741824 := by omega
  have dig : ∀ z : Int, ∃ d : Nat, d < top ∧ z % (top : Int) = d := fun z => by
    have a := Int.emod_nonneg z (show (top : Int) ≠ 0 by omega)
    have b := Int.emod_lt_of_pos z t0
    exact ⟨(z % (top : Int)).toNat, by omega, by omega⟩
  have key := forL_inv (g := gVar 6) (body := l__law_row_0) di (fun s : List Nat × Int => [some (.int c), some (di many), some (di top), some (.list (s.1.map di)), some (.int s.2), some (.bool great), none])
    (fun don s => s.1.length = don.length ∧ ∀ d, d ∈ s.1 → d < top) (List.range many) [] ([], c) ⟨rfl, fun _ h => nomatch h⟩ ?_
  · obtain ⟨s, ⟨e1, e2⟩, k⟩ := key
    refine ⟨s.1, by simpa using e1, e2, ?_⟩
    have g1 : dGe (.int c) (.int 1000000000000000000) = .ok (.bool great) := rfl
    have r := dRng_0 many hm
    simp [f__law_row, runDef_, b__law_row, g1]
    rw [r]
    simp
    simp at k
    rw [k]
    simp
  · rintro don x ⟨ds, left⟩ ⟨rest, er⟩ ⟨e1, e2⟩
    have lx : don.length < many := by
      have := congrArg List.length er
      simp at this
      omega
    have la : ds.length < big := by
      have : ds.length = don.length := e1
      omega
    cases hg : great with
    | true =>
      obtain ⟨d, hd, ed⟩ := dig left
      have q1 : dMod (.int left) (di top) = .ok (di d) := (dMod_pos left top t0).trans (by rw [ed]; rfl)
      have q2 : dDiv (.int left) (di top) = .ok (.int (left / top)) := dDiv_pos left top t0 t1
      refine ⟨(ds ++ [d], left / top), ⟨by simp; exact e1, fun y hy => ?_⟩, ?_⟩
      · rcases List.mem_append.mp hy with hy | hy
        · exact e2 y hy
        · rw [List.mem_singleton] at hy; subst hy; exact hd
      · simp [l__law_row_0, q1, q2, updE, la]
    | false =>
      obtain ⟨v, hv⟩ := law_mixed c x
      obtain ⟨d, hd, ed⟩ := dig (v / 7)
      have q1 : dDiv (.int v) (.int 7) = .ok (.int (v / 7)) := dDiv_pos v 7 (by decide) (by decide)
      have q2 : dMod (.int (v / 7)) (di top) = .ok (di d) := (dMod_pos (v / 7) top t0).trans (by rw [ed]; rfl)
      refine ⟨(ds ++ [d], left), ⟨by simp; exact e1, fun y hy => ?_⟩, ?_⟩
      · rcases List.mem_append.mp hy with hy | hy
        · exact e2 y hy
        · rw [List.mem_singleton] at hy; subst hy; exact hd
      · simp [l__law_row_0, hv, q1, q2, updE, la]
theorem law_row (c : Int) (many top : Nat) (hm : many ≤ big) (h0 : 0 < top) (h1 : top < 1073741824) : ∃ ds : List Nat, ds.length = many ∧ (∀ d, d ∈ ds → d < top) ∧ f__law_row [.int c, di many, di top] = .ok (.list (nl ds)) := law_row' c many top hm h0 h1
/-! pairing in order: plain -/
def dist (a b : Nat) : Nat := (a - b) + (b - a)
theorem dist_comm (a b : Nat) : dist a b = dist b a := by unfold dist; omega
def omin : Option Nat → Option Nat → Option Nat
  | none, y => y
  | some x, none => some x
  | some x, some y => some (min x y)
/-- the least cost of the first m in the first a -/
def Dt (d : Nat → Nat → Nat) : Nat → Nat → Option Nat
  | _, 0 => some 0
  | 0, _ + 1 => none
  | a + 1, m + 1 => omin (Dt d a (m + 1)) ((Dt d a m).map (· + d m a))
theorem Dt_zero (d : Nat → Nat → Nat) (a : Nat) : Dt d a 0 = some 0 := by cases a <;> rfl
theorem Dt_succ (d : Nat → Nat → Nat) (a m : Nat) : Dt d (a + 1) (m + 1) = omin (Dt d a (m + 1)) ((Dt d a m).map (· + d m a)) := rfl
theorem Dt_none (d : Nat → Nat → Nat) : ∀ a m, a < m → Dt d a m = none
  | _, 0, h => absurd h (Nat.not_lt_zero _)
  | 0, m + 1, _ => rfl
  | a + 1, m + 1, h => by rw [Dt_succ, Dt_none d a (m + 1) (by omega), Dt_none d a m (by omega)]; rfl
theorem Dt_some (d : Nat → Nat → Nat) : ∀ a m, m ≤ a → ∃ v, Dt d a m = some v
  | a, 0, _ => ⟨0, Dt_zero d a⟩
  | 0, m + 1, h => absurd h (by omega)
  | a + 1, m + 1, h => by
    obtain ⟨v, hv⟩ := Dt_some d a m (by omega)
    rw [Dt_succ, hv]
    cases Dt d a (m + 1) with
    | none => exact ⟨_, rfl⟩
    | some w => exact ⟨_, rfl⟩
def cost (d : Nat → Nat → Nat) (f : Nat → Nat) : Nat → Nat
  | 0 => 0
  | m + 1 => cost d f m + d m (f m)
structure Inj (f : Nat → Nat) (m a : Nat) : Prop where
  lt : ∀ i, i < m → f i < a
  inj : ∀ i j, i < m → j < m → f i = f j → i = j
def up (f : Nat → Nat) (j k : Nat) : Nat → Nat := fun i => if i = j then k else f i
theorem up_at (f : Nat → Nat) (j k : Nat) : up f j k j = k := if_pos rfl
theorem up_ne (f : Nat → Nat) {j k i : Nat} (h : i ≠ j) : up f j k i = f i := if_neg h
theorem cost_congr {d : Nat → Nat → Nat} {f g : Nat → Nat} : ∀ m, (∀ i, i < m → f i = g i) → cost d f m = cost d g m
  | 0, _ => rfl
  | m + 1, h => by rw [cost, cost, cost_congr m fun i hi => h i (by omega), h m (by omega)]
theorem cost_up (d : Nat → Nat → Nat) (f : Nat → Nat) (j k : Nat) : ∀ m, j < m → cost d (up f j k) m + d j (f j) = cost d f m + d j k
  | 0, h => absurd h (Nat.not_lt_zero _)
  | m + 1, h => by
    rw [cost, cost]
    by_cases e : m = j
    · subst e
      rw [up_at, cost_congr (f := up f m k) (g := f) m fun i hi => up_ne f (by omega)]
      omega
    · have := cost_up d f j k m (by omega)
      rw [up_ne f e]
      omega
def Monge (d : Nat → Nat → Nat) (m a : Nat) : Prop := ∀ i j k l, i ≤ j → j < m → k ≤ l → l < a → d i k + d j l ≤ d i l + d j k
theorem Monge.mono {d : Nat → Nat → Nat} {m a m' a' : Nat} (h : Monge d m a) (hm : m' ≤ m) (ha : a' ≤ a) : Monge d m' a' :=
  fun i j k l h1 h2 h3 h4 => h i j k l h1 (by omega) h3 (by omega)
/-- no pairing costs less -/
theorem Dt_le {d : Nat → Nat → Nat} : ∀ (a m : Nat) (f : Nat → Nat), Monge d m a → Inj f m a → ∃ v, Dt d a m = some v ∧ v ≤ cost d f m
  | a, 0, f, _, _ => ⟨0, Dt_zero d a, Nat.zero_le _⟩
  | 0, m + 1, f, _, h => absurd (h.lt 0 (by omega)) (Nat.not_lt_zero _)
  | a + 1, m + 1, f, mg, h => by
    -- the last hole goes to the last button
    have last : ∀ g : Nat → Nat, Inj g (m + 1) (a + 1) → g m = a → ∃ v, Dt d (a + 1) (m + 1) = some v ∧ v ≤ cost d g (m + 1) := fun g hg e => by
      have hg' : Inj g m a := ⟨fun i hi => by
        have h1 := hg.lt i (by omega)
        have h2 : g i ≠ a := fun z => by
          have := hg.inj i m (by omega) (by omega) (z.trans e.symm)
          omega
        omega, fun i j hi hj => hg.inj i j (by omega) (by omega)⟩
      obtain ⟨v, hv, hc⟩ := Dt_le a m g (mg.mono (by omega) (by omega)) hg'
      rw [Dt_succ, hv, cost, e]
      cases Dt d a (m + 1) with
      | none => exact ⟨_, rfl, by simp; omega⟩
      | some w => exact ⟨_, rfl, by simp; omega⟩
    by_cases hn : ∃ j, j < m + 1 ∧ f j = a
    · obtain ⟨j, hj, e⟩ := hn
      by_cases ej : j = m
      · subst ej
        exact last f h e
      · have hjm : j < m := by omega
        have hk := h.lt m (by omega)
        have hka : f m ≠ a := fun z => ej (h.inj j m hj (by omega) (e.trans z.symm))
        have key := last (up (up f j (f m)) m a) ⟨fun i hi => by
          by_cases e1 : i = m
          · subst e1; rw [up_at]; omega
          · rw [up_ne _ e1]
            by_cases e2 : i = j
            · subst e2; rw [up_at]; omega
            · rw [up_ne _ e2]; exact h.lt i hi, fun i i' hi hi' z => by
          have val : ∀ x, up (up f j (f m)) m a x = f (if x = m then j else if x = j then m else x) := fun x => by
            by_cases e1 : x = m
            · subst e1; rw [up_at, if_pos rfl, e]
            · rw [up_ne _ e1, if_neg e1]
              by_cases e2 : x = j
              · subst e2; rw [up_at, if_pos rfl]
              · rw [up_ne _ e2, if_neg e2]
          rw [val i, val i'] at z
          have z' := h.inj _ _ (by split <;> (try split) <;> omega) (by split <;> (try split) <;> omega) z
          split at z' <;> split at z' <;> (try split at z') <;> (try split at z') <;> omega⟩ (up_at _ _ _)
        obtain ⟨v, hv, hc⟩ := key
        refine ⟨v, hv, Nat.le_trans hc ?_⟩
        have c1 := cost_up d (up f j (f m)) m a (m + 1) (by omega)
        have c2 := cost_up d f j (f m) (m + 1) hj
        rw [up_ne f (Ne.symm ej)] at c1
        have mo := mg j m (f m) a (by omega) (by omega) (by omega) (by omega)
        rw [e] at c2
        omega
    · have hf : Inj f (m + 1) a := ⟨fun i hi => by
        have h1 := h.lt i hi
        have h2 : f i ≠ a := fun z => hn ⟨i, hi, z⟩
        omega, h.inj⟩
      obtain ⟨v, hv, hc⟩ := Dt_le a (m + 1) f (mg.mono (by omega) (by omega)) hf
      rw [Dt_succ, hv]
      cases Dt d a m with
      | none => exact ⟨v, rfl, hc⟩
      | some w => exact ⟨_, rfl, by simp; omega⟩
/-- the pairing told, from the last button on -/
def bp (d : Nat → Nat → Nat) : Nat → Nat → List Nat
  | _, 0 => []
  | 0, _ + 1 => []
  | a + 1, m + 1 => if Dt d (a + 1) (m + 1) = Dt d a (m + 1) then bp d a (m + 1) else a :: bp d a m
def costR (d : Nat → Nat → Nat) : List Nat → Nat
  | [] => 0
  | k :: l => d l.length k + costR d l
theorem bp_ok {d : Nat → Nat → Nat} : ∀ a m v, Dt d a m = some v → (bp d a m).length = m ∧ costR d (bp d a m) = v ∧ (bp d a m).Pairwise (· > ·) ∧ ∀ k, k ∈ bp d a m → k < a
  | a, 0, v, h => by
    rw [Dt_zero] at h
    cases h
    cases a <;> exact ⟨rfl, rfl, .nil, fun _ z => nomatch z⟩
  | 0, m + 1, v, h => by cases h
  | a + 1, m + 1, v, h => by
    rw [bp]
    by_cases e : Dt d (a + 1) (m + 1) = Dt d a (m + 1)
    · rw [if_pos e]
      obtain ⟨h1, h2, h3, h4⟩ := bp_ok a (m + 1) v (e ▸ h)
      exact ⟨h1, h2, h3, fun k hk => by have := h4 k hk; omega⟩
    · rw [if_neg e]
      rw [Dt_succ] at h e
      cases q : Dt d a m with
      | none =>
        rw [q] at e h
        exfalso
        apply e
        cases Dt d a (m + 1) <;> rfl
      | some w =>
        have hv : v = w + d m a := by
          rw [q] at e h
          cases z : Dt d a (m + 1) with
          | none => rw [z] at h; exact (Option.some.inj h).symm
          | some x =>
            rw [z] at h e
            have h' : min x (w + d m a) = v := Option.some.inj h
            have e' : ¬ min x (w + d m a) = x := fun y => e (congrArg some y)
            omega
        obtain ⟨h1, h2, h3, h4⟩ := bp_ok a m w q
        refine ⟨by rw [List.length_cons, h1], ?_, List.pairwise_cons.mpr ⟨h4, h3⟩, fun k hk => ?_⟩
        · rw [costR, h1, h2, hv]; omega
        · rcases List.mem_cons.mp hk with z | hk
          · omega
          · have := h4 k hk; omega
/-- a list of holes as a function -/
def fn (l : List Nat) (i : Nat) : Nat := l.getD i 0
theorem fn_get {l : List Nat} {i : Nat} (h : i < l.length) : fn l i = l[i] := by simp [fn, h]
theorem costR_fn (d : Nat → Nat → Nat) : ∀ l : List Nat, costR d l = cost d (fn l.reverse) l.length
  | [] => rfl
  | k :: l => by
    rw [costR, costR_fn d l, List.length_cons, cost]
    have e1 : fn (k :: l).reverse l.length = k := by
      rw [fn_get (by simp)]
      simp
    have e2 : cost d (fn (k :: l).reverse) l.length = cost d (fn l.reverse) l.length := cost_congr _ fun i hi => by
      rw [fn_get (by simp; omega), fn_get (by simpa using hi)]
      simp only [List.reverse_cons]
      rw [List.getElem_append_left (by simpa using hi)]
    rw [e1, e2]
    omega
def told (d : Nat → Nat → Nat) (a m : Nat) : List Nat := (bp d a m).reverse
theorem told_ok {d : Nat → Nat → Nat} {a m v : Nat} (h : Dt d a m = some v) : (told d a m).length = m ∧ cost d (fn (told d a m)) m = v ∧ (told d a m).Pairwise (· < ·) ∧ ∀ k, k ∈ told d a m → k < a := by
  obtain ⟨h1, h2, h3, h4⟩ := bp_ok a m v h
  refine ⟨by simp [told, h1], ?_, ?_, fun k hk => h4 k (List.mem_reverse.mp hk)⟩
  · rw [costR_fn, h1] at h2
    exact h2
  · exact List.pairwise_reverse.mpr h3
theorem inj_of_nodup {l : List Nat} {a : Nat} (h : l.Nodup) (hl : ∀ k, k ∈ l → k < a) : Inj (fn l) l.length a :=
  ⟨fun i hi => by rw [fn_get hi]; exact hl _ (List.getElem_mem hi), fun i j hi hj e => by
    rw [fn_get hi, fn_get hj] at e
    exact (List.getElem_inj h).mp e⟩
theorem fn_mono {l : List Nat} (h : l.Pairwise (· < ·)) {i j : Nat} (hij : i < j) (hj : j < l.length) : fn l i < fn l j := by
  rw [fn_get (by omega), fn_get hj]
  exact List.pairwise_iff_getElem.mp h i j (by omega) hj hij
/-! prices: the right-going part -/
def W (d : Nat → Nat → Nat) (q : Nat → Nat) (i t : Nat) : Int := (d i (q i) : Int) - d i t
def Ar (d : Nat → Nat → Nat) (q : Nat → Nat) : Nat → Nat → Int
  | 0, _ => 0
  | r + 1, t => if q r < t then max (Ar d q r t) (Ar d q r (q r) + W d q r t) else Ar d q r t
structure Inc (q : Nat → Nat) (m n : Nat) : Prop where
  lt : ∀ i, i < m → q i < n
  inc : ∀ i j, i < j → j < m → q i < q j
theorem Inc.le {q : Nat → Nat} {m n : Nat} (h : Inc q m n) {i j : Nat} (hij : i ≤ j) (hj : j < m) : q i ≤ q j := by
  by_cases e : i = j
  · subst e; exact Nat.le_refl _
  · exact Nat.le_of_lt (h.inc i j (by omega) hj)
theorem Inc.inj {q : Nat → Nat} {m n : Nat} (h : Inc q m n) {i j : Nat} (hi : i < m) (hj : j < m) (e : q i = q j) : i = j := by
  by_cases a : i < j
  · have := h.inc i j a hj; omega
  · by_cases b : j < i
    · have := h.inc j i b hi; omega
    · omega
theorem Inc.lt_iff {q : Nat → Nat} {m n : Nat} (h : Inc q m n) {i j : Nat} (hi : i < m) (hj : j < m) : q i < q j ↔ i < j := by
  constructor
  · intro z
    by_cases a : i < j
    · exact a
    · have := h.le (show j ≤ i by omega) hi; omega
  · exact fun z => h.inc i j z hj
theorem Ar_nonneg (d : Nat → Nat → Nat) (q : Nat → Nat) : ∀ r t, 0 ≤ Ar d q r t
  | 0, _ => Int.le_refl _
  | r + 1, t => by
    have := Ar_nonneg d q r t
    rw [Ar]
    split <;> omega
theorem Ar_mono (d : Nat → Nat → Nat) (q : Nat → Nat) (r t : Nat) : Ar d q r t ≤ Ar d q (r + 1) t := by
  rw [Ar]
  split <;> omega
theorem Ar_mono' (d : Nat → Nat → Nat) (q : Nat → Nat) (r t : Nat) : ∀ k, Ar d q r t ≤ Ar d q (r + k) t
  | 0 => Int.le_refl _
  | k + 1 => Int.le_trans (Ar_mono' d q r t k) (Ar_mono d q (r + k) t)
theorem Ar_still {d : Nat → Nat → Nat} {q : Nat → Nat} {m n : Nat} (h : Inc q m n) {r t : Nat} (ht : r < m → t ≤ q r) : ∀ k, r + k ≤ m → Ar d q (r + k) t = Ar d q r t
  | 0, _ => rfl
  | k + 1, hk => by
    rw [← Nat.add_assoc, Ar, if_neg (by have := h.le (show r ≤ r + k by omega) (by omega); have := ht (by omega); omega)]
    exact Ar_still h ht k (by omega)
theorem A_at {d : Nat → Nat → Nat} {q : Nat → Nat} {m n : Nat} (h : Inc q m n) {i : Nat} (hi : i < m) : Ar d q m (q i) = Ar d q i (q i) := by
  have := Ar_still (d := d) h (r := i) (t := q i) (fun _ => Nat.le_refl _) (m - i) (by omega)
  rwa [show i + (m - i) = m by omega] at this
theorem A_ge {d : Nat → Nat → Nat} {q : Nat → Nat} {m n : Nat} (h : Inc q m n) {i t : Nat} (hi : i < m) (ht : q i < t) : Ar d q m (q i) + W d q i t ≤ Ar d q m t := by
  rw [A_at h hi]
  have a : Ar d q i (q i) + W d q i t ≤ Ar d q (i + 1) t := by
    rw [Ar, if_pos ht]; omega
  have b := Ar_mono' d q (i + 1) t (m - (i + 1))
  rw [show i + 1 + (m - (i + 1)) = m by omega] at b
  omega
theorem A_eq {d : Nat → Nat → Nat} {q : Nat → Nat} {m n : Nat} (h : Inc q m n) (t : Nat) : ∀ r, r ≤ m → Ar d q r t = 0 ∨ ∃ k, k < r ∧ q k < t ∧ Ar d q r t = Ar d q m (q k) + W d q k t
  | 0, _ => .inl rfl
  | r + 1, hr => by
    rw [Ar]
    split
    · rename_i ht
      by_cases c : Ar d q r t ≤ Ar d q r (q r) + W d q r t
      · refine .inr ⟨r, by omega, ht, ?_⟩
        rw [A_at h (show r < m by omega)]
        omega
      · have e : max (Ar d q r t) (Ar d q r (q r) + W d q r t) = Ar d q r t := by omega
        rw [e]
        rcases A_eq h t r (by omega) with z | ⟨k, h1, h2, h3⟩
        · exact .inl z
        · exact .inr ⟨k, by omega, h2, h3⟩
    · rcases A_eq h t r (by omega) with z | ⟨k, h1, h2, h3⟩
      · exact .inl z
      · exact .inr ⟨k, by omega, h2, h3⟩
theorem A_le {d : Nat → Nat → Nat} {q g : Nat → Nat} {m n : Nat} (h : Inc q m n) (hg : ∀ i s t, i < m → s ≤ t → t < n → d i s + g s ≤ d i t + g t) (g0 : ∀ t, t < n → g 0 ≤ g t) : ∀ r t, r ≤ m → t < n → Ar d q r t ≤ (g t : Int) - g 0
  | 0, t, _, ht => by have := g0 t ht; rw [Ar]; omega
  | r + 1, t, hr, ht => by
    have a := A_le h hg g0 r t (by omega) ht
    rw [Ar]
    split
    · rename_i hq
      have b := A_le h hg g0 r (q r) (by omega) (h.lt r (by omega))
      have c := hg r (q r) t (by omega) (by omega) ht
      unfold W
      omega
    · exact a
/-- a hole that no button has is at price 0 on this side -/
theorem A_path {d : Nat → Nat → Nat} {q : Nat → Nat} {m n : Nat} (h : Inc q m n) : ∀ r t, r ≤ m → ∃ f : Nat → Nat, (∀ i, (r ≤ i ∨ t ≤ q i) → f i = q i) ∧
    (∀ i, i < r → q i < t → f i = t ∨ ∃ k, k < r ∧ q k < t ∧ f i = q k) ∧ (∀ i j, i < r → j < r → q i < t → q j < t → f i = f j → i = j) ∧ (cost d f m : Int) = cost d q m - Ar d q r t
  | 0, t, _ => ⟨q, fun _ _ => rfl, fun _ h => absurd h (Nat.not_lt_zero _), fun _ _ h => absurd h (Nat.not_lt_zero _), by rw [Ar]; omega⟩
  | r + 1, t, hr => by
    have keep : Ar d q (r + 1) t = Ar d q r t → ∃ f : Nat → Nat, (∀ i, (r + 1 ≤ i ∨ t ≤ q i) → f i = q i) ∧
    (∀ i, i < r + 1 → q i < t → f i = t ∨ ∃ k, k < r + 1 ∧ q k < t ∧ f i = q k) ∧ (∀ i j, i < r + 1 → j < r + 1 → q i < t → q j < t → f i = f j → i = j) ∧ (cost d f m : Int) = cost d q m - Ar d q (r + 1) t := fun e => by
      obtain ⟨f, f1, f2, f3, f4⟩ := A_path (d := d) h r t (by omega)
      refine ⟨f, fun i hi => f1 i (by omega), fun i hi ht => ?_, fun i j hi hj hti htj z => ?_, by rw [e]; exact f4⟩
      · by_cases ei : i = r
        · subst ei
          exact .inr ⟨i, hi, ht, f1 i (.inl (Nat.le_refl _))⟩
        · rcases f2 i (by omega) ht with z | ⟨k, k1, k2, k3⟩
          · exact .inl z
          · exact .inr ⟨k, by omega, k2, k3⟩
      · have no : ∀ x, x < r → q x < t → q r < t → f x ≠ q r := fun x hx htx htr z => by
          rcases f2 x hx htx with y | ⟨k, k1, k2, k3⟩
          · omega
          · have := h.inc k r k1 (by omega); omega
        by_cases ei : i = r
        · by_cases ej : j = r
          · omega
          · subst ei
            rw [f1 i (.inl (Nat.le_refl _))] at z
            exact absurd z.symm (no j (by omega) htj hti)
        · by_cases ej : j = r
          · subst ej
            rw [f1 j (.inl (Nat.le_refl _))] at z
            exact absurd z (no i (by omega) hti htj)
          · exact f3 i j (by omega) (by omega) hti htj z
    by_cases ht : q r < t
    · by_cases c : Ar d q r t ≤ Ar d q r (q r) + W d q r t
      · have e : Ar d q (r + 1) t = Ar d q r (q r) + W d q r t := by rw [Ar, if_pos ht]; omega
        obtain ⟨f, f1, f2, f3, f4⟩ := A_path (d := d) h r (q r) (by omega)
        have fr : f r = q r := f1 r (.inl (Nat.le_refl _))
        have lo : ∀ i, i < r → f i ≤ q r := fun i hi => by
          rcases f2 i hi (h.inc i r hi (by omega)) with y | ⟨k, k1, k2, k3⟩ <;> omega
        refine ⟨up f r t, fun i hi => ?_, fun i hi hti => ?_, fun i j hi hj hti htj z => ?_, ?_⟩
        · have : i ≠ r := by
            intro z; subst z; omega
          rw [up_ne _ this]
          refine f1 i ?_
          rcases hi with hi | hi
          · exact .inl (by omega)
          · exact .inr (by omega)
        · by_cases ei : i = r
          · subst ei; exact .inl (up_at _ _ _)
          · rw [up_ne _ ei]
            rcases f2 i (by omega) (h.inc i r (by omega) (by omega)) with y | ⟨k, k1, k2, k3⟩
            · exact .inr ⟨r, by omega, ht, y⟩
            · exact .inr ⟨k, by omega, by omega, k3⟩
        · by_cases ei : i = r
          · by_cases ej : j = r
            · omega
            · subst ei
              rw [up_at, up_ne _ ej] at z
              have := lo j (by omega); omega
          · by_cases ej : j = r
            · subst ej
              rw [up_at, up_ne _ ei] at z
              have := lo i (by omega); omega
            · rw [up_ne _ ei, up_ne _ ej] at z
              exact f3 i j (by omega) (by omega) (h.inc i r (by omega) (by omega)) (h.inc j r (by omega) (by omega)) z
        · have cu := cost_up d f r t m (by omega)
          rw [fr] at cu
          rw [e]
          unfold W
          omega
      · exact keep (by rw [Ar, if_pos ht]; omega)
    · exact keep (by rw [Ar, if_neg ht])
theorem A_free {d : Nat → Nat → Nat} {q : Nat → Nat} {m n : Nat} (h : Inc q m n) (opt : ∀ f, Inj f m n → cost d q m ≤ cost d f m) {t : Nat} (ht : t < n) (hf : ∀ i, i < m → q i ≠ t) : Ar d q m t = 0 := by
  obtain ⟨f, f1, f2, f3, f4⟩ := A_path (d := d) h m t (Nat.le_refl _)
  have val : ∀ i, i < m → (q i < t ∧ f i ≤ t) ∨ (t < q i ∧ f i = q i) := fun i hi => by
    have a := hf i hi
    by_cases c : q i < t
    · refine .inl ⟨c, ?_⟩
      rcases f2 i hi c with y | ⟨k, k1, k2, k3⟩ <;> omega
    · exact .inr ⟨by omega, f1 i (.inr (by omega))⟩
  have fi : Inj f m n := ⟨fun i hi => by
      have := h.lt i hi
      rcases val i hi with z | z <;> omega, fun i j hi hj e => by
      rcases val i hi with z | z
      · rcases val j hj with y | y
        · exact f3 i j hi hj z.1 y.1 e
        · omega
      · rcases val j hj with y | y
        · omega
        · exact h.inj hi hj (by omega)⟩
  have a := opt f fi
  have b := Ar_nonneg d q m t
  omega
/-! both sides -/
theorem right_ok {d : Nat → Nat → Nat} {q : Nat → Nat} {m n : Nat} (h : Inc q m n) (mg : Monge d m n) (A C : Nat → Int)
    (a1 : ∀ i t, i < m → q i < t → t < n → A (q i) + W d q i t ≤ A t)
    (a0 : ∀ t, 0 ≤ A t)
    (c1 : ∀ k t, k < m → t < q k → C (q k) + W d q k t ≤ C t)
    (c2 : ∀ t, t < n → C t = 0 ∨ ∃ k, k < m ∧ t < q k ∧ C t = C (q k) + W d q k t) :
    ∀ (x i t : Nat), n - q i ≤ x → i < m → q i < t → t < n → max (A (q i)) (C (q i)) + W d q i t ≤ max (A t) (C t)
  | 0, i, t, hx, hi, _, _ => by have := h.lt i hi; omega
  | x + 1, i, t, hx, hi, hit, ht => by
    have base := a1 i t hi hit ht
    by_cases c : C (q i) ≤ A (q i)
    · omega
    · rcases c2 (q i) (h.lt i hi) with z | ⟨k, k1, k2, k3⟩
      · have := a0 (q i); omega
      · have hik : i < k := (h.lt_iff hi k1).mp k2
        have hkn := h.lt k k1
        by_cases cs : t ≤ q k
        · have e : C (q k) + W d q k t ≤ C t := by
            by_cases z : t = q k
            · subst z; unfold W; omega
            · exact c1 k t k1 (by omega)
          have mo := mg i k (q i) t (by omega) k1 (by omega) ht
          unfold W at k3 e ⊢
          omega
        · have ih := right_ok h mg A C a1 a0 c1 c2 x k t (by omega) k1 (by omega) ht
          have m1 := mg i k (q i) (q k) (by omega) k1 (by omega) hkn
          have m2 := mg i k (q k) t (by omega) k1 (by omega) ht
          unfold W at k3 ih ⊢
          omega
/-! turned about -/
def rv (d : Nat → Nat → Nat) (m n : Nat) : Nat → Nat → Nat := fun i j => d (m - 1 - i) (n - 1 - j)
def rq (q : Nat → Nat) (m n : Nat) : Nat → Nat := fun i => n - 1 - q (m - 1 - i)
def sm (w : Nat → Nat) : Nat → Nat
  | 0 => 0
  | m + 1 => sm w m + w m
theorem sm_congr {v w : Nat → Nat} : ∀ m, (∀ i, i < m → v i = w i) → sm v m = sm w m
  | 0, _ => rfl
  | m + 1, h => by rw [sm, sm, sm_congr m fun i hi => h i (by omega), h m (by omega)]
theorem sm_head (w : Nat → Nat) : ∀ m, sm w (m + 1) = w 0 + sm (fun i => w (i + 1)) m
  | 0 => by simp [sm]
  | m + 1 => by
    rw [sm, sm_head w m, sm]
    omega
theorem sm_rev (w : Nat → Nat) : ∀ m, sm w m = sm (fun i => w (m - 1 - i)) m
  | 0 => rfl
  | m + 1 => by
    rw [sm_head (fun i => w (m + 1 - 1 - i)) m, sm]
    have e : sm (fun i => w (m + 1 - 1 - (i + 1))) m = sm (fun i => w (m - 1 - i)) m := sm_congr m fun i hi => by
      rw [show m + 1 - 1 - (i + 1) = m - 1 - i by omega]
    rw [e, ← sm_rev w m]
    simp
    omega
theorem cost_sm (d : Nat → Nat → Nat) (f : Nat → Nat) : ∀ m, cost d f m = sm (fun i => d i (f i)) m
  | 0 => rfl
  | m + 1 => by rw [cost, sm, cost_sm d f m]
theorem cost_rv {d : Nat → Nat → Nat} {f : Nat → Nat} {m n : Nat} (hf : ∀ i, i < m → f i < n) : cost (rv d m n) f m = cost d (rq f m n) m := by
  rw [cost_sm, cost_sm, sm_rev (fun i => d i (rq f m n i)) m]
  refine sm_congr m fun i hi => ?_
  have := hf i hi
  simp only [rv, rq]
  rw [show m - 1 - (m - 1 - i) = i by omega]
theorem rq_inj {f : Nat → Nat} {m n : Nat} (h : Inj f m n) : Inj (rq f m n) m n :=
  ⟨fun i hi => by
    have := h.lt (m - 1 - i) (by omega)
    simp only [rq]
    omega, fun i j hi hj e => by
    have a := h.lt (m - 1 - i) (by omega)
    have b := h.lt (m - 1 - j) (by omega)
    simp only [rq] at e
    have := h.inj (m - 1 - i) (m - 1 - j) (by omega) (by omega) (by omega)
    omega⟩
theorem rq_inc {f : Nat → Nat} {m n : Nat} (h : Inc f m n) : Inc (rq f m n) m n :=
  ⟨fun i hi => by
    have := h.lt (m - 1 - i) (by omega)
    simp only [rq]
    omega, fun i j hij hj => by
    have a := h.lt (m - 1 - i) (by omega)
    have c := h.inc (m - 1 - j) (m - 1 - i) (by omega) (by omega)
    simp only [rq]
    omega⟩
theorem Inc.inj' {q : Nat → Nat} {m n : Nat} (h : Inc q m n) : Inj q m n := ⟨h.lt, fun _ _ hi hj e => h.inj hi hj e⟩
theorem rq_rq {f : Nat → Nat} {m n i : Nat} (hf : ∀ i, i < m → f i < n) (hi : i < m) : rq (rq f m n) m n i = f i := by
  have := hf i hi
  simp only [rq]
  rw [show m - 1 - (m - 1 - i) = i by omega]
  omega
theorem rv_monge {d : Nat → Nat → Nat} {m n : Nat} (h : Monge d m n) : Monge (rv d m n) m n := fun i j k l h1 h2 h3 h4 => by
  have := h (m - 1 - j) (m - 1 - i) (n - 1 - l) (n - 1 - k) (by omega) (by omega) (by omega) (by omega)
  simp only [rv]
  omega
theorem rv_opt {d : Nat → Nat → Nat} {q : Nat → Nat} {m n : Nat} (h : Inc q m n) (opt : ∀ f, Inj f m n → cost d q m ≤ cost d f m) : ∀ f, Inj f m n → cost (rv d m n) (rq q m n) m ≤ cost (rv d m n) f m := fun f hf => by
  rw [cost_rv (rq_inc h).lt, cost_rv hf.lt, cost_congr m fun i hi => rq_rq h.lt hi]
  exact opt _ (rq_inj hf)
/-- prices there are -/
theorem prices_are {d : Nat → Nat → Nat} {q g : Nat → Nat} {m n b : Nat} (h : Inc q m n) (mg : Monge d m n) (opt : ∀ f, Inj f m n → cost d q m ≤ cost d f m)
    (hg : ∀ i s t, i < m → s ≤ t → t < n → d i s + g s ≤ d i t + g t ∧ d i t + g s ≤ d i s + g t ∧ g s ≤ g t) (gb : ∀ t, t < n → g t ≤ b) :
    ∃ π : Nat → Int, (∀ t, t < n → 0 ≤ π t ∧ π t ≤ b) ∧ (∀ i t, i < m → t < n → π (q i) + W d q i t ≤ π t) ∧ ∀ t, t < n → (∀ i, i < m → q i ≠ t) → π t = 0 := by
  let A := Ar d q m
  let D := Ar (rv d m n) (rq q m n) m
  let C : Nat → Int := fun t => D (n - 1 - t)
  have hr := rq_inc h
  have or_ := rv_opt h opt
  have mr := rv_monge mg
  have qq : ∀ i, i < m → n - 1 - rq q m n (m - 1 - i) = q i := fun i hi => rq_rq h.lt hi
  have wv : ∀ k t, k < m → t < n → W (rv d m n) (rq q m n) (m - 1 - k) (n - 1 - t) = W d q k t := fun k t hk ht => by
    have := h.lt k hk
    unfold W
    simp only [rv, rq]
    rw [show m - 1 - (m - 1 - k) = k by omega, show n - 1 - (n - 1 - q k) = q k by omega, show n - 1 - (n - 1 - t) = t by omega]
  have qv : ∀ k, k < m → rq q m n (m - 1 - k) = n - 1 - q k := fun k hk => by
    simp only [rq]
    rw [show m - 1 - (m - 1 - k) = k by omega]
  have a1 : ∀ i t, i < m → q i < t → t < n → A (q i) + W d q i t ≤ A t := fun i t hi ht _ => A_ge h hi ht
  have c1 : ∀ k t, k < m → t < q k → C (q k) + W d q k t ≤ C t := fun k t hk ht => by
    have hkn := h.lt k hk
    have := A_ge (d := rv d m n) hr (i := m - 1 - k) (t := n - 1 - t) (by omega) (by rw [qv k hk]; omega)
    rw [wv k t hk (by omega), qv k hk] at this
    exact this
  have a2 : ∀ t, t < n → A t = 0 ∨ ∃ k, k < m ∧ q k < t ∧ A t = A (q k) + W d q k t := fun t _ => A_eq h t m (Nat.le_refl _)
  have c2 : ∀ t, t < n → C t = 0 ∨ ∃ k, k < m ∧ t < q k ∧ C t = C (q k) + W d q k t := fun t ht => by
    rcases A_eq (d := rv d m n) hr (n - 1 - t) m (Nat.le_refl _) with z | ⟨k, k1, k2, k3⟩
    · exact .inl z
    · have e : m - 1 - (m - 1 - k) = k := by omega
      have kn := hr.lt k k1
      refine .inr ⟨m - 1 - k, by omega, ?_, ?_⟩
      · have := qv (m - 1 - k) (by omega)
        rw [e] at this
        have := h.lt (m - 1 - k) (by omega)
        omega
      · have w := wv (m - 1 - k) t (by omega) ht
        have v := qv (m - 1 - k) (by omega)
        rw [e] at w v
        rw [w, v] at k3
        exact k3
  have re := right_ok h mg A C a1 (Ar_nonneg d q m) c1 c2
  have le : ∀ i t, i < m → t < q i → t < n → max (A (q i)) (C (q i)) + W d q i t ≤ max (A t) (C t) := fun i t hi hit ht => by
    have hin := h.lt i hi
    have z := right_ok hr mr D (fun t => A (n - 1 - t)) (fun i t hi ht _ => A_ge hr hi ht) (Ar_nonneg _ _ m)
      (fun k t hk ht => by
        have kn := hr.lt k hk
        have := a1 (m - 1 - k) (n - 1 - t) (by omega) (by
          have v := qv (m - 1 - k) (by omega)
          rw [show m - 1 - (m - 1 - k) = k by omega] at v
          have := h.lt (m - 1 - k) (by omega)
          omega) (by omega)
        have w := wv (m - 1 - k) (n - 1 - t) (by omega) (by omega)
        have v := qv (m - 1 - k) (by omega)
        have b := h.lt (m - 1 - k) (by omega)
        rw [show m - 1 - (m - 1 - k) = k by omega] at w v
        rw [show n - 1 - (n - 1 - t) = t by omega] at w
        rw [w, v, show n - 1 - (n - 1 - q (m - 1 - k)) = q (m - 1 - k) by omega]
        exact this)
      (fun t ht => by
        rcases a2 (n - 1 - t) (by omega) with z | ⟨k, k1, k2, k3⟩
        · exact .inl z
        · have b := h.lt k k1
          have v := qv k k1
          have w := wv k (n - 1 - t) k1 (by omega)
          rw [show n - 1 - (n - 1 - t) = t by omega] at w
          refine .inr ⟨m - 1 - k, by omega, by omega, ?_⟩
          rw [w, v, show n - 1 - (n - 1 - q k) = q k by omega]
          exact k3)
      n (m - 1 - i) (n - 1 - t) (by omega) (by omega) (by rw [qv i hi]; omega) (by omega)
    rw [wv i t hi ht, qv i hi, show n - 1 - (n - 1 - t) = t by omega, show n - 1 - (n - 1 - q i) = q i by omega] at z
    show max (A (q i)) (D (n - 1 - q i)) + W d q i t ≤ max (A t) (D (n - 1 - t))
    omega
  have bA : ∀ t, t < n → A t ≤ b := fun t ht => by
    by_cases z : m = 0
    · subst z
      show (0 : Int) ≤ b
      omega
    · have := A_le (d := d) h (fun i s t hi hs ht => (hg i s t hi hs ht).1) (fun t ht => (hg 0 0 t (by omega) (Nat.zero_le _) ht).2.2) m t (Nat.le_refl _) ht
      have := gb t ht
      show Ar d q m t ≤ b
      omega
  have bC : ∀ t, t < n → C t ≤ b := fun t ht => by
    by_cases z : m = 0
    · subst z
      show (0 : Int) ≤ b
      omega
    · have hgr : ∀ i s t, i < m → s ≤ t → t < n → rv d m n i s + (b - g (n - 1 - s)) ≤ rv d m n i t + (b - g (n - 1 - t)) := fun i s t hi hs ht => by
        have z := (hg (m - 1 - i) (n - 1 - t) (n - 1 - s) (by omega) (by omega) (by omega)).2.1
        have z1 := gb (n - 1 - s) (by omega)
        have z2 := gb (n - 1 - t) (by omega)
        simp only [rv]
        omega
      have := A_le (d := rv d m n) (g := fun s => b - g (n - 1 - s)) hr hgr (fun t ht => by
        have z := (hg 0 (n - 1 - t) (n - 1) (by omega) (by omega) (by omega)).2.2
        have : n - 1 - 0 = n - 1 := by omega
        simp only [this]
        omega) m (n - 1 - t) (Nat.le_refl _) (by omega)
      show Ar (rv d m n) (rq q m n) m (n - 1 - t) ≤ b
      have e : n - 1 - (n - 1 - t) = t := by omega
      simp only [e] at this
      omega
  refine ⟨fun t => max (A t) (C t), fun t ht => ⟨?_, ?_⟩, fun i t hi ht => ?_, fun t ht hf => ?_⟩
  · have := Ar_nonneg d q m t
    show 0 ≤ max (Ar d q m t) _
    omega
  · have := bA t ht
    have := bC t ht
    show max (A t) (C t) ≤ b
    omega
  · show max (A (q i)) (C (q i)) + W d q i t ≤ max (A t) (C t)
    by_cases e : q i = t
    · subst e
      unfold W
      omega
    · by_cases c : q i < t
      · exact re n i t (by omega) hi c ht
      · exact le i t hi (by omega) ht
  · have z1 := A_free (d := d) h opt ht hf
    have z2 := A_free (d := rv d m n) hr or_ (t := n - 1 - t) (by omega) (fun i hi e => by
      have v := qv (m - 1 - i) (by omega)
      rw [show m - 1 - (m - 1 - i) = i by omega] at v
      have := h.lt (m - 1 - i) (by omega)
      exact hf (m - 1 - i) (by omega) (by omega))
    show max (Ar d q m t) (Ar (rv d m n) (rq q m n) m (n - 1 - t)) = 0
    rw [z1, z2]
    rfl
/-! places, fronts -/
structure Pl (l : List Nat) (b : Nat) : Prop where
  len : l.length ≤ b
  bd : ∀ x, x ∈ l → x ≤ 200
  srt : l.Pairwise (· ≤ ·)
theorem btwN (n a b : Nat) : f_is_between [di n, di a, di b] = .ok (.bool (decide (a ≤ n) && decide (n ≤ b))) := by
  have q := is_between n a b
  have e1 : decide ((a : Int) ≤ n) = decide (a ≤ n) := decide_eq_decide.mpr (by omega)
  have e2 : decide ((n : Int) ≤ b) = decide (n ≤ b) := decide_eq_decide.mpr (by omega)
  rw [e1, e2] at q
  exact q
theorem are_places {l : List Nat} {b : Nat} (h : Pl l b) (hb : b ≤ 100) : f_are_places [.tuple (nl l), di b] = .ok (.bool true) := by
  have hl := h.len
  have h1 : ¬ b < l.length := by omega
  simp [f_are_places, runDef_, b_are_places, int_lit, dl, dn, h1, eLc]
  rw [lc_nlB (fun _ => true) l fun x hx => by
    have := h.bd x hx
    simp [lcF, int_lit, btwN, this]]
  have rg := rng_nl2 1 l.length (by decide) (by unfold big; omega)
  have i1 : ((1 : Nat) : Int) = 1 := rfl
  rw [i1] at rg
  have al : (List.map (fun _ : Nat => true) l).all id = true := by simp
  simp [al, rg, eLc, dl, int_lit]
  rw [lc_nlB (fun _ => true) _ fun k hk => by
    have hk' := List.mem_range'_1.mp hk
    have lt := List.pairwise_iff_getElem.mp h.srt (k - 1) k (by omega) (by omega) (by omega)
    have g1 : k - 1 < l.length := by omega
    have g2 : k < l.length := by omega
    have d1 : dSub (di k) (di 1) = .ok (di (k - 1)) := dSub_nat k 1 (by omega)
    simp [lcF, int_lit, d1, dl, dn, g1, g2, lt]]
  simp
structure Fr (B H : List Nat) : Prop where
  b : Pl B 8
  h : Pl H 10
  le : B.length ≤ H.length
theorem need_fronts {B H : List Nat} (h : Fr B H) : f_need_fronts [.tuple (nl B), .tuple (nl H)] = .ok .none := by
  have a1 := are_places h.b (by decide)
  have a2 := are_places h.h (by decide)
  have h1 : ¬ H.length < B.length := by have := h.le; omega
  simp [f_need_fronts, runDef_, b_need_fronts, int_lit, a1, a2, dl, dn, h1]
/-- how far a button and a hole are apart -/
def dd (B H : List Nat) (i j : Nat) : Nat := dist (B.getD i 0) (H.getD j 0)
theorem get_le {l : List Nat} (h : l.Pairwise (· ≤ ·)) {i j : Nat} (hij : i ≤ j) (hj : j < l.length) : l.getD i 0 ≤ l.getD j 0 := by
  by_cases e : i = j
  · subst e; exact Nat.le_refl _
  · have := List.pairwise_iff_getElem.mp h i j (by omega) hj (by omega)
    have g1 : i < l.length := by omega
    simp [g1, hj, this]
theorem dd_monge {B H : List Nat} (hb : B.Pairwise (· ≤ ·)) (hh : H.Pairwise (· ≤ ·)) : Monge (dd B H) B.length H.length := fun i j k l h1 h2 h3 h4 => by
  have a := get_le hb h1 h2
  have b := get_le hh h3 h4
  unfold dd dist
  omega
/-- a row of the table -/
def oD : Option Nat → Da
  | none => .none
  | some n => di n
def rowT (d : Nat → Nat → Nat) (m k : Nat) : List Da := (List.range k).map fun a => oD (Dt d a m)
def tabT (d : Nat → Nat → Nat) (n k : Nat) : List Da := (List.range k).map fun m => .list (rowT d m (n + 1))
theorem rowT_len (d : Nat → Nat → Nat) (m k : Nat) : (rowT d m k).length = k := by simp [rowT]
theorem tabT_len (d : Nat → Nat → Nat) (n k : Nat) : (tabT d n k).length = k := by simp [tabT]
theorem rowT_succ (d : Nat → Nat → Nat) (m k : Nat) : rowT d m (k + 1) = rowT d m k ++ [oD (Dt d k m)] := by simp [rowT, List.range_succ]
theorem tabT_succ (d : Nat → Nat → Nat) (n k : Nat) : tabT d n (k + 1) = tabT d n k ++ [.list (rowT d k (n + 1))] := by simp [tabT, List.range_succ]
theorem ix_row (d : Nat → Nat → Nat) (m k a : Nat) (h : a < k) : dIx (.list (rowT d m k)) (di a) = .ok (oD (Dt d a m)) := by
  rw [dIx_list_nat, rowT, List.getElem?_map, List.getElem?_range h]
  rfl
theorem ix_tab (d : Nat → Nat → Nat) (n k m : Nat) (h : m < k) : dIx (.list (tabT d n k)) (di m) = .ok (.list (rowT d m (n + 1))) := by
  rw [dIx_list_nat, tabT, List.getElem?_map, List.getElem?_range h]
  rfl
@[simp] theorem isN_oD (o : Option Nat) : isNone (oD o) = o.isNone := by cases o <;> rfl
@[simp] theorem oD_none : oD none = .none := rfl
@[simp] theorem oD_some (n : Nat) : oD (some n) = di n := rfl
theorem dEq_oD (o q : Option Nat) : dEq (oD o) (oD q) = .ok (.bool (decide (o = q))) := by
  cases o <;> cases q <;> simp [oD] <;> first | rfl | (rw [dEq_nat])
theorem min2 (x y : Nat) : dMinL [.list [di x, di y]] = .ok (di (min x y)) := by
  show R.ok (PyData.int (min (x : Int) y)) = _
  congr 2
  omega
theorem min1 (x : Nat) : dMinL [.list [di x]] = .ok (di x) := rfl
theorem range'_split {a n : Nat} {don rest : List Nat} {x : Nat} (h : List.range' a n = don ++ x :: rest) : x = a + don.length ∧ don.length < n := by
  have hl := congrArg List.length h
  simp at hl
  have hx : (List.range' a n)[don.length]? = some x := by rw [h]; simp
  rw [List.getElem?_range' (by omega)] at hx
  have := Option.some.inj hx
  omega
theorem dAbs_dd (B H : List Nat) (i j : Nat) : dAbs [.int ((B.getD i 0 : Int) - (H.getD j 0 : Int))] = .ok (di (dd B H i j)) := dAbs_sub _ _
theorem row_loop {B H : List Nat} (hB : B.length ≤ 8) (hH : H.length ≤ 10) (m : Nat) (hm : m < B.length) :
    forL (gVar 5) l_table_of_0 (nl (List.range' 1 H.length)) [some (.tuple (nl B)), some (.tuple (nl H)), some (.list (tabT (dd B H) H.length (m + 1))), some (di (m + 1)), some (.list [.none]), none, none] =
      .ok (.nx [some (.tuple (nl B)), some (.tuple (nl H)), some (.list (tabT (dd B H) H.length (m + 1))), some (di (m + 1)), some (.list (rowT (dd B H) (m + 1) (H.length + 1))), none, none]) := by
  have key := forL_inv (g := gVar 5) (body := l_table_of_0) di (fun s : Nat => [some (.tuple (nl B)), some (.tuple (nl H)), some (.list (tabT (dd B H) H.length (m + 1))), some (di (m + 1)), some (.list (rowT (dd B H) (m + 1) (s + 1))), none, none])
    (fun don s => s = don.length) (List.range' 1 H.length) [] 0 rfl ?_
  · obtain ⟨s, e, k⟩ := key
    simp at e
    subst e
    exact k
  · rintro don x s ⟨rest, er⟩ rfl
    obtain ⟨hx, hlt⟩ := range'_split (by simpa using er : List.range' 1 H.length = don ++ x :: rest)
    refine ⟨don.length + 1, by simp, ?_⟩
    have hx' : x = don.length + 1 := by omega
    subst hx'
    have s1 : dSub (di (don.length + 1)) (di 1) = .ok (di don.length) := dSub_nat _ 1 (by omega)
    have s2 : dSub (di (m + 1)) (di 1) = .ok (di m) := dSub_nat _ 1 (by omega)
    have r1 := ix_row (dd B H) (m + 1) (don.length + 1) don.length (by omega)
    have r2 := ix_tab (dd B H) H.length (m + 1) m (by omega)
    have r3 := ix_row (dd B H) m (H.length + 1) don.length (by omega)
    have ab := dAbs_dd B H m don.length
    have la : (rowT (dd B H) (m + 1) (don.length + 1)).length < big := by rw [rowT_len]; unfold big; omega
    have st := rowT_succ (dd B H) (m + 1) (don.length + 1)
    rw [Dt_succ] at st
    have lb : 1 < big := by decide
    have l0 : 0 < big := by decide
    rw [st]
    simp only [l_table_of_0]
    cases o1 : Dt (dd B H) don.length (m + 1) with
    | none =>
      rw [o1] at r1
      cases o2 : Dt (dd B H) don.length m with
      | none =>
        rw [o2] at r3
        simp [int_lit, s1, s2, r1, r2, r3, omin, updE, la]
      | some v =>
        rw [o2] at r3
        simp [int_lit, s1, s2, r1, r2, r3, omin, updE, la, l0, dl, hm, hlt, dSub_cast, ab, dn, min1, -List.getD_eq_getElem?_getD]
    | some w =>
      rw [o1] at r1
      cases o2 : Dt (dd B H) don.length m with
      | none =>
        rw [o2] at r3
        simp [int_lit, s1, s2, r1, r2, r3, omin, updE, la, min1]
      | some v =>
        rw [o2] at r3
        simp [int_lit, s1, s2, r1, r2, r3, omin, updE, la, lb, dl, hm, hlt, dSub_cast, ab, dn, min2, -List.getD_eq_getElem?_getD]
end K74
set_option Elab.async false
set_option linter.all false
set_option maxRecDepth 10000
namespace K74
open PySem DL
theorem rowT_zero (d : Nat → Nat → Nat) (k : Nat) : rowT d 0 k = nl (List.replicate k 0) := by
  unfold rowT nl
  rw [List.map_replicate]
  refine List.ext_getElem (by simp) fun i h1 h2 => ?_
  simp [Dt_zero]
theorem repD0 (k : Nat) (h : k ≤ 2000) : repD (.list [di 0]) (di k) = .ok (.list (nl (List.replicate k 0))) := by
  have c : ([di 0] : List Da).length * (k : Int).toNat ≤ big ∧ (k : Int).natAbs < 9223372036854775808 := by
    simp
    unfold big
    omega
  rw [show repD (.list [di 0]) (di k) = if ([di 0] : List Da).length * (k : Int).toNat ≤ big ∧ (k : Int).natAbs < 9223372036854775808 then .ok (.list (List.replicate (k : Int).toNat [di 0]).flatten) else .bad from rfl, if_pos c]
  congr 2
  have : (k : Int).toNat = k := by omega
  rw [this]
  clear c h this
  induction k with
  | zero => rfl
  | succ k ih => rw [List.replicate_succ, List.flatten_cons, ih, List.replicate_succ]; rfl
theorem table_of {B H : List Nat} (hB : B.length ≤ 8) (hH : H.length ≤ 10) : f_table_of [.tuple (nl B), .tuple (nl H)] = .ok (.list (tabT (dd B H) H.length (B.length + 1))) := by
  have key := forL_inv (g := gVar 3) (body := l_table_of_1) di (fun s : Nat => [some (.tuple (nl B)), some (.tuple (nl H)), some (.list (tabT (dd B H) H.length (s + 1))), none, none, none, none])
    (fun don s => s = don.length) (List.range' 1 B.length) [] 0 rfl ?_
  · obtain ⟨s, e, k⟩ := key
    simp at e
    subst e
    have rg := rng_nl2 1 (B.length + 1) (by decide) (by unfold big; omega)
    rw [show ((1 : Nat) : Int) = 1 from rfl, Nat.add_sub_cancel] at rg
    have r0 := repD0 (H.length + 1) (by omega)
    have t0 : tabT (dd B H) H.length (0 + 1) = [.list (nl (List.replicate (H.length + 1) 0))] := by
      rw [tabT_succ, rowT_zero]
      rfl
    rw [t0] at k
    have k' : forL (gVar 3) l_table_of_1 (nl (List.range' 1 B.length)) [some (.tuple (nl B)), some (.tuple (nl H)), some (.list [.list (nl (List.replicate (H.length + 1) 0))]), none, none, none, none] = .ok (.nx [some (.tuple (nl B)), some (.tuple (nl H)), some (.list (tabT (dd B H) H.length (B.length + 1))), none, none, none, none]) := k
    generalize nl (List.replicate (H.length + 1) 0) = Z at r0 k'
    have tn : toI (di (B.length + 1)) = .ok ((B.length + 1 : Nat) : Int) := rfl
    have tn1 : toI (di 1) = .ok 1 := rfl
    simp [f_table_of, runDef_, b_table_of, int_lit, dl, dn, r0, tn, tn1, -toI_di]
    rw [show ((B.length : Int) + 1) = ((B.length + 1 : Nat) : Int) by simp, rg]
    simp [k']
  · rintro don x s ⟨rest, er⟩ rfl
    obtain ⟨hx, hlt⟩ := range'_split (by simpa using er : List.range' 1 B.length = don ++ x :: rest)
    refine ⟨don.length + 1, by simp, ?_⟩
    have hx' : x = don.length + 1 := by omega
    subst hx'
    have rl := row_loop hB hH don.length (by omega)
    have rg := rng_nl2 1 (H.length + 1) (by decide) (by unfold big; omega)
    rw [show ((1 : Nat) : Int) = 1 from rfl, Nat.add_sub_cancel] at rg
    have la : (tabT (dd B H) H.length (don.length + 1)).length < big := by rw [tabT_len]; unfold big; omega
    have st := tabT_succ (dd B H) H.length (don.length + 1)
    rw [st]
    simp only [l_table_of_1]
    simp [int_lit, dl, dn]
    rw [show ((H.length : Int) + 1) = ((H.length + 1 : Nat) : Int) by simp, rg]
    simp [rl, updE, la]
theorem ix_last {xs : List Da} {x : Da} (ys : List Da) (h : xs = ys ++ [x]) : dIx (.list xs) (.int (-1)) = .ok x := by
  subst h
  show oR (atD (ys ++ [x]) (-1)) = _
  unfold atD
  rw [if_neg (by omega), if_pos (by simp; omega)]
  have e : ((-1 : Int) + ((ys ++ [x]).length : Int)).toNat = ys.length := by simp; omega
  rw [e, List.getElem?_append_right (Nat.le_refl _)]
  simp
theorem dNeg_1 : dNeg (di 1) = .ok (.int (-1)) := rfl
theorem last_of (d : Nat → Nat → Nat) (n k : Nat) : dIx (.list (tabT d n (k + 1))) (.int (-1)) = .ok (.list (rowT d k (n + 1))) := ix_last _ (tabT_succ d n k)
theorem last_row (d : Nat → Nat → Nat) (m k : Nat) : dIx (.list (rowT d m (k + 1))) (.int (-1)) = .ok (oD (Dt d k m)) := ix_last _ (rowT_succ d m k)
def least (B H : List Nat) : Option Nat := Dt (dd B H) H.length B.length
theorem button_least {B H : List Nat} (h : Fr B H) : f_button_least [.tuple (nl B), .tuple (nl H)] = .ok (oD (least B H)) := by
  have tb := table_of h.b.len h.h.len
  simp [f_button_least, runDef_, b_button_least, need_fronts h, tb, int_lit, dNeg_1, last_of, last_row, least]
/-! the script's places -/
theorem law_places (c : Int) (most top : Nat) (hm : most ≤ 20) (h0 : 0 < top) (h1 : top ≤ 201) : ∃ l, Pl l most ∧ (∀ x, x ∈ l → x < top) ∧ f__law_places [.int c, di most, di top] = .ok (.tuple (nl l)) := by
  obtain ⟨ds, hd, _, hr⟩ := law_row c (most + 1) 1000 (by unfold big; omega) (by decide) (by decide)
  have hr' : f__law_row [.int c, di (most + 1), di 1000] = .ok (.list (nl ds)) := hr
  have lt := Nat.mod_lt (ds.getD 0 0) (show 0 < most + 1 by omega)
  obtain ⟨k, ek, hk⟩ : ∃ k, ds.getD 0 0 % (most + 1) = k ∧ k ≤ most := ⟨_, rfl, by omega⟩
  let g : Nat → Nat := fun k => ds.getD (1 + k) 0 % top
  have so := dSorted_di ((List.range k).map g)
  have so' : dSorted [.list (nl ((List.range k).map g))] = .ok (.list (nl (sortN ((List.range k).map g)))) := so
  have p := sortN_perm ((List.range k).map g)
  have bd : ∀ x, x ∈ sortN ((List.range k).map g) → x < top := fun x hx => by
    obtain ⟨y, _, rfl⟩ := List.mem_map.mp (p.mem_iff.mp hx)
    exact Nat.mod_lt _ h0
  refine ⟨sortN ((List.range k).map g), ⟨by rw [p.length_eq]; simpa using hk, fun x hx => by have := bd x hx; omega, sortN_sorted _⟩, bd, ?_⟩
  have l0 : 0 < ds.length := by omega
  have m1 : 0 < most + 1 := by omega
  have ix0 := dl.1 ds 0 l0
  have md : dMod (di (ds.getD 0 0)) (di (most + 1)) = .ok (di k) := by rw [dMod_nat _ _ m1, ek]
  have rg := rng_nl k (by unfold big; omega)
  have lc : lcL (lcF (gVar 4) [4] eYes (e2 dMod (e2 dIx (eVar 3) (e2 dAdd (eC (di 1)) (eVar 4))) (eVar 2)) [some (.int c), some (di most), some (di top), some (.list (nl ds)), none]) (nl (List.range k)) = .ok (nl ((List.range k).map g)) := by
    refine lc_nl g _ fun x hx => ?_
    have := List.mem_range.mp hx
    have ix := dl.1 ds (1 + x) (by omega)
    have md := dMod_nat (ds.getD (1 + x) 0) top h0
    simp [lcF, dn, ix, md, g, -List.getD_eq_getElem?_getD]
  simp [f__law_places, runDef_, b__law_places, int_lit, dn, hr', ix0, md, rg, eLc, lc, so', -List.getD_eq_getElem?_getD]
/-! the pairing told -/
theorem bp_same {d : Nat → Nat → Nat} {a m : Nat} (h : Dt d (a + 1) (m + 1) = Dt d a (m + 1)) : bp d (a + 1) (m + 1) = bp d a (m + 1) := by rw [bp, if_pos h]
theorem bp_take {d : Nat → Nat → Nat} {a m : Nat} (h : ¬ Dt d (a + 1) (m + 1) = Dt d a (m + 1)) : bp d (a + 1) (m + 1) = a :: bp d a m := by rw [bp, if_neg h]
theorem rng3_down (m : Nat) (h : m ≤ 1000) : dRng3 (m : Int) 0 (-1) = .ok (nl ((List.range m).map fun k => m - k)) := by
  unfold dRng3
  rw [if_neg (by omega), if_pos ⟨rfl, by omega, by omega, by unfold big; omega⟩]
  have e : ((m : Int) - 0).toNat = m := by omega
  rw [e]
  unfold rng3D nl
  rw [List.map_map]
  congr 1
  refine List.map_congr_left fun k hk => ?_
  have := List.mem_range.mp hk
  show PyData.int ((m : Int) + (k : Nat) * -1) = .int ((m - k : Nat) : Int)
  congr 1
  omega
theorem best_pairing {B H : List Nat} (hB : B.length ≤ 8) (hH : H.length ≤ 10) (le : B.length ≤ H.length) : f_best_pairing [.tuple (nl B), .tuple (nl H)] = .ok (.tuple (nl (told (dd B H) H.length B.length))) := by
  let d := dd B H
  have tb := table_of hB hH
  have key := forL_inv (g := gVar 5) (body := l_best_pairing_1) di (fun s : Option Da × List Nat × Nat => [s.1, none, some (.list (tabT d H.length (B.length + 1))), some (.list (nl s.2.1)), some (di s.2.2), none])
    (fun don s => bp d H.length B.length = s.2.1 ++ bp d s.2.2 (B.length - don.length) ∧ s.2.2 ≤ H.length ∧ B.length - don.length ≤ s.2.2 ∧ s.2.1.length = don.length ∧ s.1 = if don.length = 0 then some (.tuple (nl B)) else none) ((List.range B.length).map fun k => B.length - k) [] (some (.tuple (nl B)), [], H.length) ⟨rfl, Nat.le_refl _, by simpa using le, rfl, rfl⟩ ?_
  · obtain ⟨⟨s0, fl, a⟩, ⟨e1, _, _, _, _⟩, k⟩ := key
    simp at e1
    have z : B.length - ([] ++ (List.range B.length).map fun k => B.length - k).length = 0 := by simp
    have bz : ∀ a, bp d a 0 = [] := fun a => by cases a <;> rfl
    rw [bz, List.append_nil] at e1
    subst e1
    have rg := rng3_down B.length (by omega)
    have k' : forL (gVar 5) l_best_pairing_1 (nl ((List.range B.length).map fun k => B.length - k)) [some (.tuple (nl B)), none, some (.list (tabT d H.length (B.length + 1))), some (.list []), some (di H.length), none] = .ok (.nx [s0, none, some (.list (tabT d H.length (B.length + 1))), some (.list (nl (bp d H.length B.length))), some (di a), none]) := k
    have n1 : dNeg (di 1) = .ok (.int (-1)) := rfl
    have dr : dRev (.list (nl (bp d H.length B.length))) = .ok (.list (nl (told d H.length B.length))) := by
      show R.ok (PyData.list _) = _
      rw [nl_reverse]
      rfl
    generalize nl ((List.range B.length).map fun k => B.length - k) = Z at rg k'
    have t0 : toI (di 0) = .ok 0 := rfl
    simp [f_best_pairing, runDef_, b_best_pairing, int_lit, dl, n1, tb, t0, rg, d] at k' ⊢
    rw [k']
    simp [dr, d]
  · rintro don x ⟨s0, fl, a⟩ ⟨rest, er⟩ ⟨e1, e2, e3, e4, e5⟩
    have er' : (List.range B.length).map (fun k => B.length - k) = don ++ x :: rest := by simpa using er
    have hlt : don.length < B.length := by
      have := congrArg List.length er'
      simp at this
      omega
    have hx : x = B.length - don.length := by
      have h1 : ((List.range B.length).map fun k => B.length - k)[don.length]? = some x := by rw [er']; simp
      rw [List.getElem?_map, List.getElem?_range hlt] at h1
      exact (Option.some.inj h1).symm
    obtain ⟨m, hm⟩ : ∃ m, B.length - don.length = m + 1 := ⟨B.length - don.length - 1, by omega⟩
    have hx' : x = m + 1 := by omega
    subst hx'
    rw [hm] at e1 e3
    have hmB : m + 1 < B.length + 1 := by omega
    obtain ⟨⟨z0, a1⟩, ⟨i1, i2, i3, _⟩, hgo, hw⟩ := sWhile_inv (c := w_best_pairing_0) (body := l_best_pairing_0)
      (fun s : Option Da × Nat => [s.1, none, some (.list (tabT d H.length (B.length + 1))), some (.list (nl fl)), some (di s.2), some (di (m + 1))]) (fun s => decide (Dt d (s.2 - 1) (m + 1) = Dt d s.2 (m + 1)))
      (fun s => s.2 ≤ H.length ∧ m + 1 ≤ s.2 ∧ bp d s.2 (m + 1) = bp d a (m + 1) ∧ s.1 = none) (fun s => s.2)
      (fun s ⟨j1, j2, j3, _⟩ => by
        have s1 := dSub_nat s.2 1 (by omega)
        have r2 := ix_tab d H.length (B.length + 1) (m + 1) hmB
        have r3 := ix_row d (m + 1) (H.length + 1) (s.2 - 1) (by omega)
        have r4 := ix_row d (m + 1) (H.length + 1) s.2 (by omega)
        simp [w_best_pairing_0, int_lit, s1, r2, r3, r4, dEq_oD])
      (fun s ⟨j1, j2, j3, j4⟩ hs => by
        have hs' : Dt d (s.2 - 1) (m + 1) = Dt d s.2 (m + 1) := by simpa using hs
        obtain ⟨c, hc⟩ : ∃ c, s.2 = c + 1 := ⟨s.2 - 1, by omega⟩
        have hc' : s.2 - 1 = c := by omega
        rw [hc'] at hs'
        have mc : m + 1 ≤ c := by
          by_cases q : m + 1 ≤ c
          · exact q
          · exfalso
            have n := Dt_none d c (m + 1) (by omega)
            obtain ⟨v, hv⟩ := Dt_some d s.2 (m + 1) j2
            rw [n, hv] at hs'
            cases hs'
        have s1 := dSub_nat s.2 1 (by omega)
        refine ⟨(none, c), ?_, ⟨show c ≤ H.length by omega, mc, ?_, rfl⟩, show c < s.2 by omega⟩
        · rw [hc'] at s1
          simp [l_best_pairing_0, int_lit, s1, j4]
        · rw [← j3, hc]
          exact (bp_same (by rw [hs', hc])).symm)
      fuel (none, a) ⟨e2, e3, rfl, rfl⟩ (by have e2' : a ≤ H.length := e2; show a < fuel; unfold fuel; omega)
    have hgo' : ¬ Dt d (a1 - 1) (m + 1) = Dt d a1 (m + 1) := by simpa using hgo
    obtain ⟨c, hc⟩ : ∃ c, a1 = c + 1 := ⟨a1 - 1, by have i2' : m + 1 ≤ a1 := i2; omega⟩
    subst hc
    have i2' : m + 1 ≤ c + 1 := i2
    have i1' : c + 1 ≤ H.length := i1
    have tk := bp_take (d := d) (a := c) (m := m) (fun z => hgo' z.symm)
    have i3' : bp d (c + 1) (m + 1) = bp d a (m + 1) := i3
    have m' : B.length - (don ++ [m + 1]).length = m := by simp; omega
    refine ⟨(none, fl ++ [c], c), ⟨?_, show c ≤ H.length by omega, by rw [m']; show m ≤ c; omega, by simp [e4], by simp⟩, ?_⟩
    · rw [m', e1, ← i3', tk]
      simp
    · have s1 := dSub_nat (c + 1) 1 (by omega)
      rw [Nat.add_sub_cancel] at s1
      have la : fl.length < big := by
        have : fl.length = don.length := e4
        unfold big
        omega
      have hw' : whileF w_best_pairing_0 l_best_pairing_0 fuel [none, none, some (.list (tabT d H.length (B.length + 1))), some (.list (nl fl)), some (di a), some (di (m + 1))] = .ok (.nx [z0, none, some (.list (tabT d H.length (B.length + 1))), some (.list (nl fl)), some (di (c + 1)), some (di (m + 1))]) := hw
      have z0' : z0 = none := by assumption
      subst z0'
      simp only [l_best_pairing_1]
      simp [int_lit, sWhile, hw', s1, updE, la]
theorem button_best {B H : List Nat} (h : Fr B H) : f_button_best [.tuple (nl B), .tuple (nl H)] = .ok (.tuple (nl (told (dd B H) H.length B.length))) := by
  simp [f_button_best, runDef_, b_button_best, need_fronts h, best_pairing h.b.len h.h.len h.le]
/-! pairings -/
structure Pa (B H q : List Nat) : Prop where
  len : q.length = B.length
  lt : ∀ k, k ∈ q → k < H.length
  nd : q.Nodup
def costL (B H q : List Nat) : Nat := cost (dd B H) (fn q) B.length
theorem Pa.inj {B H q : List Nat} (h : Pa B H q) : Inj (fn q) B.length H.length := h.len ▸ inj_of_nodup h.nd h.lt
theorem sumN_sm (w : Nat → Nat) : ∀ n, sumN ((List.range n).map w) = sm w n
  | 0 => rfl
  | n + 1 => by rw [List.range_succ, List.map_append, List.map_cons, List.map_nil, sumN_append, sumN_sm w n, sm]; simp
theorem costL_sum (B H q : List Nat) : costL B H q = sumN ((List.range B.length).map fun k => dd B H k (q.getD k 0)) := by
  rw [sumN_sm, costL, cost_sm]
  rfl
theorem cost_of {B H q : List Nat} (hl : q.length = B.length) (lt : ∀ k, k ∈ q → k < H.length) : f_cost_of [.tuple (nl B), .tuple (nl H), .tuple (nl q)] = .ok (di (costL B H q)) := by
  have z := zipD_nl B q
  rw [hl, Nat.min_self] at z
  have lc : lcL (lcF (gTupD [gVar 3, gVar 4]) [3, 4] eYes (eA dAbs (aCons (e2 dSub (eVar 3) (e2 dIx (eVar 1) (eVar 4))) aNil)) [some (.tuple (nl B)), some (.tuple (nl H)), some (.tuple (nl q)), none, none]) (zipD (nl B) (nl q)) = .ok (nl ((List.range B.length).map fun k => dd B H k (q.getD k 0))) := by
    rw [z, lcL_map _ (fun k => di (dd B H k (q.getD k 0))) _ fun k hk => by
      have hk' := List.mem_range.mp hk
      have lk := lt (q.getD k 0) (by
        have g : k < q.length := by omega
        simp [g])
      have ix := dl.2.1 H (q.getD k 0) lk
      have ab := dAbs_dd B H k (q.getD k 0)
      simp [lcF, ix, dSub_cast, ab, -List.getD_eq_getElem?_getD]]
    rw [nl, List.map_map]
    rfl
  have sm' := dl.2.2.2.2.2.2.2.2.1 ((List.range B.length).map fun k => dd B H k (q.getD k 0))
  rw [← costL_sum] at sm'
  generalize nl ((List.range B.length).map fun k => dd B H k (q.getD k 0)) = Y at lc sm'
  simp [f_cost_of, runDef_, b_cost_of, eLc, lc, sm']
theorem ddI_nodup : ∀ l : List Int, l.Nodup → ddI l = l
  | [], _ => rfl
  | x :: l, h => by
    obtain ⟨h1, h2⟩ := List.nodup_cons.mp h
    show (if x ∈ ddI l then ddI l else x :: ddI l) = _
    rw [ddI_nodup l h2, if_neg h1]
theorem unlike_nd {q : List Nat} (h : q.Nodup) (hl : q.length < 4000) : f_unlike [.tuple (nl q)] = .ok (.bool true) := by
  have nd : (q.map fun n : Nat => (n : Int)).Nodup := List.pairwise_map.mpr (h.imp fun hne e => hne (by omega))
  have ds : dLenSet (.tuple (nl q)) = .ok (di q.length) := by
    show (intsD (nl q)).bind _ = _
    rw [ints_nl, R.bind_ok, if_pos (by simpa using hl), ddI_nodup _ nd]
    simp
    rfl
  simp [f_unlike, runDef_, b_unlike, ds, dl, dn]
theorem is_underN (a b : Nat) : f_is_under [di a, di b] = .ok (.bool (decide (a < b))) := by
  have ii := is_integer a
  have ii' : f_is_integer [di a] = .ok (.bool true) := ii
  have l1 : dLe (di 0) (di a) = .ok (.bool true) := by rw [dLe_nat]; simp
  simp [f_is_under, runDef_, b_is_under, ii', int_lit, l1, dLt_nat]
theorem is_pairing_of {B H q : List Nat} (h : Pa B H q) (hb : B.length ≤ 1000) : f_is_pairing_of [.tuple (nl B), .tuple (nl H), .tuple (nl q)] = .ok (.bool true) := by
  have it : f_is_tuple_of [.tuple (nl q), di B.length] = .ok (.bool true) := by
    simp [f_is_tuple_of, runDef_, b_is_tuple_of, dl, dn, h.len]
  have lc : lcL (lcF (gVar 3) [3] eYes (eA f_is_under (aCons (eVar 3) (aCons (eA dLen (aCons (eVar 1) aNil)) aNil))) [some (.tuple (nl B)), some (.tuple (nl H)), some (.tuple (nl q)), none]) (nl q) = .ok (bl (q.map fun _ => true)) := lc_nlB _ q fun k hk => by
    have := h.lt k hk
    simp [lcF, dl, is_underN, this]
  have u := unlike_nd h.nd (by rw [h.len]; omega)
  simp [f_is_pairing_of, runDef_, b_is_pairing_of, dl, it, eLc, lc, u]
theorem pairing_cost {B H q : List Nat} (f : Fr B H) (h : Pa B H q) : f_pairing_cost [.tuple (nl B), .tuple (nl H), .tuple (nl q)] = .ok (di (costL B H q)) := by
  have := f.b.len
  simp [f_pairing_cost, runDef_, b_pairing_cost, need_fronts f, is_pairing_of h (by omega), cost_of h.len h.lt]
theorem told_pa {B H : List Nat} (f : Fr B H) : Pa B H (told (dd B H) H.length B.length) ∧ (told (dd B H) H.length B.length).Pairwise (· < ·) ∧ least B H = some (costL B H (told (dd B H) H.length B.length)) := by
  obtain ⟨v, hv⟩ := Dt_some (dd B H) H.length B.length f.le
  obtain ⟨h1, h2, h3, h4⟩ := told_ok hv
  exact ⟨⟨h1, h4, h3.imp fun h => Nat.ne_of_lt h⟩, h3, by rw [least, hv, costL, h2]⟩
theorem least_le {B H : List Nat} (f : Fr B H) {g : Nat → Nat} (h : Inj g B.length H.length) : ∃ v, least B H = some v ∧ v ≤ cost (dd B H) g B.length :=
  Dt_le H.length B.length g (dd_monge f.b.srt f.h.srt) h
/-! prices told -/
theorem enum_nl (H : List Nat) : enumD 0 (nl H) = (List.range H.length).map fun i => .tuple [di i, di (H.getD i 0)] := by
  have := enumD_map' di 0 H 0
  rw [show nl H = H.map di from rfl, this]
  refine List.map_congr_left fun i _ => ?_
  rw [Nat.zero_add]
theorem sumN_set : ∀ (l : List Nat) (k x : Nat), k < l.length → sumN (l.set k x) + l.getD k 0 = sumN l + x
  | [], k, x, h => absurd h (Nat.not_lt_zero _)
  | y :: l, 0, x, _ => by simp; omega
  | y :: l, k + 1, x, h => by
    have := sumN_set l k x (by simpa using h)
    simp at this ⊢
    omega
theorem sumN_le : ∀ (l : List Nat) (b : Nat), (∀ x, x ∈ l → x ≤ b) → sumN l ≤ l.length * b
  | [], b, _ => by simp
  | x :: l, b, h => by
    have a := sumN_le l b fun y hy => h y (List.mem_cons_of_mem _ hy)
    have c := h x List.mem_cons_self
    rw [sumN_cons, List.length_cons, Nat.succ_mul]
    omega
theorem getD_set (l : List Nat) (k x t : Nat) (h : k < l.length) : (l.set k x).getD t 0 = if t = k then x else l.getD t 0 := by
  by_cases e : t = k
  · subst e; simp [h]
  · have : ¬ k = t := fun z => e z.symm
    simp [e, List.getElem?_set_ne this]
theorem setD_nl (l : List Nat) (k x : Nat) (h : k < l.length) : setD (di k) (di x) (.list (nl l)) = .ok (.list (nl (l.set k x))) := by
  have : ixD (nl l).length (k : Int) = some k := by
    unfold ixD
    rw [if_pos (by omega), if_pos (by rw [nl_length]; omega)]
    rfl
  simp only [setD, toI_di, R.bind_ok, this, oR_some, nl_set]
/-- what a row of prices is on the way -/
structure Jp (n : Nat) (π : Nat → Nat) (P : List Nat) : Prop where
  len : P.length = n
  le : ∀ t, t < n → P.getD t 0 ≤ π t
structure Ps (B H q : List Nat) (π : Nat → Nat) : Prop where
  pa : Pa B H q
  ok : ∀ i t, i < B.length → t < H.length → π (q.getD i 0) + dd B H i (q.getD i 0) ≤ π t + dd B H i t
  b : ∀ t, t < H.length → π t ≤ 200
def Fix (B H q P : List Nat) (i t : Nat) : Prop := P.getD (q.getD i 0) 0 + dd B H i (q.getD i 0) ≤ P.getD t 0 + dd B H i t
structure Go (n : Nat) (π : Nat → Nat) (P0 : List Nat) (s : List Nat × Bool) : Prop where
  j : Jp n π s.1
  le : sumN P0 ≤ sumN s.1
  up : s.2 = true → sumN P0 < sumN s.1
  eq : s.2 = false → s.1 = P0
theorem relax_row {B H q : List Nat} {π : Nat → Nat} (h : Ps B H q π) (i : Nat) (hi : i < B.length) (P0 : List Nat) (s0 : List Nat × Bool) (g0 : Go H.length π P0 s0) (x0 x1 x2 : Option Da) (hx1 : x1 = some (.tuple (nl H))) :
    ∃ s, Go H.length π P0 s ∧ (s.2 = false → s0.2 = false ∧ ∀ t, t < H.length → Fix B H q P0 i t) ∧
      l_raised_1 [x0, x1, x2, some (.list (nl s0.1)), some (.bool s0.2), some (di (B.getD i 0)), some (di (q.getD i 0)), none, none, none] = .ok (.nx [x0, x1, x2, some (.list (nl s.1)), some (.bool s.2), none, none, none, none, none]) := by
  have hqi : q.getD i 0 < H.length := h.pa.lt _ (by
    have : i < q.length := by rw [h.pa.len]; exact hi
    simp [this])
  let pays := dd B H i (q.getD i 0) + s0.1.getD (q.getD i 0) 0
  have pays_le : ∀ t, t < H.length → pays ≤ dd B H i t + π t := fun t ht => by
    have a := h.ok i t hi ht
    have b := g0.j.le _ hqi
    show dd B H i (q.getD i 0) + s0.1.getD (q.getD i 0) 0 ≤ _
    omega
  have key := forL_inv (g := gTupD [gVar 8, gVar 9]) (body := l_raised_0) (fun t => PyData.tuple [di t, di (H.getD t 0)]) (fun s : List Nat × Bool => [x0, x1, x2, some (.list (nl s.1)), some (.bool s.2), some (di (B.getD i 0)), none, some (di pays), none, none])
    (fun don s => Go H.length π P0 s ∧ (s.2 = false → s0.2 = false ∧ ∀ t, t < don.length → pays ≤ dd B H i t + P0.getD t 0)) (List.range H.length) [] s0 ⟨g0, fun e => ⟨e, fun _ z => absurd z (Nat.not_lt_zero _)⟩⟩ ?_
  · obtain ⟨s, ⟨g, f⟩, k⟩ := key
    refine ⟨s, g, fun e => ?_, ?_⟩
    · obtain ⟨e0, f'⟩ := f e
      have q0 := g0.eq e0
      refine ⟨e0, fun t ht => ?_⟩
      have := f' t (by simpa using ht)
      unfold Fix
      rw [← q0] at this ⊢
      have z : dd B H i (q.getD i 0) + s0.1.getD (q.getD i 0) 0 ≤ dd B H i t + s0.1.getD t 0 := this
      omega
    · have ixq := dl.2.1 H (q.getD i 0) hqi
      have ab := dAbs_dd B H i (q.getD i 0)
      have ixp := dl.1 s0.1 (q.getD i 0) (by rw [g0.j.len]; exact hqi)
      have pe : dd B H i (q.getD i 0) + s0.1.getD (q.getD i 0) 0 = pays := rfl
      have el : enumD 0 (nl H) = (List.range H.length).map fun t => PyData.tuple [di t, di (H.getD t 0)] := enum_nl H
      subst hx1
      simp only [l_raised_1]
      generalize (List.range H.length).map (fun t => PyData.tuple [di t, di (H.getD t 0)]) = Z at el k
      simp [ixq, dSub_cast, ab, ixp, dAdd_nat, pe, el, k, -List.getD_eq_getElem?_getD]
  · rintro don x ⟨P, ch⟩ ⟨rest, er⟩ ⟨g, f⟩
    have er2 : List.range' 0 H.length = don ++ x :: rest := by rw [← List.range_eq_range']; simpa using er
    obtain ⟨hx, hlt⟩ := range'_split er2
    have hx' : x = don.length := by omega
    subst hx'
    have ab := dAbs_dd B H i don.length
    have ixp := dl.1 P don.length (by rw [g.j.len]; exact hlt)
    have pl := pays_le don.length hlt
    by_cases c : dd B H i don.length + P.getD don.length 0 < pays
    · have s1 := dSub_nat pays (dd B H i don.length) (by omega)
      have st := setD_nl P don.length (pays - dd B H i don.length) (by rw [g.j.len]; exact hlt)
      have ss := sumN_set P don.length (pays - dd B H i don.length) (by rw [g.j.len]; exact hlt)
      refine ⟨(P.set don.length (pays - dd B H i don.length), true), ⟨⟨⟨by simpa using g.j.len, fun t ht => ?_⟩, ?_, fun _ => ?_, fun z => nomatch z⟩, fun z => nomatch z⟩, ?_⟩
      · show (P.set don.length (pays - dd B H i don.length)).getD t 0 ≤ π t
        rw [getD_set _ _ _ _ (by rw [g.j.len]; exact hlt)]
        split
        · rename_i e; subst e; omega
        · exact g.j.le t ht
      · have := g.le
        show sumN P0 ≤ sumN (P.set don.length (pays - dd B H i don.length))
        have : sumN P0 ≤ sumN P := this
        omega
      · have := g.le
        show sumN P0 < sumN (P.set don.length (pays - dd B H i don.length))
        have : sumN P0 ≤ sumN P := this
        omega
      · simp only [l_raised_0]
        simp [dSub_cast, ab, ixp, dAdd_nat, dGt_nat, c, s1, updE, st, -List.getD_eq_getElem?_getD]
    · refine ⟨(P, ch), ⟨g, fun e => ?_⟩, ?_⟩
      · obtain ⟨e0, f'⟩ := f e
        have q1 := g.eq e
        refine ⟨e0, fun t ht => ?_⟩
        by_cases z : t < don.length
        · exact f' t z
        · have : t = don.length := by simp at ht; omega
          subst this
          have q1' : P = P0 := q1
          rw [← q1']
          omega
      · simp only [l_raised_0]
        simp [dSub_cast, ab, ixp, dAdd_nat, dGt_nat, c, -List.getD_eq_getElem?_getD]
theorem raised {B H q : List Nat} {π : Nat → Nat} (h : Ps B H q π) (hn : H.length ≤ 10) : ∃ P, f_raised [.tuple (nl B), .tuple (nl H), .tuple (nl q)] = .ok (.list (nl P)) ∧ Jp H.length π P ∧ ∀ i t, i < B.length → t < H.length → Fix B H q P i t := by
  have zz := zipD_nl B q
  rw [h.pa.len, Nat.min_self] at zz
  have bs : ∀ P, Jp H.length π P → sumN P ≤ 2000 := fun P j => by
    have := sumN_le P 200 fun x hx => by
      obtain ⟨t, ht, e⟩ := List.mem_iff_getElem.mp hx
      have a := j.le t (by rw [← j.len]; exact ht)
      have b := h.b t (by rw [← j.len]; exact ht)
      have c : P.getD t 0 = x := by simp [ht, e]
      omega
    rw [j.len] at this
    omega
  obtain ⟨s, ⟨i1, i2⟩, hgo, hw⟩ := sWhile_inv (c := w_raised_2) (body := l_raised_2)
    (fun s : List Nat × Bool => [some (.tuple (nl B)), some (.tuple (nl H)), some (.tuple (nl q)), some (.list (nl s.1)), some (.bool s.2), none, none, none, none, none]) (fun s => s.2)
    (fun s => Jp H.length π s.1 ∧ (s.2 = false → ∀ i t, i < B.length → t < H.length → Fix B H q s.1 i t)) (fun s => if s.2 then 2001 - sumN s.1 else 0)
    (fun s _ => by simp [w_raised_2])
    (fun s ⟨j, _⟩ hs => by
      have key := forL_inv (g := gTupD [gVar 5, gVar 6]) (body := l_raised_1) (fun i => PyData.tuple [di (B.getD i 0), di (q.getD i 0)]) (fun s : List Nat × Bool => [some (.tuple (nl B)), some (.tuple (nl H)), some (.tuple (nl q)), some (.list (nl s.1)), some (.bool s.2), none, none, none, none, none])
        (fun don s' => Go H.length π s.1 s' ∧ (s'.2 = false → ∀ i t, i < don.length → t < H.length → Fix B H q s.1 i t)) (List.range B.length) [] (s.1, false) ⟨⟨j, Nat.le_refl _, (fun z => nomatch z), fun _ => rfl⟩, fun _ _ _ z => absurd z (Nat.not_lt_zero _)⟩ ?_
      · obtain ⟨s', ⟨g, f⟩, k⟩ := key
        refine ⟨s', ?_, ⟨g.j, fun e i t hi ht => ?_⟩, ?_⟩
        · simp only [l_raised_2]
          generalize (List.range B.length).map (fun i => PyData.tuple [di (B.getD i 0), di (q.getD i 0)]) = Z at zz k
          simp [zz, k]
        · rw [g.eq e]
          exact f e i t (by simpa using hi) ht
        · have a := bs _ j
          have b := bs _ g.j
          show (if s'.2 = true then 2001 - sumN s'.1 else 0) < if s.2 = true then 2001 - sumN s.1 else 0
          rw [if_pos hs]
          split
          · rename_i e
            have := g.up e
            omega
          · omega
      · rintro don x ⟨P, ch⟩ ⟨rest, er⟩ ⟨g, f⟩
        have er2 : List.range' 0 B.length = don ++ x :: rest := by rw [← List.range_eq_range']; simpa using er
        obtain ⟨hx, hlt⟩ := range'_split er2
        have hx' : x = don.length := by omega
        subst hx'
        obtain ⟨s', g', f', e'⟩ := relax_row h don.length hlt s.1 (P, ch) g (some (.tuple (nl B))) _ (some (.tuple (nl q))) rfl
        refine ⟨s', ⟨g', fun e i t hi ht => ?_⟩, ?_⟩
        · obtain ⟨e0, ff⟩ := f' e
          by_cases z : i < don.length
          · exact f e0 i t z ht
          · have : i = don.length := by simp at hi; omega
            subst this
            exact ff t ht
        · simp [e', -List.getD_eq_getElem?_getD])
    fuel (List.replicate H.length 0, true) ⟨⟨by simp, fun t ht => by simp [ht]⟩, fun z => nomatch z⟩ (by
      show (if true = true then 2001 - sumN (List.replicate H.length 0) else 0) < fuel
      unfold fuel
      simp
      omega)
  refine ⟨s.1, ?_, i1, i2 hgo⟩
  have r0 := repD0 H.length (by omega)
  have hw' : whileF w_raised_2 l_raised_2 fuel [some (.tuple (nl B)), some (.tuple (nl H)), some (.tuple (nl q)), some (.list (nl (List.replicate H.length 0))), some (.bool true), none, none, none, none, none] = _ := hw
  generalize nl (List.replicate H.length 0) = Z at r0 hw'
  simp [f_raised, runDef_, b_raised, int_lit, dl, r0, sWhile, hw']
end K74
set_option Elab.async false
set_option linter.all false
set_option maxRecDepth 10000
namespace K74
open PySem DL
/-! what prices are asked to be -/
theorem zipD_nli : ∀ (B : List Nat) (u : List Int), zipD (nl B) (il u) = (List.range (min B.length u.length)).map fun k => .tuple [di (B.getD k 0), .int (u.getD k 0)]
  | [], _ => by simp [zipD]
  | _ :: _, [] => by simp [zipD]
  | b :: B, h :: u => by
    have e : min (b :: B).length (h :: u).length = min B.length u.length + 1 := by simp
    rw [e, List.range_succ_eq_map, List.map_cons, List.map_map, nl_cons, il_cons]
    show PyData.tuple [di b, .int h] :: zipD (nl B) (il u) = _
    rw [zipD_nli B u]
    rfl
theorem lcL2_map {α : Type} (e : α → Da) (g : α → List Da) {f : Da → R (List Da)} : ∀ xs : List α, (∀ x, x ∈ xs → f (e x) = .ok (g x)) → lcL2 f (xs.map e) = .ok (xs.flatMap g)
  | [], _ => rfl
  | x :: xs, w => by
    have i := lcL2_map e g xs fun y hy => w y (List.mem_cons_of_mem _ hy)
    show (match f (e x) with
      | .ok ys => (match lcL2 f (xs.map e) with
        | .ok zs => R.ok (ys ++ zs)
        | _ => .bad)
      | _ => .bad) = _
    rw [w x List.mem_cons_self, i, List.flatMap_cons]
def inB (a b x : Int) : Bool := decide (a ≤ x) && decide (x ≤ b)
theorem btwI (x a b : Int) : f_is_between [.int x, .int a, .int b] = .ok (.bool (inB a b x)) := is_between x a b
def pairB (B H : List Nat) (u v : List Int) (i : Nat) : List Bool := (List.range H.length).map fun j => decide (u.getD i 0 - v.getD j 0 ≤ (dd B H i j : Nat))
def feasB (B H : List Nat) (u v : List Int) : Bool := (List.range B.length).all fun i => (pairB B H u v i).all id
def okP (B H : List Nat) (u v : List Int) : Bool := u.all (inB (-1000) 1000) && (v.all (inB 0 1000) && feasB B H u v)
def pairD (u v : List Int) : Da := .tuple [.tuple (il u), .tuple (il v)]
theorem lc_il {f : Da → R (Option Da)} (p : Int → Bool) (l : List Int) (w : ∀ x, x ∈ l → f (.int x) = .ok (some (.bool (p x)))) : lcL f (il l) = .ok (bl (l.map p)) := by
  unfold il bl
  rw [lcL_map PyData.int (fun x => .bool (p x)) l w, List.map_map]
  rfl
theorem bl_flat {α : Type} (g : α → List Bool) : ∀ l : List α, l.flatMap (fun x => bl (g x)) = bl (l.flatMap g)
  | [] => rfl
  | x :: l => by
    rw [List.flatMap_cons, List.flatMap_cons, bl_flat g l, bl, bl, bl, List.map_append]
theorem all_flat {α : Type} (g : α → List Bool) : ∀ l : List α, (l.flatMap g).all id = l.all fun x => (g x).all id
  | [] => rfl
  | x :: l => by rw [List.flatMap_cons, List.all_append, all_flat g l, List.all_cons]
theorem flat_len {α : Type} (g : α → List Bool) (n : Nat) (h : ∀ x, (g x).length = n) : ∀ l : List α, (l.flatMap g).length = l.length * n
  | [] => by simp
  | x :: l => by rw [List.flatMap_cons, List.length_append, flat_len g n h l, h, List.length_cons, Nat.succ_mul]; omega
theorem is_tuple_ofL (l : List Da) (n : Nat) : f_is_tuple_of [.tuple l, di n] = .ok (.bool (decide (l.length = n))) := by
  have e : dEq (di l.length) (di n) = .ok (.bool (decide (l.length = n))) := dEq_nat _ _
  simp [f_is_tuple_of, runDef_, b_is_tuple_of, dLen_tuple_nat, e]
theorem are_prices {B H : List Nat} (hB : B.length ≤ 8) (hH : H.length ≤ 10) (u v : List Int) (hu : u.length = B.length) (hv : v.length = H.length) : f_are_prices [.tuple (nl B), .tuple (nl H), pairD u v] = .ok (.bool (okP B H u v)) := by
  have t1 := is_tuple_ofL [.tuple (il u), .tuple (il v)] 2
  have t2 := is_tuple_ofL (il u) B.length
  have t3 := is_tuple_ofL (il v) H.length
  rw [il_length, hu] at t2
  rw [il_length, hv] at t3
  have ix0 : dIx (pairD u v) (di 0) = .ok (.tuple (il u)) := rfl
  have ix1 : dIx (pairD u v) (di 1) = .ok (.tuple (il v)) := rfl
  have t1' : f_is_tuple_of [pairD u v, di 2] = .ok (.bool true) := t1
  have n1 : dNeg (di 1000) = .ok (.int (-1000)) := rfl
  have lu : ∀ E : Ev, E.length = 8 → lcL (lcF (gVar 7) [7] eYes (eA f_is_between (aCons (eVar 7) (aCons (e1 dNeg (eC (di 1000))) (aCons (eC (di 1000)) aNil)))) E) (il u) = .ok (bl (u.map (inB (-1000) 1000))) := fun E hE => lc_il _ u fun x _ => by
    have a : (E.set 7 (some (.int x)))[7]? = some (some (.int x)) := by simp [hE]
    have b := btwI x (-1000) 1000
    have b' : f_is_between [.int x, .int (-1000), di 1000] = .ok (.bool (inB (-1000) 1000 x)) := b
    simp [lcF, a, n1, b']
  have lv : ∀ E : Ev, E.length = 8 → lcL (lcF (gVar 7) [7] eYes (eA f_is_between (aCons (eVar 7) (aCons (eC (di 0)) (aCons (eC (di 1000)) aNil)))) E) (il v) = .ok (bl (v.map (inB 0 1000))) := fun E hE => lc_il _ v fun x _ => by
    have a : (E.set 7 (some (.int x)))[7]? = some (some (.int x)) := by simp [hE]
    have b' : f_is_between [.int x, di 0, di 1000] = .ok (.bool (inB 0 1000 x)) := btwI x 0 1000
    simp [lcF, a, b']
  have z1 := zipD_nli B u
  rw [hu, Nat.min_self] at z1
  have z2 := zipD_nli H v
  rw [hv, Nat.min_self] at z2
  have l2 : lcL2 (lcF2 (gTupD [gVar 3, gVar 4]) [3, 4, 5, 6] eYes (iZip (eVar 1) (e2 dIx (eVar 2) (eC (di 1)))) (gTupD [gVar 5, gVar 6]) [5, 6] eYes (e2 dLe (e2 dSub (eVar 4) (eVar 6)) (eA dAbs (aCons (e2 dSub (eVar 3) (eVar 5)) aNil))) [some (.tuple (nl B)), some (.tuple (nl H)), some (pairD u v), none, none, none, none, none]) (zipD (nl B) (il u)) = .ok (bl ((List.range B.length).flatMap (pairB B H u v))) := by
    rw [z1, lcL2_map _ (fun i => bl (pairB B H u v i)) _ fun i hi => ?_]
    · rw [bl_flat]
    · have lin : ∀ E : Ev, E = [some (.tuple (nl B)), some (.tuple (nl H)), some (pairD u v), some (di (B.getD i 0)), some (.int (u.getD i 0)), none, none, none] → lcL (lcF (gTupD [gVar 5, gVar 6]) [5, 6] eYes (e2 dLe (e2 dSub (eVar 4) (eVar 6)) (eA dAbs (aCons (e2 dSub (eVar 3) (eVar 5)) aNil))) E) (zipD (nl H) (il v)) = .ok (bl (pairB B H u v i)) := fun E hE => by
        subst hE
        rw [z2, lcL_map _ (fun j => .bool (decide (u.getD i 0 - v.getD j 0 ≤ (dd B H i j : Nat)))) _ fun j hj => ?_]
        · rw [bl, pairB, List.map_map]
          rfl
        · have ab := dAbs_dd B H i j
          have le : dLe (.int (u.getD i 0 - v.getD j 0)) (di (dd B H i j)) = .ok (.bool (decide (u.getD i 0 - v.getD j 0 ≤ (dd B H i j : Nat)))) := rfl
          have sb : dSub (.int (u.getD i 0)) (.int (v.getD j 0)) = .ok (.int (u.getD i 0 - v.getD j 0)) := rfl
          simp [lcF, dSub_cast, ab, sb, le, -List.getD_eq_getElem?_getD]
      have := lin _ rfl
      simp [lcF2, ix1, this, -List.getD_eq_getElem?_getD]
  have bb : ((List.range B.length).flatMap (pairB B H u v)).length ≤ big := by
    rw [flat_len (pairB B H u v) H.length (fun x => by simp [pairB]), List.length_range]
    have : B.length * H.length ≤ 8 * 10 := Nat.mul_le_mul hB hH
    unfold big
    omega
  have bb' : (bl ((List.range B.length).flatMap (pairB B H u v))).length ≤ big := by rw [bl, List.length_map]; exact bb
  have af := all_flat (pairB B H u v) (List.range B.length)
  have af' : ((List.range B.length).all fun x => (pairB B H u v x).all id) = feasB B H u v := rfl
  have ab : dAll [.list (bl ((List.range B.length).flatMap (pairB B H u v)))] = .ok (.bool (feasB B H u v)) := by
    rw [dAll_list, bls_bl, R.bind_ok, af, af']
  have au : dAll [.list (bl (u.map (inB (-1000) 1000)))] = .ok (.bool (u.all (inB (-1000) 1000))) := by rw [dAll_list, bls_bl, R.bind_ok, all_map_id]
  have av : dAll [.list (bl (v.map (inB 0 1000)))] = .ok (.bool (v.all (inB 0 1000))) := by rw [dAll_list, bls_bl, R.bind_ok, all_map_id]
  generalize bl ((List.range B.length).flatMap (pairB B H u v)) = Y at *
  generalize bl (u.map (inB (-1000) 1000)) = Y1 at *
  generalize bl (v.map (inB 0 1000)) = Y2 at *
  have lu' := lu [some (.tuple (nl B)), some (.tuple (nl H)), some (pairD u v), none, none, none, none, none] rfl
  have lv' := lv [some (.tuple (nl B)), some (.tuple (nl H)), some (pairD u v), none, none, none, none, none] rfl
  unfold okP
  cases q1 : u.all (inB (-1000) 1000) with
  | false =>
    rw [q1] at au
    simp [f_are_prices, runDef_, b_are_prices, int_lit, t1', ix0, ix1, dl, t2, t3, eLc, lu', au]
  | true =>
    rw [q1] at au
    cases q2 : v.all (inB 0 1000) with
    | false =>
      rw [q2] at av
      simp [f_are_prices, runDef_, b_are_prices, int_lit, t1', ix0, ix1, dl, t2, t3, eLc, lu', au, lv', av]
    | true =>
      rw [q2] at av
      simp [f_are_prices, runDef_, b_are_prices, int_lit, t1', ix0, ix1, dl, t2, t3, eLc, lu', au, lv', av, eLc2, l2, bb', ab]
theorem sum_il (u : List Int) : dSumL [.tuple (il u)] = .ok (.int u.sum) := by
  show (intsD (il u)).bind _ = _
  rw [ints_il]
  rfl
theorem is_button_prices {B H : List Nat} (f : Fr B H) (u v : List Int) (hu : u.length = B.length) (hv : v.length = H.length) {l : Nat} (hl : least B H = some l) :
    f_is_button_prices [.tuple (nl B), .tuple (nl H), pairD u v] = .ok (.bool (okP B H u v && decide (u.sum - v.sum = (l : Nat)))) := by
  have ap := are_prices f.b.len f.h.len u v hu hv
  have tb := table_of f.b.len f.h.len
  have ix0 : dIx (pairD u v) (di 0) = .ok (.tuple (il u)) := rfl
  have ix1 : dIx (pairD u v) (di 1) = .ok (.tuple (il v)) := rfl
  have hl' : Dt (dd B H) H.length B.length = some l := hl
  have sb : dSub (.int u.sum) (.int v.sum) = .ok (.int (u.sum - v.sum)) := rfl
  have eq : dEq (.int (u.sum - v.sum)) (di l) = .ok (.bool (decide (u.sum - v.sum = (l : Nat)))) := rfl
  cases q : okP B H u v with
  | false =>
    rw [q] at ap
    simp [f_is_button_prices, runDef_, b_is_button_prices, need_fronts f, ap]
  | true =>
    rw [q] at ap
    simp [f_is_button_prices, runDef_, b_is_button_prices, need_fronts f, ap, int_lit, ix0, ix1, sum_il, sb, tb, dNeg_1, last_of, last_row, hl', eq]
/-! the prices told -/
theorem dd_le {B H : List Nat} (hb : ∀ x, x ∈ B → x ≤ 200) (hh : ∀ x, x ∈ H → x ≤ 200) {i j : Nat} (hi : i < B.length) (hj : j < H.length) : dd B H i j ≤ 200 := by
  have a := hb (B.getD i 0) (by simp [hi])
  have b := hh (H.getD j 0) (by simp [hj])
  unfold dd dist
  omega
theorem prices_ps {B H : List Nat} (f : Fr B H) : ∃ π : Nat → Nat, Ps B H (told (dd B H) H.length B.length) π ∧ ∀ t, t < H.length → t ∉ told (dd B H) H.length B.length → π t = 0 := by
  obtain ⟨pa, inc, hl⟩ := told_pa f
  let q := told (dd B H) H.length B.length
  have iq : Inc (fn q) B.length H.length := ⟨pa.inj.lt, fun i j hij hj => fn_mono inc hij (by rw [pa.len]; exact hj)⟩
  have opt : ∀ g, Inj g B.length H.length → cost (dd B H) (fn q) B.length ≤ cost (dd B H) g B.length := fun g hg => by
    obtain ⟨v, hv, le⟩ := least_le f hg
    rw [hl] at hv
    cases hv
    exact le
  obtain ⟨π, p1, p2, p3⟩ := prices_are (g := fun t => H.getD t 0) (b := 200) iq (dd_monge f.b.srt f.h.srt) opt (fun i s t _ hs ht => by
    have := get_le f.h.srt hs ht
    unfold dd dist
    omega) (fun t ht => f.h.bd _ (by simp [ht]))
  refine ⟨fun t => (π t).toNat, ⟨pa, fun i t hi ht => ?_, fun t ht => ?_⟩, fun t ht hn => ?_⟩
  · have a := p2 i t hi ht
    have b := p1 t ht
    have c := p1 _ (iq.lt i hi)
    unfold W at a
    have e : fn q i = q.getD i 0 := rfl
    rw [e] at a c
    show (π (q.getD i 0)).toNat + dd B H i (q.getD i 0) ≤ (π t).toNat + dd B H i t
    omega
  · have := p1 t ht
    show (π t).toNat ≤ 200
    omega
  · have := p3 t ht fun i hi e => hn (by
      rw [← e, fn_get (by rw [pa.len]; exact hi)]
      exact List.getElem_mem _)
    show (π t).toNat = 0
    rw [this]
    rfl
theorem sumN_perm {l m : List Nat} (h : l.Perm m) : sumN l = sumN m := by
  induction h with
  | nil => rfl
  | cons x _ ih => rw [sumN_cons, sumN_cons, ih]
  | swap x y l => simp; omega
  | trans _ _ a b => rw [a, b]
theorem sumN_filter (w : Nat → Nat) (p : Nat → Bool) : ∀ l : List Nat, (∀ x, x ∈ l → p x = false → w x = 0) → sumN (l.map w) = sumN ((l.filter p).map w)
  | [], _ => rfl
  | x :: l, h => by
    have i := sumN_filter w p l fun y hy => h y (List.mem_cons_of_mem _ hy)
    rw [List.map_cons, sumN_cons, i, List.filter_cons]
    cases q : p x with
    | true => simp
    | false =>
      have := h x List.mem_cons_self q
      simp [this]
theorem sum_on {n : Nat} {q P : List Nat} (hP : P.length = n) (nd : q.Nodup) (lt : ∀ k, k ∈ q → k < n) (z : ∀ t, t < n → t ∉ q → P.getD t 0 = 0) : sumN P = sumN (q.map fun t => P.getD t 0) := by
  have e : P = (List.range n).map fun t => P.getD t 0 := by
    refine List.ext_getElem (by simp [hP]) fun i h1 h2 => ?_
    simp [h1]
  have pm : ((List.range n).filter fun t => decide (t ∈ q)).Perm q := (List.perm_ext_iff_of_nodup (List.nodup_range.filter _) nd).mpr fun a => by
    rw [List.mem_filter, List.mem_range, decide_eq_true_eq]
    exact ⟨fun h => h.2, fun h => ⟨lt a h, h⟩⟩
  have s := sumN_filter (fun t => P.getD t 0) (fun t => decide (t ∈ q)) (List.range n) fun x hx hp => z x (List.mem_range.mp hx) (by simpa using hp)
  rw [← e] at s
  rw [s]
  exact sumN_perm (pm.map _)
theorem map_range (q : List Nat) (w : Nat → Nat) : q.map w = (List.range q.length).map fun i => w (q.getD i 0) := by
  refine List.ext_getElem (by simp) fun i h1 h2 => ?_
  have : i < q.length := by simpa using h1
  simp [this]
theorem sm_add' (v w : Nat → Nat) : ∀ n, sm (fun i => v i + w i) n = sm v n + sm w n
  | 0 => rfl
  | n + 1 => by rw [sm, sm, sm, sm_add' v w n]; omega
structure Pr (B H U P : List Nat) (l : Nat) : Prop where
  lu : U.length = B.length
  lp : P.length = H.length
  bu : ∀ i, i < B.length → U.getD i 0 ≤ 400
  bp : ∀ t, t < H.length → P.getD t 0 ≤ 200
  ok : ∀ i t, i < B.length → t < H.length → U.getD i 0 ≤ P.getD t 0 + dd B H i t
  sum : sumN U = sumN P + l
theorem button_prices {B H : List Nat} (f : Fr B H) : ∃ U P l, least B H = some l ∧ Pr B H U P l ∧ f_button_prices [.tuple (nl B), .tuple (nl H)] = .ok (.tuple [.tuple (nl U), .tuple (nl P)]) := by
  obtain ⟨pa, inc, hl⟩ := told_pa f
  obtain ⟨π, ps, zero⟩ := prices_ps f
  obtain ⟨P, er, jp, fx⟩ := raised ps f.h.len
  have bpair := best_pairing f.b.len f.h.len f.le
  generalize told (dd B H) H.length B.length = q at *
  let U := (List.range B.length).map fun i => dd B H i (q.getD i 0) + P.getD (q.getD i 0) 0
  have hq : ∀ i, i < B.length → q.getD i 0 < H.length := fun i hi => pa.lt _ (by
    have : i < q.length := by rw [pa.len]; exact hi
    simp [this])
  have ug : ∀ i, i < B.length → U.getD i 0 = dd B H i (q.getD i 0) + P.getD (q.getD i 0) 0 := fun i hi => by simp [U, hi]
  have zz := zipD_nl B q
  rw [pa.len, Nat.min_self] at zz
  have lc : lcL (lcF (gTupD [gVar 5, gVar 6]) [5, 6] eYes (e2 dAdd (eA dAbs (aCons (e2 dSub (eVar 5) (e2 dIx (eVar 1) (eVar 6))) aNil)) (e2 dIx (eVar 3) (eVar 6))) [some (.tuple (nl B)), some (.tuple (nl H)), some (.tuple (nl q)), some (.list (nl P)), none, none, none]) (zipD (nl B) (nl q)) = .ok (nl U) := by
    rw [zz, lcL_map _ (fun i => di (dd B H i (q.getD i 0) + P.getD (q.getD i 0) 0)) _ fun i hi => by
      have hi' := List.mem_range.mp hi
      have ix1 := dl.2.1 H (q.getD i 0) (hq i hi')
      have ix2 := dl.1 P (q.getD i 0) (by rw [jp.len]; exact hq i hi')
      have ab := dAbs_dd B H i (q.getD i 0)
      simp [lcF, ix1, dSub_cast, ab, ix2, dAdd_nat, -List.getD_eq_getElem?_getD]]
    rw [nl, List.map_map]
    rfl
  have bP : ∀ t, t < H.length → P.getD t 0 ≤ 200 := fun t ht => Nat.le_trans (jp.le t ht) (ps.b t ht)
  refine ⟨U, P, costL B H q, hl, ⟨by simp [U], jp.len, fun i hi => ?_, bP, fun i t hi ht => ?_, ?_⟩, ?_⟩
  · rw [ug i hi]
    have a := dd_le f.b.bd f.h.bd hi (hq i hi)
    have b := bP _ (hq i hi)
    omega
  · rw [ug i hi]
    have := fx i t hi ht
    unfold Fix at this
    omega
  · have so := sum_on jp.len pa.nd pa.lt fun t ht hn => by
      have a := jp.le t ht
      have b := zero t ht hn
      omega
    rw [so, map_range q, pa.len, sumN_sm, costL_sum, sumN_sm, sumN_sm, sm_add' (fun i => dd B H i (q.getD i 0)) (fun i => P.getD (q.getD i 0) 0)]
    omega
  · generalize U = U' at lc
    simp [f_button_prices, runDef_, b_button_prices, need_fronts f, bpair, er, eLc, lc]
/-! the script's fronts -/
theorem sortT (l : List Nat) : dSorted [.tuple (nl l)] = .ok (.list (nl (sortN l))) := by
  show (intsD (nl l)).bind _ = _
  rw [ints_nl]
  show R.ok (PyData.list ((sortI _).map PyData.int)) = _
  rw [sortI_cast, nl, List.map_map]
  rfl
theorem mem_getD {l : List Nat} {k : Nat} (h : k < l.length) : l.getD k 0 ∈ l := by simp [h]
theorem top_of (d : Nat) (h : d < 3) : ∃ top, 0 < top ∧ top ≤ 201 ∧ dIx (.list [di 6, di 30, di 201]) (di d) = .ok (di top) := by
  have c3 : d = 0 ∨ d = 1 ∨ d = 2 := by omega
  rcases c3 with e | e | e <;> subst e
  · exact ⟨6, by decide, by decide, rfl⟩
  · exact ⟨30, by decide, by decide, rfl⟩
  · exact ⟨201, by decide, by decide, rfl⟩
theorem addT (a b : List Nat) (h : a.length + b.length ≤ 1000) : dAdd (.tuple (nl a)) (.tuple (nl b)) = .ok (.tuple (nl (a ++ b))) := by
  show (if (nl a).length + (nl b).length ≤ big then R.ok (PyData.tuple (nl a ++ nl b)) else .bad) = _
  rw [if_pos (by simp; unfold big; omega), nl_append]
theorem law_fronts (c0 c1 c2 : Int) (bm hm : Nat) (h1 : bm ≤ 8) (h2 : hm ≤ 10) : ∃ B H, Fr B H ∧ B.length ≤ bm ∧ (H.length ≤ hm ∨ H.length ≤ bm) ∧ f__law_fronts [.int c0, .int c1, .int c2, di bm, di hm] = .ok (.tuple [.tuple (nl B), .tuple (nl H)]) := by
  obtain ⟨ks, hk, hkl, hkr⟩ := law_row c2 1 3 (by decide) (by decide) (by decide)
  have k0 := dl.1 ks 0 (by omega)
  obtain ⟨top, t0, t1, tp⟩ := top_of (ks.getD 0 0) (hkl _ (mem_getD (by omega)))
  obtain ⟨B, hB, _, hBr⟩ := law_places c0 bm top (by omega) t0 t1
  obtain ⟨H0, hH0, _, hHr⟩ := law_places c1 hm top (by omega) t0 t1
  have bl := hB.len
  have hl := hH0.len
  obtain ⟨H, ⟨i1, i2⟩, hgo, hw⟩ := sWhile_inv (c := w__law_fronts_0) (body := l__law_fronts_0)
    (fun H : List Nat => [none, none, none, none, none, none, some (.tuple (nl B)), some (.tuple (nl H))]) (fun H => decide (H.length < B.length))
    (fun H => Pl H 10 ∧ (H.length ≤ hm ∨ H.length ≤ bm)) (fun H => B.length - H.length)
    (fun H _ => by simp [w__law_fronts_0, dl, dn])
    (fun H ⟨j1, j2⟩ hs => by
      have hs' : H.length < B.length := by simpa using hs
      have ix := dl.2.1 B H.length hs'
      have dv := dDiv_nat (B.getD H.length 0) 2 (by decide) (by decide)
      have ad := addT H [B.getD H.length 0 / 2] (by simp; omega)
      have so := sortT (H ++ [B.getD H.length 0 / 2])
      have p := sortN_perm (H ++ [B.getD H.length 0 / 2])
      have pl := p.length_eq
      rw [List.length_append, List.length_singleton] at pl
      refine ⟨sortN (H ++ [B.getD H.length 0 / 2]), ?_, ⟨⟨by rw [pl]; omega, fun x hx => ?_, sortN_sorted _⟩, by rw [pl]; omega⟩, by rw [pl]; omega⟩
      · simp [-List.getD_eq_getElem?_getD] at ad so
        simp only [l__law_fronts_0]
        simp [int_lit, dl, ix, dv, ad, so, -List.getD_eq_getElem?_getD]
      · rcases List.mem_append.mp (p.mem_iff.mp hx) with hx | hx
        · exact j1.bd x hx
        · rw [List.mem_singleton] at hx
          have := hB.bd (B.getD H.length 0) (mem_getD hs')
          omega)
    fuel H0 ⟨⟨by omega, hH0.bd, hH0.srt⟩, .inl hl⟩ (by unfold fuel; omega)
  have hgo' : ¬ H.length < B.length := by simpa using hgo
  refine ⟨B, H, ⟨⟨by omega, hB.bd, hB.srt⟩, i1, by omega⟩, bl, i2, ?_⟩
  simp [f__law_fronts, runDef_, b__law_fronts, int_lit, hkr, k0, tp, hBr, hHr, sWhile, hw, -List.getD_eq_getElem?_getD]
theorem Dt_congr {d e : Nat → Nat → Nat} : ∀ a m, (∀ i j, i < m → j < a → d i j = e i j) → Dt d a m = Dt e a m
  | a, 0, _ => by rw [Dt_zero, Dt_zero]
  | 0, m + 1, _ => rfl
  | a + 1, m + 1, h => by
    rw [Dt_succ, Dt_succ, Dt_congr a (m + 1) fun i j hi hj => h i j hi (by omega), Dt_congr a m fun i j hi hj => h i j (by omega) (by omega), h m a (by omega) (by omega)]
theorem cost_d {d e : Nat → Nat → Nat} {f : Nat → Nat} {n : Nat} : ∀ m, (∀ i, i < m → f i < n) → (∀ i j, i < m → j < n → d i j = e i j) → cost d f m = cost e f m
  | 0, _, _ => rfl
  | m + 1, hf, h => by
    rw [cost, cost, cost_d m (fun i hi => hf i (by omega)) (fun i j hi hj => h i j (by omega) hj), h m (f m) (by omega) (hf m (by omega))]
/-- the least is at most any pairing's -/
theorem least_at {B H : List Nat} (f : Fr B H) {l : Nat} (hl : least B H = some l) {g : Nat → Nat} (h : Inj g B.length H.length) : l ≤ cost (dd B H) g B.length := by
  obtain ⟨v, hv, le⟩ := least_le f h
  rw [hl] at hv
  cases hv
  exact le
theorem least_got {B H : List Nat} (f : Fr B H) : ∃ l q, least B H = some l ∧ Pa B H q ∧ l = cost (dd B H) (fn q) B.length := by
  obtain ⟨pa, _, hl⟩ := told_pa f
  exact ⟨_, _, hl, pa, rfl⟩
/-! prices carried over -/
theorem range_all {n : Nat} {p : Nat → Bool} (h : ∀ i, i < n → p i = true) : (List.range n).all p = true := List.all_eq_true.mpr fun i hi => h i (List.mem_range.mp hi)
theorem okP_of {B H U P : List Nat} {l : Nat} (h : Pr B H U P l) : okP B H (U.map fun n : Nat => (n : Int)) (P.map fun n : Nat => (n : Int)) = true := by
  unfold okP
  have gU : ∀ i, i < U.length → (U.map fun n : Nat => (n : Int)).getD i 0 = ((U.getD i 0 : Nat) : Int) := fun i hi => by simp [hi]
  have gP : ∀ i, i < P.length → (P.map fun n : Nat => (n : Int)).getD i 0 = ((P.getD i 0 : Nat) : Int) := fun i hi => by simp [hi]
  have a : (U.map fun n : Nat => (n : Int)).all (inB (-1000) 1000) = true := List.all_eq_true.mpr fun x hx => by
    obtain ⟨y, hy, rfl⟩ := List.mem_map.mp hx
    obtain ⟨i, hi, e⟩ := List.mem_iff_getElem.mp hy
    have := h.bu i (by rw [← h.lu]; exact hi)
    have e2 : U.getD i 0 = y := by simp [hi, e]
    unfold inB
    simp
    omega
  have b : (P.map fun n : Nat => (n : Int)).all (inB 0 1000) = true := List.all_eq_true.mpr fun x hx => by
    obtain ⟨y, hy, rfl⟩ := List.mem_map.mp hx
    obtain ⟨i, hi, e⟩ := List.mem_iff_getElem.mp hy
    have := h.bp i (by rw [← h.lp]; exact hi)
    have e2 : P.getD i 0 = y := by simp [hi, e]
    unfold inB
    simp
    omega
  have c : feasB B H (U.map fun n : Nat => (n : Int)) (P.map fun n : Nat => (n : Int)) = true := range_all fun i hi => by
    unfold pairB
    rw [all_map_id]
    refine range_all fun j hj => ?_
    have := h.ok i j hi hj
    rw [gU i (by rw [h.lu]; exact hi), gP j (by rw [h.lp]; exact hj)]
    exact decide_eq_true (by omega)
  rw [a, b, c]
  rfl
theorem prices_hold {B H U P : List Nat} {l : Nat} (f : Fr B H) (hl : least B H = some l) (h : Pr B H U P l) : f_is_button_prices [.tuple (nl B), .tuple (nl H), .tuple [.tuple (nl U), .tuple (nl P)]] = .ok (.bool true) := by
  have ib := is_button_prices f (U.map fun n : Nat => (n : Int)) (P.map fun n : Nat => (n : Int)) (by simp [h.lu]) (by simp [h.lp]) hl
  rw [okP_of h] at ib
  have e : pairD (U.map fun n : Nat => (n : Int)) (P.map fun n : Nat => (n : Int)) = .tuple [.tuple (nl U), .tuple (nl P)] := by
    unfold pairD
    rw [← nl_il, ← nl_il]
  rw [e, sumN_cast, sumN_cast] at ib
  rw [ib]
  have := h.sum
  simp
  omega
end K74
set_option Elab.async false
set_option linter.all false
set_option maxRecDepth 10000
namespace K74
open PySem DL
/-! the law's own table -/
theorem nl_split {l don rest : List Nat} {x : Nat} (h : l = don ++ x :: rest) : don.length < l.length ∧ x = l.getD don.length 0 := by
  subst h
  refine ⟨by simp, ?_⟩
  rw [List.getD_eq_getElem?_getD, List.getElem?_append_right (Nat.le_refl _)]
  simp
theorem tab_row {B H : List Nat} (hH : H.length ≤ 10) (m : Nat) (x0 : Option Da) :
    forL (gVar 5) l__law_table_0 (nl (List.range H.length)) [none, some (.tuple (nl H)), some (.list (rowT (dd B H) m (H.length + 1))), some (di (B.getD m 0)), some (.list [.none]), none, none] =
      .ok (.nx [none, some (.tuple (nl H)), some (.list (rowT (dd B H) m (H.length + 1))), some (di (B.getD m 0)), some (.list (rowT (dd B H) (m + 1) (H.length + 1))), none, none]) := by
  have key := forL_inv (g := gVar 5) (body := l__law_table_0) di (fun s : Nat => [none, some (.tuple (nl H)), some (.list (rowT (dd B H) m (H.length + 1))), some (di (B.getD m 0)), some (.list (rowT (dd B H) (m + 1) (s + 1))), none, none])
    (fun don s => s = don.length) (List.range H.length) [] 0 rfl ?_
  · obtain ⟨s, e, k⟩ := key
    simp at e
    subst e
    exact k
  · rintro don x s ⟨rest, er⟩ rfl
    have er2 : List.range' 0 H.length = don ++ x :: rest := by rw [← List.range_eq_range']; simpa using er
    obtain ⟨hx, hlt⟩ := range'_split er2
    have hx' : x = don.length := by omega
    subst hx'
    refine ⟨don.length + 1, by simp, ?_⟩
    have r1 := ix_row (dd B H) (m + 1) (don.length + 1) don.length (by omega)
    have r3 := ix_row (dd B H) m (H.length + 1) don.length (by omega)
    have ab := dAbs_dd B H m don.length
    have la : (rowT (dd B H) (m + 1) (don.length + 1)).length < big := by rw [rowT_len]; unfold big; omega
    have st := rowT_succ (dd B H) (m + 1) (don.length + 1)
    rw [Dt_succ] at st
    have lb : 1 < big := by decide
    have l0 : 0 < big := by decide
    have ixh := dl.2.1 H don.length hlt
    rw [st]
    simp only [l__law_table_0]
    cases o1 : Dt (dd B H) don.length (m + 1) with
    | none =>
      rw [o1] at r1
      cases o2 : Dt (dd B H) don.length m with
      | none =>
        rw [o2] at r3
        simp [r1, r3, omin, updE, la]
      | some v =>
        rw [o2] at r3
        simp [r1, r3, omin, updE, la, l0, ixh, dSub_cast, ab, dn, min1, -List.getD_eq_getElem?_getD]
    | some w =>
      rw [o1] at r1
      cases o2 : Dt (dd B H) don.length m with
      | none =>
        rw [o2] at r3
        simp [r1, r3, omin, updE, la, l0, min1]
      | some v =>
        rw [o2] at r3
        simp [r1, r3, omin, updE, la, lb, l0, ixh, dSub_cast, ab, dn, min2, -List.getD_eq_getElem?_getD]
theorem law_table {B H : List Nat} (hH : H.length ≤ 10) : f__law_table [.tuple (nl B), .tuple (nl H)] = .ok (oD (least B H)) := by
  have key := forL_inv (g := gVar 3) (body := l__law_table_1) di (fun s : Option Da × Nat => [s.1, some (.tuple (nl H)), some (.list (rowT (dd B H) s.2 (H.length + 1))), none, none, none, none])
    (fun don s => s.2 = don.length ∧ s.1 = if don.length = 0 then some (.tuple (nl B)) else none) B [] (some (.tuple (nl B)), 0) ⟨rfl, rfl⟩ ?_
  · obtain ⟨⟨s0, s⟩, ⟨e, _⟩, k⟩ := key
    have e' : s = B.length := by simpa using e
    subst e'
    have rg := rng_nl (H.length + 1) (by unfold big; omega)
    have lc : ∀ E, lcL (lcF (gVar 5) [5] eYes (eC (di 0)) E) (nl (List.range (H.length + 1))) = .ok (rowT (dd B H) 0 (H.length + 1)) := fun E => by
      rw [lc_nl (fun _ => 0) _ fun x _ => by simp [lcF], rowT_zero]
      congr 2
      exact List.map_const' .. |>.trans (by simp)
    have k' : forL (gVar 3) l__law_table_1 (nl B) [some (.tuple (nl B)), some (.tuple (nl H)), some (.list (rowT (dd B H) 0 (H.length + 1))), none, none, none, none] = .ok (.nx [s0, some (.tuple (nl H)), some (.list (rowT (dd B H) B.length (H.length + 1))), none, none, none, none]) := k
    have tn : toI (di (H.length + 1)) = .ok ((H.length + 1 : Nat) : Int) := rfl
    generalize nl (List.range (H.length + 1)) = Z at rg lc
    simp [f__law_table, runDef_, b__law_table, int_lit, dl, dn, tn, eLc, -toI_di]
    rw [show ((H.length : Int) + 1) = ((H.length + 1 : Nat) : Int) by simp, rg]
    simp [eLc, tn, lc, k', dNeg_1, last_row, least]
  · rintro don x ⟨s0, s⟩ ⟨rest, er⟩ ⟨rfl, e0⟩
    obtain ⟨hlt, hx⟩ := nl_split (by simpa using er : B = don ++ x :: rest)
    subst hx
    have rl := tab_row (B := B) hH don.length none
    have rg := rng_nl H.length (by unfold big; omega)
    refine ⟨(none, don.length + 1), ⟨by simp, by simp⟩, ?_⟩
    simp only [l__law_table_1]
    simp [dl, rg, rl, -List.getD_eq_getElem?_getD]
/-! judges of pairings -/
theorem is_pairing {B H q : List Nat} (f : Fr B H) (h : Pa B H q) : f_is_pairing [.tuple (nl B), .tuple (nl H), .tuple (nl q)] = .ok (.bool true) := by
  have := f.b.len
  simp [f_is_pairing, runDef_, b_is_pairing, need_fronts f, is_pairing_of h (by omega)]
theorem is_button_best {B H q : List Nat} (f : Fr B H) (h : Pa B H q) {l : Nat} (hl : least B H = some l) : f_is_button_best [.tuple (nl B), .tuple (nl H), .tuple (nl q)] = .ok (.bool (decide (costL B H q = l))) := by
  have := f.b.len
  have tb := table_of f.b.len f.h.len
  have hl' : Dt (dd B H) H.length B.length = some l := hl
  simp [f_is_button_best, runDef_, b_is_button_best, need_fronts f, is_pairing_of h (by omega), cost_of h.len h.lt, tb, int_lit, dNeg_1, last_of, last_row, hl', dn]
theorem law_flag (a b : Bool) : f__law_flag [.bool a, .bool b] = .ok (.bool (decide (a = b))) := by
  cases b <;> simp [f__law_flag, runDef_, b__law_flag]
/-! all pairings -/
def nextP (d : Nat → Nat → Nat) (m : Nat) (n : Nat) (z : List Nat × Nat) : List (List Nat × Nat) := ((List.range n).filter fun k => !decide (k ∈ z.1)).map fun k => (z.1 ++ [k], z.2 + d m k)
def allP (d : Nat → Nat → Nat) (n : Nat) : Nat → List (List Nat × Nat)
  | 0 => [([], 0)]
  | m + 1 => (allP d n m).flatMap (nextP d m n)
def encP (z : List Nat × Nat) : Da := .tuple [.tuple (nl z.1), di z.2]
def pl (L : List (List Nat × Nat)) : List Da := L.map encP
theorem nextP_len (d : Nat → Nat → Nat) (m n : Nat) (z : List Nat × Nat) : (nextP d m n z).length ≤ n := by
  unfold nextP
  rw [List.length_map]
  exact Nat.le_trans (List.length_filter_le _ _) (by simp)
theorem flatMap_len {α β : Type} (f : α → List β) (n : Nat) (h : ∀ x, (f x).length ≤ n) : ∀ l : List α, (l.flatMap f).length ≤ l.length * n
  | [] => by simp
  | x :: l => by
    have := h x
    have := flatMap_len f n h l
    rw [List.flatMap_cons, List.length_append, List.length_cons, Nat.succ_mul]
    omega
theorem allP_len (d : Nat → Nat → Nat) (n : Nat) : ∀ m, (allP d n m).length ≤ n ^ m
  | 0 => by simp [allP]
  | m + 1 => by
    have a := flatMap_len (nextP d m n) n (nextP_len d m n) (allP d n m)
    have b := Nat.mul_le_mul_right n (allP_len d n m)
    rw [allP, Nat.pow_succ]
    omega
theorem allP_ok {d : Nat → Nat → Nat} {n : Nat} : ∀ m z, z ∈ allP d n m → z.1.length = m ∧ z.1.Nodup ∧ (∀ k, k ∈ z.1 → k < n) ∧ z.2 = cost d (fn z.1) m
  | 0, z, h => by
    rw [allP, List.mem_singleton] at h
    subst h
    exact ⟨rfl, List.nodup_nil, (fun _ x => nomatch x), rfl⟩
  | m + 1, z, h => by
    rw [allP] at h
    obtain ⟨y, hy, hz⟩ := List.mem_flatMap.mp h
    obtain ⟨h1, h2, h3, h4⟩ := allP_ok m y hy
    obtain ⟨k, hk, rfl⟩ := List.mem_map.mp hz
    obtain ⟨hk1, hk2⟩ := List.mem_filter.mp hk
    have hkn := List.mem_range.mp hk1
    have hky : k ∉ y.1 := by simpa using hk2
    refine ⟨by simp [h1], List.nodup_append.mpr ⟨h2, by simp, fun a ha b hb => ?_⟩, fun x hx => ?_, ?_⟩
    · rw [List.mem_singleton] at hb
      subst hb
      exact fun e => hky (e ▸ ha)
    · rcases List.mem_append.mp hx with hx | hx
      · exact h3 x hx
      · rw [List.mem_singleton] at hx; omega
    · have e1 : fn (y.1 ++ [k]) m = k := by
        unfold fn
        rw [List.getD_eq_getElem?_getD, List.getElem?_append_right (by omega), h1]
        simp
      have e2 : cost d (fn (y.1 ++ [k])) m = cost d (fn y.1) m := cost_congr m fun i hi => by
        unfold fn
        rw [List.getD_eq_getElem?_getD, List.getElem?_append_left (by omega), List.getD_eq_getElem?_getD]
      show y.2 + d m k = cost d (fn (y.1 ++ [k])) (m + 1)
      rw [cost, e1, e2, h4]
theorem allP_all {d : Nat → Nat → Nat} {n : Nat} {q : List Nat} (nd : q.Nodup) (lt : ∀ k, k ∈ q → k < n) : ∀ m, m ≤ q.length → (q.take m, cost d (fn q) m) ∈ allP d n m
  | 0, _ => by simp [allP, cost]
  | m + 1, h => by
    rw [allP]
    refine List.mem_flatMap.mpr ⟨_, allP_all nd lt m (by omega), ?_⟩
    refine List.mem_map.mpr ⟨q.getD m 0, List.mem_filter.mpr ⟨List.mem_range.mpr (lt _ (mem_getD (by omega))), ?_⟩, ?_⟩
    · simp only [Bool.not_eq_true', decide_eq_false_iff_not]
      intro hm
      obtain ⟨i, hi, e⟩ := List.mem_iff_getElem.mp hm
      have hi' : i < m := by simp at hi; omega
      have hm' : m < q.length := by omega
      have e1 : q[i]'(by omega) = q[m] := by
        rw [List.getElem_take] at e
        rw [e]
        simp [hm']
      have := (List.getElem_inj nd).mp e1
      omega
    · have hm' : m < q.length := by omega
      have e1 : q.take (m + 1) = q.take m ++ [q.getD m 0] := by
        rw [List.take_succ, List.getElem?_eq_getElem hm']
        simp [hm']
      rw [e1]
      rfl
end K74
set_option Elab.async false
set_option linter.all false
set_option maxRecDepth 10000
namespace K74
open PySem DL
theorem nl_in (x : Nat) (l : List Nat) : dNotIn (di x) (.tuple (nl l)) = .ok (.bool (!decide (x ∈ l))) := (EqE.di (n := 0)).dNotInT (by decide) x l
theorem pl_app (a b : List (List Nat × Nat)) : pl (a ++ b) = pl a ++ pl b := by simp [pl]
theorem pl_len (a : List (List Nat × Nat)) : (pl a).length = a.length := by simp [pl]
theorem addT1 (a : List Nat) (k : Nat) (h : a.length ≤ 999) : dAdd (.tuple (nl a)) (.tuple [di k]) = .ok (.tuple (nl (a ++ [k]))) := addT a [k] (by simp; omega)
theorem pair_in {B H : List Nat} (m : Nat) (acc : List (List Nat × Nat)) (z : List Nat × Nat) (hz : z.1.length ≤ 20) (hH : H.length ≤ 10) (ha : acc.length + H.length ≤ 100000) :
    forL (gVar 7) l__law_paired_0 (nl (List.range H.length)) [none, some (.tuple (nl H)), none, some (di (B.getD m 0)), some (.list (pl acc)), some (.tuple (nl z.1)), some (di z.2), none] =
      .ok (.nx [none, some (.tuple (nl H)), none, some (di (B.getD m 0)), some (.list (pl (acc ++ nextP (dd B H) m H.length z))), some (.tuple (nl z.1)), some (di z.2), none]) := by
  have key := forL_inv (g := gVar 7) (body := l__law_paired_0) di (fun s : List (List Nat × Nat) => [none, some (.tuple (nl H)), none, some (di (B.getD m 0)), some (.list (pl s)), some (.tuple (nl z.1)), some (di z.2), none])
    (fun don s => s = acc ++ (don.filter fun k => !decide (k ∈ z.1)).map (fun k => (z.1 ++ [k], z.2 + dd B H m k)) ∧ s.length ≤ acc.length + don.length) (List.range H.length) [] acc ⟨by simp, by simp⟩ ?_
  · obtain ⟨s, ⟨e, _⟩, k⟩ := key
    rw [List.nil_append] at e
    subst e
    exact k
  · rintro don x s ⟨rest, er⟩ ⟨e, hl⟩
    have er2 : List.range' 0 H.length = don ++ x :: rest := by rw [← List.range_eq_range']; simpa using er
    obtain ⟨hx, hlt⟩ := range'_split er2
    have hx' : x < H.length := by omega
    have ix := dl.2.1 H x hx'
    have ab := dAbs_dd B H m x
    have ni := nl_in x z.1
    have ad := addT1 z.1 x (by omega)
    have la : (pl s).length < big := by rw [pl_len]; unfold big; omega
    simp only [l__law_paired_0]
    by_cases q : x ∈ z.1
    · refine ⟨s, ⟨by rw [e, List.filter_append]; simp [q], by simp; omega⟩, ?_⟩
      simp [ni, q]
    · refine ⟨s ++ [(z.1 ++ [x], z.2 + dd B H m x)], ⟨by rw [e, List.filter_append]; simp [q], by simp; omega⟩, ?_⟩
      have st : pl (s ++ [(z.1 ++ [x], z.2 + dd B H m x)]) = pl s ++ [.tuple [.tuple (nl (z.1 ++ [x])), di (z.2 + dd B H m x)]] := by rw [pl_app]; rfl
      rw [st]
      generalize nl (z.1 ++ [x]) = Z at ad
      simp [ni, q, ad, ix, dSub_cast, ab, dn, updE, la, -List.getD_eq_getElem?_getD]
theorem pair_out {B H : List Nat} (m : Nat) (L : List (List Nat × Nat)) (hL : ∀ z, z ∈ L → z.1.length ≤ 20) (hH : H.length ≤ 10) (hl : L.length ≤ 2000) (x2 : Option Da) :
    forL (gTupD [gVar 5, gVar 6]) l__law_paired_1 (pl L) [none, some (.tuple (nl H)), x2, some (di (B.getD m 0)), some (.list []), none, none, none] =
      .ok (.nx [none, some (.tuple (nl H)), if L.length = 0 then x2 else none, some (di (B.getD m 0)), some (.list (pl (L.flatMap (nextP (dd B H) m H.length)))), none, none, none]) := by
  have key := forL_inv (g := gTupD [gVar 5, gVar 6]) (body := l__law_paired_1) encP (fun s : Option Da × List (List Nat × Nat) => [none, some (.tuple (nl H)), s.1, some (di (B.getD m 0)), some (.list (pl s.2)), none, none, none])
    (fun don s => s.2 = don.flatMap (nextP (dd B H) m H.length) ∧ s.1 = if don.length = 0 then x2 else none) L [] (x2, []) ⟨rfl, rfl⟩ ?_
  · obtain ⟨⟨s0, s⟩, ⟨e, e0⟩, k⟩ := key
    simp only [List.nil_append] at e e0
    subst e e0
    exact k
  · rintro don z ⟨s0, s⟩ ⟨rest, er⟩ ⟨e, e0⟩
    have hz : z ∈ L := by
      have : z ∈ [] ++ L := by rw [er]; simp
      simpa using this
    have hdl : don.length ≤ L.length := by
      have := congrArg List.length er
      simp at this
      omega
    have sl := flatMap_len (nextP (dd B H) m H.length) H.length (nextP_len _ _ _) don
    have hb : don.length * H.length ≤ 2000 * 10 := Nat.mul_le_mul (by omega) hH
    have e' : s = don.flatMap (nextP (dd B H) m H.length) := e
    have pi := pair_in (B := B) m s z (hL z hz) hH (by rw [e']; omega)
    have rg := rng_nl H.length (by unfold big; omega)
    refine ⟨(none, s ++ nextP (dd B H) m H.length z), ⟨by rw [e', List.flatMap_append]; simp, by simp⟩, ?_⟩
    simp only [l__law_paired_1]
    simp [encP, dl, rg, pi, -List.getD_eq_getElem?_getD]
theorem law_paired {B H : List Nat} (hB : B.length ≤ 4) (hH : H.length ≤ 6) : f__law_paired [.tuple (nl B), .tuple (nl H)] = .ok (.list (pl (allP (dd B H) H.length B.length))) := by
  have bd : ∀ m, m ≤ 4 → (allP (dd B H) H.length m).length ≤ 2000 := fun m hm => by
    have a := allP_len (dd B H) H.length m
    have b : H.length ^ m ≤ 6 ^ m := Nat.pow_le_pow_left hH m
    have c : 6 ^ m ≤ 6 ^ 4 := Nat.pow_le_pow_right (by decide) hm
    omega
  have key := forL_inv (g := gVar 3) (body := l__law_paired_2) di (fun s : Option Da × Nat => [s.1, some (.tuple (nl H)), some (.list (pl (allP (dd B H) H.length s.2))), none, none, none, none, none])
    (fun don s => s.2 = don.length ∧ s.1 = if don.length = 0 then some (.tuple (nl B)) else none) B [] (some (.tuple (nl B)), 0) ⟨rfl, rfl⟩ ?_
  · obtain ⟨⟨s0, s⟩, ⟨e, _⟩, k⟩ := key
    have e' : s = B.length := by simpa using e
    subst e'
    have k' : forL (gVar 3) l__law_paired_2 (nl B) [some (.tuple (nl B)), some (.tuple (nl H)), some (.list [.tuple [.tuple [], di 0]]), none, none, none, none, none] = .ok (.nx [s0, some (.tuple (nl H)), some (.list (pl (allP (dd B H) H.length B.length))), none, none, none, none, none]) := k
    simp [f__law_paired, runDef_, b__law_paired, int_lit, k']
  · rintro don x ⟨s0, s⟩ ⟨rest, er⟩ ⟨rfl, e0⟩
    obtain ⟨hlt, hx⟩ := nl_split (by simpa using er : B = don ++ x :: rest)
    subst hx
    have po := pair_out (B := B) (H := H) don.length (allP (dd B H) H.length don.length) (fun z hz => by have := (allP_ok _ z hz).1; omega) (by omega) (bd _ (by omega)) (some (.list (pl (allP (dd B H) H.length don.length))))
    refine ⟨(none, don.length + 1), ⟨by simp, by simp⟩, ?_⟩
    have e : allP (dd B H) H.length (don.length + 1) = (allP (dd B H) H.length don.length).flatMap (nextP (dd B H) don.length H.length) := rfl
    rw [e]
    simp only [l__law_paired_2]
    simp [po, -List.getD_eq_getElem?_getD]
theorem paired_min {B H : List Nat} (f : Fr B H) {l : Nat} (hl : least B H = some l) : dMinL [.list (nl ((allP (dd B H) H.length B.length).map (·.2)))] = .ok (di l) := by
  obtain ⟨l', q, hl', pa, e⟩ := least_got f
  rw [hl] at hl'
  cases hl'
  have mem := allP_all (d := dd B H) pa.nd pa.lt B.length (by rw [pa.len]; exact Nat.le_refl _)
  rw [← e] at mem
  have mem2 : l ∈ (allP (dd B H) H.length B.length).map (·.2) := List.mem_map.mpr ⟨_, mem, rfl⟩
  have ge : ∀ x, x ∈ (allP (dd B H) H.length B.length).map (·.2) → l ≤ x := fun x hx => by
    obtain ⟨z, hz, rfl⟩ := List.mem_map.mp hx
    obtain ⟨h1, h2, h3, h4⟩ := allP_ok _ z hz
    rw [h4]
    have ij := inj_of_nodup h2 h3
    rw [h1] at ij
    exact least_at f hl ij
  generalize (allP (dd B H) H.length B.length).map (·.2) = L at mem2 ge
  cases L with
  | nil => cases mem2
  | cons x xs =>
    rw [dMinL_nl]
    have a := le_foldl_minN xs x l (ge x List.mem_cons_self) fun y hy => ge y (List.mem_cons_of_mem _ hy)
    have b : ∀ (l : List Nat) (x : Nat), ∀ y, y ∈ x :: l → l.foldl min x ≤ y := fun l => by
      induction l with
      | nil => intro x y hy; rw [List.mem_singleton] at hy; subst hy; exact Nat.le_refl _
      | cons z l ih =>
        intro x y hy
        rw [List.foldl_cons]
        have g := ih (min x z)
        rcases List.mem_cons.mp hy with e | hy
        · subst e; have := g (min y z) List.mem_cons_self; omega
        · rcases List.mem_cons.mp hy with e | hy
          · subst e; have := g (min x y) List.mem_cons_self; omega
          · exact g y (List.mem_cons_of_mem _ hy)
    have c := b xs x l mem2
    congr 2
    omega
/-! an order drawn -/
def pz (ms : List Nat) (n : Nat) : List (Int × Int) := (List.range n).map fun k => (((ms.getD k 0 : Nat) : Int), ((k : Nat) : Int))
theorem law_order (c : Int) (n : Nat) (hn : n ≤ 100) : ∃ p : List Nat, p.Perm (List.range n) ∧ f__law_order [.int c, di n] = .ok (.tuple (nl p)) := by
  obtain ⟨ms, hm, _, hr⟩ := law_row c n 1000 (by unfold big; omega) (by decide) (by decide)
  have rg := rng_nl n (by unfold big; omega)
  let r : Int × Int → Int × Int → Bool := fun a b => PySem.W.dataLe false id (p2 a) (p2 b)
  let S := (pz ms n).mergeSort r
  have lc1 : lcL (lcF (gVar 4) [4] eYes (eTup (aCons (e2 dIx (eVar 2) (eVar 4)) (aCons (eVar 4) aNil))) [some (.int c), some (di n), some (.list (nl ms)), none, none]) (nl (List.range n)) = .ok ((pz ms n).map p2) := by
    unfold nl
    rw [lcL_map di (fun k => p2 (((ms.getD k 0 : Nat) : Int), ((k : Nat) : Int))) _ fun k hk => by
      have := List.mem_range.mp hk
      have ix := dl.1 ms k (by omega)
      have ix' : dIx (.list (List.map di ms)) (di k) = .ok (di (ms.getD k 0)) := ix
      simp [lcF, ix', -List.getD_eq_getElem?_getD]
      rfl, pz, List.map_map]
    rfl
  have so : dSortG [.list ((pz ms n).map p2)] = .ok (.list (S.map p2)) := by
    show (if alkB ((pz ms n).map p2) && srtB ((pz ms n).map p2) then R.ok (PyData.list (((pz ms n).map p2).mergeSort (PySem.W.dataLe false id))) else .bad) = _
    rw [alk_p2, srt_p2]
    have : ((pz ms n).mergeSort r).map p2 = ((pz ms n).map p2).mergeSort (PySem.W.dataLe false id) := List.map_mergeSort fun a _ b _ => rfl
    rw [← this]
    rfl
  have pm : S.Perm (pz ms n) := List.mergeSort_perm _ _
  let p : List Nat := S.map fun z => z.2.toNat
  have hp : p.Perm (List.range n) := by
    have a := pm.map fun z : Int × Int => z.2.toNat
    have b : (pz ms n).map (fun z : Int × Int => z.2.toNat) = List.range n := by
      rw [pz, List.map_map]
      exact (List.map_congr_left fun k _ => by simp).trans (List.map_id _)
    rw [b] at a
    exact a
  have lc2 : ∀ E : Ev, E.length = 5 → lcL (lcF (gVar 3) [3] eYes (e2 dIx (eVar 3) (eC (di 1))) E) (S.map p2) = .ok (nl p) := fun E hE => by
    rw [lcL_map p2 (fun z => di z.2.toNat) _ fun z hz => by
      have a : (E.set 3 (some (p2 z)))[3]? = some (some (p2 z)) := by simp [hE]
      obtain ⟨k, _, e⟩ := List.mem_map.mp (pm.mem_iff.mp hz)
      have ix : dIx (p2 z) (di 1) = .ok (.int z.2) := rfl
      have ez : z.2 = ((z.2.toNat : Nat) : Int) := by rw [← e]; simp
      have ez' : PyData.int z.2 = di z.2.toNat := by
        show PyData.int z.2 = PyData.int ((z.2.toNat : Nat) : Int)
        rw [← ez]
      simp [lcF, a, ix, ez']]
    rw [nl, List.map_map]
    rfl
  refine ⟨p, hp, ?_⟩
  have lc2' := lc2 [some (.int c), some (di n), some (.list (nl ms)), none, none] rfl
  generalize (pz ms n).map p2 = Z1 at lc1 so
  generalize S.map p2 = Z2 at so lc2'
  simp [f__law_order, runDef_, b__law_order, int_lit, hr, rg, eLc, lc1, so, lc2']
end K74
set_option Elab.async false
set_option linter.all false
set_option maxRecDepth 10000
namespace K74
open PySem DL
theorem addTI (u v : List Int) (h : u.length + v.length ≤ 1000) : dAdd (.tuple (il u)) (.tuple (il v)) = .ok (.tuple (il (u ++ v))) := by
  show (if (il u).length + (il v).length ≤ big then R.ok (PyData.tuple (il u ++ il v)) else .bad) = _
  rw [if_pos (by simp; unfold big; omega), il_append]
theorem dAny_bl (l : List Bool) : dAny [.list (bl l)] = .ok (.bool (l.any id)) := by
  show (blsD (bl l)).bind _ = _
  rw [bls_bl]
  rfl
theorem dAll_bl (l : List Bool) : dAll [.list (bl l)] = .ok (.bool (l.all id)) := by
  show (blsD (bl l)).bind _ = _
  rw [bls_bl]
  rfl
theorem law_whole (x : Int) : f__law_whole [.int x] = .ok (.bool true) := by simp [f__law_whole, runDef, b__law_whole]
def far (x : Int) : Bool := decide (1000 < x.natAbs)
theorem far_eq (x : Int) : dGt (di x.natAbs) (di 1000) = .ok (.bool (far x)) := dGt_nat _ _
theorem okP_far (B H : List Nat) (u v : List Int) : okP B H u v = (!((u ++ v).any far || v.any fun x => decide (x < 0)) && feasB B H u v) := by
  unfold okP
  rw [← Bool.and_assoc]
  congr 1
  rw [Bool.eq_iff_iff]
  simp only [Bool.and_eq_true, List.all_eq_true, Bool.not_eq_true', Bool.or_eq_false_iff, List.any_eq_false, List.mem_append, inB, far, decide_eq_true_eq]
  constructor
  · rintro ⟨h1, h2⟩
    refine ⟨fun x hx => ?_, fun x hx => ?_⟩
    · rcases hx with hx | hx
      · have := h1 x hx; omega
      · have := h2 x hx; omega
    · have := h2 x hx; omega
  · rintro ⟨h1, h2⟩
    exact ⟨fun x hx => by have := h1 x (.inl hx); omega, fun x hx => by have := h1 x (.inr hx); have := h2 x hx; omega⟩
def badRow (B H : List Nat) (u v : List Int) (i : Nat) : Bool := ((List.range H.length).map fun j => decide ((dd B H i j : Int) < u.getD i 0 - v.getD j 0)).any id
theorem badRow_eq (B H : List Nat) (u v : List Int) (i : Nat) : badRow B H u v i = !(pairB B H u v i).all id := by
  unfold badRow pairB
  rw [all_map_id, List.any_map]
  induction List.range H.length with
  | nil => rfl
  | cons j l ih =>
    rw [List.any_cons, List.all_cons, ih]
    show (decide _ || !l.all _) = !(decide _ && l.all _)
    rw [Bool.not_and]
    congr 1
    by_cases q : (dd B H i j : Int) < u.getD i 0 - v.getD j 0
    · rw [decide_eq_true q, decide_eq_false (by omega)]; rfl
    · rw [decide_eq_false q, decide_eq_true (by omega)]; rfl
theorem find_all (p q : Nat → Bool) (h : ∀ i, p i = !q i) : ∀ l : List Nat, (l.find? p).isNone = l.all q
  | [] => rfl
  | x :: l => by
    rw [List.find?_cons, List.all_cons]
    cases c : p x with
    | true => have := h x; rw [c] at this; simp at this; simp [this]
    | false => have := h x; rw [c] at this; simp at this; simp [this, find_all p q h l]
theorem law_are_prices {B H : List Nat} (hB : B.length ≤ 8) (hH : H.length ≤ 10) (u v : List Int) (hu : u.length = B.length) (hv : v.length = H.length) : f__law_are_prices [.tuple (nl B), .tuple (nl H), pairD u v] = .ok (.bool (okP B H u v)) := by
  have ix0 : dIx (pairD u v) (di 0) = .ok (.tuple (il u)) := rfl
  have ix1 : dIx (pairD u v) (di 1) = .ok (.tuple (il v)) := rfl
  have ln : dLen [pairD u v] = .ok (di 2) := rfl
  have ty : isTy .tuple (pairD u v) = true := rfl
  have el : toL (pairD u v) = .ok [.tuple (il u), .tuple (il v)] := rfl
  have ad := addTI u v (by omega)
  have g : ∀ (E : Ev) (y : Da), 6 < E.length → (E.set 6 (some y))[6]? = some (some y) := fun E y h => by simp [h]
  have g4 : ∀ (E : Ev) (y : Da), 4 < E.length → (E.set 4 (some y))[4]? = some (some y) := fun E y h => by simp [h]
  have lcT : ∀ E : Ev, E.length = 7 → lcL (lcF (gVar 6) [6] eYes (e1 (dIsi .tuple) (eVar 6)) E) [.tuple (il u), .tuple (il v)] = .ok (bl [true, true]) := fun E hE => by
    have a := g E (.tuple (il u)) (by omega)
    have b := g E (.tuple (il v)) (by omega)
    simp [lcL, lcF, a, b, bl]
  have lcW : ∀ E : Ev, E.length = 7 → lcL (lcF (gVar 4) [4] eYes (eA f__law_whole (aCons (eVar 4) aNil)) E) (il (u ++ v)) = .ok (bl ((u ++ v).map fun _ => true)) := fun E hE => lc_il _ _ fun x _ => by
    have a := g4 E (.int x) (by omega)
    simp [lcF, a, law_whole]
  have lcA : ∀ E : Ev, E.length = 7 → lcL (lcF (gVar 4) [4] eYes (e2 dGt (eA dAbs (aCons (eVar 4) aNil)) (eC (di 1000))) E) (il (u ++ v)) = .ok (bl ((u ++ v).map far)) := fun E hE => lc_il _ _ fun x _ => by
    have a := g4 E (.int x) (by omega)
    simp [lcF, a, dAbs_na, far_eq]
  have lcN : ∀ E : Ev, E.length = 7 → lcL (lcF (gVar 4) [4] eYes (e2 dLt (eVar 4) (eC (di 0))) E) (il v) = .ok (bl (v.map fun x => decide (x < 0))) := fun E hE => lc_il _ _ fun x _ => by
    have a := g4 E (.int x) (by omega)
    have lt : dLt (.int x) (di 0) = .ok (.bool (decide (x < 0))) := rfl
    simp [lcF, a, lt]
  have E0 : [some (.tuple (nl B)), some (.tuple (nl H)), some (pairD u v), none, none, none, none].length = 7 := rfl
  have w1 := lcT _ E0
  have w2 := lcW _ E0
  have w3 := lcA _ E0
  have w4 := lcN _ E0
  have a2 := dAll_bl ((u ++ v).map fun _ => true)
  have a3 := dAny_bl ((u ++ v).map far)
  have a4 := dAny_bl (v.map fun x => decide (x < 0))
  have al : ((u ++ v).map fun _ => true).all id = true := by simp
  have an3 : ((u ++ v).map far).any id = (u ++ v).any far := by simp [List.any_map]
  have an4 : (v.map fun x => decide (x < 0)).any id = v.any fun x => decide (x < 0) := by simp [List.any_map]
  rw [al] at a2
  rw [an3] at a3
  rw [an4] at a4
  have a1 := dAll_bl [true, true]
  have row := forL_find (g := gVar 3) (body := l__law_are_prices_0) (ρ := [some (.tuple (nl B)), some (.tuple (nl H)), some (pairD u v), none, none, none, none]) di (badRow B H u v) (fun _ => .bool false) (List.range B.length) fun i hi => by
    have hi' := List.mem_range.mp hi
    have ixb := dl.2.1 B i hi'
    have ixu := dl.2.2.2.1 u i (by omega)
    have rg := rng_nl H.length (by unfold big; omega)
    have lc : lcL (lcF (gVar 5) [5] eYes (e2 dGt (e2 dSub (e2 dIx (e2 dIx (eVar 2) (eC (di 0))) (eVar 3)) (e2 dIx (e2 dIx (eVar 2) (eC (di 1))) (eVar 5))) (eA dAbs (aCons (e2 dSub (e2 dIx (eVar 0) (eVar 3)) (e2 dIx (eVar 1) (eVar 5))) aNil))) [some (.tuple (nl B)), some (.tuple (nl H)), some (pairD u v), some (di i), none, none, none]) (nl (List.range H.length)) = .ok (bl ((List.range H.length).map fun j => decide ((dd B H i j : Int) < u.getD i 0 - v.getD j 0))) := lc_nlB _ _ fun j hj => by
      have hj' := List.mem_range.mp hj
      have ixh := dl.2.1 H j hj'
      have ixv := dl.2.2.2.1 v j (by omega)
      have ab := dAbs_dd B H i j
      have sb : dSub (.int (u.getD i 0)) (.int (v.getD j 0)) = .ok (.int (u.getD i 0 - v.getD j 0)) := rfl
      have gt : dGt (.int (u.getD i 0 - v.getD j 0)) (di (dd B H i j)) = .ok (.bool (decide ((dd B H i j : Int) < u.getD i 0 - v.getD j 0))) := rfl
      simp [lcF, ix0, ix1, ixb, ixu, ixh, ixv, sb, dSub_cast, ab, gt, -List.getD_eq_getElem?_getD]
    have an := dAny_bl ((List.range H.length).map fun j => decide ((dd B H i j : Int) < u.getD i 0 - v.getD j 0))
    have br : ((List.range H.length).map fun j => decide ((dd B H i j : Int) < u.getD i 0 - v.getD j 0)).any id = badRow B H u v i := rfl
    rw [br] at an
    generalize bl ((List.range H.length).map fun j => decide ((dd B H i j : Int) < u.getD i 0 - v.getD j 0)) = Z at lc an
    simp only [l__law_are_prices_0]
    cases c : badRow B H u v i with
    | true =>
      rw [c] at an
      simp [int_lit, dl, rg, eLc, lc, an]
    | false =>
      rw [c] at an
      simp [int_lit, dl, rg, eLc, lc, an]
  have row' : forL (gVar 3) l__law_are_prices_0 (nl (List.range B.length)) _ = _ := row
  have fa := find_all (badRow B H u v) (fun i => (pairB B H u v i).all id) (badRow_eq B H u v) (List.range B.length)
  have rgB := rng_nl B.length (by unfold big; omega)
  have fe : (List.range B.length).all (fun i => (pairB B H u v i).all id) = feasB B H u v := rfl
  rw [fe] at fa
  rw [okP_far]
  generalize bl ((u ++ v).map fun _ => true) = Y2 at *
  generalize bl ((u ++ v).map far) = Y3 at *
  generalize bl (v.map fun x => decide (x < 0)) = Y4 at *
  generalize il (u ++ v) = Z2 at *
  cases c3 : (u ++ v).any far with
  | true =>
    rw [c3] at a3
    simp [f__law_are_prices, runDef_, b__law_are_prices, int_lit, ty, ln, dn, el, eLc, w1, a1, ix0, ix1, dl, hu, hv, ad, w2, a2, w3, a3]
  | false =>
    rw [c3] at a3
    cases c4 : v.any fun x => decide (x < 0) with
    | true =>
      rw [c4] at a4
      simp [f__law_are_prices, runDef_, b__law_are_prices, int_lit, ty, ln, dn, el, eLc, w1, a1, ix0, ix1, dl, hu, hv, ad, w2, a2, w3, a3, w4, a4]
    | false =>
      rw [c4] at a4
      simp [f__law_are_prices, runDef_, b__law_are_prices, int_lit, ty, ln, dn, el, eLc, w1, a1, ix0, ix1, dl, hu, hv, ad, w2, a2, w3, a3, w4, a4, rgB, row']
      cases o : (List.range B.length).find? (badRow B H u v) with
      | none => rw [o] at fa; simp at fa; simp [← fa]
      | some i => rw [o] at fa; simp at fa; simp [← fa]
/-! prices bound every pairing -/
theorem sum_le_sm : ∀ (u : List Int) (w : Nat → Nat), (∀ i, i < u.length → u.getD i 0 ≤ (w i : Nat)) → u.sum ≤ (sm w u.length : Nat)
  | [], _, _ => by simp [sm]
  | x :: u, w, h => by
    have a := h 0 (by simp)
    have b := sum_le_sm u (fun i => w (i + 1)) fun i hi => by
      have := h (i + 1) (by simpa using hi)
      simpa using this
    rw [List.sum_cons, List.length_cons, sm_head]
    simp at a
    omega
theorem sum_toNat : ∀ v : List Int, (∀ x, x ∈ v → 0 ≤ x) → ((sumN (v.map Int.toNat) : Nat) : Int) = v.sum
  | [], _ => rfl
  | x :: v, h => by
    have a := h x List.mem_cons_self
    have b := sum_toNat v fun y hy => h y (List.mem_cons_of_mem _ hy)
    rw [List.map_cons, sumN_cons, List.sum_cons]
    omega
theorem sumN_filter_le (w : Nat → Nat) (p : Nat → Bool) : ∀ l : List Nat, sumN ((l.filter p).map w) ≤ sumN (l.map w)
  | [] => Nat.le_refl _
  | x :: l => by
    have := sumN_filter_le w p l
    rw [List.filter_cons]
    split
    · simp; omega
    · simp; omega
theorem sum_part {n : Nat} {q P : List Nat} (hP : P.length = n) (nd : q.Nodup) (lt : ∀ k, k ∈ q → k < n) : sumN (q.map fun t => P.getD t 0) ≤ sumN P := by
  have e : P = (List.range n).map fun t => P.getD t 0 := by
    refine List.ext_getElem (by simp [hP]) fun i h1 h2 => ?_
    simp [h1]
  have pm : ((List.range n).filter fun t => decide (t ∈ q)).Perm q := (List.perm_ext_iff_of_nodup (List.nodup_range.filter _) nd).mpr fun a => by
    rw [List.mem_filter, List.mem_range, decide_eq_true_eq]
    exact ⟨fun h => h.2, fun h => ⟨lt a h, h⟩⟩
  have s := sumN_filter_le (fun t => P.getD t 0) (fun t => decide (t ∈ q)) (List.range n)
  rw [← e, sumN_perm (pm.map _)] at s
  exact s
theorem weak {B H : List Nat} (f : Fr B H) {l : Nat} (hl : least B H = some l) {u v : List Int} (hu : u.length = B.length) (hv : v.length = H.length) (h : okP B H u v = true) : u.sum - v.sum ≤ (l : Nat) := by
  obtain ⟨l', q, hl', pa, e⟩ := least_got f
  rw [hl] at hl'
  cases hl'
  unfold okP at h
  simp only [Bool.and_eq_true, List.all_eq_true] at h
  obtain ⟨h1, h2, h3⟩ := h
  have v0 : ∀ x, x ∈ v → 0 ≤ x := fun x hx => by
    have := h2 x hx
    unfold inB at this
    simp at this
    exact this.1
  have st := sum_toNat v v0
  have hq : ∀ i, i < B.length → q.getD i 0 < H.length := fun i hi => pa.lt _ (mem_getD (by rw [pa.len]; exact hi))
  have P := v.map Int.toNat
  have gv : ∀ t, t < H.length → v.getD t 0 = (((v.map Int.toNat).getD t 0 : Nat) : Int) := fun t ht => by
    have : t < v.length := by omega
    have m := v0 (v.getD t 0) (by simp [this])
    have e : (v.map Int.toNat).getD t 0 = (v.getD t 0).toNat := by simp [this]
    rw [e]
    omega
  have a := sum_le_sm u (fun i => (v.map Int.toNat).getD (q.getD i 0) 0 + dd B H i (q.getD i 0)) fun i hi => by
    have hi' : i < B.length := by omega
    have fe := (List.all_eq_true.mp h3) i (List.mem_range.mpr hi')
    unfold pairB at fe
    rw [all_map_id] at fe
    have := (List.all_eq_true.mp fe) (q.getD i 0) (List.mem_range.mpr (hq i hi'))
    have := of_decide_eq_true this
    rw [gv _ (hq i hi')] at this
    show u.getD i 0 ≤ ((_ + _ : Nat) : Int)
    omega
  have b := sum_part (P := v.map Int.toNat) (by simpa using hv) pa.nd pa.lt
  rw [map_range q, pa.len, sumN_sm] at b
  rw [hu, sm_add' (fun i => (v.map Int.toNat).getD (q.getD i 0) 0) (fun i => dd B H i (q.getD i 0))] at a
  rw [cost_sm] at e
  have e' : l = sm (fun i => dd B H i (q.getD i 0)) B.length := e
  omega
end K74
set_option Elab.async false
set_option linter.all false
set_option maxRecDepth 10000
namespace K74
open PySem DL
def nearD (L : List (List Int × List Int)) : List Da := L.map fun z => pairD z.1 z.2
structure Ne (m n : Nat) (L : List (List Int × List Int)) : Prop where
  ok : ∀ z, z ∈ L → z.1.length = m ∧ z.2.length = n
  len : L.length ≤ 100
theorem nearD_app (L : List (List Int × List Int)) (z : List Int × List Int) : nearD (L ++ [z]) = nearD L ++ [pairD z.1 z.2] := by simp [nearD]
theorem Ne.add {m n : Nat} {L : List (List Int × List Int)} (h : Ne m n L) (hl : L.length ≤ 99) {u v : List Int} (hu : u.length = m) (hv : v.length = n) : Ne m n (L ++ [(u, v)]) :=
  ⟨fun z hz => by
    rcases List.mem_append.mp hz with hz | hz
    · exact h.ok z hz
    · rw [List.mem_singleton] at hz; subst hz; exact ⟨hu, hv⟩, by simp; omega⟩
theorem il_take (l : List Int) (n : Nat) : (il l).take n = il (l.take n) := by simp [il, List.map_take]
theorem il_drop (l : List Int) (n : Nat) : (il l).drop n = il (l.drop n) := by simp [il, List.map_drop]
def chg (u : List Int) (k : Nat) (s : Int) : List Int := u.take k ++ [u.getD k 0 + s] ++ u.drop (k + 1)
theorem chg_len (u : List Int) (k : Nat) (s : Int) (h : k < u.length) : (chg u k s).length = u.length := by simp [chg]; omega
theorem chg_ev (u : List Int) (k : Nat) (s : Int) (h : k < u.length) (hl : u.length ≤ 100) : dAdd (.tuple (il (u.take k))) (.tuple [.int (u.getD k 0 + s)]) = .ok (.tuple (il (u.take k ++ [u.getD k 0 + s]))) ∧ dAdd (.tuple (il (u.take k ++ [u.getD k 0 + s]))) (.tuple (il (u.drop (k + 1)))) = .ok (.tuple (il (chg u k s))) :=
  ⟨addTI (u.take k) [u.getD k 0 + s] (by simp; omega), addTI _ _ (by simp; omega)⟩
theorem near_row {B H : List Nat} (k : Nat) (s : Int) (u v : List Int) (h : k < u.length) (hu : u.length ≤ 8) (L : List (List Int × List Int)) (hL : L.length ≤ 99) (x4 x6 x9 : Option Da) :
    l_law_0 [none, none, some (.tuple (nl B)), some (.tuple (nl H)), x4, none, x6, none, some (pairD u v), x9, some (.list (nearD L)), some (di k), some (.int s), none, none, none, none] =
      .ok (.nx [none, none, some (.tuple (nl B)), some (.tuple (nl H)), x4, none, x6, none, some (pairD u v), x9, some (.list (nearD (L ++ [(chg u k s, v)]))), some (di k), none, none, none, none, none]) := by
  have ix0 : dIx (pairD u v) (di 0) = .ok (.tuple (il u)) := rfl
  have ix1 : dIx (pairD u v) (di 1) = .ok (.tuple (il v)) := rfl
  have c1 : cutD (il u) none (some (k : Int)) = il (u.take k) := by rw [cutD_to, il_take]
  have c2 : cutD (il u) (some ((k : Int) + 1)) none = il (u.drop (k + 1)) := by rw [show ((k : Int) + 1) = ((k + 1 : Nat) : Int) by simp, cutD_from, il_drop]
  have ix := dl.2.2.2.1 u k h
  obtain ⟨a1, a2⟩ := chg_ev u k s h (by omega)
  have la : (nearD L).length < big := by simp [nearD]; unfold big; omega
  have st := nearD_app L (chg u k s, v)
  have pe : PyData.tuple [.tuple (il (chg u k s)), .tuple (il v)] = pairD (chg u k s) v := rfl
  rw [st]
  generalize il (u.take k ++ [u.getD k 0 + s]) = Z at a1 a2
  generalize il (u.take k) = Z1 at c1 a1
  generalize il (u.drop (k + 1)) = Z2 at c2 a2
  simp [l_law_0, int_lit, ix0, ix1, c1, c2, ix, a1, a2, dn, updE, la, pe, -List.getD_eq_getElem?_getD]
theorem near_row2 {B H : List Nat} (k : Nat) (s : Int) (u v : List Int) (h : k < v.length) (hv : v.length ≤ 10) (L : List (List Int × List Int)) (hL : L.length ≤ 99) (x4 x6 : Option Da) :
    l_law_1 [none, none, some (.tuple (nl B)), some (.tuple (nl H)), x4, none, x6, none, some (pairD u v), none, some (.list (nearD L)), some (di k), some (.int s), none, none, none, none] =
      .ok (.nx [none, none, some (.tuple (nl B)), some (.tuple (nl H)), x4, none, x6, none, some (pairD u v), none, some (.list (nearD (L ++ [(u, chg v k s)]))), some (di k), none, none, none, none, none]) := by
  have ix0 : dIx (pairD u v) (di 0) = .ok (.tuple (il u)) := rfl
  have ix1 : dIx (pairD u v) (di 1) = .ok (.tuple (il v)) := rfl
  have c1 : cutD (il v) none (some (k : Int)) = il (v.take k) := by rw [cutD_to, il_take]
  have c2 : cutD (il v) (some ((k : Int) + 1)) none = il (v.drop (k + 1)) := by rw [show ((k : Int) + 1) = ((k + 1 : Nat) : Int) by simp, cutD_from, il_drop]
  have ix := dl.2.2.2.1 v k h
  obtain ⟨a1, a2⟩ := chg_ev v k s h (by omega)
  have la : (nearD L).length < big := by simp [nearD]; unfold big; omega
  have st := nearD_app L (u, chg v k s)
  have pe : PyData.tuple [.tuple (il u), .tuple (il (chg v k s))] = pairD u (chg v k s) := rfl
  rw [st]
  generalize il (v.take k ++ [v.getD k 0 + s]) = Z at a1 a2
  generalize il (v.take k) = Z1 at c1 a1
  generalize il (v.drop (k + 1)) = Z2 at c2 a2
  simp [l_law_1, int_lit, ix0, ix1, c1, c2, ix, a1, a2, dn, updE, la, pe, -List.getD_eq_getElem?_getD]
theorem tru_nl (l : List Nat) : tru (.tuple (nl l)) = !l.isEmpty := by rw [tru_tuple, nl_isEmpty]
theorem part17 {B H : List Nat} (f : Fr B H) (u v : List Int) (hu : u.length = B.length) (hv : v.length = H.length) (ds : List Nat) (hd : ds.length = 3) (x0 x1 x4 x5 x6 x7 : Option Da) : ∃ y0 y1 y5 y7 y11 L, Ne B.length H.length L ∧ L.length ≤ 10 ∧
    t_law_17 [x0, x1, some (.tuple (nl B)), some (.tuple (nl H)), x4, x5, x6, x7, some (pairD u v), some (.list (nl ds)), some (.list []), none, none, none, none, none, none] =
      .ok (.nx [y0, y1, some (.tuple (nl B)), some (.tuple (nl H)), x4, y5, x6, y7, some (pairD u v), some (.list (nl ds)), some (.list (nearD L)), y11, none, none, none, none, none]) := by
  by_cases hB : B = []
  · subst hB
    exact ⟨x0, x1, x5, x7, none, [], ⟨(fun _ z => nomatch z), by simp⟩, by simp, by simp [t_law_17, nearD]⟩
  · have hB' : 0 < B.length := List.length_pos_iff.mpr hB
    have te : tru (.tuple (nl B)) = true := by rw [tru_nl]; simp [hB]
    have ix := dl.1 ds 0 (by omega)
    have md := dMod_nat (ds.getD 0 0) B.length hB'
    have lt := Nat.mod_lt (ds.getD 0 0) hB'
    generalize ds.getD 0 0 % B.length = k at md lt
    have bl8 := f.b.len
    have r1 := near_row (B := B) (H := H) k 1 u v (by omega) (by omega) [] (by simp) x4 x6 (some (.list (nl ds)))
    have r2 := near_row (B := B) (H := H) k (-1) u v (by omega) (by omega) [(chg u k 1, v)] (by simp) x4 x6 (some (.list (nl ds)))
    have e0 : nearD [] = [] := rfl
    rw [e0] at r1
    refine ⟨none, none, none, none, some (di k), [(chg u k 1, v), (chg u k (-1), v)], ⟨fun z hz => ?_, by simp⟩, by simp, ?_⟩
    · rcases List.mem_cons.mp hz with e | hz
      · subst e; exact ⟨by rw [chg_len _ _ _ (by omega)]; exact hu, hv⟩
      · rw [List.mem_singleton] at hz; subst hz; exact ⟨by rw [chg_len _ _ _ (by omega)]; exact hu, hv⟩
    · have i1 : PyData.int 1 = di 1 := rfl
      have z1 : dSub (di 0) (di 1) = .ok (.int (-1)) := rfl
      rw [i1] at r1
      simp only [List.nil_append, List.cons_append] at r1 r2
      simp [t_law_17, int_lit, te, ix, dl, md, forL_cons, forL_nil, z1, r1, r2, -List.getD_eq_getElem?_getD, -tru_tuple]
theorem part18 {B H : List Nat} (f : Fr B H) (u v : List Int) (hu : u.length = B.length) (hv : v.length = H.length) (ds : List Nat) (hd : ds.length = 3) (L : List (List Int × List Int)) (hL : Ne B.length H.length L) (hl : L.length ≤ 10) (x0 x1 x4 x5 x6 x7 x11 : Option Da) : ∃ y0 y1 y5 y7 y9 y11 L', Ne B.length H.length L' ∧ L'.length ≤ 20 ∧
    t_law_18 [x0, x1, some (.tuple (nl B)), some (.tuple (nl H)), x4, x5, x6, x7, some (pairD u v), some (.list (nl ds)), some (.list (nearD L)), x11, none, none, none, none, none] =
      .ok (.nx [y0, y1, some (.tuple (nl B)), some (.tuple (nl H)), x4, y5, x6, y7, some (pairD u v), y9, some (.list (nearD L')), y11, none, none, none, none, none]) := by
  by_cases hH : H = []
  · subst hH
    exact ⟨x0, x1, x5, x7, some (.list (nl ds)), x11, L, hL, by omega, by simp [t_law_18]⟩
  · have hH' : 0 < H.length := List.length_pos_iff.mpr hH
    have te : tru (.tuple (nl H)) = true := by rw [tru_nl]; simp [hH]
    have ix := dl.1 ds 1 (by omega)
    have md := dMod_nat (ds.getD 1 0) H.length hH'
    have lt := Nat.mod_lt (ds.getD 1 0) hH'
    generalize ds.getD 1 0 % H.length = k at md lt
    have hl8 := f.h.len
    have r1 := near_row2 (B := B) (H := H) k 1 u v (by omega) (by omega) L (by omega) x4 x6
    have r2 := near_row2 (B := B) (H := H) k (-1) u v (by omega) (by omega) (L ++ [(u, chg v k 1)]) (by simp; omega) x4 x6
    have n1 := hL.add (u := u) (v := chg v k 1) (by omega) hu (by rw [chg_len _ _ _ (by omega)]; exact hv)
    have n2 := n1.add (u := u) (v := chg v k (-1)) (by simp; omega) hu (by rw [chg_len _ _ _ (by omega)]; exact hv)
    refine ⟨none, none, none, none, none, some (di k), L ++ [(u, chg v k 1)] ++ [(u, chg v k (-1))], n2, by simp; omega, ?_⟩
    have i1 : PyData.int 1 = di 1 := rfl
    have z1 : dSub (di 0) (di 1) = .ok (.int (-1)) := rfl
    rw [i1] at r1
    generalize nearD (L ++ [(u, chg v k 1)] ++ [(u, chg v k (-1))]) = Y2 at r2 ⊢
    generalize nearD (L ++ [(u, chg v k 1)]) = Y1 at r1 r2
    simp [t_law_18, int_lit, te, ix, dl, md, forL_cons, forL_nil, z1, r1, r2, -List.getD_eq_getElem?_getD, -tru_tuple]
theorem part19 {B H : List Nat} (u v : List Int) (hu : u.length = B.length) (hv : v.length = H.length) (L : List (List Int × List Int)) (hL : Ne B.length H.length L) (hl : L.length ≤ 20) (x0 x1 x2 x3 x4 x5 x6 x7 x9 x11 : Option Da) : ∃ L', Ne B.length H.length L' ∧
    t_law_19 [x0, x1, x2, x3, x4, x5, x6, x7, some (pairD u v), x9, some (.list (nearD L)), x11, none, none, none, none, none] =
      .ok (.nx [x0, x1, x2, x3, x4, x5, x6, x7, some (pairD u v), x9, some (.list (nearD L')), x11, none, none, none, none, none]) := by
  have ix0 : dIx (pairD u v) (di 0) = .ok (.tuple (il u)) := rfl
  have ix1 : dIx (pairD u v) (di 1) = .ok (.tuple (il v)) := rfl
  have lc : ∀ (w : List Int) (E : Ev), E.length = 17 → lcL (lcF (gVar 16) [16] eYes (e2 dAdd (eVar 16) (eC (di 5))) E) (il w) = .ok (il (w.map (· + 5))) := fun w E hE => by
    unfold il
    rw [lcL_map PyData.int (fun x => .int (x + 5)) w fun x _ => by
      have a : (E.set 16 (some (.int x)))[16]? = some (some (.int x)) := by simp [hE]
      have ad : dAdd (.int x) (di 5) = .ok (.int (x + 5)) := rfl
      simp [lcF, a, ad], List.map_map]
    rfl
  have l1 := lc u [x0, x1, x2, x3, x4, x5, x6, x7, some (pairD u v), x9, some (.list (nearD L)), x11, none, none, none, none, none] rfl
  have l2 := lc v [x0, x1, x2, x3, x4, x5, x6, x7, some (pairD u v), x9, some (.list (nearD L)), x11, none, none, none, none, none] rfl
  have la : (nearD L).length < big := by simp [nearD]; unfold big; omega
  refine ⟨L ++ [(u.map (· + 5), v.map (· + 5))], hL.add (by omega) (by simp [hu]) (by simp [hv]), ?_⟩
  have st := nearD_app L (u.map (· + 5), v.map (· + 5))
  have pe : PyData.tuple [.tuple (il (u.map (· + 5))), .tuple (il (v.map (· + 5)))] = pairD (u.map (· + 5)) (v.map (· + 5)) := rfl
  rw [st]
  generalize il (u.map (· + 5)) = Z1 at l1 pe
  generalize il (v.map (· + 5)) = Z2 at l2 pe
  simp [t_law_19, int_lit, ix0, ix1, eLc, l1, l2, updE, la, pe]
theorem judge_row {B H : List Nat} (f : Fr B H) {l : Nat} (hl : least B H = some l) (u v : List Int) (hu : u.length = B.length) (hv : v.length = H.length) (x6 x10 : Option Da) :
    l_law_2 [none, none, some (.tuple (nl B)), some (.tuple (nl H)), some (di l), none, x6, none, none, none, x10, none, none, some (pairD u v), none, none, none] =
      .ok (.nx [none, none, some (.tuple (nl B)), some (.tuple (nl H)), some (di l), none, x6, none, none, none, x10, none, none, none, none, none, none]) := by
  have ix0 : dIx (pairD u v) (di 0) = .ok (.tuple (il u)) := rfl
  have ix1 : dIx (pairD u v) (di 1) = .ok (.tuple (il v)) := rfl
  have lp := law_are_prices f.b.len f.h.len u v hu hv
  have ib := is_button_prices f u v hu hv hl
  have sb : dSub (.int u.sum) (.int v.sum) = .ok (.int (u.sum - v.sum)) := rfl
  have gt : dGt (.int (u.sum - v.sum)) (di l) = .ok (.bool (decide ((l : Int) < u.sum - v.sum))) := rfl
  have eq : dEq (.int (u.sum - v.sum)) (di l) = .ok (.bool (decide (u.sum - v.sum = (l : Nat)))) := rfl
  cases c : okP B H u v with
  | false =>
    rw [c] at lp ib
    simp at ib
    simp [l_law_2, lp, ib, law_flag]
  | true =>
    have w := weak f hl hu hv c
    rw [c] at lp ib
    have ng : ¬ ((l : Int) < u.sum - v.sum) := by omega
    simp at ib
    simp [l_law_2, int_lit, lp, ix0, ix1, sum_il, sb, gt, ng, ib, eq, law_flag]
theorem part20 {B H : List Nat} (f : Fr B H) {l : Nat} (hl : least B H = some l) (L : List (List Int × List Int)) (hL : Ne B.length H.length L) (x0 x1 x5 x6 x7 x8 x9 x11 : Option Da) :
    t_law_20 [x0, x1, some (.tuple (nl B)), some (.tuple (nl H)), some (di l), x5, x6, x7, x8, x9, some (.list (nearD L)), x11, none, none, none, none, none] =
      .ok (.nx [none, none, some (.tuple (nl B)), some (.tuple (nl H)), some (di l), none, x6, none, none, none, some (.list (nearD L)), none, none, none, none, none, none]) := by
  have k := forL_same (g := gVar 13) (body := l_law_2) (ρ := [none, none, some (.tuple (nl B)), some (.tuple (nl H)), some (di l), none, x6, none, none, none, some (.list (nearD L)), none, none, none, none, none, none]) (fun z : List Int × List Int => pairD z.1 z.2) L fun z hz => by
    obtain ⟨a, b⟩ := hL.ok z hz
    have := judge_row f hl z.1 z.2 a b x6 (some (.list (nearD L)))
    simp [this]
  have k' : forL (gVar 13) l_law_2 (nearD L) _ = _ := k
  simp [t_law_20, k']
/-! what is refused -/
theorem tup_of_none (m : Nat) : f_is_tuple_of [.none, di m] = .ok (.bool false) := by simp [f_is_tuple_of, runDef_, b_is_tuple_of, isTy]
theorem tup_of_list (l : List Da) (m : Nat) : f_is_tuple_of [.list l, di m] = .ok (.bool false) := by simp [f_is_tuple_of, runDef_, b_is_tuple_of]
theorem tup_of_long (l : List Da) (m : Nat) (h : l.length ≠ m) : f_is_tuple_of [.tuple l, di m] = .ok (.bool false) := by
  rw [is_tuple_ofL]
  simp [h]
theorem no_pair {B H : List Nat} (f : Fr B H) (t : Da) (h : f_is_tuple_of [t, di B.length] = .ok (.bool false)) (e : dEq t (.str "least") = .ok (.bool false)) :
    f_is_pairing [.tuple (nl B), .tuple (nl H), t] = .ok (.bool false) ∧ f__law_word [.tuple (nl B), .tuple (nl H), t] = .ok (.str "plan") := by
  have po : f_is_pairing_of [.tuple (nl B), .tuple (nl H), t] = .ok (.bool false) := by simp [f_is_pairing_of, runDef_, b_is_pairing_of, dl, h]
  have pc : f_pairing_cost [.tuple (nl B), .tuple (nl H), t] = .exc "NoPlan" := by simp [f_pairing_cost, runDef_, b_pairing_cost, need_fronts f, po]
  refine ⟨by simp [f_is_pairing, runDef_, b_is_pairing, need_fronts f, po], ?_⟩
  simp [f__law_word, runDef_, b__law_word, sTry, e, pc]
  decide
theorem no_row {B H : List Nat} (f : Fr B H) (t : Da) (h : f_is_tuple_of [t, di B.length] = .ok (.bool false)) (e : dEq t (.str "least") = .ok (.bool false)) (x6 : Option Da) :
    l_law_3 [none, none, some (.tuple (nl B)), some (.tuple (nl H)), none, none, x6, none, none, none, none, none, none, some t, none, none, none] =
      .ok (.nx [none, none, some (.tuple (nl B)), some (.tuple (nl H)), none, none, x6, none, none, none, none, none, none, none, none, none, none]) := by
  obtain ⟨a, b⟩ := no_pair f t h e
  simp [l_law_3, a, b]
theorem repT_1 (n m : Nat) (h : m ≤ 1000) : repT (.tuple [di n]) (di m) = .ok (.tuple (nl (List.replicate m n))) := by
  have e : (List.replicate m [di n]).flatten = nl (List.replicate m n) := by
    induction m with
    | zero => rfl
    | succ m ih => rw [List.replicate_succ, List.flatten_cons, ih (by omega), List.replicate_succ]; rfl
  unfold repT di
  by_cases c : 1 ≤ (m : Int)
  · have cc : [PyData.int (n : Int)].length ≤ 1000 ∧ 1 ≤ [PyData.int (n : Int)].length ∧ 1 ≤ (m : Int) ∧ (m : Int).natAbs ≤ 1000 := ⟨by simp, by simp, c, by omega⟩
    have t : (m : Int).toNat = m := by omega
    simp only [cc, and_self, if_true, t]
    exact congrArg (fun z => R.ok (PyData.tuple z)) e
  · have m0 : m = 0 := by omega
    subst m0
    simp
theorem can_least : PyData.canLay0 (.str (Str.ofString "least")) = true := by simp only [PyData.canLay0]; decide +kernel
theorem sh_least : SeqAt.shaped (.str (Str.ofString "least")) = true := shaped_pl 2 (by decide) (by simpa [plD] using can_least)
theorem eq_str_list (l : List Nat) : dEq (.list (nl l)) (.str "least") = .ok (.bool false) := by
  rw [dEq_eqv (shaped_pl 2 (by decide) (by simp only [plD]; exact plL_map (EqE.di (n := 1)).pl l)) sh_least]
  simp [PyData.eqv]
theorem eq_str_tuple (l : List Nat) : dEq (.tuple (nl l)) (.str "least") = .ok (.bool false) := by
  rw [dEq_eqv (shaped_pl 2 (by decide) (by simp only [plD]; exact plL_map (EqE.di (n := 1)).pl l)) sh_least]
  simp [PyData.eqv]
theorem eq_str_none : dEq .none (.str "least") = .ok (.bool false) := by
  rw [dEq_eqv (shaped_pl 2 (by decide) (by simp [plD])) sh_least]
  simp [PyData.eqv]
theorem part21 {B H : List Nat} (f : Fr B H) (dr : List Nat) (hd : dr.length = B.length) (x4 x10 : Option Da) :
    t_law_21 [none, none, some (.tuple (nl B)), some (.tuple (nl H)), x4, none, some (.tuple (nl dr)), none, none, none, x10, none, none, none, none, none, none] =
      .ok (.nx [none, none, some (.tuple (nl B)), some (.tuple (nl H)), none, none, some (.tuple (nl dr)), none, none, none, none, none, none, none, none, none, none]) := by
  have r1 := repT_1 H.length B.length (by have := f.b.len; omega)
  have a1 : dAdd (.tuple (nl dr)) (.tuple [di 0]) = .ok (.tuple (nl (dr ++ [0]))) := addT dr [0] (by have := f.b.len; simp; omega)
  have a2 : dAdd (.tuple (nl (List.replicate B.length H.length))) (.tuple [di 0]) = .ok (.tuple (nl (List.replicate B.length H.length ++ [0]))) := addT _ [0] (by have := f.b.len; simp; omega)
  have dlst : dList [.tuple (nl dr)] = .ok (.list (nl dr)) := rfl
  have g1 := no_row f .none (tup_of_none _) eq_str_none (some (.tuple (nl dr)))
  have g2 := no_row f (.list (nl dr)) (tup_of_list _ _) (eq_str_list _) (some (.tuple (nl dr)))
  have g3 := no_row f (.tuple (nl (dr ++ [0]))) (tup_of_long _ _ (by simp; omega)) (eq_str_tuple _) (some (.tuple (nl dr)))
  have g4 := no_row f (.tuple (nl (List.replicate B.length H.length ++ [0]))) (tup_of_long _ _ (by simp)) (eq_str_tuple _) (some (.tuple (nl dr)))
  generalize nl (List.replicate B.length H.length ++ [0]) = Z4 at a2 g4
  generalize nl (List.replicate B.length H.length) = Z5 at r1 a2
  generalize nl (dr ++ [0]) = Z3 at a1 g3
  simp [t_law_21, int_lit, dlst, a1, dl, r1, a2, forL_cons, forL_nil, g1, g2, g3, g4]
def ones (n : Nat) : Da := .tuple (List.replicate n (.int 1))
theorem r10 : repT (.tuple [.int 1]) (.int 10) = .ok (ones 10) := rfl
theorem r9 : repT (.tuple [.int 1]) (.int 9) = .ok (ones 9) := rfl
theorem r11 : repT (.tuple [.int 1]) (.int 11) = .ok (ones 11) := rfl
theorem word_n (t u : Da) (h : f_pairing_cost [t, u, .none] = .exc "NoButtons") : f__law_word [t, u, .none] = .ok (.str "buttons") := by
  simp [f__law_word, runDef_, b__law_word, sTry, eq_str_none, h]
theorem w1 : f__law_word [.none, ones 10, .str "least"] = .ok (.str "buttons") ∧ f__law_word [.none, ones 10, .none] = .ok (.str "buttons") := ⟨rfl, word_n _ _ rfl⟩
theorem w2 : f__law_word [.list [.int 1], ones 10, .str "least"] = .ok (.str "buttons") ∧ f__law_word [.list [.int 1], ones 10, .none] = .ok (.str "buttons") := ⟨rfl, word_n _ _ rfl⟩
theorem w3 : f__law_word [.tuple [.int (-1)], ones 10, .str "least"] = .ok (.str "buttons") ∧ f__law_word [.tuple [.int (-1)], ones 10, .none] = .ok (.str "buttons") := ⟨rfl, word_n _ _ rfl⟩
theorem w4 : f__law_word [.tuple [.int 201], ones 10, .str "least"] = .ok (.str "buttons") ∧ f__law_word [.tuple [.int 201], ones 10, .none] = .ok (.str "buttons") := ⟨rfl, word_n _ _ rfl⟩
theorem w5 : f__law_word [.tuple [.int 2, .int 1], ones 10, .str "least"] = .ok (.str "buttons") ∧ f__law_word [.tuple [.int 2, .int 1], ones 10, .none] = .ok (.str "buttons") := ⟨rfl, word_n _ _ rfl⟩
theorem w6 : f__law_word [.tuple [.bool true], ones 10, .str "least"] = .ok (.str "buttons") ∧ f__law_word [.tuple [.bool true], ones 10, .none] = .ok (.str "buttons") := ⟨rfl, word_n _ _ rfl⟩
theorem w7 : f__law_word [ones 9, ones 10, .str "least"] = .ok (.str "buttons") ∧ f__law_word [ones 9, ones 10, .none] = .ok (.str "buttons") := ⟨rfl, word_n _ _ rfl⟩
theorem w8 : f__law_word [.str "?", ones 10, .str "least"] = .ok (.str "buttons") ∧ f__law_word [.str "?", ones 10, .none] = .ok (.str "buttons") := ⟨rfl, word_n _ _ rfl⟩
theorem v1 : f__law_word [.tuple [], .none, .str "least"] = .ok (.str "buttons") := rfl
theorem v2 : f__law_word [.tuple [], .list [.int 1], .str "least"] = .ok (.str "buttons") := rfl
theorem v3 : f__law_word [.tuple [], .tuple [.int 2, .int 1], .str "least"] = .ok (.str "buttons") := rfl
theorem v4 : f__law_word [.tuple [], ones 11, .str "least"] = .ok (.str "buttons") := rfl
theorem v5 : f__law_word [.tuple [.int 1, .int 2], .tuple [.int 1], .none] = .ok (.str "buttons") := word_n _ _ rfl
end K74
set_option Elab.async false
set_option linter.all false
set_option maxRecDepth 10000
namespace K74
open PySem DL
theorem no4 (t : Da) (E : Ev) (h : f__law_word [t, ones 10, .str "least"] = .ok (.str "buttons") ∧ f__law_word [t, ones 10, .none] = .ok (.str "buttons")) :
    l_law_4 [none, none, none, none, none, none, none, none, none, none, none, none, none, some t, none, none, none] = .ok (.nx [none, none, none, none, none, none, none, none, none, none, none, none, none, none, none, none, none]) := by
  simp [l_law_4, r10, h.1, h.2]
theorem part22 (x0 x1 x2 x3 x4 x5 x6 x7 x8 x9 x10 x11 x12 x13 x14 : Option Da) :
    t_law_22 [x0, x1, x2, x3, x4, x5, x6, x7, x8, x9, x10, x11, x12, x13, x14, none, none] = .ok (.nx [none, none, none, none, none, none, none, none, none, none, none, none, none, none, none, none, none]) := by
  have g1 := no4 _ [] w1
  have g2 := no4 _ [] w2
  have g3 := no4 _ [] w3
  have g4 := no4 _ [] w4
  have g5 := no4 _ [] w5
  have g6 := no4 _ [] w6
  have g7 := no4 _ [] w7
  have g8 := no4 _ [] w8
  simp [t_law_22, r9, forL_cons, forL_nil, g1, g2, g3, g4, g5, g6, g7, g8]
theorem part23 : t_law_23 [none, none, none, none, none, none, none, none, none, none, none, none, none, none, none, none, none] = .ok (.rt (.bool true)) := by
  have go : ∀ t, f__law_word [.tuple [], t, .str "least"] = .ok (.str "buttons") → lcF (gVar 13) [13] eYes (e2 dEq (eA f__law_word (aCons (eTup aNil) (aCons (eVar 13) (aCons (eC (.str "least")) aNil)))) (eC (.str "buttons"))) [none, none, none, none, none, none, none, none, none, none, none, none, none, none, none, none, none] t = .ok (some (.bool true)) := fun t ht => by
    simp [lcF, ht]
  have lc : lcL (lcF (gVar 13) [13] eYes (e2 dEq (eA f__law_word (aCons (eTup aNil) (aCons (eVar 13) (aCons (eC (.str "least")) aNil)))) (eC (.str "buttons"))) [none, none, none, none, none, none, none, none, none, none, none, none, none, none, none, none, none]) [.none, .list [.int 1], .tuple [.int 2, .int 1], ones 11] = .ok (bl [true, true, true, true]) := by
    simp only [lcL, go _ v1, go _ v2, go _ v3, go _ v4]
    rfl
  have al := dAll_bl [true, true, true, true]
  generalize bl [true, true, true, true] = Z at lc al
  simp [t_law_23, r11, eLc, lc, al, v5]
theorem few_of (d : Nat) (h : d < 2) : (d = 0 ∧ dIx (.list [di 4, di 8]) (di d) = .ok (di 4) ∧ dIx (.list [di 6, di 10]) (di d) = .ok (di 6)) ∨ (d = 1 ∧ dIx (.list [di 4, di 8]) (di d) = .ok (di 8) ∧ dIx (.list [di 6, di 10]) (di d) = .ok (di 10)) := by
  have c : d = 0 ∨ d = 1 := by omega
  rcases c with e | e <;> subst e
  · exact .inl ⟨rfl, rfl, rfl⟩
  · exact .inr ⟨rfl, rfl, rfl⟩
theorem fronts (c0 c1 c2 : Int) (d : Nat) (h : d < 2) : ∃ b h' B H, dIx (.list [di 4, di 8]) (di d) = .ok (di b) ∧ dIx (.list [di 6, di 10]) (di d) = .ok (di h') ∧ Fr B H ∧ (d = 0 → B.length ≤ 4 ∧ H.length ≤ 6) ∧ f__law_fronts [.int c0, .int c1, .int c2, di b, di h'] = .ok (.tuple [.tuple (nl B), .tuple (nl H)]) := by
  rcases few_of d h with ⟨e, e1, e2⟩ | ⟨e, e1, e2⟩
  · obtain ⟨B, H, f, h1, h2, h3⟩ := law_fronts c0 c1 c2 4 6 (by decide) (by decide)
    exact ⟨4, 6, B, H, e1, e2, f, fun _ => ⟨h1, by omega⟩, h3⟩
  · obtain ⟨B, H, f, h1, h2, h3⟩ := law_fronts c0 c1 c2 8 10 (by decide) (by decide)
    exact ⟨8, 10, B, H, e1, e2, f, fun z => by omega, h3⟩
theorem sum_row (B H q : List Nat) (n i : Nat) (hn : n = B.length) (hl : q.length = B.length) (lt : ∀ k, k ∈ q → k < H.length) (E : Ev) (hE : E.length = 17) (h2 : E[2]? = some (some (.tuple (nl B)))) (h3 : E[3]? = some (some (.tuple (nl H)))) (hi : E[i]? = some (some (.tuple (nl q)))) (i15 : i ≠ 15) :
    lcL (lcF (gVar 15) [15] eYes (eA dAbs (aCons (e2 dSub (e2 dIx (eVar 2) (eVar 15)) (e2 dIx (eVar 3) (e2 dIx (eVar i) (eVar 15)))) aNil)) E) (nl (List.range n)) = .ok (nl ((List.range B.length).map fun k => dd B H k (q.getD k 0))) := by
  subst hn
  refine lc_nl _ _ fun k hk => ?_
  have hk' := List.mem_range.mp hk
  have a : (E.set 15 (some (di k)))[15]? = some (some (di k)) := by simp [hE]
  have b2 : (E.set 15 (some (di k)))[2]? = some (some (.tuple (nl B))) := by rw [List.getElem?_set_ne (by decide)]; exact h2
  have b3 : (E.set 15 (some (di k)))[3]? = some (some (.tuple (nl H))) := by rw [List.getElem?_set_ne (by decide)]; exact h3
  have bi : (E.set 15 (some (di k)))[i]? = some (some (.tuple (nl q))) := by rw [List.getElem?_set_ne (Ne.symm i15)]; exact hi
  have ixb := dl.2.1 B k hk'
  have ixq := dl.2.1 q k (by omega)
  have ixh := dl.2.1 H (q.getD k 0) (lt _ (mem_getD (by omega)))
  have ab := dAbs_dd B H k (q.getD k 0)
  simp [lcF, a, b2, b3, bi, ixb, ixq, ixh, dSub_cast, ab, -List.getD_eq_getElem?_getD]
theorem sum_costL (B H q : List Nat) : dSumL [.list (nl ((List.range B.length).map fun k => dd B H k (q.getD k 0)))] = .ok (di (costL B H q)) := by
  rw [costL_sum]
  exact dl.2.2.2.2.2.2.2.2.1 _
abbrev E5 (ns : List Int) (d : Nat) (B H : List Nat) (l : Nat) (tq : List Nat) : Ev := [some (.list (il ns)), some (di d), some (.tuple (nl B)), some (.tuple (nl H)), some (di l), some (.tuple (nl tq)), none, none, none, none, none, none, none, none, none, none, none]
theorem part4 {B H tq : List Nat} (f : Fr B H) {l : Nat} (hl : least B H = some l) (pa : Pa B H tq) (c : costL B H tq = l) (ns : List Int) (d : Nat) : t_law_4 (E5 ns d B H l tq) = .ok (.nx (E5 ns d B H l tq)) := by
  have bl := button_least f
  rw [hl] at bl
  have bb := is_button_best f pa hl
  simp [t_law_4, bl, dn, bb, c]
theorem part5 {B H tq : List Nat} (f : Fr B H) {l : Nat} (hl : least B H = some l) (ns : List Int) (d : Nat) (hd : d = 0 → B.length ≤ 4 ∧ H.length ≤ 6) : t_law_5 (E5 ns d B H l tq) = .ok (.nx (E5 ns d B H l tq)) := by
  by_cases e : d = 0
  · obtain ⟨h1, h2⟩ := hd e
    subst e
    have lp := law_paired h1 h2
    have pm := paired_min f hl
    have lc : ∀ (E : Ev), E.length = 17 → lcL (lcF (gVar 8) [8] eYes (e2 dIx (eVar 8) (eC (di 1))) E) (pl (allP (dd B H) H.length B.length)) = .ok (nl ((allP (dd B H) H.length B.length).map (·.2))) := fun E hE => by
      unfold pl
      rw [lcL_map encP (fun z => di z.2) _ fun z _ => by
        have a : (E.set 8 (some (encP z)))[8]? = some (some (encP z)) := by simp [hE]
        have ix : dIx (encP z) (di 1) = .ok (di z.2) := rfl
        simp [lcF, a, ix], nl, List.map_map]
      rfl
    have lc' := lc (E5 ns 0 B H l tq) rfl
    generalize pl (allP (dd B H) H.length B.length) = Z at lp lc'
    generalize nl ((allP (dd B H) H.length B.length).map (·.2)) = Z2 at lc' pm
    simp [E5] at lc'
    simp [t_law_5, int_lit, dn, lp, eLc, lc', pm]
  · simp [t_law_5, int_lit, dn, e]
theorem part6 {B H tq : List Nat} (f : Fr B H) {l : Nat} (pa : Pa B H tq) (c : costL B H tq = l) (ns : List Int) (d : Nat) : t_law_6 (E5 ns d B H l tq) = .ok (.nx (E5 ns d B H l tq)) := by
  have ip := is_pairing f pa
  have pc := pairing_cost f pa
  simp [t_law_6, ip, pc, c, dn]
theorem part7 {B H tq : List Nat} (f : Fr B H) {l : Nat} (pa : Pa B H tq) (c : costL B H tq = l) (ns : List Int) (d : Nat) : t_law_7 (E5 ns d B H l tq) = .ok (.nx (E5 ns d B H l tq)) := by
  have sr := sum_row B H tq tq.length 5 pa.len pa.len pa.lt (E5 ns d B H l tq) rfl rfl rfl rfl (by decide)
  have sc := sum_costL B H tq
  rw [c] at sc
  have rg := rng_nl tq.length (by have := pa.len; have := f.b.len; unfold big; omega)
  have ln := pa.len
  generalize nl ((List.range B.length).map fun k => dd B H k (tq.getD k 0)) = Z at sr sc
  rw [ln] at sr rg
  simp [t_law_7, dl, rg, eLc, sr, sc, dn, ln]
end K74
set_option Elab.async false
set_option linter.all false
set_option maxRecDepth 10000
namespace K74
open PySem DL
/-- the drawn pairing -/
theorem part8 {B H tq : List Nat} (f : Fr B H) (l : Nat) (ns : List Int) (d : Nat) : ∃ dr, Pa B H dr ∧
    t_law_8 (E5 ns d B H l tq) = .ok (.nx [some (.list (il ns)), some (di d), some (.tuple (nl B)), some (.tuple (nl H)), some (di l), some (.tuple (nl tq)), some (.tuple (nl dr)), none, none, none, none, none, none, none, none, none, none]) := by
  obtain ⟨c3, hc3⟩ := law_at ns 3
  obtain ⟨p, hp, er⟩ := law_order c3 H.length (by have := f.h.len; omega)
  have pl := hp.length_eq
  rw [List.length_range] at pl
  have cut : cutD (nl p) none (some (B.length : Int)) = nl (p.take B.length) := by rw [cutD_to, nl_take]
  refine ⟨p.take B.length, ⟨by have := f.le; simp; omega, fun k hk => List.mem_range.mp (hp.mem_iff.mp (List.mem_of_mem_take hk)), (hp.nodup_iff.mpr List.nodup_range).sublist (List.take_sublist _ _)⟩, ?_⟩
  simp [t_law_8, int_lit, hc3, dl, er, cut]
abbrev E7 (ns : List Int) (d : Nat) (B H : List Nat) (l : Nat) (tq dr : List Nat) (x7 x8 x9 : Option Da) : Ev := [some (.list (il ns)), some (di d), some (.tuple (nl B)), some (.tuple (nl H)), some (di l), some (.tuple (nl tq)), some (.tuple (nl dr)), x7, x8, x9, none, none, none, none, none, none, none]
theorem part9 {B H tq dr : List Nat} (f : Fr B H) (l : Nat) (pa : Pa B H dr) (ns : List Int) (d : Nat) : t_law_9 (E7 ns d B H l tq dr none none none) = .ok (.nx (E7 ns d B H l tq dr (some (di (costL B H dr))) none none)) := by
  have sr := sum_row B H dr B.length 6 rfl pa.len pa.lt (E7 ns d B H l tq dr none none none) rfl rfl rfl rfl (by decide)
  have sc := sum_costL B H dr
  have rg := rng_nl B.length (by have := f.b.len; unfold big; omega)
  generalize nl ((List.range B.length).map fun k => dd B H k (dr.getD k 0)) = Z at sr sc
  simp [t_law_9, dl, rg, eLc, sr, sc]
theorem part1011 {B H tq dr : List Nat} (f : Fr B H) {l : Nat} (hl : least B H = some l) (pa : Pa B H dr) (ns : List Int) (d : Nat) :
    t_law_10 (E7 ns d B H l tq dr (some (di (costL B H dr))) none none) = .ok (.nx (E7 ns d B H l tq dr (some (di (costL B H dr))) none none)) ∧
    t_law_11 (E7 ns d B H l tq dr (some (di (costL B H dr))) none none) = .ok (.nx (E7 ns d B H l tq dr (some (di (costL B H dr))) none none)) := by
  have ip := is_pairing f pa
  have pc := pairing_cost f pa
  have le : l ≤ costL B H dr := least_at f hl pa.inj
  have nlt : ¬ costL B H dr < l := Nat.not_lt.mpr le
  have bb := is_button_best f pa hl
  exact ⟨by simp [t_law_10, ip, pc, dn, nlt], by simp [t_law_11, bb, dn, law_flag]⟩
theorem part1214 {B H tq dr : List Nat} (f : Fr B H) {l : Nat} (hl : least B H = some l) (ns : List Int) (d : Nat) (x7 : Option Da) : ∃ u v : List Int, u.length = B.length ∧ v.length = H.length ∧
    t_law_12 (E7 ns d B H l tq dr x7 none none) = .ok (.nx (E7 ns d B H l tq dr x7 (some (pairD u v)) none)) ∧
    t_law_13 (E7 ns d B H l tq dr x7 (some (pairD u v)) none) = .ok (.nx (E7 ns d B H l tq dr x7 (some (pairD u v)) none)) ∧
    t_law_14 (E7 ns d B H l tq dr x7 (some (pairD u v)) none) = .ok (.nx (E7 ns d B H l tq dr x7 (some (pairD u v)) none)) := by
  obtain ⟨U, P, l', hl', pr, bp⟩ := button_prices f
  rw [hl] at hl'
  cases hl'
  have e : PyData.tuple [.tuple (nl U), .tuple (nl P)] = pairD (U.map fun n : Nat => (n : Int)) (P.map fun n : Nat => (n : Int)) := by
    unfold pairD
    rw [← nl_il, ← nl_il]
  rw [e] at bp
  have ok := okP_of pr
  have hu : (U.map fun n : Nat => (n : Int)).length = B.length := by simp [pr.lu]
  have hv : (P.map fun n : Nat => (n : Int)).length = H.length := by simp [pr.lp]
  have sU := sumN_cast U
  have sP := sumN_cast P
  have ss : (U.map fun n : Nat => (n : Int)).sum - (P.map fun n : Nat => (n : Int)).sum = (l : Nat) := by
    rw [sU, sP]
    have := pr.sum
    omega
  generalize (U.map fun n : Nat => (n : Int)) = u at *
  generalize (P.map fun n : Nat => (n : Int)) = v at *
  have ix0 : dIx (pairD u v) (di 0) = .ok (.tuple (il u)) := rfl
  have ix1 : dIx (pairD u v) (di 1) = .ok (.tuple (il v)) := rfl
  have lp := law_are_prices f.b.len f.h.len u v hu hv
  rw [ok] at lp
  have ib := is_button_prices f u v hu hv hl
  rw [ok, ss] at ib
  have sb : dSub (.int u.sum) (.int v.sum) = .ok (di l) := by
    show R.ok (PyData.int (u.sum - v.sum)) = _
    rw [ss]
    rfl
  have li : dList [pairD u v] = .ok (.list [.tuple (il u), .tuple (il v)]) := rfl
  have ibl : f_is_button_prices [.tuple (nl B), .tuple (nl H), .list [.tuple (il u), .tuple (il v)]] = .ok (.bool false) := by
    have t := tup_of_list [.tuple (il u), .tuple (il v)] 2
    have ap : f_are_prices [.tuple (nl B), .tuple (nl H), .list [.tuple (il u), .tuple (il v)]] = .ok (.bool false) := by simp [f_are_prices, runDef_, b_are_prices, int_lit, t]
    simp [f_is_button_prices, runDef_, b_is_button_prices, need_fronts f, ap]
  simp at ib
  exact ⟨u, v, hu, hv, by simp [t_law_12, bp], by simp [t_law_13, int_lit, lp, ix0, ix1, sum_il, sb, dn], by simp [t_law_14, ib, li, ibl]⟩
theorem law (ns : List Int) (hns : ns.length ≤ 63) : f_law [.list (ns.map PyData.int)] = .ok (.bool true) := by
  obtain ⟨c0, hc0⟩ := law_at ns 0
  obtain ⟨c1, hc1⟩ := law_at ns 1
  obtain ⟨c2, hc2⟩ := law_at ns 2
  obtain ⟨c4, hc4⟩ := law_at ns 4
  obtain ⟨ks, hk, hkl, hkr⟩ := law_row c2 2 2 (by decide) (by decide) (by decide)
  have k1 := dl.1 ks 1 (by omega)
  have kd : ks.getD 1 0 < 2 := hkl _ (mem_getD (by omega))
  generalize ks.getD 1 0 = d at k1 kd
  obtain ⟨b, h', B, H, eb, eh, f, few, hf⟩ := fronts c0 c1 c2 d kd
  obtain ⟨es, he, _, her⟩ := law_row c4 3 60 (by decide) (by decide) (by decide)
  obtain ⟨l, hl⟩ : ∃ l, least B H = some l := let ⟨l, _, h, _⟩ := least_got f; ⟨l, h⟩
  have lt := law_table (B := B) (H := H) f.h.len
  rw [hl] at lt
  have best := button_best f
  obtain ⟨pa, _, hc⟩ := told_pa f
  rw [hl] at hc
  have hc' := (Option.some.inj hc).symm
  generalize told (dd B H) H.length B.length = tq at best pa hc'
  obtain ⟨dr, pd, p8⟩ := part8 (tq := tq) f l ns d
  have p9 := part9 (tq := tq) f l pd ns d
  obtain ⟨p10, p11⟩ := part1011 (tq := tq) f hl pd ns d
  obtain ⟨u, v, hu, hv, p12, p13, p14⟩ := part1214 (tq := tq) (dr := dr) f hl ns d (some (di (costL B H dr)))
  have p15 : t_law_15 (E7 ns d B H l tq dr (some (di (costL B H dr))) (some (pairD u v)) none) = .ok (.nx (E7 ns d B H l tq dr (some (di (costL B H dr))) (some (pairD u v)) (some (.list (nl es))))) := by
    simp [t_law_15, int_lit, hc4, her]
  obtain ⟨y0, y1, y5, y7, y11, L, nL, lL, p17⟩ := part17 f u v hu hv es he (some (.list (il ns))) (some (di d)) (some (di l)) (some (.tuple (nl tq))) (some (.tuple (nl dr))) (some (di (costL B H dr)))
  obtain ⟨z0, z1, z5, z7, z9, z11, L2, nL2, lL2, p18⟩ := part18 f u v hu hv es he L nL lL y0 y1 (some (di l)) y5 (some (.tuple (nl dr))) y7 y11
  obtain ⟨L3, nL3, p19⟩ := part19 u v hu hv L2 nL2 lL2 z0 z1 (some (.tuple (nl B))) (some (.tuple (nl H))) (some (di l)) z5 (some (.tuple (nl dr))) z7 z9 z11
  have p20 := part20 f hl L3 nL3 z0 z1 z5 (some (.tuple (nl dr))) z7 (some (pairD u v)) z9 z11
  have p21 := part21 f dr pd.len (some (di l)) (some (.list (nearD L3)))
  have p22 := part22 none none (some (.tuple (nl B))) (some (.tuple (nl H))) none none (some (.tuple (nl dr))) none none none none none none none none
  have hns' : PyData.list (ns.map PyData.int) = .list (il ns) := rfl
  rw [hns']
  have p0 : t_law_0 [some (.list (il ns)), none, none, none, none, none, none, none, none, none, none, none, none, none, none, none, none] = .ok (.nx [some (.list (il ns)), some (di d), none, none, none, none, none, none, none, none, none, none, none, none, none, none, none]) := by
    simp [t_law_0, int_lit, hc2, hkr, k1]
  have p1 : t_law_1 [some (.list (il ns)), some (di d), none, none, none, none, none, none, none, none, none, none, none, none, none, none, none] = .ok (.nx [some (.list (il ns)), some (di d), some (.tuple (nl B)), some (.tuple (nl H)), none, none, none, none, none, none, none, none, none, none, none, none, none]) := by
    simp [t_law_1, int_lit, hc0, hc1, hc2, eb, eh, hf]
  have p2 : t_law_2 [some (.list (il ns)), some (di d), some (.tuple (nl B)), some (.tuple (nl H)), none, none, none, none, none, none, none, none, none, none, none, none, none] = .ok (.nx [some (.list (il ns)), some (di d), some (.tuple (nl B)), some (.tuple (nl H)), some (di l), none, none, none, none, none, none, none, none, none, none, none, none]) := by
    simp [t_law_2, lt]
  have p3 : t_law_3 [some (.list (il ns)), some (di d), some (.tuple (nl B)), some (.tuple (nl H)), some (di l), none, none, none, none, none, none, none, none, none, none, none, none] = .ok (.nx (E5 ns d B H l tq)) := by
    simp [t_law_3, best]
  have p16 : sOwn 10 (eLst aNil) (E7 ns d B H l tq dr (some (di (costL B H dr))) (some (pairD u v)) (some (.list (nl es)))) = .ok (.nx [some (.list (il ns)), some (di d), some (.tuple (nl B)), some (.tuple (nl H)), some (di l), some (.tuple (nl tq)), some (.tuple (nl dr)), some (di (costL B H dr)), some (pairD u v), some (.list (nl es)), some (.list []), none, none, none, none, none, none]) := by
    simp
  have p4 := part4 f hl pa hc' ns d
  have p5 := part5 (tq := tq) f hl ns d few
  have p6 := part6 f pa hc' ns d
  have p7 := part7 f pa hc' ns d
  refine run_rt ?_
  show b_law _ = _
  unfold b_law
  exact seq_nx p0 (seq_nx p1 (seq_nx p2 (seq_nx p3 (seq_nx p4 (seq_nx p5 (seq_nx p6 (seq_nx p7 (seq_nx p8 (seq_nx p9 (seq_nx p10 (seq_nx p11 (seq_nx p12 (seq_nx p13 (seq_nx p14 (seq_nx p15 (seq_nx p16 (seq_nx p17 (seq_nx p18 (seq_nx p19 (seq_nx p20 (seq_nx p21 (seq_nx p22 part23))))))))))))))))))))))
end K74
set_option Elab.async false
set_option linter.all false
set_option maxRecDepth 100000
set_option maxHeartbeats 4000000
/-! Each def of the row keeps its reading, printed by gen.py. -/
namespace K74.Wk
open PySem PySem.Spec PyProof.Rows L2 DL
def top (i : Nat) : Stmt := PySem.Challenge.pw_needlehouse_k74_whole_buttons_and_holes.main.body.getD i (.Pass ⟨0, 0, 0, 0⟩)
structure Tp (K : PySem.W.Frag) (mg : MG) : Prop where
  c_MOST_BUTTONS : ∃ t, mg "MOST_BUTTONS" = some (.int 8 t)
  c_MOST_HOLES : ∃ t, mg "MOST_HOLES" = some (.int 10 t)
  c_MOST_PLACE : ∃ t, mg "MOST_PLACE" = some (.int 200 t)
  c_MOST_PRICE : ∃ t, mg "MOST_PRICE" = some (.int 1000 t)
  i_NoButtons__NoButtons__true : IsE K mg "NoButtons" "NoButtons" true
  i_NoButtons__NoPlan__false : IsE K mg "NoButtons" "NoPlan" false
  i_NoPlan__NoButtons__false : IsE K mg "NoPlan" "NoButtons" false
  i_NoPlan__NoPlan__true : IsE K mg "NoPlan" "NoPlan" true
  k_NoButtons__NeedleError : Cat K mg "NoButtons" "NeedleError"
  k_NoPlan__NeedleError : Cat K mg "NoPlan" "NeedleError"
  n_abs : mg "abs" = none
  n_all : mg "all" = none
  n_any : mg "any" = none
  n_bool : mg "bool" = none
  n_enumerate : mg "enumerate" = none
  n_int : mg "int" = none
  n_isinstance : mg "isinstance" = none
  n_len : mg "len" = none
  n_list : mg "list" = none
  n_min : mg "min" = none
  n_range : mg "range" = none
  n_set : mg "set" = none
  n_sorted : mg "sorted" = none
  n_sum : mg "sum" = none
  n_tuple : mg "tuple" = none
  n_zip : mg "zip" = none
  x_NoButtons : Exn K mg "NoButtons"
  x_NoPlan : Exn K mg "NoPlan"
section
variable {P : Program} {w : World} {K : PySem.W.Frag} {mg : MG} {base : Heap}
abbrev s_is_integer : Stmt := top 5
theorem sc_is_integer : FnScope ["thing"] ["thing"] (defScope s_is_integer) := ⟨rfl, rfl, rfl, by decide +kernel, rfl, by decide +kernel, by decide +kernel⟩
theorem ok_is_integer {f : Addr} {fd : FuncData} (T : Tp K mg)  (F : FunD K "is_integer" "is_integer" (defArgs s_is_integer) (defBody s_is_integer) (defScope s_is_integer) [] [] f fd) (hm : mg "is_integer" = some (.ref f)) : FnD P w K mg base "is_integer" 1 1 f_is_integer :=
  okD (Γ' := []) F sc_is_integer rfl (fun _ _ _ _ _ _ us hl => match us, hl with | [_], _ => rfl) hm (fun cdv A outer s H E hr =>
    (dss_one (ds_ret (Γ' := []) (de_and (de_sh (de_isiT .int "int" rfl T.n_isinstance T.n_int (dv 0) bt_int)) (de_one (de_sh (de_not (de_isiT .bool "bool" rfl T.n_isinstance T.n_bool (dv 0) bt_bool))))) (by kernel_rfl)))) rfl

abbrev s_is_between : Stmt := top 6
theorem sc_is_between : FnScope ["thing", "least", "most"] ["thing", "least", "most"] (defScope s_is_between) := ⟨rfl, rfl, rfl, by decide +kernel, rfl, by decide +kernel, by decide +kernel⟩
theorem ok_is_between {f : Addr} {fd : FuncData} (T : Tp K mg) (F_is_integer : FnD P w K mg base "is_integer" 1 1 f_is_integer) (F : FunD K "is_between" "is_between" (defArgs s_is_between) (defBody s_is_between) (defScope s_is_between) [] [] f fd) (hm : mg "is_between" = some (.ref f)) : FnD P w K mg base "is_between" 2 3 f_is_between :=
  okD (Γ' := []) F sc_is_between rfl (fun _ _ _ _ _ _ us hl => match us, hl with | [_, _, _], _ => rfl) hm (fun cdv A outer s H E hr =>
    (dss_one (ds_ret (Γ' := []) (de_and (de_call F_is_integer (hr.mono (by decide)) (glK (by kernel_rfl)) (takes_of rfl rfl rfl rfl) (da_cons (dv 0) da_nil)) (de_one (de_sh (de_chain op_le op_le os_cmp os_cmp bl_cmp (dv 1) (dv 0) (dv 2))))) (by kernel_rfl)))) rfl

abbrev s_is_under : Stmt := top 7
theorem sc_is_under : FnScope ["thing", "many"] ["thing", "many"] (defScope s_is_under) := ⟨rfl, rfl, rfl, by decide +kernel, rfl, by decide +kernel, by decide +kernel⟩
theorem ok_is_under {f : Addr} {fd : FuncData} (T : Tp K mg) (F_is_integer : FnD P w K mg base "is_integer" 1 1 f_is_integer) (F : FunD K "is_under" "is_under" (defArgs s_is_under) (defBody s_is_under) (defScope s_is_under) [] [] f fd) (hm : mg "is_under" = some (.ref f)) : FnD P w K mg base "is_under" 2 2 f_is_under :=
  okD (Γ' := []) F sc_is_under rfl (fun _ _ _ _ _ _ us hl => match us, hl with | [_, _], _ => rfl) hm (fun cdv A outer s H E hr =>
    (dss_one (ds_ret (Γ' := []) (de_and (de_call F_is_integer (hr.mono (by decide)) (glK (by kernel_rfl)) (takes_of rfl rfl rfl rfl) (da_cons (dv 0) da_nil)) (de_one (de_sh (de_chain op_le op_lt os_cmp os_cmp bl_cmp de_int (dv 0) (dv 1))))) (by kernel_rfl)))) rfl

abbrev s_is_tuple_of : Stmt := top 8
theorem sc_is_tuple_of : FnScope ["thing", "many"] ["thing", "many"] (defScope s_is_tuple_of) := ⟨rfl, rfl, rfl, by decide +kernel, rfl, by decide +kernel, by decide +kernel⟩
theorem ok_is_tuple_of {f : Addr} {fd : FuncData} (T : Tp K mg)  (F : FunD K "is_tuple_of" "is_tuple_of" (defArgs s_is_tuple_of) (defBody s_is_tuple_of) (defScope s_is_tuple_of) [] [] f fd) (hm : mg "is_tuple_of" = some (.ref f)) : FnD P w K mg base "is_tuple_of" 1 2 f_is_tuple_of :=
  okD (Γ' := []) F sc_is_tuple_of rfl (fun _ _ _ _ _ _ us hl => match us, hl with | [_, _], _ => rfl) hm (fun cdv A outer s H E hr =>
    (dss_one (ds_ret (Γ' := []) (de_and (de_sh (de_isiT .tuple "tuple" rfl T.n_isinstance T.n_tuple (dv 0) bt_tuple)) (de_one (de_sh (de_cmp (op_eqA (u64 hr)) os_eq (de_len T.n_len (dv 0)) (dv 1) (nomark _))))) (by kernel_rfl)))) rfl

abbrev s_unlike : Stmt := top 9
theorem sc_unlike : FnScope ["things"] ["things"] (defScope s_unlike) := ⟨rfl, rfl, rfl, by decide +kernel, rfl, by decide +kernel, by decide +kernel⟩
theorem ok_unlike {f : Addr} {fd : FuncData} (T : Tp K mg)  (F : FunD K "unlike" "unlike" (defArgs s_unlike) (defBody s_unlike) (defScope s_unlike) [] [] f fd) (hm : mg "unlike" = some (.ref f)) : FnD P w K mg base "unlike" 1 1 f_unlike :=
  okD (Γ' := []) F sc_unlike rfl (fun _ _ _ _ _ _ us hl => match us, hl with | [_], _ => rfl) hm (fun cdv A outer s H E hr =>
    (dss_one (ds_ret (Γ' := []) (de_cmp (op_eqA (u64 hr)) os_eq (de_lenSet rfl T.n_len T.n_set (dv 0)) (de_len T.n_len (dv 0)) (nomark _)) (by kernel_rfl)))) rfl

abbrev s_are_places : Stmt := top 15
theorem sc_are_places : FnScope ["thing", "most", "at", "one"] ["thing", "most"] (defScope s_are_places) := ⟨rfl, rfl, rfl, by decide +kernel, rfl, by decide +kernel, by decide +kernel⟩
theorem ok_are_places {f : Addr} {fd : FuncData} (T : Tp K mg) (F_is_between : FnD P w K mg base "is_between" 2 3 f_is_between) (F : FunD K "are_places" "are_places" (defArgs s_are_places) (defBody s_are_places) (defScope s_are_places) [] [] f fd) (hm : mg "are_places" = some (.ref f)) : FnD P w K mg base "are_places" 3 2 f_are_places :=
  okD (Γ' := []) F sc_are_places rfl (fun _ _ _ _ _ _ us hl => match us, hl with | [_, _], _ => rfl) hm (fun cdv A outer s H E hr =>
    (dss_cons (ds_if (dt_w (dw_or (dt_not (dt_truth (de_isiT .tuple "tuple" rfl T.n_isinstance T.n_tuple (dv 0) bt_tuple))) (dw_or (dt_cmp op_gt os_cmp (de_len T.n_len (dv 0)) (dv 1) (nomark _) bl_cmp) (dw_or1 (dt_not (dt_truth (de_all rfl T.n_all (de_lc (own := [("one", 3)]) rfl sc_are_places.nd (di_l false (dv 0) (fun z => nomatch z)) (blkOk_by (by kernel_rfl)) (by kernel_rfl) (by kernel_rfl) (fun _ _ _ _ _ => (dg_var sc_are_places.nd (by kernel_rfl) (locK (by kernel_rfl)) (by kernel_rfl) (fnK (by kernel_rfl)))) (fun _ _ _ _ _ => dts_nil) (fun _ _ _ _ _ => (de_call F_is_between (hr.mono (by decide)) (glK (by kernel_rfl)) takes0 (da_cons (dv 3) (da_cons de_int (da_cons (de_globI (glK (by kernel_rfl)) T.c_MOST_PLACE) da_nil))))) (by kernel_rfl))))))))) (dss_one (ds_ret (Γ' := []) de_bl (by kernel_rfl))) dss_nil)
    (dss_one (ds_ret (Γ' := []) (de_all rfl T.n_all (de_lc (own := [("at", 2)]) rfl sc_are_places.nd (di_rng2 false (glK (by kernel_rfl)) T.n_range (da_cons de_int (da_cons (de_len T.n_len (dv 0)) da_nil))) (blkOk_by (by kernel_rfl)) (by kernel_rfl) (by kernel_rfl) (fun _ _ _ _ _ => (dg_var sc_are_places.nd (by kernel_rfl) (locK (by kernel_rfl)) (by kernel_rfl) (fnK (by kernel_rfl)))) (fun _ _ _ _ _ => dts_nil) (fun _ _ _ _ _ => (de_cmp op_le os_cmp (de_ix ix_any os_ix (dv 0) (de_bin op_sub os_sub (dv 2) de_int) (fun _ _ => rfl)) (de_ix ix_any os_ix (dv 0) (dv 2) (fun _ _ => rfl)) (nomark _))) (by kernel_rfl))) (by kernel_rfl))))) rfl

abbrev s_need_fronts : Stmt := top 16
theorem sc_need_fronts : FnScope ["buttons", "holes"] ["buttons", "holes"] (defScope s_need_fronts) := ⟨rfl, rfl, rfl, by decide +kernel, rfl, by decide +kernel, by decide +kernel⟩
theorem ok_need_fronts {f : Addr} {fd : FuncData} (T : Tp K mg) (F_are_places : FnD P w K mg base "are_places" 3 2 f_are_places) (F : FunD K "need_fronts" "need_fronts" (defArgs s_need_fronts) (defBody s_need_fronts) (defScope s_need_fronts) [] [] f fd) (hm : mg "need_fronts" = some (.ref f)) : FnD P w K mg base "need_fronts" 4 2 f_need_fronts :=
  okD (Γ' := []) F sc_need_fronts rfl (fun _ _ _ _ _ _ us hl => match us, hl with | [_, _], _ => rfl) hm (fun cdv A outer s H E hr =>
    (dss_one (ds_if (dt_w (dw_or (dt_not (dt_truth (de_call F_are_places (hr.mono (by decide)) (glK (by kernel_rfl)) (takes_of rfl rfl rfl rfl) (da_cons (dv 0) (da_cons (de_globI (glK (by kernel_rfl)) T.c_MOST_BUTTONS) da_nil))))) (dw_or (dt_not (dt_truth (de_call F_are_places (hr.mono (by decide)) (glK (by kernel_rfl)) (takes_of rfl rfl rfl rfl) (da_cons (dv 1) (da_cons (de_globI (glK (by kernel_rfl)) T.c_MOST_HOLES) da_nil))))) (dw_or1 (dt_cmp op_gt os_cmp (de_len T.n_len (dv 0)) (de_len T.n_len (dv 1)) (nomark _) bl_cmp))))) (dss_one (ds_raiseX (Γ' := []) T.x_NoButtons rfl (takes_of rfl rfl rfl rfl))) dss_nil))) rfl

abbrev s_is_pairing_of : Stmt := top 17
theorem sc_is_pairing_of : FnScope ["buttons", "holes", "thing", "one"] ["buttons", "holes", "thing"] (defScope s_is_pairing_of) := ⟨rfl, rfl, rfl, by decide +kernel, rfl, by decide +kernel, by decide +kernel⟩
theorem ok_is_pairing_of {f : Addr} {fd : FuncData} (T : Tp K mg) (F_is_tuple_of : FnD P w K mg base "is_tuple_of" 1 2 f_is_tuple_of) (F_unlike : FnD P w K mg base "unlike" 1 1 f_unlike) (F_is_under : FnD P w K mg base "is_under" 2 2 f_is_under) (F : FunD K "is_pairing_of" "is_pairing_of" (defArgs s_is_pairing_of) (defBody s_is_pairing_of) (defScope s_is_pairing_of) [] [] f fd) (hm : mg "is_pairing_of" = some (.ref f)) : FnD P w K mg base "is_pairing_of" 3 3 f_is_pairing_of :=
  okD (Γ' := []) F sc_is_pairing_of rfl (fun _ _ _ _ _ _ us hl => match us, hl with | [_, _, _], _ => rfl) hm (fun cdv A outer s H E hr =>
    (dss_one (ds_ret (Γ' := []) (de_and (de_call F_is_tuple_of (hr.mono (by decide)) (glK (by kernel_rfl)) (takes_of rfl rfl rfl rfl) (da_cons (dv 2) (da_cons (de_len T.n_len (dv 0)) da_nil))) (de_and (de_sh (de_all rfl T.n_all (de_lc (own := [("one", 3)]) rfl sc_is_pairing_of.nd (di_l false (dv 2) (fun z => nomatch z)) (blkOk_by (by kernel_rfl)) (by kernel_rfl) (by kernel_rfl) (fun _ _ _ _ _ => (dg_var sc_is_pairing_of.nd (by kernel_rfl) (locK (by kernel_rfl)) (by kernel_rfl) (fnK (by kernel_rfl)))) (fun _ _ _ _ _ => dts_nil) (fun _ _ _ _ _ => (de_call F_is_under (hr.mono (by decide)) (glK (by kernel_rfl)) takes0 (da_cons (dv 3) (da_cons (de_len T.n_len (dv 1)) da_nil)))) (by kernel_rfl)))) (de_one (de_call F_unlike (hr.mono (by decide)) (glK (by kernel_rfl)) (takes_of rfl rfl rfl rfl) (da_cons (dv 2) da_nil))))) (by kernel_rfl)))) rfl

abbrev s_is_pairing : Stmt := top 18
theorem sc_is_pairing : FnScope ["buttons", "holes", "thing"] ["buttons", "holes", "thing"] (defScope s_is_pairing) := ⟨rfl, rfl, rfl, by decide +kernel, rfl, by decide +kernel, by decide +kernel⟩
theorem ok_is_pairing {f : Addr} {fd : FuncData} (T : Tp K mg) (F_need_fronts : FnD P w K mg base "need_fronts" 4 2 f_need_fronts) (F_is_pairing_of : FnD P w K mg base "is_pairing_of" 3 3 f_is_pairing_of) (F : FunD K "is_pairing" "is_pairing" (defArgs s_is_pairing) (defBody s_is_pairing) (defScope s_is_pairing) [] [] f fd) (hm : mg "is_pairing" = some (.ref f)) : FnD P w K mg base "is_pairing" 5 3 f_is_pairing :=
  okD (Γ' := []) F sc_is_pairing rfl (fun _ _ _ _ _ _ us hl => match us, hl with | [_, _, _], _ => rfl) hm (fun cdv A outer s H E hr =>
    (dss_cons (ds_expr (de_call F_need_fronts (hr.mono (by decide)) (glK (by kernel_rfl)) (takes_of rfl rfl rfl rfl) (da_cons (dv 0) (da_cons (dv 1) da_nil))))
    (dss_one (ds_ret (Γ' := []) (de_call F_is_pairing_of (hr.mono (by decide)) (glK (by kernel_rfl)) (takes_of rfl rfl rfl rfl) (da_cons (dv 0) (da_cons (dv 1) (da_cons (dv 2) da_nil)))) (by kernel_rfl))))) rfl

abbrev s_cost_of : Stmt := top 19
theorem sc_cost_of : FnScope ["buttons", "holes", "told", "place", "one"] ["buttons", "holes", "told"] (defScope s_cost_of) := ⟨rfl, rfl, rfl, by decide +kernel, rfl, by decide +kernel, by decide +kernel⟩
theorem ok_cost_of {f : Addr} {fd : FuncData} (T : Tp K mg)  (F : FunD K "cost_of" "cost_of" (defArgs s_cost_of) (defBody s_cost_of) (defScope s_cost_of) [] [] f fd) (hm : mg "cost_of" = some (.ref f)) : FnD P w K mg base "cost_of" 1 3 f_cost_of :=
  okD (Γ' := []) F sc_cost_of rfl (fun _ _ _ _ _ _ us hl => match us, hl with | [_, _, _], _ => rfl) hm (fun cdv A outer s H E hr =>
    (dss_one (ds_ret (Γ' := []) (de_sum rfl T.n_sum (de_lc (own := [("place", 3), ("one", 4)]) rfl sc_cost_of.nd (di_zip false T.n_zip (dv 0) (dv 2) (fun z => nomatch z) (fun z => nomatch z)) (blkOk_by (by kernel_rfl)) (by kernel_rfl) (by kernel_rfl) (fun _ _ _ _ _ => (dg_tup rfl (dgs_cons (dg_var sc_cost_of.nd (by kernel_rfl) (locK (by kernel_rfl)) (by kernel_rfl) (fnK (by kernel_rfl))) (dgs_cons (dg_var sc_cost_of.nd (by kernel_rfl) (locK (by kernel_rfl)) (by kernel_rfl) (fnK (by kernel_rfl))) dgs_nil)))) (fun _ _ _ _ _ => dts_nil) (fun _ _ _ _ _ => (de_abs T.n_abs (de_bin op_sub os_sub (dv 3) (de_ix ix_any os_ix (dv 1) (dv 4) (fun _ _ => rfl))))) (by kernel_rfl))) (by kernel_rfl)))) rfl

abbrev s_pairing_cost : Stmt := top 20
theorem sc_pairing_cost : FnScope ["buttons", "holes", "told"] ["buttons", "holes", "told"] (defScope s_pairing_cost) := ⟨rfl, rfl, rfl, by decide +kernel, rfl, by decide +kernel, by decide +kernel⟩
theorem ok_pairing_cost {f : Addr} {fd : FuncData} (T : Tp K mg) (F_need_fronts : FnD P w K mg base "need_fronts" 4 2 f_need_fronts) (F_cost_of : FnD P w K mg base "cost_of" 1 3 f_cost_of) (F_is_pairing_of : FnD P w K mg base "is_pairing_of" 3 3 f_is_pairing_of) (F : FunD K "pairing_cost" "pairing_cost" (defArgs s_pairing_cost) (defBody s_pairing_cost) (defScope s_pairing_cost) [] [] f fd) (hm : mg "pairing_cost" = some (.ref f)) : FnD P w K mg base "pairing_cost" 5 3 f_pairing_cost :=
  okD (Γ' := []) F sc_pairing_cost rfl (fun _ _ _ _ _ _ us hl => match us, hl with | [_, _, _], _ => rfl) hm (fun cdv A outer s H E hr =>
    (dss_cons (ds_expr (de_call F_need_fronts (hr.mono (by decide)) (glK (by kernel_rfl)) (takes_of rfl rfl rfl rfl) (da_cons (dv 0) (da_cons (dv 1) da_nil))))
    (dss_cons (ds_if (dt_not (dt_truth (de_call F_is_pairing_of (hr.mono (by decide)) (glK (by kernel_rfl)) (takes_of rfl rfl rfl rfl) (da_cons (dv 0) (da_cons (dv 1) (da_cons (dv 2) da_nil)))))) (dss_one (ds_raiseX (Γ' := []) T.x_NoPlan rfl (takes_of rfl rfl rfl rfl))) dss_nil)
    (dss_one (ds_ret (Γ' := []) (de_call F_cost_of (hr.mono (by decide)) (glK (by kernel_rfl)) (takes_of rfl rfl rfl rfl) (da_cons (dv 0) (da_cons (dv 1) (da_cons (dv 2) da_nil)))) (by kernel_rfl)))))) rfl

abbrev s_table_of : Stmt := top 21
theorem sc_table_of : FnScope ["buttons", "holes", "found", "many", "row", "at", "some"] ["buttons", "holes"] (defScope s_table_of) := ⟨rfl, rfl, rfl, by decide +kernel, rfl, by decide +kernel, by decide +kernel⟩
theorem ok_table_of {f : Addr} {fd : FuncData} (T : Tp K mg)  (F : FunD K "table_of" "table_of" (defArgs s_table_of) (defBody s_table_of) (defScope s_table_of) [] [] f fd) (hm : mg "table_of" = some (.ref f)) : FnD P w K mg base "table_of" 1 2 f_table_of :=
  okD (Γ' := []) F sc_table_of rfl (fun _ _ _ _ _ _ us hl => match us, hl with | [_, _], _ => rfl) hm (fun cdv A outer s H E hr =>
    (dss_cons (ds_own (i := 2) sc_table_of.nd (by kernel_rfl) (locK (by kernel_rfl)) (by kernel_rfl) (de_lst (da_cons (de_repL (de_lst (da_cons de_int da_nil) (by kernel_rfl) (hl := (len_big (len_cons len_nil) (by decide)))) (de_bin op_addD os_add (de_len T.n_len (dv 1)) de_int)) da_nil) (by kernel_rfl) (hl := (len_big (len_cons len_nil) (by decide)))) (by kernel_rfl) (fnK (by kernel_rfl)))
    (dss_cons (ds_wk (ks := [3, 4, 5, 6]) (by kernel_rfl) (ds_nox (ds_for rfl rfl (di_rng2 true (glK (by kernel_rfl)) T.n_range (da_cons de_int (da_cons (de_bin op_addD os_add (de_len T.n_len (dv 0)) de_int) da_nil))) (dg_var sc_table_of.nd (by kernel_rfl) (locK (by kernel_rfl)) (by kernel_rfl) (fnK (by kernel_rfl))) (dss_wkp (ks := [3, 4, 5, 6]) (by kernel_rfl) (dss_cons (ds_own (i := 4) sc_table_of.nd (by kernel_rfl) (locK (by kernel_rfl)) (by kernel_rfl) (de_lst (da_cons de_non da_nil) (by kernel_rfl) (hl := (len_big (len_cons len_nil) (by decide)))) (by kernel_rfl) (fnK (by kernel_rfl)))
    (dss_cons (ds_wk (ks := [5, 6]) (by kernel_rfl) (ds_for rfl rfl (di_rng2 true (glK (by kernel_rfl)) T.n_range (da_cons de_int (da_cons (de_bin op_addD os_add (de_len T.n_len (dv 1)) de_int) da_nil))) (dg_var sc_table_of.nd (by kernel_rfl) (locK (by kernel_rfl)) (by kernel_rfl) (fnK (by kernel_rfl))) (dss_wkp (ks := [5, 6]) (by kernel_rfl) (dss_post (Γ' := [6, 4, 2]) (Γ1 := [4, 2]) (by kernel_rfl) (dss_cons (ds_own (i := 6) sc_table_of.nd (by kernel_rfl) (locK (by kernel_rfl)) (by kernel_rfl) (de_if (dt_isN (de_ix ix_any os_ix (dv 4) (de_bin op_sub os_sub (dv 5) de_int) (fun _ _ => rfl))) (de_lst da_nil (by kernel_rfl) (hl := (len_big len_nil (by decide)))) (de_lst (da_cons (de_ix ix_any os_ix (dv 4) (de_bin op_sub os_sub (dv 5) de_int) (fun _ _ => rfl)) da_nil) (by kernel_rfl) (hl := (len_big (len_cons len_nil) (by decide))))) (by kernel_rfl) (fnK (by kernel_rfl)))
    (dss_cons (ds_if (dt_notN (de_ix ix_any os_ix (de_ix ix_any os_ix (dv 2) (de_bin op_sub os_sub (dv 3) de_int) (fun _ _ => rfl)) (de_bin op_sub os_sub (dv 5) de_int) (fun _ _ => rfl))) (dss_one (ds_append (i := 6) (by kernel_rfl) (vis_of (by kernel_rfl)) (by kernel_rfl) (de_bin op_addD os_add (de_ix ix_any os_ix (de_ix ix_any os_ix (dv 2) (de_bin op_sub os_sub (dv 3) de_int) (fun _ _ => rfl)) (de_bin op_sub os_sub (dv 5) de_int) (fun _ _ => rfl)) (de_abs T.n_abs (de_bin op_sub os_sub (de_ix ix_any os_ix (dv 0) (de_bin op_sub os_sub (dv 3) de_int) (fun _ _ => rfl)) (de_ix ix_any os_ix (dv 1) (de_bin op_sub os_sub (dv 5) de_int) (fun _ _ => rfl))))) (by kernel_rfl))) dss_nil)
    (dss_one (ds_append (i := 4) (by kernel_rfl) (vis_of (by kernel_rfl)) (by kernel_rfl) (de_if (dt_truth (dv 6)) (de_minL rfl T.n_min (dv 6)) de_non) (by kernel_rfl)))))))))
    (dss_one (ds_pre (Γ1 := [2]) (by kernel_rfl) (ds_append (i := 2) (by kernel_rfl) (vis_of (by kernel_rfl)) (by kernel_rfl) (dv 4) (by kernel_rfl))))))))))
    (dss_one (ds_pre (Γ1 := []) (by kernel_rfl) (ds_ret (Γ' := []) (dv 2) (by kernel_rfl))))))) rfl

abbrev s_best_pairing : Stmt := top 22
theorem sc_best_pairing : FnScope ["buttons", "holes", "table", "found", "at", "many"] ["buttons", "holes"] (defScope s_best_pairing) := ⟨rfl, rfl, rfl, by decide +kernel, rfl, by decide +kernel, by decide +kernel⟩
theorem ok_best_pairing {f : Addr} {fd : FuncData} (T : Tp K mg) (F_table_of : FnD P w K mg base "table_of" 1 2 f_table_of) (F : FunD K "best_pairing" "best_pairing" (defArgs s_best_pairing) (defBody s_best_pairing) (defScope s_best_pairing) [] [] f fd) (hm : mg "best_pairing" = some (.ref f)) : FnD P w K mg base "best_pairing" 2 2 f_best_pairing :=
  okD (Γ' := []) F sc_best_pairing rfl (fun _ _ _ _ _ _ us hl => match us, hl with | [_, _], _ => rfl) hm (fun cdv A outer s H E hr =>
    (dss_cons (ds_set (i := 2) sc_best_pairing.nd (by kernel_rfl) (locK (by kernel_rfl)) (by kernel_rfl) (de_call F_table_of (hr.mono (by decide)) (glK (by kernel_rfl)) (takes_of rfl rfl rfl rfl) (da_cons (dv 0) (da_cons (dv 1) da_nil))) (by kernel_rfl) (by kernel_rfl) (fnK (by kernel_rfl)))
    (dss_cons (ds_own (i := 3) sc_best_pairing.nd (by kernel_rfl) (locK (by kernel_rfl)) (by kernel_rfl) (de_lst da_nil (by kernel_rfl) (hl := (len_big len_nil (by decide)))) (by kernel_rfl) (fnK (by kernel_rfl)))
    (dss_cons (ds_set (i := 4) sc_best_pairing.nd (by kernel_rfl) (locK (by kernel_rfl)) (by kernel_rfl) (de_len T.n_len (dv 1)) (by kernel_rfl) (by kernel_rfl) (fnK (by kernel_rfl)))
    (dss_cons (ds_wk (ks := [1, 5]) (by kernel_rfl) (ds_nox (ds_for rfl rfl (di_rng3 true (glK (by kernel_rfl)) T.n_range (da_cons (de_len T.n_len (dv 0)) (da_cons de_int (da_cons (de_un un_neg us_neg de_int) da_nil)))) (dg_var sc_best_pairing.nd (by kernel_rfl) (locK (by kernel_rfl)) (by kernel_rfl) (fnK (by kernel_rfl))) (dss_wkp (ks := [1, 5]) (by kernel_rfl) (dss_cons (ds_wk (ks := [0, 1]) (by kernel_rfl) (ds_while rfl (dt_cmp (op_eqA (u64 hr)) os_eq (de_ix ix_any os_ix (de_ix ix_any os_ix (dv 2) (dv 5) (fun _ _ => rfl)) (de_bin op_sub os_sub (dv 4) de_int) (fun _ _ => rfl)) (de_ix ix_any os_ix (de_ix ix_any os_ix (dv 2) (dv 5) (fun _ _ => rfl)) (dv 4) (fun _ _ => rfl)) (nomark _) bl_eq) (dss_wkp (ks := [0, 1]) (by kernel_rfl) (dss_one (ds_aug (i := 4) sc_best_pairing.nd (by kernel_rfl) (locK (by kernel_rfl)) (by kernel_rfl) de_int pip_sub os_sub (fnK (by kernel_rfl)))))))
    (dss_cons (ds_append (i := 3) (by kernel_rfl) (vis_of (by kernel_rfl)) (by kernel_rfl) (de_bin op_sub os_sub (dv 4) de_int) (by kernel_rfl))
    (dss_one (ds_aug (i := 4) sc_best_pairing.nd (by kernel_rfl) (locK (by kernel_rfl)) (by kernel_rfl) de_int pip_sub os_sub (fnK (by kernel_rfl))))))))))
    (dss_one (ds_ret (Γ' := []) (de_tuple T.n_tuple (de_rev (dv 3))) (by kernel_rfl)))))))) rfl

abbrev s_button_best : Stmt := top 23
theorem sc_button_best : FnScope ["buttons", "holes"] ["buttons", "holes"] (defScope s_button_best) := ⟨rfl, rfl, rfl, by decide +kernel, rfl, by decide +kernel, by decide +kernel⟩
theorem ok_button_best {f : Addr} {fd : FuncData} (T : Tp K mg) (F_need_fronts : FnD P w K mg base "need_fronts" 4 2 f_need_fronts) (F_best_pairing : FnD P w K mg base "best_pairing" 2 2 f_best_pairing) (F : FunD K "button_best" "button_best" (defArgs s_button_best) (defBody s_button_best) (defScope s_button_best) [] [] f fd) (hm : mg "button_best" = some (.ref f)) : FnD P w K mg base "button_best" 5 2 f_button_best :=
  okD (Γ' := []) F sc_button_best rfl (fun _ _ _ _ _ _ us hl => match us, hl with | [_, _], _ => rfl) hm (fun cdv A outer s H E hr =>
    (dss_cons (ds_expr (de_call F_need_fronts (hr.mono (by decide)) (glK (by kernel_rfl)) (takes_of rfl rfl rfl rfl) (da_cons (dv 0) (da_cons (dv 1) da_nil))))
    (dss_one (ds_ret (Γ' := []) (de_call F_best_pairing (hr.mono (by decide)) (glK (by kernel_rfl)) (takes_of rfl rfl rfl rfl) (da_cons (dv 0) (da_cons (dv 1) da_nil))) (by kernel_rfl))))) rfl

abbrev s_button_least : Stmt := top 24
theorem sc_button_least : FnScope ["buttons", "holes"] ["buttons", "holes"] (defScope s_button_least) := ⟨rfl, rfl, rfl, by decide +kernel, rfl, by decide +kernel, by decide +kernel⟩
theorem ok_button_least {f : Addr} {fd : FuncData} (T : Tp K mg) (F_need_fronts : FnD P w K mg base "need_fronts" 4 2 f_need_fronts) (F_table_of : FnD P w K mg base "table_of" 1 2 f_table_of) (F : FunD K "button_least" "button_least" (defArgs s_button_least) (defBody s_button_least) (defScope s_button_least) [] [] f fd) (hm : mg "button_least" = some (.ref f)) : FnD P w K mg base "button_least" 5 2 f_button_least :=
  okD (Γ' := []) F sc_button_least rfl (fun _ _ _ _ _ _ us hl => match us, hl with | [_, _], _ => rfl) hm (fun cdv A outer s H E hr =>
    (dss_cons (ds_expr (de_call F_need_fronts (hr.mono (by decide)) (glK (by kernel_rfl)) (takes_of rfl rfl rfl rfl) (da_cons (dv 0) (da_cons (dv 1) da_nil))))
    (dss_one (ds_ret (Γ' := []) (de_ix ix_any os_ix (de_ix ix_any os_ix (de_call F_table_of (hr.mono (by decide)) (glK (by kernel_rfl)) (takes_of rfl rfl rfl rfl) (da_cons (dv 0) (da_cons (dv 1) da_nil))) (de_un un_neg us_neg de_int) (fun _ _ => rfl)) (de_un un_neg us_neg de_int) (fun _ _ => rfl)) (by kernel_rfl))))) rfl

abbrev s_is_button_best : Stmt := top 25
theorem sc_is_button_best : FnScope ["buttons", "holes", "thing"] ["buttons", "holes", "thing"] (defScope s_is_button_best) := ⟨rfl, rfl, rfl, by decide +kernel, rfl, by decide +kernel, by decide +kernel⟩
theorem ok_is_button_best {f : Addr} {fd : FuncData} (T : Tp K mg) (F_need_fronts : FnD P w K mg base "need_fronts" 4 2 f_need_fronts) (F_is_pairing_of : FnD P w K mg base "is_pairing_of" 3 3 f_is_pairing_of) (F_cost_of : FnD P w K mg base "cost_of" 1 3 f_cost_of) (F_table_of : FnD P w K mg base "table_of" 1 2 f_table_of) (F : FunD K "is_button_best" "is_button_best" (defArgs s_is_button_best) (defBody s_is_button_best) (defScope s_is_button_best) [] [] f fd) (hm : mg "is_button_best" = some (.ref f)) : FnD P w K mg base "is_button_best" 5 3 f_is_button_best :=
  okD (Γ' := []) F sc_is_button_best rfl (fun _ _ _ _ _ _ us hl => match us, hl with | [_, _, _], _ => rfl) hm (fun cdv A outer s H E hr =>
    (dss_cons (ds_expr (de_call F_need_fronts (hr.mono (by decide)) (glK (by kernel_rfl)) (takes_of rfl rfl rfl rfl) (da_cons (dv 0) (da_cons (dv 1) da_nil))))
    (dss_one (ds_ret (Γ' := []) (de_and (de_call F_is_pairing_of (hr.mono (by decide)) (glK (by kernel_rfl)) (takes_of rfl rfl rfl rfl) (da_cons (dv 0) (da_cons (dv 1) (da_cons (dv 2) da_nil)))) (de_one (de_sh (de_cmp (op_eqA (u64 hr)) os_eq (de_call F_cost_of (hr.mono (by decide)) (glK (by kernel_rfl)) (takes_of rfl rfl rfl rfl) (da_cons (dv 0) (da_cons (dv 1) (da_cons (dv 2) da_nil)))) (de_ix ix_any os_ix (de_ix ix_any os_ix (de_call F_table_of (hr.mono (by decide)) (glK (by kernel_rfl)) (takes_of rfl rfl rfl rfl) (da_cons (dv 0) (da_cons (dv 1) da_nil))) (de_un un_neg us_neg de_int) (fun _ _ => rfl)) (de_un un_neg us_neg de_int) (fun _ _ => rfl)) (nomark _))))) (by kernel_rfl))))) rfl

abbrev s_are_prices : Stmt := top 26
theorem sc_are_prices : FnScope ["buttons", "holes", "thing", "place", "worth", "there", "price", "one"] ["buttons", "holes", "thing"] (defScope s_are_prices) := ⟨rfl, rfl, rfl, by decide +kernel, rfl, by decide +kernel, by decide +kernel⟩
theorem ok_are_prices {f : Addr} {fd : FuncData} (T : Tp K mg) (F_is_tuple_of : FnD P w K mg base "is_tuple_of" 1 2 f_is_tuple_of) (F_is_between : FnD P w K mg base "is_between" 2 3 f_is_between) (F : FunD K "are_prices" "are_prices" (defArgs s_are_prices) (defBody s_are_prices) (defScope s_are_prices) [] [] f fd) (hm : mg "are_prices" = some (.ref f)) : FnD P w K mg base "are_prices" 3 3 f_are_prices :=
  okD (Γ' := []) F sc_are_prices rfl (fun _ _ _ _ _ _ us hl => match us, hl with | [_, _, _], _ => rfl) hm (fun cdv A outer s H E hr =>
    (dss_cons (ds_if (dt_w (dw_or (dt_not (dt_truth (de_call F_is_tuple_of (hr.mono (by decide)) (glK (by kernel_rfl)) (takes_of rfl rfl rfl rfl) (da_cons (dv 2) (da_cons de_int da_nil))))) (dw_or (dt_not (dt_truth (de_call F_is_tuple_of (hr.mono (by decide)) (glK (by kernel_rfl)) (takes_of rfl rfl rfl rfl) (da_cons (de_ix ix_any os_ix (dv 2) de_int (fun _ _ => rfl)) (da_cons (de_len T.n_len (dv 0)) da_nil))))) (dw_or1 (dt_not (dt_truth (de_call F_is_tuple_of (hr.mono (by decide)) (glK (by kernel_rfl)) (takes_of rfl rfl rfl rfl) (da_cons (de_ix ix_any os_ix (dv 2) de_int (fun _ _ => rfl)) (da_cons (de_len T.n_len (dv 1)) da_nil))))))))) (dss_one (ds_ret (Γ' := []) de_bl (by kernel_rfl))) dss_nil)
    (dss_cons (ds_if (dt_not (dt_truth (de_all rfl T.n_all (de_lc (own := [("one", 7)]) rfl sc_are_prices.nd (di_l false (de_ix ix_any os_ix (dv 2) de_int (fun _ _ => rfl)) (fun z => nomatch z)) (blkOk_by (by kernel_rfl)) (by kernel_rfl) (by kernel_rfl) (fun _ _ _ _ _ => (dg_var sc_are_prices.nd (by kernel_rfl) (locK (by kernel_rfl)) (by kernel_rfl) (fnK (by kernel_rfl)))) (fun _ _ _ _ _ => dts_nil) (fun _ _ _ _ _ => (de_call F_is_between (hr.mono (by decide)) (glK (by kernel_rfl)) takes0 (da_cons (dv 7) (da_cons (de_un un_neg us_neg (de_globI (glK (by kernel_rfl)) T.c_MOST_PRICE)) (da_cons (de_globI (glK (by kernel_rfl)) T.c_MOST_PRICE) da_nil))))) (by kernel_rfl))))) (dss_one (ds_ret (Γ' := []) de_bl (by kernel_rfl))) dss_nil)
    (dss_cons (ds_if (dt_not (dt_truth (de_all rfl T.n_all (de_lc (own := [("one", 7)]) rfl sc_are_prices.nd (di_l false (de_ix ix_any os_ix (dv 2) de_int (fun _ _ => rfl)) (fun z => nomatch z)) (blkOk_by (by kernel_rfl)) (by kernel_rfl) (by kernel_rfl) (fun _ _ _ _ _ => (dg_var sc_are_prices.nd (by kernel_rfl) (locK (by kernel_rfl)) (by kernel_rfl) (fnK (by kernel_rfl)))) (fun _ _ _ _ _ => dts_nil) (fun _ _ _ _ _ => (de_call F_is_between (hr.mono (by decide)) (glK (by kernel_rfl)) takes0 (da_cons (dv 7) (da_cons de_int (da_cons (de_globI (glK (by kernel_rfl)) T.c_MOST_PRICE) da_nil))))) (by kernel_rfl))))) (dss_one (ds_ret (Γ' := []) de_bl (by kernel_rfl))) dss_nil)
    (dss_one (ds_ret (Γ' := []) (de_all rfl T.n_all (de_lc2 (own := [("place", 3), ("worth", 4), ("there", 5), ("price", 6)]) (vs1 := [5, 6]) rfl sc_are_prices.nd (di_zip false T.n_zip (dv 0) (de_ix ix_any os_ix (dv 2) de_int (fun _ _ => rfl)) (fun z => nomatch z) (fun z => nomatch z)) (blkOk_by (by kernel_rfl)) (by kernel_rfl) (by kernel_rfl) (by kernel_rfl) (by kernel_rfl) (fun _ _ _ _ _ => (dg_tup rfl (dgs_cons (dg_var sc_are_prices.nd (by kernel_rfl) (locK (by kernel_rfl)) (by kernel_rfl) (fnK (by kernel_rfl))) (dgs_cons (dg_var sc_are_prices.nd (by kernel_rfl) (locK (by kernel_rfl)) (by kernel_rfl) (fnK (by kernel_rfl))) dgs_nil)))) (fun _ _ _ _ _ => dts_nil) (fun _ _ _ _ _ => (di_zip true T.n_zip (dv 1) (de_ix ix_any os_ix (dv 2) de_int (fun _ _ => rfl)) (fun _ => rfl) (fun _ => rfl))) (fun _ _ _ _ _ => (dg_tup rfl (dgs_cons (dg_var sc_are_prices.nd (by kernel_rfl) (locK (by kernel_rfl)) (by kernel_rfl) (fnK (by kernel_rfl))) (dgs_cons (dg_var sc_are_prices.nd (by kernel_rfl) (locK (by kernel_rfl)) (by kernel_rfl) (fnK (by kernel_rfl))) dgs_nil)))) (fun _ _ _ _ _ => dts_nil) (fun _ _ _ _ _ => (de_cmp op_le os_cmp (de_bin op_sub os_sub (dv 4) (dv 6)) (de_abs T.n_abs (de_bin op_sub os_sub (dv 3) (dv 5))) (nomark _))) (by kernel_rfl))) (by kernel_rfl))))))) rfl

abbrev s_raised : Stmt := top 27
theorem sc_raised : FnScope ["buttons", "holes", "told", "prices", "changed", "place", "mine", "pays", "other", "there"] ["buttons", "holes", "told"] (defScope s_raised) := ⟨rfl, rfl, rfl, by decide +kernel, rfl, by decide +kernel, by decide +kernel⟩
theorem ok_raised {f : Addr} {fd : FuncData} (T : Tp K mg)  (F : FunD K "raised" "raised" (defArgs s_raised) (defBody s_raised) (defScope s_raised) [] [] f fd) (hm : mg "raised" = some (.ref f)) : FnD P w K mg base "raised" 1 3 f_raised :=
  okD (Γ' := []) F sc_raised rfl (fun _ _ _ _ _ _ us hl => match us, hl with | [_, _, _], _ => rfl) hm (fun cdv A outer s H E hr =>
    (dss_cons (ds_own (i := 3) sc_raised.nd (by kernel_rfl) (locK (by kernel_rfl)) (by kernel_rfl) (de_repL (de_lst (da_cons de_int da_nil) (by kernel_rfl) (hl := (len_big (len_cons len_nil) (by decide)))) (de_len T.n_len (dv 1))) (by kernel_rfl) (fnK (by kernel_rfl)))
    (dss_cons (ds_set (i := 4) sc_raised.nd (by kernel_rfl) (locK (by kernel_rfl)) (by kernel_rfl) de_bl (by kernel_rfl) (by kernel_rfl) (fnK (by kernel_rfl)))
    (dss_cons (ds_wk (ks := [5, 6, 7, 8, 9]) (by kernel_rfl) (ds_nox (ds_while rfl (dt_truth (dv 4)) (dss_wkp (ks := [5, 6, 7, 8, 9]) (by kernel_rfl) (dss_cons (ds_set (i := 4) sc_raised.nd (by kernel_rfl) (locK (by kernel_rfl)) (by kernel_rfl) de_bl (by kernel_rfl) (by kernel_rfl) (fnK (by kernel_rfl)))
    (dss_one (ds_wk (ks := [5, 6, 7, 8, 9]) (by kernel_rfl) (ds_for rfl rfl (di_zip true T.n_zip (dv 0) (dv 2) (fun _ => rfl) (fun _ => rfl)) (dg_tup rfl (dgs_cons (dg_var sc_raised.nd (by kernel_rfl) (locK (by kernel_rfl)) (by kernel_rfl) (fnK (by kernel_rfl))) (dgs_cons (dg_var sc_raised.nd (by kernel_rfl) (locK (by kernel_rfl)) (by kernel_rfl) (fnK (by kernel_rfl))) dgs_nil))) (dss_wkp (ks := [5, 6, 7, 8, 9]) (by kernel_rfl) (dss_cons (ds_set (i := 7) sc_raised.nd (by kernel_rfl) (locK (by kernel_rfl)) (by kernel_rfl) (de_bin op_addD os_add (de_abs T.n_abs (de_bin op_sub os_sub (dv 5) (de_ix ix_any os_ix (dv 1) (dv 6) (fun _ _ => rfl)))) (de_ix ix_any os_ix (dv 3) (dv 6) (fun _ _ => rfl))) (by kernel_rfl) (by kernel_rfl) (fnK (by kernel_rfl)))
    (dss_one (ds_wk (ks := [6, 8, 9]) (by kernel_rfl) (ds_for rfl rfl (di_enum true T.n_enumerate (dv 1) (fun _ => rfl)) (dg_tup rfl (dgs_cons (dg_var sc_raised.nd (by kernel_rfl) (locK (by kernel_rfl)) (by kernel_rfl) (fnK (by kernel_rfl))) (dgs_cons (dg_var sc_raised.nd (by kernel_rfl) (locK (by kernel_rfl)) (by kernel_rfl) (fnK (by kernel_rfl))) dgs_nil))) (dss_wkp (ks := [6, 8, 9]) (by kernel_rfl) (dss_one (ds_if (dt_cmp op_gt os_cmp (dv 7) (de_bin op_addD os_add (de_abs T.n_abs (de_bin op_sub os_sub (dv 5) (dv 9))) (de_ix ix_any os_ix (dv 3) (dv 8) (fun _ _ => rfl))) (nomark _) bl_cmp) (dss_cons (ds_setI (i := 3) (by kernel_rfl) (vis_of (by kernel_rfl)) (by kernel_rfl) (de_bin op_sub os_sub (dv 7) (de_abs T.n_abs (de_bin op_sub os_sub (dv 5) (dv 9)))) (dv 8) (by kernel_rfl))
    (dss_one (ds_set (i := 4) sc_raised.nd (by kernel_rfl) (locK (by kernel_rfl)) (by kernel_rfl) de_bl (by kernel_rfl) (by kernel_rfl) (fnK (by kernel_rfl))))) dss_nil))))))))))))))))
    (dss_one (ds_pre (Γ1 := []) (by kernel_rfl) (ds_ret (Γ' := []) (dv 3) (by kernel_rfl)))))))) rfl

abbrev s_button_prices : Stmt := top 28
theorem sc_button_prices : FnScope ["buttons", "holes", "told", "prices", "worths", "place", "one"] ["buttons", "holes"] (defScope s_button_prices) := ⟨rfl, rfl, rfl, by decide +kernel, rfl, by decide +kernel, by decide +kernel⟩
theorem ok_button_prices {f : Addr} {fd : FuncData} (T : Tp K mg) (F_need_fronts : FnD P w K mg base "need_fronts" 4 2 f_need_fronts) (F_best_pairing : FnD P w K mg base "best_pairing" 2 2 f_best_pairing) (F_raised : FnD P w K mg base "raised" 1 3 f_raised) (F : FunD K "button_prices" "button_prices" (defArgs s_button_prices) (defBody s_button_prices) (defScope s_button_prices) [] [] f fd) (hm : mg "button_prices" = some (.ref f)) : FnD P w K mg base "button_prices" 5 2 f_button_prices :=
  okD (Γ' := []) F sc_button_prices rfl (fun _ _ _ _ _ _ us hl => match us, hl with | [_, _], _ => rfl) hm (fun cdv A outer s H E hr =>
    (dss_cons (ds_expr (de_call F_need_fronts (hr.mono (by decide)) (glK (by kernel_rfl)) (takes_of rfl rfl rfl rfl) (da_cons (dv 0) (da_cons (dv 1) da_nil))))
    (dss_cons (ds_set (i := 2) sc_button_prices.nd (by kernel_rfl) (locK (by kernel_rfl)) (by kernel_rfl) (de_call F_best_pairing (hr.mono (by decide)) (glK (by kernel_rfl)) (takes_of rfl rfl rfl rfl) (da_cons (dv 0) (da_cons (dv 1) da_nil))) (by kernel_rfl) (by kernel_rfl) (fnK (by kernel_rfl)))
    (dss_cons (ds_set (i := 3) sc_button_prices.nd (by kernel_rfl) (locK (by kernel_rfl)) (by kernel_rfl) (de_call F_raised (hr.mono (by decide)) (glK (by kernel_rfl)) (takes_of rfl rfl rfl rfl) (da_cons (dv 0) (da_cons (dv 1) (da_cons (dv 2) da_nil)))) (by kernel_rfl) (by kernel_rfl) (fnK (by kernel_rfl)))
    (dss_cons (ds_setLcS (i := 4) (own := [("place", 5), ("one", 6)]) rfl sc_button_prices.nd (by kernel_rfl) (by kernel_rfl) (by kernel_rfl) (sw_true rfl (by kernel_rfl) (by kernel_rfl) (by kernel_rfl)) (di_zip false T.n_zip (dv 0) (dv 2) (fun z => nomatch z) (fun z => nomatch z)) (blkOk_by (by kernel_rfl)) (by kernel_rfl) (by kernel_rfl) (fun _ _ _ _ _ => (dg_tup rfl (dgs_cons (dg_var sc_button_prices.nd (by kernel_rfl) (locK (by kernel_rfl)) (by kernel_rfl) (fnK (by kernel_rfl))) (dgs_cons (dg_var sc_button_prices.nd (by kernel_rfl) (locK (by kernel_rfl)) (by kernel_rfl) (fnK (by kernel_rfl))) dgs_nil)))) (fun _ _ _ _ _ => dts_nil) (fun _ _ _ _ _ => (de_bin op_addD os_add (de_abs T.n_abs (de_bin op_sub os_sub (dv 5) (de_ix ix_any os_ix (dv 1) (dv 6) (fun _ _ => rfl)))) (de_ix ix_any os_ix (dv 3) (dv 6) (fun _ _ => rfl)))) (by kernel_rfl))
    (dss_one (ds_ret (Γ' := []) (de_tup (da_cons (de_tuple T.n_tuple (dv 4)) (da_cons (de_tuple T.n_tuple (dv 3)) da_nil)) (by kernel_rfl) (hl := (len_big (len_cons (len_cons len_nil)) (by decide)))) (by kernel_rfl)))))))) rfl

abbrev s_is_button_prices : Stmt := top 29
theorem sc_is_button_prices : FnScope ["buttons", "holes", "thing"] ["buttons", "holes", "thing"] (defScope s_is_button_prices) := ⟨rfl, rfl, rfl, by decide +kernel, rfl, by decide +kernel, by decide +kernel⟩
theorem ok_is_button_prices {f : Addr} {fd : FuncData} (T : Tp K mg) (F_need_fronts : FnD P w K mg base "need_fronts" 4 2 f_need_fronts) (F_are_prices : FnD P w K mg base "are_prices" 3 3 f_are_prices) (F_table_of : FnD P w K mg base "table_of" 1 2 f_table_of) (F : FunD K "is_button_prices" "is_button_prices" (defArgs s_is_button_prices) (defBody s_is_button_prices) (defScope s_is_button_prices) [] [] f fd) (hm : mg "is_button_prices" = some (.ref f)) : FnD P w K mg base "is_button_prices" 5 3 f_is_button_prices :=
  okD (Γ' := []) F sc_is_button_prices rfl (fun _ _ _ _ _ _ us hl => match us, hl with | [_, _, _], _ => rfl) hm (fun cdv A outer s H E hr =>
    (dss_cons (ds_expr (de_call F_need_fronts (hr.mono (by decide)) (glK (by kernel_rfl)) (takes_of rfl rfl rfl rfl) (da_cons (dv 0) (da_cons (dv 1) da_nil))))
    (dss_cons (ds_if (dt_not (dt_truth (de_call F_are_prices (hr.mono (by decide)) (glK (by kernel_rfl)) (takes_of rfl rfl rfl rfl) (da_cons (dv 0) (da_cons (dv 1) (da_cons (dv 2) da_nil)))))) (dss_one (ds_ret (Γ' := []) de_bl (by kernel_rfl))) dss_nil)
    (dss_one (ds_ret (Γ' := []) (de_cmp (op_eqA (u64 hr)) os_eq (de_bin op_sub os_sub (de_sum rfl T.n_sum (de_ix ix_any os_ix (dv 2) de_int (fun _ _ => rfl))) (de_sum rfl T.n_sum (de_ix ix_any os_ix (dv 2) de_int (fun _ _ => rfl)))) (de_ix ix_any os_ix (de_ix ix_any os_ix (de_call F_table_of (hr.mono (by decide)) (glK (by kernel_rfl)) (takes_of rfl rfl rfl rfl) (da_cons (dv 0) (da_cons (dv 1) da_nil))) (de_un un_neg us_neg de_int) (fun _ _ => rfl)) (de_un un_neg us_neg de_int) (fun _ _ => rfl)) (nomark _)) (by kernel_rfl)))))) rfl

abbrev s__law_whole : Stmt := top 31
theorem sc__law_whole : FnScope ["found"] ["found"] (defScope s__law_whole) := ⟨rfl, rfl, rfl, by decide +kernel, rfl, by decide +kernel, by decide +kernel⟩
theorem ok__law_whole {f : Addr} {fd : FuncData} (T : Tp K mg)  (F : FunD K "_law_whole" "_law_whole" (defArgs s__law_whole) (defBody s__law_whole) (defScope s__law_whole) [] [] f fd) (hm : mg "_law_whole" = some (.ref f)) : FnD P w K mg base "_law_whole" 1 1 f__law_whole :=
  okD (Γ' := []) F sc__law_whole rfl (fun _ _ _ _ _ _ us hl => match us, hl with | [_], _ => rfl) hm (fun cdv A outer s H E hr =>
    (dss_one (ds_ret (Γ' := []) (de_and (de_sh (de_isiT .int "int" rfl T.n_isinstance T.n_int (dv 0) bt_int)) (de_one (de_sh (de_not (de_isiT .bool "bool" rfl T.n_isinstance T.n_bool (dv 0) bt_bool))))) (by kernel_rfl)))) rfl

abbrev s__law_mixed : Stmt := top 32
theorem sc__law_mixed : FnScope ["cell", "k", "first"] ["cell", "k"] (defScope s__law_mixed) := ⟨rfl, rfl, rfl, by decide +kernel, rfl, by decide +kernel, by decide +kernel⟩
theorem ok__law_mixed {f : Addr} {fd : FuncData} (T : Tp K mg)  (F : FunD K "_law_mixed" "_law_mixed" (defArgs s__law_mixed) (defBody s__law_mixed) (defScope s__law_mixed) [] [] f fd) (hm : mg "_law_mixed" = some (.ref f)) : FnD P w K mg base "_law_mixed" 1 2 f__law_mixed :=
  okD (Γ' := []) F sc__law_mixed rfl (fun _ _ _ _ _ _ us hl => match us, hl with | [_, _], _ => rfl) hm (fun cdv A outer s H E hr =>
    (dss_cons (ds_set (i := 2) sc__law_mixed.nd (by kernel_rfl) (locK (by kernel_rfl)) (by kernel_rfl) (de_bin op_addD os_add (de_bin op_addD os_add (de_bin op_mulA os_mul (de_int1 T.n_int (dv 0)) de_int) (de_bin op_mulA os_mul (dv 1) de_int)) de_int) (by kernel_rfl) (by kernel_rfl) (fnK (by kernel_rfl)))
    (dss_one (ds_ret (Γ' := []) (de_bin op_modN os_mod (de_int1 T.n_int (de_bin op_addD os_add (de_bin op_mulA os_mul (dv 2) de_int) (de_bin op_fdivN os_div (dv 2) de_int))) de_int) (by kernel_rfl))))) rfl

abbrev s__law_row : Stmt := top 33
theorem sc__law_row : FnScope ["cell", "many", "top", "found", "left", "great", "k"] ["cell", "many", "top"] (defScope s__law_row) := ⟨rfl, rfl, rfl, by decide +kernel, rfl, by decide +kernel, by decide +kernel⟩
theorem ok__law_row {f : Addr} {fd : FuncData} (T : Tp K mg) (F__law_mixed : FnD P w K mg base "_law_mixed" 1 2 f__law_mixed) (F : FunD K "_law_row" "_law_row" (defArgs s__law_row) (defBody s__law_row) (defScope s__law_row) [] [] f fd) (hm : mg "_law_row" = some (.ref f)) : FnD P w K mg base "_law_row" 2 3 f__law_row :=
  okD (Γ' := []) F sc__law_row rfl (fun _ _ _ _ _ _ us hl => match us, hl with | [_, _, _], _ => rfl) hm (fun cdv A outer s H E hr =>
    (dss_cons (ds_own (i := 3) sc__law_row.nd (by kernel_rfl) (locK (by kernel_rfl)) (by kernel_rfl) (de_lst da_nil (by kernel_rfl) (hl := (len_big len_nil (by decide)))) (by kernel_rfl) (fnK (by kernel_rfl)))
    (dss_cons (ds_set (i := 4) sc__law_row.nd (by kernel_rfl) (locK (by kernel_rfl)) (by kernel_rfl) (de_int1 T.n_int (dv 0)) (by kernel_rfl) (by kernel_rfl) (fnK (by kernel_rfl)))
    (dss_cons (ds_set (i := 5) sc__law_row.nd (by kernel_rfl) (locK (by kernel_rfl)) (by kernel_rfl) (de_cmp op_ge os_cmp (dv 4) de_int (nomark _)) (by kernel_rfl) (by kernel_rfl) (fnK (by kernel_rfl)))
    (dss_cons (ds_wk (ks := [6]) (by kernel_rfl) (ds_nox (ds_for rfl rfl (di_rng1 true (glK (by kernel_rfl)) T.n_range (da_cons (dv 1) da_nil)) (dg_var sc__law_row.nd (by kernel_rfl) (locK (by kernel_rfl)) (by kernel_rfl) (fnK (by kernel_rfl))) (dss_wkp (ks := [6]) (by kernel_rfl) (dss_one (ds_if (dt_truth (dv 5)) (dss_cons (ds_append (i := 3) (by kernel_rfl) (vis_of (by kernel_rfl)) (by kernel_rfl) (de_bin op_modN os_mod (de_int1 T.n_int (dv 4)) (dv 2)) (by kernel_rfl))
    (dss_one (ds_set (i := 4) sc__law_row.nd (by kernel_rfl) (locK (by kernel_rfl)) (by kernel_rfl) (de_bin op_fdivN os_div (dv 4) (dv 2)) (by kernel_rfl) (by kernel_rfl) (fnK (by kernel_rfl))))) (dss_one (ds_append (i := 3) (by kernel_rfl) (vis_of (by kernel_rfl)) (by kernel_rfl) (de_bin op_modN os_mod (de_bin op_fdivN os_div (de_call F__law_mixed (hr.mono (by decide)) (glK (by kernel_rfl)) takes0 (da_cons (dv 0) (da_cons (dv 6) da_nil))) de_int) (dv 2)) (by kernel_rfl)))))))))
    (dss_one (ds_pre (Γ1 := []) (by kernel_rfl) (ds_ret (Γ' := []) (dv 3) (by kernel_rfl))))))))) rfl

abbrev s__law_at : Stmt := top 34
theorem sc__law_at : FnScope ["script", "k"] ["script", "k"] (defScope s__law_at) := ⟨rfl, rfl, rfl, by decide +kernel, rfl, by decide +kernel, by decide +kernel⟩
theorem ok__law_at {f : Addr} {fd : FuncData} (T : Tp K mg)  (F : FunD K "_law_at" "_law_at" (defArgs s__law_at) (defBody s__law_at) (defScope s__law_at) [] [] f fd) (hm : mg "_law_at" = some (.ref f)) : FnD P w K mg base "_law_at" 1 2 f__law_at :=
  okD (Γ' := []) F sc__law_at rfl (fun _ _ _ _ _ _ us hl => match us, hl with | [_, _], _ => rfl) hm (fun cdv A outer s H E hr =>
    (dss_cons (ds_if (dt_cmp op_lt os_cmp (dv 1) (de_len T.n_len (dv 0)) (nomark _) bl_cmp) (dss_one (ds_ret (Γ' := []) (de_int1 T.n_int (de_ix ix_any os_ix (dv 0) (dv 1) (fun _ _ => rfl))) (by kernel_rfl))) dss_nil)
    (dss_one (ds_ret (Γ' := []) (de_bin op_addD os_add de_int (de_bin op_mulA os_mul de_int (dv 1))) (by kernel_rfl))))) rfl

abbrev s__law_places : Stmt := top 35
theorem sc__law_places : FnScope ["cell", "most", "top", "digits", "k"] ["cell", "most", "top"] (defScope s__law_places) := ⟨rfl, rfl, rfl, by decide +kernel, rfl, by decide +kernel, by decide +kernel⟩
theorem ok__law_places {f : Addr} {fd : FuncData} (T : Tp K mg) (F__law_row : FnD P w K mg base "_law_row" 2 3 f__law_row) (F : FunD K "_law_places" "_law_places" (defArgs s__law_places) (defBody s__law_places) (defScope s__law_places) [] [] f fd) (hm : mg "_law_places" = some (.ref f)) : FnD P w K mg base "_law_places" 3 3 f__law_places :=
  okD (Γ' := []) F sc__law_places rfl (fun _ _ _ _ _ _ us hl => match us, hl with | [_, _, _], _ => rfl) hm (fun cdv A outer s H E hr =>
    (dss_cons (ds_set (i := 3) sc__law_places.nd (by kernel_rfl) (locK (by kernel_rfl)) (by kernel_rfl) (de_call F__law_row (hr.mono (by decide)) (glK (by kernel_rfl)) (takes_of rfl rfl rfl rfl) (da_cons (dv 0) (da_cons (de_bin op_addD os_add (dv 1) de_int) (da_cons de_int da_nil)))) (by kernel_rfl) (by kernel_rfl) (fnK (by kernel_rfl)))
    (dss_one (ds_ret (Γ' := []) (de_tuple T.n_tuple (de_sorted T.n_sorted (de_lc (own := [("k", 4)]) rfl sc__law_places.nd (di_rng1 false (glK (by kernel_rfl)) T.n_range (da_cons (de_bin op_modN os_mod (de_ix ix_any os_ix (dv 3) de_int (fun _ _ => rfl)) (de_bin op_addD os_add (dv 1) de_int)) da_nil)) (blkOk_by (by kernel_rfl)) (by kernel_rfl) (by kernel_rfl) (fun _ _ _ _ _ => (dg_var sc__law_places.nd (by kernel_rfl) (locK (by kernel_rfl)) (by kernel_rfl) (fnK (by kernel_rfl)))) (fun _ _ _ _ _ => dts_nil) (fun _ _ _ _ _ => (de_bin op_modN os_mod (de_ix ix_any os_ix (dv 3) (de_bin op_addD os_add de_int (dv 4)) (fun _ _ => rfl)) (dv 2))) (by kernel_rfl)))) (by kernel_rfl))))) rfl

abbrev s__law_fronts : Stmt := top 36
theorem sc__law_fronts : FnScope ["cell", "more", "kind", "buttons", "holes", "top", "mine", "yours"] ["cell", "more", "kind", "buttons", "holes"] (defScope s__law_fronts) := ⟨rfl, rfl, rfl, by decide +kernel, rfl, by decide +kernel, by decide +kernel⟩
theorem ok__law_fronts {f : Addr} {fd : FuncData} (T : Tp K mg) (F__law_places : FnD P w K mg base "_law_places" 3 3 f__law_places) (F__law_row : FnD P w K mg base "_law_row" 2 3 f__law_row) (F : FunD K "_law_fronts" "_law_fronts" (defArgs s__law_fronts) (defBody s__law_fronts) (defScope s__law_fronts) [] [] f fd) (hm : mg "_law_fronts" = some (.ref f)) : FnD P w K mg base "_law_fronts" 4 5 f__law_fronts :=
  okD (Γ' := []) F sc__law_fronts rfl (fun _ _ _ _ _ _ us hl => match us, hl with | [_, _, _, _, _], _ => rfl) hm (fun cdv A outer s H E hr =>
    (dss_cons (ds_set (i := 5) sc__law_fronts.nd (by kernel_rfl) (locK (by kernel_rfl)) (by kernel_rfl) (de_ix ix_any os_ix (de_lst (da_cons de_int (da_cons de_int (da_cons de_int da_nil))) (by kernel_rfl) (hl := (len_big (len_cons (len_cons (len_cons len_nil))) (by decide)))) (de_ix ix_any os_ix (de_call F__law_row (hr.mono (by decide)) (glK (by kernel_rfl)) (takes_of rfl rfl rfl rfl) (da_cons (dv 2) (da_cons de_int (da_cons de_int da_nil)))) de_int (fun _ _ => rfl)) (fun _ _ => rfl)) (by kernel_rfl) (by kernel_rfl) (fnK (by kernel_rfl)))
    (dss_cons (ds_set (i := 6) sc__law_fronts.nd (by kernel_rfl) (locK (by kernel_rfl)) (by kernel_rfl) (de_call F__law_places (hr.mono (by decide)) (glK (by kernel_rfl)) (takes_of rfl rfl rfl rfl) (da_cons (dv 0) (da_cons (dv 3) (da_cons (dv 5) da_nil)))) (by kernel_rfl) (by kernel_rfl) (fnK (by kernel_rfl)))
    (dss_cons (ds_set (i := 7) sc__law_fronts.nd (by kernel_rfl) (locK (by kernel_rfl)) (by kernel_rfl) (de_call F__law_places (hr.mono (by decide)) (glK (by kernel_rfl)) (takes_of rfl rfl rfl rfl) (da_cons (dv 1) (da_cons (dv 4) (da_cons (dv 5) da_nil)))) (by kernel_rfl) (by kernel_rfl) (fnK (by kernel_rfl)))
    (dss_cons (ds_wk (ks := [0, 1, 2, 3, 4, 5]) (by kernel_rfl) (ds_nox (ds_while rfl (dt_cmp op_lt os_cmp (de_len T.n_len (dv 7)) (de_len T.n_len (dv 6)) (nomark _) bl_cmp) (dss_wkp (ks := [0, 1, 2, 3, 4, 5]) (by kernel_rfl) (dss_one (ds_set (i := 7) sc__law_fronts.nd (by kernel_rfl) (locK (by kernel_rfl)) (by kernel_rfl) (de_tuple T.n_tuple (de_sorted T.n_sorted (de_bin op_addD os_add (dv 7) (de_tup (da_cons (de_bin op_fdivN os_div (de_ix ix_any os_ix (dv 6) (de_len T.n_len (dv 7)) (fun _ _ => rfl)) de_int) da_nil) (by kernel_rfl) (hl := (len_big (len_cons len_nil) (by decide))))))) (by kernel_rfl) (by kernel_rfl) (fnK (by kernel_rfl))))))))
    (dss_one (ds_ret (Γ' := []) (de_tup (da_cons (dv 6) (da_cons (dv 7) da_nil)) (by kernel_rfl) (hl := (len_big (len_cons (len_cons len_nil)) (by decide)))) (by kernel_rfl)))))))) rfl

abbrev s__law_paired : Stmt := top 37
theorem sc__law_paired : FnScope ["buttons", "holes", "found", "place", "longer", "used", "cost", "k"] ["buttons", "holes"] (defScope s__law_paired) := ⟨rfl, rfl, rfl, by decide +kernel, rfl, by decide +kernel, by decide +kernel⟩
theorem ok__law_paired {f : Addr} {fd : FuncData} (T : Tp K mg)  (F : FunD K "_law_paired" "_law_paired" (defArgs s__law_paired) (defBody s__law_paired) (defScope s__law_paired) [] [] f fd) (hm : mg "_law_paired" = some (.ref f)) : FnD P w K mg base "_law_paired" 1 2 f__law_paired :=
  okD (Γ' := []) F sc__law_paired rfl (fun _ _ _ _ _ _ us hl => match us, hl with | [_, _], _ => rfl) hm (fun cdv A outer s H E hr =>
    (dss_cons (ds_set (i := 2) sc__law_paired.nd (by kernel_rfl) (locK (by kernel_rfl)) (by kernel_rfl) (de_lst (da_cons (de_tup (da_cons (de_tup da_nil (by kernel_rfl) (hl := (len_big len_nil (by decide)))) (da_cons de_int da_nil)) (by kernel_rfl) (hl := (len_big (len_cons (len_cons len_nil)) (by decide)))) da_nil) (by kernel_rfl) (hl := (len_big (len_cons len_nil) (by decide)))) (by kernel_rfl) (by kernel_rfl) (fnK (by kernel_rfl)))
    (dss_cons (ds_wk (ks := [3, 4, 5, 6, 7]) (by kernel_rfl) (ds_nox (ds_for rfl rfl (di_l true (dv 0) (fun _ => rfl)) (dg_var sc__law_paired.nd (by kernel_rfl) (locK (by kernel_rfl)) (by kernel_rfl) (fnK (by kernel_rfl))) (dss_wkp (ks := [3, 4, 5, 6, 7]) (by kernel_rfl) (dss_cons (ds_own (i := 4) sc__law_paired.nd (by kernel_rfl) (locK (by kernel_rfl)) (by kernel_rfl) (de_lst da_nil (by kernel_rfl) (hl := (len_big len_nil (by decide)))) (by kernel_rfl) (fnK (by kernel_rfl)))
    (dss_cons (ds_wk (ks := [0, 5, 6, 7]) (by kernel_rfl) (ds_for rfl rfl (di_l true (dv 2) (fun _ => rfl)) (dg_tup rfl (dgs_cons (dg_var sc__law_paired.nd (by kernel_rfl) (locK (by kernel_rfl)) (by kernel_rfl) (fnK (by kernel_rfl))) (dgs_cons (dg_var sc__law_paired.nd (by kernel_rfl) (locK (by kernel_rfl)) (by kernel_rfl) (fnK (by kernel_rfl))) dgs_nil))) (dss_wkp (ks := [0, 5, 6, 7]) (by kernel_rfl) (dss_one (ds_wk (ks := [0, 2, 7]) (by kernel_rfl) (ds_for rfl rfl (di_rng1 true (glK (by kernel_rfl)) T.n_range (da_cons (de_len T.n_len (dv 1)) da_nil)) (dg_var sc__law_paired.nd (by kernel_rfl) (locK (by kernel_rfl)) (by kernel_rfl) (fnK (by kernel_rfl))) (dss_wkp (ks := [0, 2, 7]) (by kernel_rfl) (dss_one (ds_if (dt_cmp (op_notInA (u65 hr)) os_notIn (dv 7) (dv 5) rfl bl_notIn) (dss_one (ds_append (i := 4) (by kernel_rfl) (vis_of (by kernel_rfl)) (by kernel_rfl) (de_tup (da_cons (de_bin op_addD os_add (dv 5) (de_tup (da_cons (dv 7) da_nil) (by kernel_rfl) (hl := (len_big (len_cons len_nil) (by decide))))) (da_cons (de_bin op_addD os_add (dv 6) (de_abs T.n_abs (de_bin op_sub os_sub (dv 3) (de_ix ix_any os_ix (dv 1) (dv 7) (fun _ _ => rfl))))) da_nil)) (by kernel_rfl) (hl := (len_big (len_cons (len_cons len_nil)) (by decide)))) (by kernel_rfl))) dss_nil)))))))))
    (dss_one (ds_pre (Γ1 := []) (by kernel_rfl) (ds_set (i := 2) sc__law_paired.nd (by kernel_rfl) (locK (by kernel_rfl)) (by kernel_rfl) (dv 4) (by kernel_rfl) (by kernel_rfl) (fnK (by kernel_rfl)))))))))))
    (dss_one (ds_ret (Γ' := []) (dv 2) (by kernel_rfl)))))) rfl

abbrev s__law_order : Stmt := top 38
theorem sc__law_order : FnScope ["cell", "size", "marks", "pair", "k"] ["cell", "size"] (defScope s__law_order) := ⟨rfl, rfl, rfl, by decide +kernel, rfl, by decide +kernel, by decide +kernel⟩
theorem ok__law_order {f : Addr} {fd : FuncData} (T : Tp K mg) (F__law_row : FnD P w K mg base "_law_row" 2 3 f__law_row) (F : FunD K "_law_order" "_law_order" (defArgs s__law_order) (defBody s__law_order) (defScope s__law_order) [] [] f fd) (hm : mg "_law_order" = some (.ref f)) : FnD P w K mg base "_law_order" 3 2 f__law_order :=
  okD (Γ' := []) F sc__law_order rfl (fun _ _ _ _ _ _ us hl => match us, hl with | [_, _], _ => rfl) hm (fun cdv A outer s H E hr =>
    (dss_cons (ds_set (i := 2) sc__law_order.nd (by kernel_rfl) (locK (by kernel_rfl)) (by kernel_rfl) (de_call F__law_row (hr.mono (by decide)) (glK (by kernel_rfl)) (takes_of rfl rfl rfl rfl) (da_cons (dv 0) (da_cons (dv 1) (da_cons de_int da_nil)))) (by kernel_rfl) (by kernel_rfl) (fnK (by kernel_rfl)))
    (dss_one (ds_ret (Γ' := []) (de_tuple T.n_tuple (de_lc (own := [("pair", 3)]) rfl sc__law_order.nd (di_l false (de_sortG (u64 hr) T.n_sorted (de_lc (own := [("k", 4)]) rfl sc__law_order.nd (di_rng1 false (glK (by kernel_rfl)) T.n_range (da_cons (dv 1) da_nil)) (blkOk_by (by kernel_rfl)) (by kernel_rfl) (by kernel_rfl) (fun _ _ _ _ _ => (dg_var sc__law_order.nd (by kernel_rfl) (locK (by kernel_rfl)) (by kernel_rfl) (fnK (by kernel_rfl)))) (fun _ _ _ _ _ => dts_nil) (fun _ _ _ _ _ => (de_tup (da_cons (de_ix ix_any os_ix (dv 2) (dv 4) (fun _ _ => rfl)) (da_cons (dv 4) da_nil)) (by kernel_rfl) (hl := (len_big (len_cons (len_cons len_nil)) (by decide))))) (by kernel_rfl))) (fun z => nomatch z)) (blkOk_by (by kernel_rfl)) (by kernel_rfl) (by kernel_rfl) (fun _ _ _ _ _ => (dg_var sc__law_order.nd (by kernel_rfl) (locK (by kernel_rfl)) (by kernel_rfl) (fnK (by kernel_rfl)))) (fun _ _ _ _ _ => dts_nil) (fun _ _ _ _ _ => (de_ix ix_any os_ix (dv 3) de_int (fun _ _ => rfl))) (by kernel_rfl))) (by kernel_rfl))))) rfl

abbrev s__law_flag : Stmt := top 39
theorem sc__law_flag : FnScope ["found", "due"] ["found", "due"] (defScope s__law_flag) := ⟨rfl, rfl, rfl, by decide +kernel, rfl, by decide +kernel, by decide +kernel⟩
theorem ok__law_flag {f : Addr} {fd : FuncData} (T : Tp K mg)  (F : FunD K "_law_flag" "_law_flag" (defArgs s__law_flag) (defBody s__law_flag) (defScope s__law_flag) [] [] f fd) (hm : mg "_law_flag" = some (.ref f)) : FnD P w K mg base "_law_flag" 1 2 f__law_flag :=
  okD (Γ' := []) F sc__law_flag rfl (fun _ _ _ _ _ _ us hl => match us, hl with | [_, _], _ => rfl) hm (fun cdv A outer s H E hr =>
    (dss_cons (ds_if (dt_truth (dv 1)) (dss_one (ds_ret (Γ' := []) (de_isB (dv 0)) (by kernel_rfl))) dss_nil)
    (dss_one (ds_ret (Γ' := []) (de_isB (dv 0)) (by kernel_rfl))))) rfl

abbrev s__law_table : Stmt := top 40
theorem sc__law_table : FnScope ["buttons", "holes", "row", "place", "here", "k", "some"] ["buttons", "holes"] (defScope s__law_table) := ⟨rfl, rfl, rfl, by decide +kernel, rfl, by decide +kernel, by decide +kernel⟩
theorem ok__law_table {f : Addr} {fd : FuncData} (T : Tp K mg)  (F : FunD K "_law_table" "_law_table" (defArgs s__law_table) (defBody s__law_table) (defScope s__law_table) [] [] f fd) (hm : mg "_law_table" = some (.ref f)) : FnD P w K mg base "_law_table" 1 2 f__law_table :=
  okD (Γ' := []) F sc__law_table rfl (fun _ _ _ _ _ _ us hl => match us, hl with | [_, _], _ => rfl) hm (fun cdv A outer s H E hr =>
    (dss_cons (ds_setLcS (i := 2) (own := [("k", 5)]) rfl sc__law_table.nd (by kernel_rfl) (by kernel_rfl) (by kernel_rfl) (sw_true rfl (by kernel_rfl) (by kernel_rfl) (by kernel_rfl)) (di_rng1 false (glK (by kernel_rfl)) T.n_range (da_cons (de_bin op_addD os_add (de_len T.n_len (dv 1)) de_int) da_nil)) (blkOk_by (by kernel_rfl)) (by kernel_rfl) (by kernel_rfl) (fun _ _ _ _ _ => (dg_var sc__law_table.nd (by kernel_rfl) (locK (by kernel_rfl)) (by kernel_rfl) (fnK (by kernel_rfl)))) (fun _ _ _ _ _ => dts_nil) (fun _ _ _ _ _ => de_int) (by kernel_rfl))
    (dss_cons (ds_wk (ks := [3, 4, 5, 6]) (by kernel_rfl) (ds_nox (ds_for rfl rfl (di_l true (dv 0) (fun _ => rfl)) (dg_var sc__law_table.nd (by kernel_rfl) (locK (by kernel_rfl)) (by kernel_rfl) (fnK (by kernel_rfl))) (dss_wkp (ks := [3, 4, 5, 6]) (by kernel_rfl) (dss_cons (ds_own (i := 4) sc__law_table.nd (by kernel_rfl) (locK (by kernel_rfl)) (by kernel_rfl) (de_lst (da_cons de_non da_nil) (by kernel_rfl) (hl := (len_big (len_cons len_nil) (by decide)))) (by kernel_rfl) (fnK (by kernel_rfl)))
    (dss_cons (ds_wk (ks := [0, 5, 6]) (by kernel_rfl) (ds_for rfl rfl (di_rng1 true (glK (by kernel_rfl)) T.n_range (da_cons (de_len T.n_len (dv 1)) da_nil)) (dg_var sc__law_table.nd (by kernel_rfl) (locK (by kernel_rfl)) (by kernel_rfl) (fnK (by kernel_rfl))) (dss_wkp (ks := [0, 5, 6]) (by kernel_rfl) (dss_post (Γ' := [6, 4]) (Γ1 := [4]) (by kernel_rfl) (dss_cons (ds_own (i := 6) sc__law_table.nd (by kernel_rfl) (locK (by kernel_rfl)) (by kernel_rfl) (de_lst da_nil (by kernel_rfl) (hl := (len_big len_nil (by decide)))) (by kernel_rfl) (fnK (by kernel_rfl)))
    (dss_cons (ds_if (dt_notN (de_ix ix_any os_ix (dv 4) (dv 5) (fun _ _ => rfl))) (dss_one (ds_append (i := 6) (by kernel_rfl) (vis_of (by kernel_rfl)) (by kernel_rfl) (de_ix ix_any os_ix (dv 4) (dv 5) (fun _ _ => rfl)) (by kernel_rfl))) dss_nil)
    (dss_cons (ds_if (dt_notN (de_ix ix_any os_ix (dv 2) (dv 5) (fun _ _ => rfl))) (dss_one (ds_append (i := 6) (by kernel_rfl) (vis_of (by kernel_rfl)) (by kernel_rfl) (de_bin op_addD os_add (de_ix ix_any os_ix (dv 2) (dv 5) (fun _ _ => rfl)) (de_abs T.n_abs (de_bin op_sub os_sub (dv 3) (de_ix ix_any os_ix (dv 1) (dv 5) (fun _ _ => rfl))))) (by kernel_rfl))) dss_nil)
    (dss_one (ds_if (dt_truth (dv 6)) (dss_one (ds_append (i := 4) (by kernel_rfl) (vis_of (by kernel_rfl)) (by kernel_rfl) (de_minL rfl T.n_min (dv 6)) (by kernel_rfl))) (dss_one (ds_append (i := 4) (by kernel_rfl) (vis_of (by kernel_rfl)) (by kernel_rfl) de_non (by kernel_rfl))))))))))))
    (dss_one (ds_pre (Γ1 := []) (by kernel_rfl) (ds_set (i := 2) sc__law_table.nd (by kernel_rfl) (locK (by kernel_rfl)) (by kernel_rfl) (dv 4) (by kernel_rfl) (by kernel_rfl) (fnK (by kernel_rfl)))))))))))
    (dss_one (ds_ret (Γ' := []) (de_ix ix_any os_ix (dv 2) (de_un un_neg us_neg de_int) (fun _ _ => rfl)) (by kernel_rfl)))))) rfl

abbrev s__law_are_prices : Stmt := top 41
theorem sc__law_are_prices : FnScope ["buttons", "holes", "pair", "k", "one", "j", "row"] ["buttons", "holes", "pair"] (defScope s__law_are_prices) := ⟨rfl, rfl, rfl, by decide +kernel, rfl, by decide +kernel, by decide +kernel⟩
theorem ok__law_are_prices {f : Addr} {fd : FuncData} (T : Tp K mg) (F__law_whole : FnD P w K mg base "_law_whole" 1 1 f__law_whole) (F : FunD K "_law_are_prices" "_law_are_prices" (defArgs s__law_are_prices) (defBody s__law_are_prices) (defScope s__law_are_prices) [] [] f fd) (hm : mg "_law_are_prices" = some (.ref f)) : FnD P w K mg base "_law_are_prices" 2 3 f__law_are_prices :=
  okD (Γ' := []) F sc__law_are_prices rfl (fun _ _ _ _ _ _ us hl => match us, hl with | [_, _, _], _ => rfl) hm (fun cdv A outer s H E hr =>
    (dss_cons (ds_if (dt_w (dw_or (dt_not (dt_truth (de_isiT .tuple "tuple" rfl T.n_isinstance T.n_tuple (dv 2) bt_tuple))) (dw_or (dt_cmp (op_neA (u64 hr)) os_ne (de_len T.n_len (dv 2)) de_int (nomark _) bl_ne) (dw_or1 (dt_not (dt_truth (de_all rfl T.n_all (de_lc (own := [("row", 6)]) rfl sc__law_are_prices.nd (di_l false (dv 2) (fun z => nomatch z)) (blkOk_by (by kernel_rfl)) (by kernel_rfl) (by kernel_rfl) (fun _ _ _ _ _ => (dg_var sc__law_are_prices.nd (by kernel_rfl) (locK (by kernel_rfl)) (by kernel_rfl) (fnK (by kernel_rfl)))) (fun _ _ _ _ _ => dts_nil) (fun _ _ _ _ _ => (de_isiT .tuple "tuple" rfl T.n_isinstance T.n_tuple (dv 6) bt_tuple)) (by kernel_rfl))))))))) (dss_one (ds_ret (Γ' := []) de_bl (by kernel_rfl))) dss_nil)
    (dss_cons (ds_if (dt_w (dw_or (dt_cmp (op_neA (u64 hr)) os_ne (de_len T.n_len (de_ix ix_any os_ix (dv 2) de_int (fun _ _ => rfl))) (de_len T.n_len (dv 0)) (nomark _) bl_ne) (dw_or (dt_cmp (op_neA (u64 hr)) os_ne (de_len T.n_len (de_ix ix_any os_ix (dv 2) de_int (fun _ _ => rfl))) (de_len T.n_len (dv 1)) (nomark _) bl_ne) (dw_or1 (dt_not (dt_truth (de_all rfl T.n_all (de_lc (own := [("one", 4)]) rfl sc__law_are_prices.nd (di_l false (de_bin op_addD os_add (de_ix ix_any os_ix (dv 2) de_int (fun _ _ => rfl)) (de_ix ix_any os_ix (dv 2) de_int (fun _ _ => rfl))) (fun z => nomatch z)) (blkOk_by (by kernel_rfl)) (by kernel_rfl) (by kernel_rfl) (fun _ _ _ _ _ => (dg_var sc__law_are_prices.nd (by kernel_rfl) (locK (by kernel_rfl)) (by kernel_rfl) (fnK (by kernel_rfl)))) (fun _ _ _ _ _ => dts_nil) (fun _ _ _ _ _ => (de_call F__law_whole (hr.mono (by decide)) (glK (by kernel_rfl)) takes0 (da_cons (dv 4) da_nil))) (by kernel_rfl))))))))) (dss_one (ds_ret (Γ' := []) de_bl (by kernel_rfl))) dss_nil)
    (dss_cons (ds_if (dt_w (dw_or (dt_truth (de_any rfl T.n_any (de_lc (own := [("one", 4)]) rfl sc__law_are_prices.nd (di_l false (de_bin op_addD os_add (de_ix ix_any os_ix (dv 2) de_int (fun _ _ => rfl)) (de_ix ix_any os_ix (dv 2) de_int (fun _ _ => rfl))) (fun z => nomatch z)) (blkOk_by (by kernel_rfl)) (by kernel_rfl) (by kernel_rfl) (fun _ _ _ _ _ => (dg_var sc__law_are_prices.nd (by kernel_rfl) (locK (by kernel_rfl)) (by kernel_rfl) (fnK (by kernel_rfl)))) (fun _ _ _ _ _ => dts_nil) (fun _ _ _ _ _ => (de_cmp op_gt os_cmp (de_abs T.n_abs (dv 4)) de_int (nomark _))) (by kernel_rfl)))) (dw_or1 (dt_truth (de_any rfl T.n_any (de_lc (own := [("one", 4)]) rfl sc__law_are_prices.nd (di_l false (de_ix ix_any os_ix (dv 2) de_int (fun _ _ => rfl)) (fun z => nomatch z)) (blkOk_by (by kernel_rfl)) (by kernel_rfl) (by kernel_rfl) (fun _ _ _ _ _ => (dg_var sc__law_are_prices.nd (by kernel_rfl) (locK (by kernel_rfl)) (by kernel_rfl) (fnK (by kernel_rfl)))) (fun _ _ _ _ _ => dts_nil) (fun _ _ _ _ _ => (de_cmp op_lt os_cmp (dv 4) de_int (nomark _))) (by kernel_rfl))))))) (dss_one (ds_ret (Γ' := []) de_bl (by kernel_rfl))) dss_nil)
    (dss_cons (ds_wk (ks := [3]) (by kernel_rfl) (ds_nox (ds_for rfl rfl (di_rng1 true (glK (by kernel_rfl)) T.n_range (da_cons (de_len T.n_len (dv 0)) da_nil)) (dg_var sc__law_are_prices.nd (by kernel_rfl) (locK (by kernel_rfl)) (by kernel_rfl) (fnK (by kernel_rfl))) (dss_wkp (ks := [3]) (by kernel_rfl) (dss_one (ds_if (dt_truth (de_any rfl T.n_any (de_lc (own := [("j", 5)]) rfl sc__law_are_prices.nd (di_rng1 false (glK (by kernel_rfl)) T.n_range (da_cons (de_len T.n_len (dv 1)) da_nil)) (blkOk_by (by kernel_rfl)) (by kernel_rfl) (by kernel_rfl) (fun _ _ _ _ _ => (dg_var sc__law_are_prices.nd (by kernel_rfl) (locK (by kernel_rfl)) (by kernel_rfl) (fnK (by kernel_rfl)))) (fun _ _ _ _ _ => dts_nil) (fun _ _ _ _ _ => (de_cmp op_gt os_cmp (de_bin op_sub os_sub (de_ix ix_any os_ix (de_ix ix_any os_ix (dv 2) de_int (fun _ _ => rfl)) (dv 3) (fun _ _ => rfl)) (de_ix ix_any os_ix (de_ix ix_any os_ix (dv 2) de_int (fun _ _ => rfl)) (dv 5) (fun _ _ => rfl))) (de_abs T.n_abs (de_bin op_sub os_sub (de_ix ix_any os_ix (dv 0) (dv 3) (fun _ _ => rfl)) (de_ix ix_any os_ix (dv 1) (dv 5) (fun _ _ => rfl)))) (nomark _))) (by kernel_rfl)))) (dss_one (ds_ret (Γ' := []) de_bl (by kernel_rfl))) dss_nil))))))
    (dss_one (ds_ret (Γ' := []) de_bl (by kernel_rfl)))))))) rfl

abbrev s__law_word : Stmt := top 42
theorem sc__law_word : FnScope ["buttons", "holes", "told", "wrong"] ["buttons", "holes", "told"] (defScope s__law_word) := ⟨rfl, rfl, rfl, by decide +kernel, rfl, by decide +kernel, by decide +kernel⟩
theorem ok__law_word {f : Addr} {fd : FuncData} (T : Tp K mg) (F_button_least : FnD P w K mg base "button_least" 5 2 f_button_least) (F_pairing_cost : FnD P w K mg base "pairing_cost" 5 3 f_pairing_cost) (F : FunD K "_law_word" "_law_word" (defArgs s__law_word) (defBody s__law_word) (defScope s__law_word) [] [] f fd) (hm : mg "_law_word" = some (.ref f)) : FnD P w K mg base "_law_word" 6 3 f__law_word :=
  okD (Γ' := []) F sc__law_word rfl (fun _ _ _ _ _ _ us hl => match us, hl with | [_, _, _], _ => rfl) hm (fun cdv A outer s H E hr =>
    (dss_cons (ds_try2 (Γ' := []) (i := 3) (y0 := "NoButtons") (ok := ["NoButtons", "NoPlan"]) (hv := (fun c => if c = ("NoButtons" : Str) then .str "buttons" else .str "plan")) rfl rfl sc__law_word.nd (by kernel_rfl) (by kernel_rfl) (glK (by kernel_rfl)) (by decide) (takes_of rfl rfl rfl rfl) (List.mem_cons_self) (List.forall_mem_cons.2 ⟨T.k_NoButtons__NeedleError, (List.forall_mem_cons.2 ⟨T.k_NoPlan__NeedleError, (fun _ z => nomatch z)⟩)⟩) (List.forall_mem_cons.2 ⟨⟨true, false, T.i_NoButtons__NoButtons__true, T.i_NoButtons__NoPlan__false, by kernel_rfl⟩, (List.forall_mem_cons.2 ⟨⟨false, true, T.i_NoPlan__NoButtons__false, T.i_NoPlan__NoPlan__true, by kernel_rfl⟩, (fun _ z => nomatch z)⟩)⟩) (by decide) (by decide) T.n_int (glK (by kernel_rfl)) (glK (by kernel_rfl)) T.n_isinstance (glK (by kernel_rfl)) (by decide) (glK (by kernel_rfl)) (by decide) (fun _ _ _ tk _ => (dss_one (ds_if (dt_cmp (op_eqA (u64 hr)) os_eq (dv 2) (de_str (by decide)) (nomark _) bl_eq) (dss_one (ds_expr (de_call F_button_least (hr.mono (by decide)) (glK (by kernel_rfl)) tk (da_cons (dv 0) (da_cons (dv 1) da_nil))))) (dss_one (ds_expr (de_call F_pairing_cost (hr.mono (by decide)) (glK (by kernel_rfl)) tk (da_cons (dv 0) (da_cons (dv 1) (da_cons (dv 2) da_nil))))))))))
    (dss_one (ds_ret (Γ' := []) (de_str (by decide)) (by kernel_rfl))))) rfl

abbrev s_law : Stmt := top 43
theorem sc_law : FnScope ["script", "few", "buttons", "holes", "least", "told", "drawn", "cost", "pair", "digits", "near", "at", "step", "thing", "right", "k", "one"] ["script"] (defScope s_law) := ⟨rfl, rfl, rfl, by decide +kernel, rfl, by decide +kernel, by decide +kernel⟩
theorem ok_law {f : Addr} {fd : FuncData} (T : Tp K mg) (F__law_fronts : FnD P w K mg base "_law_fronts" 4 5 f__law_fronts) (F__law_table : FnD P w K mg base "_law_table" 1 2 f__law_table) (F_button_best : FnD P w K mg base "button_best" 5 2 f_button_best) (F_button_prices : FnD P w K mg base "button_prices" 5 2 f_button_prices) (F__law_row : FnD P w K mg base "_law_row" 2 3 f__law_row) (F__law_at : FnD P w K mg base "_law_at" 1 2 f__law_at) (F__law_order : FnD P w K mg base "_law_order" 3 2 f__law_order) (F__law_flag : FnD P w K mg base "_law_flag" 1 2 f__law_flag) (F__law_are_prices : FnD P w K mg base "_law_are_prices" 2 3 f__law_are_prices) (F_button_least : FnD P w K mg base "button_least" 5 2 f_button_least) (F_is_button_best : FnD P w K mg base "is_button_best" 5 3 f_is_button_best) (F_is_pairing : FnD P w K mg base "is_pairing" 5 3 f_is_pairing) (F_pairing_cost : FnD P w K mg base "pairing_cost" 5 3 f_pairing_cost) (F_is_button_prices : FnD P w K mg base "is_button_prices" 5 3 f_is_button_prices) (F__law_word : FnD P w K mg base "_law_word" 6 3 f__law_word) (F__law_paired : FnD P w K mg base "_law_paired" 1 2 f__law_paired) (F : FunD K "law" "law" (defArgs s_law) (defBody s_law) (defScope s_law) [] [] f fd) : FnOk P w K mg base (L2.CX P w) 7 f fd ["script"] (spD K mg 1 f_law) :=
  okF (Γ' := []) F sc_law rfl (fun cdv A outer s H E hr =>
    (dss_cons (ds_set (i := 1) sc_law.nd (by kernel_rfl) (locK (by kernel_rfl)) (by kernel_rfl) (de_ix ix_any os_ix (de_call F__law_row (hr.mono (by decide)) (glK (by kernel_rfl)) (takes_of rfl rfl rfl rfl) (da_cons (de_call F__law_at (hr.mono (by decide)) (glK (by kernel_rfl)) (takes_of rfl rfl rfl rfl) (da_cons (dv 0) (da_cons de_int da_nil))) (da_cons de_int (da_cons de_int da_nil)))) de_int (fun _ _ => rfl)) (by kernel_rfl) (by kernel_rfl) (fnK (by kernel_rfl)))
    (dss_cons (ds_asg (de_call F__law_fronts (hr.mono (by decide)) (glK (by kernel_rfl)) (takes_of rfl rfl rfl rfl) (da_cons (de_call F__law_at (hr.mono (by decide)) (glK (by kernel_rfl)) (takes_of rfl rfl rfl rfl) (da_cons (dv 0) (da_cons de_int da_nil))) (da_cons (de_call F__law_at (hr.mono (by decide)) (glK (by kernel_rfl)) (takes_of rfl rfl rfl rfl) (da_cons (dv 0) (da_cons de_int da_nil))) (da_cons (de_call F__law_at (hr.mono (by decide)) (glK (by kernel_rfl)) (takes_of rfl rfl rfl rfl) (da_cons (dv 0) (da_cons de_int da_nil))) (da_cons (de_ix ix_any os_ix (de_lst (da_cons de_int (da_cons de_int da_nil)) (by kernel_rfl) (hl := (len_big (len_cons (len_cons len_nil)) (by decide)))) (dv 1) (fun _ _ => rfl)) (da_cons (de_ix ix_any os_ix (de_lst (da_cons de_int (da_cons de_int da_nil)) (by kernel_rfl) (hl := (len_big (len_cons (len_cons len_nil)) (by decide)))) (dv 1) (fun _ _ => rfl)) da_nil)))))) (dg_tup rfl (dgs_cons (dg_var sc_law.nd (by kernel_rfl) (locK (by kernel_rfl)) (by kernel_rfl) (fnK (by kernel_rfl))) (dgs_cons (dg_var sc_law.nd (by kernel_rfl) (locK (by kernel_rfl)) (by kernel_rfl) (fnK (by kernel_rfl))) dgs_nil))) (by kernel_rfl))
    (dss_cons (ds_set (i := 4) sc_law.nd (by kernel_rfl) (locK (by kernel_rfl)) (by kernel_rfl) (de_call F__law_table (hr.mono (by decide)) (glK (by kernel_rfl)) (takes_of rfl rfl rfl rfl) (da_cons (dv 2) (da_cons (dv 3) da_nil))) (by kernel_rfl) (by kernel_rfl) (fnK (by kernel_rfl)))
    (dss_cons (ds_set (i := 5) sc_law.nd (by kernel_rfl) (locK (by kernel_rfl)) (by kernel_rfl) (de_call F_button_best (hr.mono (by decide)) (glK (by kernel_rfl)) (takes_of rfl rfl rfl rfl) (da_cons (dv 2) (da_cons (dv 3) da_nil))) (by kernel_rfl) (by kernel_rfl) (fnK (by kernel_rfl)))
    (dss_cons (ds_if (dt_w (dw_or (dt_cmp (op_neA (u64 hr)) os_ne (de_call F_button_least (hr.mono (by decide)) (glK (by kernel_rfl)) (takes_of rfl rfl rfl rfl) (da_cons (dv 2) (da_cons (dv 3) da_nil))) (dv 4) (nomark _) bl_ne) (dw_or1 (dt_notB (de_call F_is_button_best (hr.mono (by decide)) (glK (by kernel_rfl)) (takes_of rfl rfl rfl rfl) (da_cons (dv 2) (da_cons (dv 3) (da_cons (dv 5) da_nil)))))))) (dss_one (ds_ret (Γ' := []) de_bl (by kernel_rfl))) dss_nil)
    (dss_cons (ds_if (dt_w (dw_and (dt_cmp (op_eqA (u64 hr)) os_eq (dv 1) de_int (nomark _) bl_eq) (dw_and1 (dt_cmp (op_neA (u64 hr)) os_ne (dv 4) (de_minL rfl T.n_min (de_lc (own := [("pair", 8)]) rfl sc_law.nd (di_l false (de_call F__law_paired (hr.mono (by decide)) (glK (by kernel_rfl)) (takes_of rfl rfl rfl rfl) (da_cons (dv 2) (da_cons (dv 3) da_nil))) (fun z => nomatch z)) (blkOk_by (by kernel_rfl)) (by kernel_rfl) (by kernel_rfl) (fun _ _ _ _ _ => (dg_var sc_law.nd (by kernel_rfl) (locK (by kernel_rfl)) (by kernel_rfl) (fnK (by kernel_rfl)))) (fun _ _ _ _ _ => dts_nil) (fun _ _ _ _ _ => (de_ix ix_any os_ix (dv 8) de_int (fun _ _ => rfl))) (by kernel_rfl))) (nomark _) bl_ne)))) (dss_one (ds_ret (Γ' := []) de_bl (by kernel_rfl))) dss_nil)
    (dss_cons (ds_if (dt_w (dw_or (dt_notB (de_call F_is_pairing (hr.mono (by decide)) (glK (by kernel_rfl)) (takes_of rfl rfl rfl rfl) (da_cons (dv 2) (da_cons (dv 3) (da_cons (dv 5) da_nil))))) (dw_or1 (dt_cmp (op_neA (u64 hr)) os_ne (de_call F_pairing_cost (hr.mono (by decide)) (glK (by kernel_rfl)) (takes_of rfl rfl rfl rfl) (da_cons (dv 2) (da_cons (dv 3) (da_cons (dv 5) da_nil)))) (dv 4) (nomark _) bl_ne)))) (dss_one (ds_ret (Γ' := []) de_bl (by kernel_rfl))) dss_nil)
    (dss_cons (ds_if (dt_w (dw_or (dt_cmp (op_neA (u64 hr)) os_ne (de_sum rfl T.n_sum (de_lc (own := [("k", 15)]) rfl sc_law.nd (di_rng1 false (glK (by kernel_rfl)) T.n_range (da_cons (de_len T.n_len (dv 5)) da_nil)) (blkOk_by (by kernel_rfl)) (by kernel_rfl) (by kernel_rfl) (fun _ _ _ _ _ => (dg_var sc_law.nd (by kernel_rfl) (locK (by kernel_rfl)) (by kernel_rfl) (fnK (by kernel_rfl)))) (fun _ _ _ _ _ => dts_nil) (fun _ _ _ _ _ => (de_abs T.n_abs (de_bin op_sub os_sub (de_ix ix_any os_ix (dv 2) (dv 15) (fun _ _ => rfl)) (de_ix ix_any os_ix (dv 3) (de_ix ix_any os_ix (dv 5) (dv 15) (fun _ _ => rfl)) (fun _ _ => rfl))))) (by kernel_rfl))) (dv 4) (nomark _) bl_ne) (dw_or1 (dt_cmp (op_neA (u64 hr)) os_ne (de_len T.n_len (dv 5)) (de_len T.n_len (dv 2)) (nomark _) bl_ne)))) (dss_one (ds_ret (Γ' := []) de_bl (by kernel_rfl))) dss_nil)
    (dss_cons (ds_set (i := 6) sc_law.nd (by kernel_rfl) (locK (by kernel_rfl)) (by kernel_rfl) (de_slice (de_call F__law_order (hr.mono (by decide)) (glK (by kernel_rfl)) (takes_of rfl rfl rfl rfl) (da_cons (de_call F__law_at (hr.mono (by decide)) (glK (by kernel_rfl)) (takes_of rfl rfl rfl rfl) (da_cons (dv 0) (da_cons de_int da_nil))) (da_cons (de_len T.n_len (dv 3)) da_nil))) do_none (do_some (de_len T.n_len (dv 2)))) (by kernel_rfl) (by kernel_rfl) (fnK (by kernel_rfl)))
    (dss_cons (ds_set (i := 7) sc_law.nd (by kernel_rfl) (locK (by kernel_rfl)) (by kernel_rfl) (de_sum rfl T.n_sum (de_lc (own := [("k", 15)]) rfl sc_law.nd (di_rng1 false (glK (by kernel_rfl)) T.n_range (da_cons (de_len T.n_len (dv 2)) da_nil)) (blkOk_by (by kernel_rfl)) (by kernel_rfl) (by kernel_rfl) (fun _ _ _ _ _ => (dg_var sc_law.nd (by kernel_rfl) (locK (by kernel_rfl)) (by kernel_rfl) (fnK (by kernel_rfl)))) (fun _ _ _ _ _ => dts_nil) (fun _ _ _ _ _ => (de_abs T.n_abs (de_bin op_sub os_sub (de_ix ix_any os_ix (dv 2) (dv 15) (fun _ _ => rfl)) (de_ix ix_any os_ix (dv 3) (de_ix ix_any os_ix (dv 6) (dv 15) (fun _ _ => rfl)) (fun _ _ => rfl))))) (by kernel_rfl))) (by kernel_rfl) (by kernel_rfl) (fnK (by kernel_rfl)))
    (dss_cons (ds_if (dt_w (dw_or (dt_notB (de_call F_is_pairing (hr.mono (by decide)) (glK (by kernel_rfl)) (takes_of rfl rfl rfl rfl) (da_cons (dv 2) (da_cons (dv 3) (da_cons (dv 6) da_nil))))) (dw_or (dt_cmp (op_neA (u64 hr)) os_ne (de_call F_pairing_cost (hr.mono (by decide)) (glK (by kernel_rfl)) (takes_of rfl rfl rfl rfl) (da_cons (dv 2) (da_cons (dv 3) (da_cons (dv 6) da_nil)))) (dv 7) (nomark _) bl_ne) (dw_or1 (dt_cmp op_lt os_cmp (dv 7) (dv 4) (nomark _) bl_cmp))))) (dss_one (ds_ret (Γ' := []) de_bl (by kernel_rfl))) dss_nil)
    (dss_cons (ds_if (dt_not (dt_truth (de_call F__law_flag (hr.mono (by decide)) (glK (by kernel_rfl)) (takes_of rfl rfl rfl rfl) (da_cons (de_call F_is_button_best (hr.mono (by decide)) (glK (by kernel_rfl)) (takes_of rfl rfl rfl rfl) (da_cons (dv 2) (da_cons (dv 3) (da_cons (dv 6) da_nil)))) (da_cons (de_cmp (op_eqA (u64 hr)) os_eq (dv 7) (dv 4) (nomark _)) da_nil))))) (dss_one (ds_ret (Γ' := []) de_bl (by kernel_rfl))) dss_nil)
    (dss_cons (ds_set (i := 8) sc_law.nd (by kernel_rfl) (locK (by kernel_rfl)) (by kernel_rfl) (de_call F_button_prices (hr.mono (by decide)) (glK (by kernel_rfl)) (takes_of rfl rfl rfl rfl) (da_cons (dv 2) (da_cons (dv 3) da_nil))) (by kernel_rfl) (by kernel_rfl) (fnK (by kernel_rfl)))
    (dss_cons (ds_if (dt_w (dw_or (dt_not (dt_truth (de_call F__law_are_prices (hr.mono (by decide)) (glK (by kernel_rfl)) (takes_of rfl rfl rfl rfl) (da_cons (dv 2) (da_cons (dv 3) (da_cons (dv 8) da_nil)))))) (dw_or1 (dt_cmp (op_neA (u64 hr)) os_ne (de_bin op_sub os_sub (de_sum rfl T.n_sum (de_ix ix_any os_ix (dv 8) de_int (fun _ _ => rfl))) (de_sum rfl T.n_sum (de_ix ix_any os_ix (dv 8) de_int (fun _ _ => rfl)))) (dv 4) (nomark _) bl_ne)))) (dss_one (ds_ret (Γ' := []) de_bl (by kernel_rfl))) dss_nil)
    (dss_cons (ds_if (dt_w (dw_or (dt_notB (de_call F_is_button_prices (hr.mono (by decide)) (glK (by kernel_rfl)) (takes_of rfl rfl rfl rfl) (da_cons (dv 2) (da_cons (dv 3) (da_cons (dv 8) da_nil))))) (dw_or1 (dt_notB (de_call F_is_button_prices (hr.mono (by decide)) (glK (by kernel_rfl)) (takes_of rfl rfl rfl rfl) (da_cons (dv 2) (da_cons (dv 3) (da_cons (de_list T.n_list (dv 8)) da_nil)))))))) (dss_one (ds_ret (Γ' := []) de_bl (by kernel_rfl))) dss_nil)
    (dss_cons (ds_set (i := 9) sc_law.nd (by kernel_rfl) (locK (by kernel_rfl)) (by kernel_rfl) (de_call F__law_row (hr.mono (by decide)) (glK (by kernel_rfl)) (takes_of rfl rfl rfl rfl) (da_cons (de_call F__law_at (hr.mono (by decide)) (glK (by kernel_rfl)) (takes_of rfl rfl rfl rfl) (da_cons (dv 0) (da_cons de_int da_nil))) (da_cons de_int (da_cons de_int da_nil)))) (by kernel_rfl) (by kernel_rfl) (fnK (by kernel_rfl)))
    (dss_cons (ds_own (i := 10) sc_law.nd (by kernel_rfl) (locK (by kernel_rfl)) (by kernel_rfl) (de_lst da_nil (by kernel_rfl) (hl := (len_big len_nil (by decide)))) (by kernel_rfl) (fnK (by kernel_rfl)))
    (dss_cons (ds_if (dt_truth (dv 2)) (dss_cons (ds_set (i := 11) sc_law.nd (by kernel_rfl) (locK (by kernel_rfl)) (by kernel_rfl) (de_bin op_modN os_mod (de_ix ix_any os_ix (dv 9) de_int (fun _ _ => rfl)) (de_len T.n_len (dv 2))) (by kernel_rfl) (by kernel_rfl) (fnK (by kernel_rfl)))
    (dss_one (ds_wk (ks := [0, 1, 5, 7, 12, 13, 14]) (by kernel_rfl) (ds_nox (ds_for rfl rfl (di_l true (de_lst (da_cons de_int (da_cons (de_bin op_sub os_sub de_int de_int) da_nil)) (by kernel_rfl) (hl := (len_big (len_cons (len_cons len_nil)) (by decide)))) (fun _ => rfl)) (dg_var sc_law.nd (by kernel_rfl) (locK (by kernel_rfl)) (by kernel_rfl) (fnK (by kernel_rfl))) (dss_wkp (ks := [0, 1, 5, 7, 12, 13, 14]) (by kernel_rfl) (dss_one (ds_append (i := 10) (by kernel_rfl) (vis_of (by kernel_rfl)) (by kernel_rfl) (de_tup (da_cons (de_bin op_addD os_add (de_bin op_addD os_add (de_slice (de_ix ix_any os_ix (dv 8) de_int (fun _ _ => rfl)) do_none (do_some (dv 11))) (de_tup (da_cons (de_bin op_addD os_add (de_ix ix_any os_ix (de_ix ix_any os_ix (dv 8) de_int (fun _ _ => rfl)) (dv 11) (fun _ _ => rfl)) (dv 12)) da_nil) (by kernel_rfl) (hl := (len_big (len_cons len_nil) (by decide))))) (de_slice (de_ix ix_any os_ix (dv 8) de_int (fun _ _ => rfl)) (do_some (de_bin op_addD os_add (dv 11) de_int)) do_none)) (da_cons (de_ix ix_any os_ix (dv 8) de_int (fun _ _ => rfl)) da_nil)) (by kernel_rfl) (hl := (len_big (len_cons (len_cons len_nil)) (by decide)))) (by kernel_rfl))))))))) dss_nil)
    (dss_cons (ds_if (dt_truth (dv 3)) (dss_cons (ds_set (i := 11) sc_law.nd (by kernel_rfl) (locK (by kernel_rfl)) (by kernel_rfl) (de_bin op_modN os_mod (de_ix ix_any os_ix (dv 9) de_int (fun _ _ => rfl)) (de_len T.n_len (dv 3))) (by kernel_rfl) (by kernel_rfl) (fnK (by kernel_rfl)))
    (dss_one (ds_wk (ks := [0, 1, 5, 7, 9, 12, 13, 14]) (by kernel_rfl) (ds_nox (ds_for rfl rfl (di_l true (de_lst (da_cons de_int (da_cons (de_bin op_sub os_sub de_int de_int) da_nil)) (by kernel_rfl) (hl := (len_big (len_cons (len_cons len_nil)) (by decide)))) (fun _ => rfl)) (dg_var sc_law.nd (by kernel_rfl) (locK (by kernel_rfl)) (by kernel_rfl) (fnK (by kernel_rfl))) (dss_wkp (ks := [0, 1, 5, 7, 9, 12, 13, 14]) (by kernel_rfl) (dss_one (ds_append (i := 10) (by kernel_rfl) (vis_of (by kernel_rfl)) (by kernel_rfl) (de_tup (da_cons (de_ix ix_any os_ix (dv 8) de_int (fun _ _ => rfl)) (da_cons (de_bin op_addD os_add (de_bin op_addD os_add (de_slice (de_ix ix_any os_ix (dv 8) de_int (fun _ _ => rfl)) do_none (do_some (dv 11))) (de_tup (da_cons (de_bin op_addD os_add (de_ix ix_any os_ix (de_ix ix_any os_ix (dv 8) de_int (fun _ _ => rfl)) (dv 11) (fun _ _ => rfl)) (dv 12)) da_nil) (by kernel_rfl) (hl := (len_big (len_cons len_nil) (by decide))))) (de_slice (de_ix ix_any os_ix (dv 8) de_int (fun _ _ => rfl)) (do_some (de_bin op_addD os_add (dv 11) de_int)) do_none)) da_nil)) (by kernel_rfl) (hl := (len_big (len_cons (len_cons len_nil)) (by decide)))) (by kernel_rfl))))))))) dss_nil)
    (dss_cons (ds_append (i := 10) (by kernel_rfl) (vis_of (by kernel_rfl)) (by kernel_rfl) (de_tup (da_cons (de_tuple T.n_tuple (de_lc (own := [("one", 16)]) rfl sc_law.nd (di_l false (de_ix ix_any os_ix (dv 8) de_int (fun _ _ => rfl)) (fun z => nomatch z)) (blkOk_by (by kernel_rfl)) (by kernel_rfl) (by kernel_rfl) (fun _ _ _ _ _ => (dg_var sc_law.nd (by kernel_rfl) (locK (by kernel_rfl)) (by kernel_rfl) (fnK (by kernel_rfl)))) (fun _ _ _ _ _ => dts_nil) (fun _ _ _ _ _ => (de_bin op_addD os_add (dv 16) de_int)) (by kernel_rfl))) (da_cons (de_tuple T.n_tuple (de_lc (own := [("one", 16)]) rfl sc_law.nd (di_l false (de_ix ix_any os_ix (dv 8) de_int (fun _ _ => rfl)) (fun z => nomatch z)) (blkOk_by (by kernel_rfl)) (by kernel_rfl) (by kernel_rfl) (fun _ _ _ _ _ => (dg_var sc_law.nd (by kernel_rfl) (locK (by kernel_rfl)) (by kernel_rfl) (fnK (by kernel_rfl)))) (fun _ _ _ _ _ => dts_nil) (fun _ _ _ _ _ => (de_bin op_addD os_add (dv 16) de_int)) (by kernel_rfl))) da_nil)) (by kernel_rfl) (hl := (len_big (len_cons (len_cons len_nil)) (by decide)))) (by kernel_rfl))
    (dss_cons (ds_pre (Γ1 := []) (by kernel_rfl) (ds_wk (ks := [0, 1, 5, 7, 8, 9, 11, 12, 13, 14]) (by kernel_rfl) (ds_nox (ds_for rfl rfl (di_l true (dv 10) (fun _ => rfl)) (dg_var sc_law.nd (by kernel_rfl) (locK (by kernel_rfl)) (by kernel_rfl) (fnK (by kernel_rfl))) (dss_wkp (ks := [0, 1, 5, 7, 8, 9, 11, 12, 13, 14]) (by kernel_rfl) (dss_cons (ds_set (i := 14) sc_law.nd (by kernel_rfl) (locK (by kernel_rfl)) (by kernel_rfl) (de_call F__law_are_prices (hr.mono (by decide)) (glK (by kernel_rfl)) takes0 (da_cons (dv 2) (da_cons (dv 3) (da_cons (dv 13) da_nil)))) (by kernel_rfl) (by kernel_rfl) (fnK (by kernel_rfl)))
    (dss_cons (ds_if (dt_w (dw_and (dt_truth (dv 14)) (dw_and1 (dt_cmp op_gt os_cmp (de_bin op_sub os_sub (de_sum rfl T.n_sum (de_ix ix_any os_ix (dv 13) de_int (fun _ _ => rfl))) (de_sum rfl T.n_sum (de_ix ix_any os_ix (dv 13) de_int (fun _ _ => rfl)))) (dv 4) (nomark _) bl_cmp)))) (dss_one (ds_ret (Γ' := []) de_bl (by kernel_rfl))) dss_nil)
    (dss_one (ds_if (dt_not (dt_truth (de_call F__law_flag (hr.mono (by decide)) (glK (by kernel_rfl)) takes0 (da_cons (de_call F_is_button_prices (hr.mono (by decide)) (glK (by kernel_rfl)) takes0 (da_cons (dv 2) (da_cons (dv 3) (da_cons (dv 13) da_nil)))) (da_cons (de_and (dv 14) (de_one (de_sh (de_cmp (op_eqA (u64 hr)) os_eq (de_bin op_sub os_sub (de_sum rfl T.n_sum (de_ix ix_any os_ix (dv 13) de_int (fun _ _ => rfl))) (de_sum rfl T.n_sum (de_ix ix_any os_ix (dv 13) de_int (fun _ _ => rfl)))) (dv 4) (nomark _))))) da_nil))))) (dss_one (ds_ret (Γ' := []) de_bl (by kernel_rfl))) dss_nil)))))))))
    (dss_cons (ds_wk (ks := [0, 1, 4, 5, 7, 8, 9, 10, 11, 12, 13, 14]) (by kernel_rfl) (ds_nox (ds_for rfl rfl (di_l true (de_lst (da_cons de_non (da_cons (de_list T.n_list (dv 6)) (da_cons (de_bin op_addD os_add (dv 6) (de_tup (da_cons de_int da_nil) (by kernel_rfl) (hl := (len_big (len_cons len_nil) (by decide))))) (da_cons (de_bin op_addD os_add (de_repT (de_tup (da_cons (de_len T.n_len (dv 3)) da_nil) (by kernel_rfl) (hl := (len_big (len_cons len_nil) (by decide)))) (de_len T.n_len (dv 2))) (de_tup (da_cons de_int da_nil) (by kernel_rfl) (hl := (len_big (len_cons len_nil) (by decide))))) da_nil)))) (by kernel_rfl) (hl := (len_big (len_cons (len_cons (len_cons (len_cons len_nil)))) (by decide)))) (fun _ => rfl)) (dg_var sc_law.nd (by kernel_rfl) (locK (by kernel_rfl)) (by kernel_rfl) (fnK (by kernel_rfl))) (dss_wkp (ks := [0, 1, 4, 5, 7, 8, 9, 10, 11, 12, 13, 14]) (by kernel_rfl) (dss_one (ds_if (dt_w (dw_or (dt_notB (de_call F_is_pairing (hr.mono (by decide)) (glK (by kernel_rfl)) takes0 (da_cons (dv 2) (da_cons (dv 3) (da_cons (dv 13) da_nil))))) (dw_or1 (dt_cmp (op_neA (u64 hr)) os_ne (de_call F__law_word (hr.mono (by decide)) (glK (by kernel_rfl)) takes0 (da_cons (dv 2) (da_cons (dv 3) (da_cons (dv 13) da_nil)))) (de_str (by decide)) (nomark _) bl_ne)))) (dss_one (ds_ret (Γ' := []) de_bl (by kernel_rfl))) dss_nil))))))
    (dss_cons (ds_wk (ks := [0, 1, 2, 3, 4, 5, 6, 7, 8, 9, 10, 11, 12, 13, 14]) (by kernel_rfl) (ds_nox (ds_for rfl rfl (di_l true (de_lst (da_cons de_non (da_cons (de_lst (da_cons de_int da_nil) (by kernel_rfl) (hl := (len_big (len_cons len_nil) (by decide)))) (da_cons (de_tup (da_cons (de_bin op_sub os_sub de_int de_int) da_nil) (by kernel_rfl) (hl := (len_big (len_cons len_nil) (by decide)))) (da_cons (de_tup (da_cons de_int da_nil) (by kernel_rfl) (hl := (len_big (len_cons len_nil) (by decide)))) (da_cons (de_tup (da_cons de_int (da_cons de_int da_nil)) (by kernel_rfl) (hl := (len_big (len_cons (len_cons len_nil)) (by decide)))) (da_cons (de_tup (da_cons de_bl da_nil) (by kernel_rfl) (hl := (len_big (len_cons len_nil) (by decide)))) (da_cons (de_repT (de_tup (da_cons de_int da_nil) (by kernel_rfl) (hl := (len_big (len_cons len_nil) (by decide)))) de_int) (da_cons (de_str (by decide)) da_nil)))))))) (by kernel_rfl) (hl := (len_big (len_cons (len_cons (len_cons (len_cons (len_cons (len_cons (len_cons (len_cons len_nil)))))))) (by decide)))) (fun _ => rfl)) (dg_var sc_law.nd (by kernel_rfl) (locK (by kernel_rfl)) (by kernel_rfl) (fnK (by kernel_rfl))) (dss_wkp (ks := [0, 1, 2, 3, 4, 5, 6, 7, 8, 9, 10, 11, 12, 13, 14]) (by kernel_rfl) (dss_one (ds_if (dt_w (dw_or (dt_cmp (op_neA (u64 hr)) os_ne (de_call F__law_word (hr.mono (by decide)) (glK (by kernel_rfl)) takes0 (da_cons (dv 13) (da_cons (de_repT (de_tup (da_cons de_int da_nil) (by kernel_rfl) (hl := (len_big (len_cons len_nil) (by decide)))) de_int) (da_cons (de_str (by decide)) da_nil)))) (de_str (by decide)) (nomark _) bl_ne) (dw_or1 (dt_cmp (op_neA (u64 hr)) os_ne (de_call F__law_word (hr.mono (by decide)) (glK (by kernel_rfl)) takes0 (da_cons (dv 13) (da_cons (de_repT (de_tup (da_cons de_int da_nil) (by kernel_rfl) (hl := (len_big (len_cons len_nil) (by decide)))) de_int) (da_cons de_non da_nil)))) (de_str (by decide)) (nomark _) bl_ne)))) (dss_one (ds_ret (Γ' := []) de_bl (by kernel_rfl))) dss_nil))))))
    (dss_one (ds_ret (Γ' := []) (de_and (de_sh (de_all rfl T.n_all (de_lc (own := [("thing", 13)]) rfl sc_law.nd (di_l false (de_lst (da_cons de_non (da_cons (de_lst (da_cons de_int da_nil) (by kernel_rfl) (hl := (len_big (len_cons len_nil) (by decide)))) (da_cons (de_tup (da_cons de_int (da_cons de_int da_nil)) (by kernel_rfl) (hl := (len_big (len_cons (len_cons len_nil)) (by decide)))) (da_cons (de_repT (de_tup (da_cons de_int da_nil) (by kernel_rfl) (hl := (len_big (len_cons len_nil) (by decide)))) de_int) da_nil)))) (by kernel_rfl) (hl := (len_big (len_cons (len_cons (len_cons (len_cons len_nil)))) (by decide)))) (fun z => nomatch z)) (blkOk_by (by kernel_rfl)) (by kernel_rfl) (by kernel_rfl) (fun _ _ _ _ _ => (dg_var sc_law.nd (by kernel_rfl) (locK (by kernel_rfl)) (by kernel_rfl) (fnK (by kernel_rfl)))) (fun _ _ _ _ _ => dts_nil) (fun _ _ _ _ _ => (de_cmp (op_eqA (u64 hr)) os_eq (de_call F__law_word (hr.mono (by decide)) (glK (by kernel_rfl)) takes0 (da_cons (de_tup da_nil (by kernel_rfl) (hl := (len_big len_nil (by decide)))) (da_cons (dv 13) (da_cons (de_str (by decide)) da_nil)))) (de_str (by decide)) (nomark _))) (by kernel_rfl)))) (de_one (de_sh (de_cmp (op_eqA (u64 hr)) os_eq (de_call F__law_word (hr.mono (by decide)) (glK (by kernel_rfl)) (takes_of rfl rfl rfl rfl) (da_cons (de_tup (da_cons de_int (da_cons de_int da_nil)) (by kernel_rfl) (hl := (len_big (len_cons (len_cons len_nil)) (by decide)))) (da_cons (de_tup (da_cons de_int da_nil) (by kernel_rfl) (hl := (len_big (len_cons len_nil) (by decide)))) (da_cons de_non da_nil)))) (de_str (by decide)) (nomark _))))) (by kernel_rfl))))))))))))))))))))))))))) rfl
end
/-! ### the head -/
def d_is_integer : He.DefD := ⟨("is_integer", none), "is_integer", "is_integer", defArgs s_is_integer, defBody s_is_integer, defScope s_is_integer, [], []⟩
def d_is_between : He.DefD := ⟨("is_between", none), "is_between", "is_between", defArgs s_is_between, defBody s_is_between, defScope s_is_between, [], []⟩
def d_is_under : He.DefD := ⟨("is_under", none), "is_under", "is_under", defArgs s_is_under, defBody s_is_under, defScope s_is_under, [], []⟩
def d_is_tuple_of : He.DefD := ⟨("is_tuple_of", none), "is_tuple_of", "is_tuple_of", defArgs s_is_tuple_of, defBody s_is_tuple_of, defScope s_is_tuple_of, [], []⟩
def d_unlike : He.DefD := ⟨("unlike", none), "unlike", "unlike", defArgs s_unlike, defBody s_unlike, defScope s_unlike, [], []⟩
def d_are_places : He.DefD := ⟨("are_places", none), "are_places", "are_places", defArgs s_are_places, defBody s_are_places, defScope s_are_places, [], []⟩
def d_need_fronts : He.DefD := ⟨("need_fronts", none), "need_fronts", "need_fronts", defArgs s_need_fronts, defBody s_need_fronts, defScope s_need_fronts, [], []⟩
def d_is_pairing_of : He.DefD := ⟨("is_pairing_of", none), "is_pairing_of", "is_pairing_of", defArgs s_is_pairing_of, defBody s_is_pairing_of, defScope s_is_pairing_of, [], []⟩
def d_is_pairing : He.DefD := ⟨("is_pairing", none), "is_pairing", "is_pairing", defArgs s_is_pairing, defBody s_is_pairing, defScope s_is_pairing, [], []⟩
def d_cost_of : He.DefD := ⟨("cost_of", none), "cost_of", "cost_of", defArgs s_cost_of, defBody s_cost_of, defScope s_cost_of, [], []⟩
def d_pairing_cost : He.DefD := ⟨("pairing_cost", none), "pairing_cost", "pairing_cost", defArgs s_pairing_cost, defBody s_pairing_cost, defScope s_pairing_cost, [], []⟩
def d_table_of : He.DefD := ⟨("table_of", none), "table_of", "table_of", defArgs s_table_of, defBody s_table_of, defScope s_table_of, [], []⟩
def d_best_pairing : He.DefD := ⟨("best_pairing", none), "best_pairing", "best_pairing", defArgs s_best_pairing, defBody s_best_pairing, defScope s_best_pairing, [], []⟩
def d_button_best : He.DefD := ⟨("button_best", none), "button_best", "button_best", defArgs s_button_best, defBody s_button_best, defScope s_button_best, [], []⟩
def d_button_least : He.DefD := ⟨("button_least", none), "button_least", "button_least", defArgs s_button_least, defBody s_button_least, defScope s_button_least, [], []⟩
def d_is_button_best : He.DefD := ⟨("is_button_best", none), "is_button_best", "is_button_best", defArgs s_is_button_best, defBody s_is_button_best, defScope s_is_button_best, [], []⟩
def d_are_prices : He.DefD := ⟨("are_prices", none), "are_prices", "are_prices", defArgs s_are_prices, defBody s_are_prices, defScope s_are_prices, [], []⟩
def d_raised : He.DefD := ⟨("raised", none), "raised", "raised", defArgs s_raised, defBody s_raised, defScope s_raised, [], []⟩
def d_button_prices : He.DefD := ⟨("button_prices", none), "button_prices", "button_prices", defArgs s_button_prices, defBody s_button_prices, defScope s_button_prices, [], []⟩
def d_is_button_prices : He.DefD := ⟨("is_button_prices", none), "is_button_prices", "is_button_prices", defArgs s_is_button_prices, defBody s_is_button_prices, defScope s_is_button_prices, [], []⟩
def d__law_whole : He.DefD := ⟨("_law_whole", none), "_law_whole", "_law_whole", defArgs s__law_whole, defBody s__law_whole, defScope s__law_whole, [], []⟩
def d__law_mixed : He.DefD := ⟨("_law_mixed", none), "_law_mixed", "_law_mixed", defArgs s__law_mixed, defBody s__law_mixed, defScope s__law_mixed, [], []⟩
def d__law_row : He.DefD := ⟨("_law_row", none), "_law_row", "_law_row", defArgs s__law_row, defBody s__law_row, defScope s__law_row, [], []⟩
def d__law_at : He.DefD := ⟨("_law_at", none), "_law_at", "_law_at", defArgs s__law_at, defBody s__law_at, defScope s__law_at, [], []⟩
def d__law_places : He.DefD := ⟨("_law_places", none), "_law_places", "_law_places", defArgs s__law_places, defBody s__law_places, defScope s__law_places, [], []⟩
def d__law_fronts : He.DefD := ⟨("_law_fronts", none), "_law_fronts", "_law_fronts", defArgs s__law_fronts, defBody s__law_fronts, defScope s__law_fronts, [], []⟩
def d__law_paired : He.DefD := ⟨("_law_paired", none), "_law_paired", "_law_paired", defArgs s__law_paired, defBody s__law_paired, defScope s__law_paired, [], []⟩
def d__law_order : He.DefD := ⟨("_law_order", none), "_law_order", "_law_order", defArgs s__law_order, defBody s__law_order, defScope s__law_order, [], []⟩
def d__law_flag : He.DefD := ⟨("_law_flag", none), "_law_flag", "_law_flag", defArgs s__law_flag, defBody s__law_flag, defScope s__law_flag, [], []⟩
def d__law_table : He.DefD := ⟨("_law_table", none), "_law_table", "_law_table", defArgs s__law_table, defBody s__law_table, defScope s__law_table, [], []⟩
def d__law_are_prices : He.DefD := ⟨("_law_are_prices", none), "_law_are_prices", "_law_are_prices", defArgs s__law_are_prices, defBody s__law_are_prices, defScope s__law_are_prices, [], []⟩
def d__law_word : He.DefD := ⟨("_law_word", none), "_law_word", "_law_word", defArgs s__law_word, defBody s__law_word, defScope s__law_word, [], []⟩
def d_law : He.DefD := ⟨("law", none), "law", "law", defArgs s_law, defBody s_law, defScope s_law, [], []⟩
def fn : List He.DefD := [d_is_integer, d_is_between, d_is_under, d_is_tuple_of, d_unlike, d_are_places, d_need_fronts, d_is_pairing_of, d_is_pairing, d_cost_of, d_pairing_cost, d_table_of, d_best_pairing, d_button_best, d_button_least, d_is_button_best, d_are_prices, d_raised, d_button_prices, d_is_button_prices, d__law_whole, d__law_mixed, d__law_row, d__law_at, d__law_places, d__law_fronts, d__law_paired, d__law_order, d__law_flag, d__law_table, d__law_are_prices, d__law_word, d_law]
def fa : List He.Fa := [.int "MOST_BUTTONS" 8, .int "MOST_HOLES" 10, .int "MOST_PLACE" 200, .int "MOST_PRICE" 1000, .keep "law", .keep "law", .keep "law", .keep "law", .keep "law", .keep "law", .free "abs", .free "all", .free "any", .free "bool", .free "enumerate", .free "int", .free "isinstance", .free "len", .free "list", .free "min", .free "range", .free "set", .free "sorted", .free "sum", .free "tuple", .free "zip", .exc "NoButtons", .exc "NoPlan", .glo "is_integer", .glo "is_between", .glo "is_under", .glo "is_tuple_of", .glo "unlike", .glo "are_places", .glo "need_fronts", .glo "is_pairing_of", .glo "is_pairing", .glo "cost_of", .glo "pairing_cost", .glo "table_of", .glo "best_pairing", .glo "button_best", .glo "button_least", .glo "is_button_best", .glo "are_prices", .glo "raised", .glo "button_prices", .glo "is_button_prices", .glo "_law_whole", .glo "_law_mixed", .glo "_law_row", .glo "_law_at", .glo "_law_places", .glo "_law_fronts", .glo "_law_paired", .glo "_law_order", .glo "_law_flag", .glo "_law_table", .glo "_law_are_prices", .glo "_law_word", .glo "law", .glo "NoButtons", .glo "NoPlan", .glo "NeedleError"]
def exF (K : PySem.W.Frag) : Bool := isB K "NoButtons" "NoButtons" true && (isB K "NoButtons" "NoPlan" false && (isB K "NoPlan" "NoButtons" false && (isB K "NoPlan" "NoPlan" true && (catB K "NoButtons" "NeedleError" && (catB K "NoPlan" "NeedleError" && (true))))))
theorem facts {P : Program} {w : World} {K : PySem.W.Frag} {h : Heap} {mg : MG} {f : Addr} (X : K.In h) (G : h.Ns mainGlobals mg) (hfa : mg ("law" : Str) = some (.ref f)) (c : He.SaysD fa fn K) (ex : exF K = true) :
    ∃ fd : FuncData, (∀ (s : Shared) (v : Value), BindsTo s fd ⟨[v], []⟩ [("script", v)]) ∧ ∀ base : Heap, K.In base → base.Ns mainGlobals mg → FnOk P w K mg base (L2.CX P w) 7 f fd ["script"] (spD K mg 1 f_law) := by
  unfold exF at ex
  simp only [Bool.and_eq_true] at ex
  obtain ⟨ex0, ex1, ex2, ex3, ex4, ex5, _⟩ := ex
  have T : Tp K mg := {
    c_MOST_BUTTONS := He.int_ok X G (c.fact 0 (f := .int "MOST_BUTTONS" 8) rfl)
    c_MOST_HOLES := He.int_ok X G (c.fact 1 (f := .int "MOST_HOLES" 10) rfl)
    c_MOST_PLACE := He.int_ok X G (c.fact 2 (f := .int "MOST_PLACE" 200) rfl)
    c_MOST_PRICE := He.int_ok X G (c.fact 3 (f := .int "MOST_PRICE" 1000) rfl)
    i_NoButtons__NoButtons__true := isE_of X G (c.fact 61 (f := .glo "NoButtons") rfl) (c.fact 61 (f := .glo "NoButtons") rfl) ex0
    i_NoButtons__NoPlan__false := isE_of X G (c.fact 61 (f := .glo "NoButtons") rfl) (c.fact 62 (f := .glo "NoPlan") rfl) ex1
    i_NoPlan__NoButtons__false := isE_of X G (c.fact 62 (f := .glo "NoPlan") rfl) (c.fact 61 (f := .glo "NoButtons") rfl) ex2
    i_NoPlan__NoPlan__true := isE_of X G (c.fact 62 (f := .glo "NoPlan") rfl) (c.fact 62 (f := .glo "NoPlan") rfl) ex3
    k_NoButtons__NeedleError := cat_of X G (c.fact 61 (f := .glo "NoButtons") rfl) (c.fact 63 (f := .glo "NeedleError") rfl) ex4
    k_NoPlan__NeedleError := cat_of X G (c.fact 62 (f := .glo "NoPlan") rfl) (c.fact 63 (f := .glo "NeedleError") rfl) ex5
    n_abs := He.free_ok X G (c.fact 10 (f := .free "abs") rfl)
    n_all := He.free_ok X G (c.fact 11 (f := .free "all") rfl)
    n_any := He.free_ok X G (c.fact 12 (f := .free "any") rfl)
    n_bool := He.free_ok X G (c.fact 13 (f := .free "bool") rfl)
    n_enumerate := He.free_ok X G (c.fact 14 (f := .free "enumerate") rfl)
    n_int := He.free_ok X G (c.fact 15 (f := .free "int") rfl)
    n_isinstance := He.free_ok X G (c.fact 16 (f := .free "isinstance") rfl)
    n_len := He.free_ok X G (c.fact 17 (f := .free "len") rfl)
    n_list := He.free_ok X G (c.fact 18 (f := .free "list") rfl)
    n_min := He.free_ok X G (c.fact 19 (f := .free "min") rfl)
    n_range := He.free_ok X G (c.fact 20 (f := .free "range") rfl)
    n_set := He.free_ok X G (c.fact 21 (f := .free "set") rfl)
    n_sorted := He.free_ok X G (c.fact 22 (f := .free "sorted") rfl)
    n_sum := He.free_ok X G (c.fact 23 (f := .free "sum") rfl)
    n_tuple := He.free_ok X G (c.fact 24 (f := .free "tuple") rfl)
    n_zip := He.free_ok X G (c.fact 25 (f := .free "zip") rfl)
    x_NoButtons := exn_of X G (c.fact 26 (f := .exc "NoButtons") rfl) (c.fact 61 (f := .glo "NoButtons") rfl)
    x_NoPlan := exn_of X G (c.fact 27 (f := .exc "NoPlan") rfl) (c.fact 62 (f := .glo "NoPlan") rfl) }
  obtain ⟨fd_is_integer, F_is_integer⟩ := c.def_ 0 (d := d_is_integer) rfl
  have m_is_integer := He.glo_ok X G (c.fact 28 (f := .glo "is_integer") rfl)
  obtain ⟨fd_is_between, F_is_between⟩ := c.def_ 1 (d := d_is_between) rfl
  have m_is_between := He.glo_ok X G (c.fact 29 (f := .glo "is_between") rfl)
  obtain ⟨fd_is_under, F_is_under⟩ := c.def_ 2 (d := d_is_under) rfl
  have m_is_under := He.glo_ok X G (c.fact 30 (f := .glo "is_under") rfl)
  obtain ⟨fd_is_tuple_of, F_is_tuple_of⟩ := c.def_ 3 (d := d_is_tuple_of) rfl
  have m_is_tuple_of := He.glo_ok X G (c.fact 31 (f := .glo "is_tuple_of") rfl)
  obtain ⟨fd_unlike, F_unlike⟩ := c.def_ 4 (d := d_unlike) rfl
  have m_unlike := He.glo_ok X G (c.fact 32 (f := .glo "unlike") rfl)
  obtain ⟨fd_are_places, F_are_places⟩ := c.def_ 5 (d := d_are_places) rfl
  have m_are_places := He.glo_ok X G (c.fact 33 (f := .glo "are_places") rfl)
  obtain ⟨fd_need_fronts, F_need_fronts⟩ := c.def_ 6 (d := d_need_fronts) rfl
  have m_need_fronts := He.glo_ok X G (c.fact 34 (f := .glo "need_fronts") rfl)
  obtain ⟨fd_is_pairing_of, F_is_pairing_of⟩ := c.def_ 7 (d := d_is_pairing_of) rfl
  have m_is_pairing_of := He.glo_ok X G (c.fact 35 (f := .glo "is_pairing_of") rfl)
  obtain ⟨fd_is_pairing, F_is_pairing⟩ := c.def_ 8 (d := d_is_pairing) rfl
  have m_is_pairing := He.glo_ok X G (c.fact 36 (f := .glo "is_pairing") rfl)
  obtain ⟨fd_cost_of, F_cost_of⟩ := c.def_ 9 (d := d_cost_of) rfl
  have m_cost_of := He.glo_ok X G (c.fact 37 (f := .glo "cost_of") rfl)
  obtain ⟨fd_pairing_cost, F_pairing_cost⟩ := c.def_ 10 (d := d_pairing_cost) rfl
  have m_pairing_cost := He.glo_ok X G (c.fact 38 (f := .glo "pairing_cost") rfl)
  obtain ⟨fd_table_of, F_table_of⟩ := c.def_ 11 (d := d_table_of) rfl
  have m_table_of := He.glo_ok X G (c.fact 39 (f := .glo "table_of") rfl)
  obtain ⟨fd_best_pairing, F_best_pairing⟩ := c.def_ 12 (d := d_best_pairing) rfl
  have m_best_pairing := He.glo_ok X G (c.fact 40 (f := .glo "best_pairing") rfl)
  obtain ⟨fd_button_best, F_button_best⟩ := c.def_ 13 (d := d_button_best) rfl
  have m_button_best := He.glo_ok X G (c.fact 41 (f := .glo "button_best") rfl)
  obtain ⟨fd_button_least, F_button_least⟩ := c.def_ 14 (d := d_button_least) rfl
  have m_button_least := He.glo_ok X G (c.fact 42 (f := .glo "button_least") rfl)
  obtain ⟨fd_is_button_best, F_is_button_best⟩ := c.def_ 15 (d := d_is_button_best) rfl
  have m_is_button_best := He.glo_ok X G (c.fact 43 (f := .glo "is_button_best") rfl)
  obtain ⟨fd_are_prices, F_are_prices⟩ := c.def_ 16 (d := d_are_prices) rfl
  have m_are_prices := He.glo_ok X G (c.fact 44 (f := .glo "are_prices") rfl)
  obtain ⟨fd_raised, F_raised⟩ := c.def_ 17 (d := d_raised) rfl
  have m_raised := He.glo_ok X G (c.fact 45 (f := .glo "raised") rfl)
  obtain ⟨fd_button_prices, F_button_prices⟩ := c.def_ 18 (d := d_button_prices) rfl
  have m_button_prices := He.glo_ok X G (c.fact 46 (f := .glo "button_prices") rfl)
  obtain ⟨fd_is_button_prices, F_is_button_prices⟩ := c.def_ 19 (d := d_is_button_prices) rfl
  have m_is_button_prices := He.glo_ok X G (c.fact 47 (f := .glo "is_button_prices") rfl)
  obtain ⟨fd__law_whole, F__law_whole⟩ := c.def_ 20 (d := d__law_whole) rfl
  have m__law_whole := He.glo_ok X G (c.fact 48 (f := .glo "_law_whole") rfl)
  obtain ⟨fd__law_mixed, F__law_mixed⟩ := c.def_ 21 (d := d__law_mixed) rfl
  have m__law_mixed := He.glo_ok X G (c.fact 49 (f := .glo "_law_mixed") rfl)
  obtain ⟨fd__law_row, F__law_row⟩ := c.def_ 22 (d := d__law_row) rfl
  have m__law_row := He.glo_ok X G (c.fact 50 (f := .glo "_law_row") rfl)
  obtain ⟨fd__law_at, F__law_at⟩ := c.def_ 23 (d := d__law_at) rfl
  have m__law_at := He.glo_ok X G (c.fact 51 (f := .glo "_law_at") rfl)
  obtain ⟨fd__law_places, F__law_places⟩ := c.def_ 24 (d := d__law_places) rfl
  have m__law_places := He.glo_ok X G (c.fact 52 (f := .glo "_law_places") rfl)
  obtain ⟨fd__law_fronts, F__law_fronts⟩ := c.def_ 25 (d := d__law_fronts) rfl
  have m__law_fronts := He.glo_ok X G (c.fact 53 (f := .glo "_law_fronts") rfl)
  obtain ⟨fd__law_paired, F__law_paired⟩ := c.def_ 26 (d := d__law_paired) rfl
  have m__law_paired := He.glo_ok X G (c.fact 54 (f := .glo "_law_paired") rfl)
  obtain ⟨fd__law_order, F__law_order⟩ := c.def_ 27 (d := d__law_order) rfl
  have m__law_order := He.glo_ok X G (c.fact 55 (f := .glo "_law_order") rfl)
  obtain ⟨fd__law_flag, F__law_flag⟩ := c.def_ 28 (d := d__law_flag) rfl
  have m__law_flag := He.glo_ok X G (c.fact 56 (f := .glo "_law_flag") rfl)
  obtain ⟨fd__law_table, F__law_table⟩ := c.def_ 29 (d := d__law_table) rfl
  have m__law_table := He.glo_ok X G (c.fact 57 (f := .glo "_law_table") rfl)
  obtain ⟨fd__law_are_prices, F__law_are_prices⟩ := c.def_ 30 (d := d__law_are_prices) rfl
  have m__law_are_prices := He.glo_ok X G (c.fact 58 (f := .glo "_law_are_prices") rfl)
  obtain ⟨fd__law_word, F__law_word⟩ := c.def_ 31 (d := d__law_word) rfl
  have m__law_word := He.glo_ok X G (c.fact 59 (f := .glo "_law_word") rfl)
  obtain ⟨fd_law, F_law⟩ := c.def_ 32 (d := d_law) rfl
  have m_law := He.glo_ok X G (c.fact 60 (f := .glo "law") rfl)
  have e := hfa.symm.trans m_law
  cases e
  have b := FunD.bindsA (ps := ["script"]) F_law fun _ _ _ _ _ _ us hl => match us, hl with | [_], _ => rfl
  refine ⟨fd_law, fun s v => b s [v] rfl, fun base _ _ => ?_⟩
  have G_is_integer := ok_is_integer (P := P) (w := w) (base := base) T  F_is_integer m_is_integer
  have G_is_between := ok_is_between (P := P) (w := w) (base := base) T G_is_integer F_is_between m_is_between
  have G_is_under := ok_is_under (P := P) (w := w) (base := base) T G_is_integer F_is_under m_is_under
  have G_is_tuple_of := ok_is_tuple_of (P := P) (w := w) (base := base) T  F_is_tuple_of m_is_tuple_of
  have G_unlike := ok_unlike (P := P) (w := w) (base := base) T  F_unlike m_unlike
  have G_are_places := ok_are_places (P := P) (w := w) (base := base) T G_is_between F_are_places m_are_places
  have G_need_fronts := ok_need_fronts (P := P) (w := w) (base := base) T G_are_places F_need_fronts m_need_fronts
  have G_is_pairing_of := ok_is_pairing_of (P := P) (w := w) (base := base) T G_is_tuple_of G_unlike G_is_under F_is_pairing_of m_is_pairing_of
  have G_is_pairing := ok_is_pairing (P := P) (w := w) (base := base) T G_need_fronts G_is_pairing_of F_is_pairing m_is_pairing
  have G_cost_of := ok_cost_of (P := P) (w := w) (base := base) T  F_cost_of m_cost_of
  have G_pairing_cost := ok_pairing_cost (P := P) (w := w) (base := base) T G_need_fronts G_cost_of G_is_pairing_of F_pairing_cost m_pairing_cost
  have G_table_of := ok_table_of (P := P) (w := w) (base := base) T  F_table_of m_table_of
  have G_best_pairing := ok_best_pairing (P := P) (w := w) (base := base) T G_table_of F_best_pairing m_best_pairing
  have G_button_best := ok_button_best (P := P) (w := w) (base := base) T G_need_fronts G_best_pairing F_button_best m_button_best
  have G_button_least := ok_button_least (P := P) (w := w) (base := base) T G_need_fronts G_table_of F_button_least m_button_least
  have G_is_button_best := ok_is_button_best (P := P) (w := w) (base := base) T G_need_fronts G_is_pairing_of G_cost_of G_table_of F_is_button_best m_is_button_best
  have G_are_prices := ok_are_prices (P := P) (w := w) (base := base) T G_is_tuple_of G_is_between F_are_prices m_are_prices
  have G_raised := ok_raised (P := P) (w := w) (base := base) T  F_raised m_raised
  have G_button_prices := ok_button_prices (P := P) (w := w) (base := base) T G_need_fronts G_best_pairing G_raised F_button_prices m_button_prices
  have G_is_button_prices := ok_is_button_prices (P := P) (w := w) (base := base) T G_need_fronts G_are_prices G_table_of F_is_button_prices m_is_button_prices
  have G__law_whole := ok__law_whole (P := P) (w := w) (base := base) T  F__law_whole m__law_whole
  have G__law_mixed := ok__law_mixed (P := P) (w := w) (base := base) T  F__law_mixed m__law_mixed
  have G__law_row := ok__law_row (P := P) (w := w) (base := base) T G__law_mixed F__law_row m__law_row
  have G__law_at := ok__law_at (P := P) (w := w) (base := base) T  F__law_at m__law_at
  have G__law_places := ok__law_places (P := P) (w := w) (base := base) T G__law_row F__law_places m__law_places
  have G__law_fronts := ok__law_fronts (P := P) (w := w) (base := base) T G__law_places G__law_row F__law_fronts m__law_fronts
  have G__law_paired := ok__law_paired (P := P) (w := w) (base := base) T  F__law_paired m__law_paired
  have G__law_order := ok__law_order (P := P) (w := w) (base := base) T G__law_row F__law_order m__law_order
  have G__law_flag := ok__law_flag (P := P) (w := w) (base := base) T  F__law_flag m__law_flag
  have G__law_table := ok__law_table (P := P) (w := w) (base := base) T  F__law_table m__law_table
  have G__law_are_prices := ok__law_are_prices (P := P) (w := w) (base := base) T G__law_whole F__law_are_prices m__law_are_prices
  have G__law_word := ok__law_word (P := P) (w := w) (base := base) T G_button_least G_pairing_cost F__law_word m__law_word
  exact ok_law T G__law_fronts G__law_table G_button_best G_button_prices G__law_row G__law_at G__law_order G__law_flag G__law_are_prices G_button_least G_is_button_best G_is_pairing G_pairing_cost G_is_button_prices G__law_word G__law_paired F_law
abbrev R : PySem.W.OpenRow := PySem.W.OpenLaw.row PySem.Challenge.rw_needlehouse_k74_whole_buttons_and_holes
abbrev hk : PySem.W.Hook := hookE 4 fa fn exF
def ob (s : PySem.W.SharedT) : AlE := obsEG 4 fa fn exF (HandSHeadRun.getT s)
theorem ob_eq (s : PySem.W.SharedT) : ob s = hk.obs s.abs := obsEG_eq (HandSHeadRun.getT_eq s)
theorem run (w : World) : HandSHeadRun.RunEq R (PySem.W.view R.prog [43]) hk ob 4000 (("NeedleError" : PySem.Str) :: ("NoButtons" : PySem.Str) :: ("NoPlan" : PySem.Str) :: ("is_integer" : PySem.Str) :: ("is_between" : PySem.Str) :: ("is_under" : PySem.Str) :: ("is_tuple_of" : PySem.Str) :: ("unlike" : PySem.Str) :: ("MOST_BUTTONS" : PySem.Str) :: ("MOST_HOLES" : PySem.Str) :: ("MOST_PLACE" : PySem.Str) :: ("MOST_PRICE" : PySem.Str) :: ("are_places" : PySem.Str) :: ("need_fronts" : PySem.Str) :: ("is_pairing_of" : PySem.Str) :: ("is_pairing" : PySem.Str) :: ("cost_of" : PySem.Str) :: ("pairing_cost" : PySem.Str) :: ("table_of" : PySem.Str) :: ("best_pairing" : PySem.Str) :: ("button_best" : PySem.Str) :: ("button_least" : PySem.Str) :: ("is_button_best" : PySem.Str) :: ("are_prices" : PySem.Str) :: ("raised" : PySem.Str) :: ("button_prices" : PySem.Str) :: ("is_button_prices" : PySem.Str) :: ("_law_whole" : PySem.Str) :: ("_law_mixed" : PySem.Str) :: ("_law_row" : PySem.Str) :: ("_law_at" : PySem.Str) :: ("_law_places" : PySem.Str) :: ("_law_fronts" : PySem.Str) :: ("_law_paired" : PySem.Str) :: ("_law_order" : PySem.Str) :: ("_law_flag" : PySem.Str) :: ("_law_table" : PySem.Str) :: ("_law_are_prices" : PySem.Str) :: ("_law_word" : PySem.Str) :: []) w := by
  intro os
  kernel_rfl
end K74.Wk
open PySem PySem.W PySem.Calls PyProof.Rows
theorem K74.holds (hlaw : ∀ ns : List Int, ns.length ≤ 63 → K74.f_law [.list (ns.map PyData.int)] = .ok (.bool true)) : PySem.Challenge.rw_needlehouse_k74_whole_buttons_and_holes.Holds := by
  w_on; o_law
  refine HandSHeadRun.head_any (r := OpenLaw.row PySem.Challenge.rw_needlehouse_k74_whole_buttons_and_holes) (q := view (OpenLaw.row PySem.Challenge.rw_needlehouse_k74_whole_buttons_and_holes).prog [43]) (H := K74.Wk.hk) (ob := K74.Wk.ob) (M := 4000) (loose := (("NeedleError" : PySem.Str) :: ("NoButtons" : PySem.Str) :: ("NoPlan" : PySem.Str) :: ("is_integer" : PySem.Str) :: ("is_between" : PySem.Str) :: ("is_under" : PySem.Str) :: ("is_tuple_of" : PySem.Str) :: ("unlike" : PySem.Str) :: ("MOST_BUTTONS" : PySem.Str) :: ("MOST_HOLES" : PySem.Str) :: ("MOST_PLACE" : PySem.Str) :: ("MOST_PRICE" : PySem.Str) :: ("are_places" : PySem.Str) :: ("need_fronts" : PySem.Str) :: ("is_pairing_of" : PySem.Str) :: ("is_pairing" : PySem.Str) :: ("cost_of" : PySem.Str) :: ("pairing_cost" : PySem.Str) :: ("table_of" : PySem.Str) :: ("best_pairing" : PySem.Str) :: ("button_best" : PySem.Str) :: ("button_least" : PySem.Str) :: ("is_button_best" : PySem.Str) :: ("are_prices" : PySem.Str) :: ("raised" : PySem.Str) :: ("button_prices" : PySem.Str) :: ("is_button_prices" : PySem.Str) :: ("_law_whole" : PySem.Str) :: ("_law_mixed" : PySem.Str) :: ("_law_row" : PySem.Str) :: ("_law_at" : PySem.Str) :: ("_law_places" : PySem.Str) :: ("_law_fronts" : PySem.Str) :: ("_law_paired" : PySem.Str) :: ("_law_order" : PySem.Str) :: ("_law_flag" : PySem.Str) :: ("_law_table" : PySem.Str) :: ("_law_are_prices" : PySem.Str) :: ("_law_word" : PySem.Str) :: [])) (d := HandSHeadRun.topDef (OpenLaw.row PySem.Challenge.rw_needlehouse_k74_whole_buttons_and_holes).prog 43) (kwd := []) K74.Wk.ob_eq
    (by kernel_rfl) (fun s => by kernel_rfl) K74.Wk.run (by kernel_rfl) (by kernel_rfl) (by kernel_rfl) (by rfl) (by first | assumption | decide +kernel) (by decide +kernel) ⟨rfl, rfl, rfl, rfl, rfl, by decide +kernel⟩ ?hw ?hc
  case hw => w_witness2
  case hc =>
    refine DL.walk_ofX (l := PySem.Challenge.rw_needlehouse_k74_whole_buttons_and_holes) (n := 63) (k := 7) (x := "script") rfl (by decide) (by kernel_rfl) ⟨rfl, by decide, by decide⟩ ?F
    intro w mg fa h Y G hmg0
    obtain ⟨K, KX, c, cx⟩ := Y
    have hmg : mg ("law" : PySem.Str) = some (.ref fa) := by
      have e : (HandSHeadRun.topDef (OpenLaw.row PySem.Challenge.rw_needlehouse_k74_whole_buttons_and_holes).prog 43).name = ("law" : PySem.Str) := by kernel_rfl
      rw [← e]
      exact hmg0
    obtain ⟨fd, hb, hF⟩ := K74.Wk.facts (P := (PySem.Challenge.rw_needlehouse_k74_whole_buttons_and_holes).prog) (w := w) KX G hmg c cx
    exact ⟨K, fd, _, KX, hb, fun H a ns hl hO hS => DL.law_sp (n := 63) (by decide) hlaw H a ns hl hO hS, hF⟩
theorem PySem.Challenge.cw_needlehouse_k74_whole_buttons_and_holes_holds : PySem.Challenge.rw_needlehouse_k74_whole_buttons_and_holes.Holds := by
  exact K74.holds K74.law
