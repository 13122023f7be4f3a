import PyProof.Rows.All
import Wide.All
import OpenK.AllK
import Wide.FinOn
import PySem.Str
import HandS.Base
import HandS.Call
import HandS.List
import HandS.Comp
import HandS.Exc
import HandS.Conv
import HandS.Iter
import HandS.Words
import HandS.CallSlots
import HandS.TupAny
import HandS.Wide
import HandS.Style
import HandS.ExcOwn
import HandS.IsInst
import HandS.SortInts
import KE.GoesEnum
import HandS.Zip
import KE.KTupSum
import HandS.ExcInit
import HandS.ExcSuper
import HandS.ExcField
import HandS.ExcIs
import HandS.TryOnly
import KE.KExcSuper
import KE.KSuper
import KE.KExcIs
import HandS.Defaults
import HandS.HeadEnd
import HandS.HeadHook1
import HandS.HeadHook2
import HandS.Head0
import HandS.Head1
import HandS.Head2
import HandS.MakeKwOnly
import PyProof.Rows.RegNest
import PyProof.Rows.RegNestShow
import PyProof.Rows.RegStrSigns2
import PyProof.Rows.StrIntSpec
import PyProof.Rows.RegTopCatch
import PyProof.Rows.RegReprItems
import PySem.Challenge.RW_waitpromises_k21_waits_of_schedules
set_option Elab.async false
set_option linter.all false
set_option maxRecDepth 100000
set_option maxHeartbeats 0
/-! Sem: a small language of trees, and what its programs answer. -/
namespace Wt
open PySem

/-- values -/
inductive T where
  | non
  | bl (b : Bool)
  | int (i : Int)
  | str (s : Str)
  | tup (xs : List T)
  | lst (xs : List T)
  | ins (c : Nat) (ks : List Nat) (vs : List T)
  | cls (c : Nat)
  | scr (ns : List Int)
  deriving Inhabited

/-- an outcome -/
inductive R (α : Type) where
  | ok (a : α)
  | exc (x : T)
  | bad

def R.bnd {α β : Type} (r : R α) (k : α → R β) : R β :=
  match r with
  | .ok a => k a
  | .exc x => .exc x
  | .bad => .bad
@[simp] theorem R.bnd_ok {α β : Type} (a : α) (k : α → R β) : (R.ok a).bnd k = k a := rfl
@[simp] theorem R.bnd_exc {α β : Type} (x : T) (k : α → R β) : (R.exc x : R α).bnd k = .exc x := rfl
@[simp] theorem R.bnd_bad {α β : Type} (k : α → R β) : (R.bad : R α).bnd k = .bad := rfl

inductive Bop where
  | add | sub | mul | fdiv | mod | band | shl
  deriving DecidableEq
inductive Cop where
  | eq | ne | lt | le | gt | ge | isin | notin | is | isnot
  deriving DecidableEq
/-- what isinstance asks -/
inductive Ty where
  | int | bool | tuple | list | str | verr | own (c : Nat)
  deriving DecidableEq
inductive Blt where
  | len | abs | max2 | min2 | sum | any | all | list | tuple | sorted | int | rangeL | rangeT | isa (t : Ty) | maxL | minL
  | setOr | setAnd | setSub | count | byPrice | revL | zipL | zipU
  deriving DecidableEq
/-- what a for walks -/
inductive Ik where
  | seq | rng | enum | zip | rev | own
  deriving DecidableEq
/-- where an item goes -/
inductive Tg where
  | one (i : Nat) | many (js : List Nat)
/-- a parameter: the k-th evaluated argument, or a default -/
inductive Pa where
  | ev (k : Nat) | non | int (i : Int)
  deriving DecidableEq

inductive E where
  | var (i : Nat)
  | int (i : Int)
  | bl (b : Bool)
  | non
  | str (s : Str)
  | bin (op : Bop) (a b : E)
  | neg (a : E)
  | not (a : E)
  | and (a b : E)
  | or (a b : E)
  | cmp (op : Cop) (a b : E)
  | cmp2 (o1 o2 : Cop) (a b c : E)
  | ite (c a b : E)
  | tup (es : List E)
  | lst (es : List E)
  | fld (a : E) (f : Nat)
  | ix (a i : E)
  | slice (a : E) (lo hi : List E)
  | rev (a : E)
  | call (f : Nat) (es : List E) (pm : List Pa)
  | meth (m : Nat) (o : E) (es : List E) (pm : List Pa)
  | cmeth (c m : Nat) (es : List E) (pm : List Pa)
  | make (c : Nat) (es : List E) (pm : List Pa)
  | makeV (i : Nat) (es : List E) (pm : List Pa)
  | blt (b : Blt) (es : List E)
  | comp (elt : E) (tg : Tg) (k : Ik) (its cds : List E)
  | xfld (f : Nat)
  | xisa (t : Ty)

inductive S where
  | asg (x : Nat) (e : E) (g : Bool)
  | asgT (xs : List Nat) (e : E)
  | par (xs : List Nat) (es : List E)
  | aug (x : Nat) (op : Bop) (e : E)
  | doc
  | expr (e : E)
  | app (x : Nat) (e : E) (g : Bool)
  | appPop (x y : Nat) (e : E)
  | pop (x : Nat) (e : E)
  | popL (x : Nat)
  | clear (x : Nat)
  | insert (x : Nat) (i e : E)
  | setIx (x : Nat) (i e : E) (g : Bool)
  | setIx2 (x : Nat) (i j e : E) (g : Bool)
  | app2 (x : Nat) (i e : E) (g : Bool)
  | pop2 (x : Nat) (i : E)
  | clear2 (x : Nat) (i : E)
  | remove2 (x : Nat) (i e : E)
  | fldS (f : Nat) (e : E) (g : Bool)
  | ret (e : E)
  | retN
  | raise (c : Nat) (es : List E)
  | ifs (c : E) (a b : List S)
  | forS (tg : Tg) (k : Ik) (its : List E) (body : List S) (own : List Nat)
  | whileS (c : E) (body : List S) (own : List Nat)
  | brk
  | cont
  | pass
  | tryS (body : List S) (c : Nat) (x : Option Nat) (h : List S) (ft : Bool)

structure Fn where
  np : Nat
  ns : Nat
  body : List S

/-- an __init__: its slots, what comes first, then the fields in turn (told: nothing that can be changed) -/
structure Ini where
  np : Nat
  ns : Nat
  pre : List S
  fls : List (Nat × Bool × E)

/-- the tables of a program: functions, methods, what makes an instance, classes above, errors' fields -/
structure Prog where
  fn : Nat → Option Fn
  meth : Nat → Nat → Option Nat
  ini : Nat → Option Ini
  sup : Nat → List Nat
  err : Nat → Option (List (Nat × Bool))

abbrev Env := List (Option T)
/-- a statement's outcome -/
inductive SR where
  | nx (e : Env)
  | rt (t : T)
  | bk (e : Env)
  | ct (e : Env)
  | exc (x : T) (e : Env)
  | bad

def LIM : Nat := 16777216
/-- numbers that may be multiplied and divided -/
@[irreducible] def BIG : Nat := 2 ^ 8000

def MulOk (i j : Int) : Bool := i.natAbs.blt 18446744073709551616 || (j.natAbs.blt 18446744073709551616 || (i.natAbs.blt BIG && j.natAbs.blt BIG))
def DivOk (_ j : Int) : Bool := decide (0 < j) && (j.natAbs.blt 1073741824 || j.natAbs.blt BIG)

/-! ### data -/
def strFine (s : Str) : Bool := s.cps.all (· < 0x110000)
/-- data of at most so many levels: no instance, no class within -/
def dataD : Nat → T → Bool
  | _, .non => true
  | _, .bl _ => true
  | _, .int _ => true
  | _, .str s => strFine s
  | n + 1, .tup xs => xs.all (dataD n)
  | n + 1, .lst xs => xs.all (dataD n)
  | _, _ => false
def dataT (t : T) : Bool := dataD 8 t
def dataL (xs : List T) : Bool := xs.all (dataD 7)
mutual
/-- no list within -/
def noList : T → Bool
  | .ins _ _ vs => noLists vs
  | .tup xs => noLists xs
  | .lst _ => false
  | _ => true
def noLists : List T → Bool
  | [] => true
  | x :: xs => noList x && noLists xs
end
mutual
/-- no list, no instance within -/
def noMut : T → Bool
  | .ins _ _ _ => false
  | .tup xs => noMuts xs
  | .lst _ => false
  | _ => true
def noMuts : List T → Bool
  | [] => true
  | x :: xs => noMut x && noMuts xs
end
mutual
/-- no class within, no instance that is being made -/
def noCls : T → Bool
  | .cls _ => false
  | .ins c _ vs => !(c == 1000) && noClsL vs
  | .tup xs => noClsL xs
  | .lst xs => noClsL xs
  | _ => true
def noClsL : List T → Bool
  | [] => true
  | x :: xs => noCls x && noClsL xs
end
/-- plain, or a list of plain ones -/
def flat1 : T → Bool
  | .lst ys => noMuts ys
  | y => noMut y
def flat2 : List T → Bool
  | [] => true
  | x :: xs => flat1 x && flat2 xs
def b2i (b : Bool) : Int := if b then 1 else 0
mutual
/-- equality of data -/
def eqT : T → T → Bool
  | .non, .non => true
  | .int i, .int j => decide (i = j)
  | .bl a, .bl b => a == b
  | .int i, .bl b => decide (i = b2i b)
  | .bl a, .int j => decide (b2i a = j)
  | .str a, .str b => decide (a = b)
  | .tup xs, .tup ys => eqL xs ys
  | .lst xs, .lst ys => eqL xs ys
  | _, _ => false
def eqL : List T → List T → Bool
  | [], [] => true
  | x :: xs, y :: ys => eqT x y && eqL xs ys
  | _, _ => false
end
/-- plain: an int, a text, None, a bool -/
def flatT : T → Bool
  | .non => true
  | .int _ => true
  | .str _ => true
  | .bl _ => true
  | _ => false

def lookF (f : Nat) : List Nat → List T → Option T
  | k :: ks, v :: vs => if k = f then some v else lookF f ks vs
  | _, _ => none
def putK (f : Nat) : List Nat → List Nat
  | [] => [f]
  | k :: ks => if k = f then k :: ks else k :: putK f ks
def putV (f : Nat) (t : T) : List Nat → List T → List T
  | [], vs => t :: vs
  | k :: ks, v :: vs => if k = f then t :: vs else v :: putV f t ks vs
  | _ :: _, [] => [t]

/-! ### operators -/
section
variable (P : Prog) (cl : Nat → List T → R T)

/-- the method's number of an operator: __add__ 1, __sub__ 2, __and__ 3, __eq__ 4, __contains__ 5, __len__ 6, __iter__ 7 -/
def mAdd : Nat := 1
def mSub : Nat := 2
def mAnd : Nat := 3
def mEq : Nat := 4
def mHas : Nat := 5
def mLen : Nat := 6
def mIter : Nat := 7
def opm : Bop → Nat
  | .add => 1
  | .sub => 2
  | .band => 3
  | _ => 0
def mcall (c m : Nat) (ts : List T) : R T :=
  match P.meth c m with
  | some f => cl f ts
  | none => .bad
def chk {α : Type} (b : Bool) (r : R α) : R α := if b then r else .bad
@[simp] theorem chk_true {α : Type} (r : R α) : chk true r = r := rfl
def repL (n : Nat) (xs : List T) : List T := (List.replicate n xs).flatten

def binT (op : Bop) (a b : T) : R T :=
  match a with
  | .int i => (match b with
    | .int j => (match op with
      | .add => .ok (.int (i + j))
      | .sub => .ok (.int (i - j))
      | .mul => chk (MulOk i j) (.ok (.int (i * j)))
      | .fdiv => chk (DivOk i j) (.ok (.int (i / j)))
      | .mod => chk (decide (0 < j)) (.ok (.int (i % j)))
      | .band => chk (decide (0 ≤ i) && decide (0 ≤ j)) (.ok (.int (Nat.land i.toNat j.toNat)))
      | .shl => chk (decide (0 ≤ j) && (decide (j ≤ 1000) && i.natAbs.blt 18446744073709551616)) (.ok (.int (i * 2 ^ j.toNat))))
    | _ => .bad)
  | .lst x => (match b with
    | .lst y => (match op with
      | .add => chk (Nat.ble (x.length + y.length) LIM) (.ok (.lst (x ++ y)))
      | _ => .bad)
    | .int n => (match op with
      | .mul => chk (decide (-(2 ^ 62) < n) && (decide (n < 2 ^ 62) && Nat.ble (x.length * n.toNat) LIM)) (.ok (.lst (repL n.toNat x)))
      | _ => .bad)
    | _ => .bad)
  | .tup x => (match b with
    | .tup y => (match op with
      | .add => chk (Nat.ble (x.length + y.length) LIM) (.ok (.tup (x ++ y)))
      | _ => .bad)
    | _ => .bad)
  | .ins c _ _ => mcall P cl c (opm op) [a, b]
  | _ => .bad

def notR (r : R T) : R T := r.bnd fun t => match t with
  | .bl b => .ok (.bl (!b))
  | _ => .bad
def items : T → Option (List T)
  | .lst xs => some xs
  | .tup xs => some xs
  | _ => none
def flatL : List T → Bool
  | [] => true
  | x :: xs => flatT x && flatL xs
def inL (x : T) : List T → Bool
  | [] => false
  | y :: ys => eqT y x || inL x ys
def dataIn (x : T) (xs : List T) : Bool := dataT x && dataL xs
def inT (a b : T) : R T :=
  match b with
  | .ins c _ _ => mcall P cl c mHas [b, a]
  | .lst xs => chk (dataIn a xs) (.ok (.bl (inL a xs)))
  | .tup xs => chk (dataIn a xs) (.ok (.bl (inL a xs)))
  | _ => .bad
def eqR (a b : T) : R T :=
  match a with
  | .ins c _ _ => mcall P cl c mEq [a, b]
  | _ => chk (dataT a && dataT b) (.ok (.bl (eqT a b)))
def isNonT : T → Bool
  | .non => true
  | _ => false
def isBlT (k : Bool) : T → Bool
  | .bl j => j == k
  | _ => false
def isT (a b : T) : R T :=
  match b with
  | .non => .ok (.bl (isNonT a))
  | .bl k => .ok (.bl (isBlT k a))
  | _ => .bad
def cmpI (f : Int → Int → Bool) (a b : T) : R T :=
  match a with
  | .int i => (match b with
    | .int j => .ok (.bl (f i j))
    | _ => .bad)
  | _ => .bad
def cmpT (op : Cop) (a b : T) : R T :=
  match op with
  | .eq => eqR P cl a b
  | .ne => (match a with | .ins _ _ _ => .bad | _ => notR (eqR P cl a b))
  | .lt => cmpI (fun i j => decide (i < j)) a b
  | .le => cmpI (fun i j => decide (i ≤ j)) a b
  | .gt => cmpI (fun i j => decide (j < i)) a b
  | .ge => cmpI (fun i j => decide (j ≤ i)) a b
  | .isin => inT P cl a b
  | .notin => notR (inT P cl a b)
  | .is => isT a b
  | .isnot => notR (isT a b)

/-! ### built-ins -/
def tyB : Ty → Bool
  | .int => true
  | .bool => true
  | _ => false
def tyI : Ty → Bool
  | .int => true
  | _ => false
def tyT : Ty → Bool
  | .tuple => true
  | _ => false
def tyL : Ty → Bool
  | .list => true
  | _ => false
def tyS : Ty → Bool
  | .str => true
  | _ => false
def tyO (c : Nat) : Ty → Bool
  | .own d => (P.ini c).isSome && d == c
  | _ => false
def isaT (t : Ty) (x : T) : R T :=
  match x with
  | .ins c _ _ => chk (P.ini c).isSome (.ok (.bl (tyO P c t)))
  | .cls _ => .bad
  | .scr _ => .bad
  | .non => .ok (.bl false)
  | .str _ => .ok (.bl (tyS t))
  | .bl _ => .ok (.bl (tyB t))
  | .int _ => .ok (.bl (tyI t))
  | .tup _ => .ok (.bl (tyT t))
  | .lst _ => .ok (.bl (tyL t))
def intsOf : List T → Option (List Int)
  | [] => some []
  | .int i :: r => (intsOf r).map (i :: ·)
  | _ :: _ => none
def bools : List T → Option (List Bool)
  | [] => some []
  | .bl i :: r => (bools r).map (i :: ·)
  | _ :: _ => none
def insI (x : Int) : List Int → List Int
  | [] => [x]
  | y :: ys => if x ≤ y then x :: y :: ys else y :: insI x ys
def sortI : List Int → List Int
  | [] => []
  | x :: xs => insI x (sortI xs)
/-- the greatest, the least -/
def topI : List Int → Option Int
  | [] => none
  | x :: xs => match topI xs with
    | none => some x
    | some m => some (if m ≤ x then x else m)
def botI : List Int → Option Int
  | [] => none
  | x :: xs => match botI xs with
    | none => some x
    | some m => some (if x ≤ m then x else m)
def memI (x : Int) : List Int → Bool
  | [] => false
  | y :: ys => decide (x = y) || memI x ys
/-- each number once -/
def onceI : List Int → List Int
  | [] => []
  | x :: xs => if memI x xs then onceI xs else x :: onceI xs
def ofO {α : Type} : Option α → R α
  | some a => .ok a
  | none => .bad
@[simp] theorem ofO_some {α : Type} (a : α) : ofO (some a) = .ok a := rfl
@[simp] theorem ofO_none {α : Type} : ofO (none : Option α) = .bad := rfl
def intsR (t : T) : R (List Int) := (ofO (items t)).bnd fun xs => ofO (intsOf xs)
def rangeI (lo hi : Int) : List Int := (List.range (hi - lo).toNat).map fun (k : Nat) => lo + (k : Int)
def toTup : T → R T
  | .lst xs => .ok (.tup xs)
  | .tup xs => .ok (.tup xs)
  | _ => .bad
/-- numbers of the places, by descending price, equal ones in order -/
def insP (ps : List Int) (x : Nat) : List Nat → List Nat
  | [] => [x]
  | y :: ys => if ps.getD y 0 < ps.getD x 0 ∨ (ps.getD y 0 = ps.getD x 0 ∧ x ≤ y) then x :: y :: ys else y :: insP ps x ys
def sortP (ps : List Int) : List Nat → List Nat
  | [] => []
  | x :: xs => insP ps x (sortP ps xs)
def setR (f : List Int → List Int → List Int) (a b : T) : R T :=
  (intsR a).bnd fun x => (intsR b).bnd fun y => chk (Nat.ble x.length 63 && Nat.ble y.length 63) (.ok (.lst ((sortI (onceI (f x y))).map T.int)))
def zipT : List T → List T → List T
  | x :: xs, y :: ys => .tup [x, y] :: zipT xs ys
  | _, _ => []
def blt1 (b : Blt) (a : T) : R T :=
  match b with
  | .len => (match a with
    | .ins c _ _ => mcall P cl c mLen [a]
    | .scr ns => .ok (.int ns.length)
    | _ => (ofO (items a)).bnd fun xs => .ok (.int xs.length))
  | .abs => (match a with
    | .int i => .ok (.int i.natAbs)
    | _ => .bad)
  | .sum => (intsR a).bnd fun ns => .ok (.int ns.sum)
  | .any => (match a with
    | .lst xs => (ofO (bools xs)).bnd fun bs => .ok (.bl (bs.any id))
    | _ => .bad)
  | .all => (match a with
    | .lst xs => (ofO (bools xs)).bnd fun bs => .ok (.bl (bs.all id))
    | _ => .bad)
  | .list => (ofO (items a)).bnd fun xs => .ok (.lst xs)
  | .tuple => (ofO (items a)).bnd fun xs => .ok (.tup xs)
  | .sorted => (intsR a).bnd fun ns => .ok (.lst ((sortI ns).map T.int))
  | .int => (match a with
    | .int i => .ok (.int i)
    | .bl b => .ok (.int (b2i b))
    | _ => .bad)
  | .rangeL => (match a with
    | .int i => chk (decide (-1000000 ≤ i) && decide (i ≤ 1000000)) (.ok (.lst ((rangeI 0 i).map T.int)))
    | _ => .bad)
  | .rangeT => (match a with
    | .int i => chk (decide (-1000000 ≤ i) && decide (i ≤ 1000000)) (.ok (.tup ((rangeI 0 i).map T.int)))
    | _ => .bad)
  | .isa t => isaT P t a
  | .maxL => (match a with
    | .lst xs => (ofO (intsOf xs)).bnd fun ns => (ofO (topI ns)).bnd fun m => .ok (.int m)
    | _ => .bad)
  | .minL => (match a with
    | .lst xs => (ofO (intsOf xs)).bnd fun ns => (ofO (botI ns)).bnd fun m => .ok (.int m)
    | _ => .bad)
  | .revL => (ofO (items a)).bnd fun xs => .ok (.lst xs.reverse)
  | .byPrice => (intsR a).bnd fun ns => chk (Nat.ble ns.length 63) (.ok (.lst ((sortP ns (List.range ns.length)).map fun (k : Nat) => T.int (k : Int))))
  | _ => .bad
def blt2 (b : Blt) (x y : T) : R T :=
  match b with
  | .max2 => (match x, y with
    | .int i, .int j => .ok (.int (if i < j then j else i))
    | _, _ => .bad)
  | .min2 => (match x, y with
    | .int i, .int j => .ok (.int (if j < i then j else i))
    | _, _ => .bad)
  | .setOr => setR (fun a b => a ++ b) x y
  | .setAnd => setR (fun a b => a.filter fun v => memI v b) x y
  | .setSub => setR (fun a b => a.filter fun v => !memI v b) x y
  | .zipL => (ofO (items x)).bnd fun xs => (ofO (items y)).bnd fun ys => .ok (.lst (zipT xs ys))
  | .zipU => (ofO (items x)).bnd fun xs => (ofO (items y)).bnd fun ys => .ok (.tup (zipT xs ys))
  | .count => (ofO (items x)).bnd fun xs => chk (flatL xs && flatT y) (.ok (.int ((xs.filter fun v => eqT v y).length : Nat)))
  | _ => .bad
def bltT (b : Blt) (ts : List T) : R T :=
  match ts with
  | [a] => blt1 P cl b a
  | [x, y] => blt2 b x y
  | _ => .bad

/-! ### places -/
def ixI (n : Nat) (i : Int) : Option Nat :=
  if 0 ≤ i then (if i < n then some i.toNat else none) else if -(n : Int) ≤ i then some (i + n).toNat else none
def ixT (a i : T) : R T :=
  match i with
  | .int k => (match a with
    | .scr ns => (ofO (ixI ns.length k)).bnd fun j => (ofO ns[j]?).bnd fun n => .ok (.int n)
    | _ => (ofO (items a)).bnd fun xs => (ofO (ixI xs.length k)).bnd fun j => ofO xs[j]?)
  | _ => .bad
/-- where a slice's end lies -/
def cutI (n d : Nat) : T → Option Nat
  | .non => some d
  | .int i => some (if i < 0 then (i + n).toNat else min i.toNat n)
  | _ => none
def cutL (xs : List T) (lo hi : Nat) : List T := (xs.drop lo).take (hi - lo)
def sliceT (a lo hi : T) : R T :=
  (ofO (items a)).bnd fun xs => (ofO (cutI xs.length 0 lo)).bnd fun l => (ofO (cutI xs.length xs.length hi)).bnd fun h =>
    match a with
    | .lst _ => .ok (.lst (cutL xs l h))
    | .tup _ => .ok (.tup (cutL xs l h))
    | _ => .bad
def partR (r : R T) : R T := r.bnd fun t => match t with
  | .non => .ok .non
  | .int i => .ok (.int i)
  | _ => .bad
@[simp] theorem partR_non : partR (.ok .non) = .ok .non := rfl
@[simp] theorem partR_int (i : Int) : partR (.ok (.int i)) = .ok (.int i) := rfl
def onlyI (r : R T) : R T := r.bnd fun t => match t with
  | .int i => .ok (.int i)
  | _ => .bad
def revT (a : T) : R T :=
  match a with
  | .lst xs => .ok (.lst xs.reverse)
  | _ => .bad
def fldT (a : T) (f : Nat) : R T :=
  match a with
  | .ins c ks vs => chk (P.ini c).isSome (ofO (lookF f ks vs))
  | _ => .bad
/-- a field of the caught error -/
def xfldT (x : Option T) (f : Nat) : R T :=
  match x with
  | some (.ins _ ks vs) => ofO (lookF f ks vs)
  | _ => .bad
/-- what the caught error is -/
def xisaT (x : Option T) (t : Ty) : R T :=
  match x with
  | some (.ins c _ _) => (match t with
    | .own d => .ok (.bl ((P.sup c).contains d))
    | .verr => .ok (.bl true)
    | _ => .bad)
  | _ => .bad

/-! ### what is walked -/
def small (i : Int) : Bool := decide (-(2 ^ 62) < i) && decide (i < 2 ^ 62)
def stepI (lo c : Int) (n : Nat) : List T := (List.range n).map fun (k : Nat) => T.int (lo + (k : Int) * c)
def enumL (n : Nat) : List T → List T
  | [] => []
  | x :: xs => .tup [.int n, x] :: enumL (n + 1) xs
def walk (k : Ik) (ts : List T) : R (List T) :=
  match k with
  | .seq => (match ts with
    | [a] => ofO (items a)
    | _ => .bad)
  | .rng => (match ts with
    | [.int n] => chk (small n) (.ok ((rangeI 0 n).map T.int))
    | [.int a, .int b] => chk (small a && small b) (.ok ((rangeI a b).map T.int))
    | [.int a, .int b, .int c] => chk (small a && (small b && decide (c = -1))) (.ok (stepI a (-1) (a - b).toNat))
    | _ => .bad)
  | .enum => (match ts with
    | [a] => (ofO (items a)).bnd fun xs => .ok (enumL 0 xs)
    | _ => .bad)
  | .zip => (match ts with
    | [a, b] => (ofO (items a)).bnd fun xs => (ofO (items b)).bnd fun ys => .ok (zipT xs ys)
    | _ => .bad)
  | .rev => (match ts with
    | [a] => (ofO (items a)).bnd fun xs => .ok xs.reverse
    | _ => .bad)
  | .own => (match ts with
    | [.ins c ks vs] => (mcall P cl c mIter [.ins c ks vs]).bnd fun t => ofO (items t)
    | _ => .bad)
def setAll : List Nat → List T → Env → Option Env
  | [], [], e => some e
  | i :: is, t :: ts, e => setAll is ts (e.set i (some t))
  | _, _, _ => none
def bindTg (g : Tg) (t : T) (e : Env) : Option Env :=
  match g with
  | .one i => some (e.set i (some t))
  | .many js => (match t with
    | .tup ts => setAll js ts e
    | _ => none)
def args (pm : List Pa) (ts : List T) : List T :=
  match pm with
  | [] => ts
  | _ => pm.map fun p => match p with
    | .ev k => ts.getD k .non
    | .non => .non
    | .int i => .int i
/-- the items that pass, made -/
def compL (tg : Tg) (cd : Env → R Bool) (el : Env → R T) (e : Env) : List T → R (List T)
  | [] => .ok []
  | x :: xs => match bindTg tg x e with
    | none => .bad
    | some e' => match cd e' with
      | .ok true => (match el e' with
        | .ok t => (compL tg cd el e xs).bnd fun r => .ok (t :: r)
        | _ => .bad)
      | .ok false => compL tg cd el e xs
      | _ => .bad
def truth (r : R T) : R Bool := r.bnd fun t => match t with
  | .bl b => .ok b
  | _ => .bad
def pick (b : Bool) (x y : R T) : R T := match b with
  | true => x
  | false => y
@[simp] theorem pick_true (x y : R T) : pick true x y = x := rfl
@[simp] theorem pick_false (x y : R T) : pick false x y = y := rfl

/-- a walked range is told by what raises nothing -/
def nxR {α : Type} : R α → R α
  | .exc _ => .bad
  | r => r
@[simp] theorem nxR_ok {α : Type} (a : α) : nxR (.ok a) = .ok a := rfl
def noX (k : Ik) (r : R (List T)) : R (List T) :=
  match k with
  | .rng => nxR r
  | _ => r
@[simp] theorem noX_ok (k : Ik) (a : List T) : noX k (.ok a) = .ok a := by cases k <;> rfl

/-- the method's def -/
def methOf (m : Nat) : T → Option Nat
  | .ins c _ _ => P.meth c m
  | _ => none
def clsOf : Option T → Option Nat
  | some (.cls c) => some c
  | _ => none

/-! ### expressions -/
variable (mk : Nat → List T → R T) (cx : Option T)
mutual
def evE : E → Env → R T
  | .var i, e => ofO (e.getD i none)
  | .int i, _ => .ok (.int i)
  | .bl b, _ => .ok (.bl b)
  | .non, _ => .ok .non
  | .str s, _ => .ok (.str s)
  | .bin op a b, e => (evE a e).bnd fun x => (evE b e).bnd fun y => binT P cl op x y
  | .neg a, e => (evE a e).bnd fun x => match x with
    | .int i => .ok (.int (-i))
    | _ => .bad
  | .not a, e => (truth (evE a e)).bnd fun b => .ok (.bl (!b))
  | .and a b, e => (truth (evE a e)).bnd fun k => pick k (evE b e) (.ok (.bl false))
  | .or a b, e => (truth (evE a e)).bnd fun k => pick k (.ok (.bl true)) (evE b e)
  | .cmp op a b, e => (evE a e).bnd fun x => (evE b e).bnd fun y => cmpT P cl op x y
  | .cmp2 o1 o2 a b c, e => (evE a e).bnd fun x => (evE b e).bnd fun y => (truth (cmpT P cl o1 x y)).bnd fun k =>
      pick k ((evE c e).bnd fun z => cmpT P cl o2 y z) (.ok (.bl false))
  | .ite c a b, e => (truth (evE c e)).bnd fun k => pick k (evE a e) (evE b e)
  | .tup es, e => (evL es e).bnd fun ts => .ok (.tup ts)
  | .lst es, e => (evL es e).bnd fun ts => .ok (.lst ts)
  | .fld a f, e => (evE a e).bnd fun x => fldT P x f
  | .xfld f, _ => xfldT cx f
  | .xisa t, _ => xisaT P cx t
  | .ix a i, e => (evE a e).bnd fun x => (evE i e).bnd fun y => ixT x y
  | .slice a lo hi, e => (evE a e).bnd fun x => (partR (evP lo e)).bnd fun y => (partR (evP hi e)).bnd fun z => sliceT x y z
  | .rev a, e => (evE a e).bnd fun x => revT x
  | .call f es pm, e => (evL es e).bnd fun ts => cl f (args pm ts)
  | .meth m o es pm, e => (evE o e).bnd fun x => (ofO (methOf P m x)).bnd fun f => (evL es e).bnd fun ts => cl f (args pm (x :: ts))
  | .cmeth c m es pm, e => (evL es e).bnd fun ts => mcall P cl c m (args pm (.cls c :: ts))
  | .make c es pm, e => (evL es e).bnd fun ts => mk c (args pm ts)
  | .makeV i es pm, e => (ofO (clsOf (e.getD i none))).bnd fun c => (evL es e).bnd fun ts => mk c (args pm ts)
  | .blt b es, e => (evL es e).bnd fun ts => bltT P cl b ts
  | .comp elt tg k its cds, e => (noX k (evL its e)).bnd fun ts => (walk P cl k ts).bnd fun xs => chk (Nat.ble xs.length LIM) ((compL tg (fun e' => evC cds e') (fun e' => evE elt e') e xs).bnd fun r => .ok (.lst r))
def evL : List E → Env → R (List T)
  | [], _ => .ok []
  | a :: as, e => (evE a e).bnd fun x => (evL as e).bnd fun xs => .ok (x :: xs)
/-- a slice's end: none, or an int -/
def evP : List E → Env → R T
  | [], _ => .ok .non
  | a :: _, e => onlyI (evE a e)
/-- a comprehension's tests: none, or one -/
def evC : List E → Env → R Bool
  | [], _ => .ok true
  | a :: _, e => truth (evE a e)
end

/-! ### statements -/
def forX (b : T → Env → SR) : List T → Env → SR
  | [], e => .nx e
  | x :: xs, e => match b x e with
    | .nx e' => forX b xs e'
    | .ct e' => forX b xs e'
    | .bk e' => .nx e'
    | .rt t => .rt t
    | .exc x e' => .exc x e'
    | .bad => .bad
def whileN (c : Env → R Bool) (b : Env → SR) : Nat → Env → Option SR
  | 0, _ => none
  | n + 1, e => match c e with
    | .ok true => (match b e with
      | .nx e' => whileN c b n e'
      | .ct e' => whileN c b n e'
      | .bk e' => some (.nx e')
      | .rt t => some (.rt t)
      | .exc x e' => some (.exc x e')
      | .bad => some .bad)
    | .ok false => some (.nx e)
    | .exc x => some (.exc x e)
    | .bad => some .bad
open Classical in
noncomputable def whileX (c : Env → R Bool) (b : Env → SR) (e : Env) : SR :=
  if h : ∃ r, ∃ n, whileN c b n e = some r then Classical.choose h else .bad

def SR.seq (r : SR) (k : Env → SR) : SR :=
  match r with
  | .nx e => k e
  | .rt t => .rt t
  | .bk e => .bk e
  | .ct e => .ct e
  | .exc x e => .exc x e
  | .bad => .bad
@[simp] theorem SR.seq_nx (e : Env) (k : Env → SR) : (SR.nx e).seq k = k e := rfl
@[simp] theorem SR.seq_rt (t : T) (k : Env → SR) : (SR.rt t).seq k = .rt t := rfl
@[simp] theorem SR.seq_bk (e : Env) (k : Env → SR) : (SR.bk e).seq k = .bk e := rfl
@[simp] theorem SR.seq_ct (e : Env) (k : Env → SR) : (SR.ct e).seq k = .ct e := rfl
@[simp] theorem SR.seq_exc (x : T) (e : Env) (k : Env → SR) : (SR.exc x e).seq k = .exc x e := rfl
@[simp] theorem SR.seq_bad (k : Env → SR) : SR.bad.seq k = .bad := rfl
/-- an expression's outcome in a statement -/
def R.st {α : Type} (r : R α) (e : Env) (k : α → SR) : SR :=
  match r with
  | .ok a => k a
  | .exc x => .exc x e
  | .bad => .bad
@[simp] theorem R.st_ok {α : Type} (a : α) (e : Env) (k : α → SR) : (R.ok a).st e k = k a := rfl
@[simp] theorem R.st_exc {α : Type} (x : T) (e : Env) (k : α → SR) : (R.exc x : R α).st e k = .exc x e := rfl
@[simp] theorem R.st_bad {α : Type} (e : Env) (k : α → SR) : (R.bad : R α).st e k = .bad := rfl

def grd (g : Bool) (t : T) (r : SR) : SR := if g && !noList t then .bad else r
@[simp] theorem grd_false (t : T) (r : SR) : grd false t r = r := by simp [grd]
def chkS (b : Bool) (r : SR) : SR := if b then r else .bad
@[simp] theorem chkS_true (r : SR) : chkS true r = r := rfl
def slot (e : Env) (x : Nat) : R T := ofO (e.getD x none)
/-- the list that the slot holds -/
def slotL (e : Env) (x : Nat) : R (List T) := (slot e x).bnd fun t => match t with
  | .lst xs => .ok xs
  | _ => .bad
def intR (r : R T) : R Int := r.bnd fun t => match t with
  | .int i => .ok i
  | _ => .bad
def putL (e : Env) (x : Nat) (xs : List T) : Env := e.set x (some (.lst xs))
def errT (fs : List (Nat × Bool)) (c : Nat) (ts : List T) : R T :=
  let rec go : List (Nat × Bool) → List T → R (List T)
    | [], [] => .ok []
    | (_, w) :: r, t :: ts => (if w then toTup t else .ok t).bnd fun v => (go r ts).bnd fun vs => .ok (v :: vs)
    | _, _ => .bad
  (go fs ts).bnd fun vs => .ok (.ins c (fs.map (·.1)) vs)
/-- the i-th item of a list is a list: it is changed -/
def sub2 (xs : List T) (i : Int) (f : List T → R (List T)) : R (List T) := chk (flat2 xs) <|
  (ofO (ixI xs.length i)).bnd fun j => (ofO xs[j]?).bnd fun t => match t with
    | .lst ys => (f ys).bnd fun zs => .ok (xs.set j (.lst zs))
    | _ => .bad
def rmFirst (t : T) : List T → Option (List T)
  | [] => none
  | x :: xs => if eqT x t then some xs else (rmFirst t xs).map (x :: ·)
def excOf : T → Nat
  | .ins c _ _ => c
  | _ => 0

/-- the name of an except clause goes -/
def unset (x : Option Nat) (e : Env) : Env := match x with
  | some i => e.set i none
  | none => e
mutual
noncomputable def exS : Option T → S → Env → SR
  | cx, .asg x a g, e => (evE P cl mk cx a e).st e fun t => grd g t (.nx (e.set x (some t)))
  | cx, .asgT xs a, e => (evE P cl mk cx a e).st e fun t => match bindTg (.many xs) t e with
    | some e' => .nx e'
    | none => .bad
  | cx, .par xs as, e => (evL P cl mk cx as e).st e fun ts => match setAll xs ts e with
    | some e' => .nx e'
    | none => .bad
  | cx, .aug x op a, e => (slot e x).st e fun t => (evE P cl mk cx a e).st e fun u => match t, u with
    | .int _, .int _ => (binT P cl op t u).st e fun r => .nx (e.set x (some r))
    | _, _ => .bad
  | cx, .doc, e => .nx e
  | cx, .expr a, e => (evE P cl mk cx a e).st e fun _ => .nx e
  | cx, .app x a g, e => (slotL e x).st e fun xs => (evE P cl mk cx a e).st e fun t => chkS (Nat.blt xs.length LIM) (grd g t (.nx (putL e x (xs ++ [t]))))
  | cx, .appPop x y a, e => (slotL e x).st e fun xs => (slotL e y).st e fun ys => (intR (evE P cl mk cx a e)).st e fun i => (ofO (ixI ys.length i)).st e fun j => (ofO ys[j]?).st e fun t =>
      chkS ((Nat.blt xs.length LIM && Nat.ble ys.length LIM) && noList t) (.nx (putL (putL e y (ys.eraseIdx j)) x (xs ++ [t])))
  | cx, .pop x a, e => (slotL e x).st e fun xs => (intR (evE P cl mk cx a e)).st e fun i => (ofO (ixI xs.length i)).st e fun j => chkS (Nat.ble xs.length LIM) (.nx (putL e x (xs.eraseIdx j)))
  | cx, .popL x, e => (slotL e x).st e fun xs => chkS (!xs.isEmpty) (.nx (putL e x xs.dropLast))
  | cx, .clear x, e => (slotL e x).st e fun _ => .nx (putL e x [])
  | cx, .insert x i a, e => (slotL e x).st e fun xs => (intR (evE P cl mk cx i e)).st e fun k => (evE P cl mk cx a e).st e fun t =>
      chkS (Nat.blt xs.length LIM && (noList t && (decide (0 ≤ k) && decide (k ≤ xs.length)))) (.nx (putL e x (xs.take k.toNat ++ t :: xs.drop k.toNat)))
  | cx, .setIx x i a g, e => (evE P cl mk cx a e).st e fun t => (slotL e x).st e fun xs => (intR (evE P cl mk cx i e)).st e fun k => (ofO (ixI xs.length k)).st e fun j =>
      grd g t (.nx (putL e x (xs.set j t)))
  | cx, .setIx2 x i j a g, e => (evE P cl mk cx a e).st e fun t => (slotL e x).st e fun xs => (intR (evE P cl mk cx i e)).st e fun k => (intR (evE P cl mk cx j e)).st e fun m =>
      (sub2 xs k fun ys => (ofO (ixI ys.length m)).bnd fun n => .ok (ys.set n t)).st e fun xs' => grd g t (.nx (putL e x xs'))
  | cx, .app2 x i a g, e => (slotL e x).st e fun xs => (intR (evE P cl mk cx i e)).st e fun k => (evE P cl mk cx a e).st e fun t =>
      (sub2 xs k fun ys => chk (Nat.blt ys.length LIM) (.ok (ys ++ [t]))).st e fun xs' => grd g t (.nx (putL e x xs'))
  | cx, .pop2 x i, e => (slotL e x).st e fun xs => (intR (evE P cl mk cx i e)).st e fun k => (sub2 xs k fun ys => chk (!ys.isEmpty) (.ok ys.dropLast)).st e fun xs' => .nx (putL e x xs')
  | cx, .clear2 x i, e => (slotL e x).st e fun xs => (intR (evE P cl mk cx i e)).st e fun k => (sub2 xs k fun _ => .ok []).st e fun xs' => .nx (putL e x xs')
  | cx, .remove2 x i a, e => (slotL e x).st e fun xs => (intR (evE P cl mk cx i e)).st e fun k => (evE P cl mk cx a e).st e fun t =>
      (sub2 xs k fun ys => chk (flatL ys && flatT t) (ofO (rmFirst t ys))).st e fun xs' => .nx (putL e x xs')
  | cx, .fldS f a g, e => (evE P cl mk cx a e).st e fun t => (slot e 0).st e fun o => match o with
    | .ins c ks vs => chkS (Nat.blt ks.length 100 && (!g || noMut t)) (.nx (e.set 0 (some (.ins c (putK f ks) (putV f t ks vs)))))
    | _ => .bad
  | cx, .ret a, e => (evE P cl mk cx a e).st e fun t => .rt t
  | cx, .retN, _ => .rt .non
  | cx, .raise c as, e => (ofO (P.err c)).st e fun fs => (evL P cl mk cx as e).st e fun ts => (errT fs c ts).st e fun x => .exc x e
  | cx, .ifs c a b, e => (truth (evE P cl mk cx c e)).st e fun k => match k with
    | true => exB cx a e
    | false => exB cx b e
  | cx, .forS tg k its body _, e => (noX k (evL P cl mk cx its e)).st e fun ts => (walk P cl k ts).st e fun xs => forX (fun x e' => match bindTg tg x e' with
    | some e2 => exB cx body e2
    | none => .bad) xs e
  | cx, .whileS c body _, e => whileX (fun e' => truth (evE P cl mk cx c e')) (fun e' => exB cx body e') e
  | cx, .brk, e => .bk e
  | cx, .cont, e => .ct e
  | cx, .pass, e => .nx e
  | cx, .tryS body c x h ft, e => match exB cx body e with
    | .exc t e' => chkS (!(P.sup (excOf t)).isEmpty && Nat.ble e'.length 1000) (match (P.sup (excOf t)).contains c with
      | true => (match exB (some t) h (unset x e') with
        | .nx e2 => chkS ft (.nx (unset x e2))
        | .rt u => .rt u
        | _ => .bad)
      | false => .exc t e')
    | r => r
noncomputable def exB : Option T → List S → Env → SR
  | _, [], e => .nx e
  | cx, s :: ss, e => (exS cx s e).seq fun e' => exB cx ss e'
end
def SR.out (r : SR) : R T :=
  match r with
  | .rt t => .ok t
  | .nx _ => .ok .non
  | .exc x _ => .exc x
  | _ => .bad
/-- the fields in turn; one that reads the instance raises nothing and reaches nothing that can be changed -/
def fillF (ev : E → Env → R T) (c : Nat) : List (Nat × Bool × E) → List Nat → List T → Env → R T
  | [], ks, vs, _ => .ok (.ins c ks vs)
  | (f, g, a) :: r, ks, vs, e => (if g then nxR (ev a (e.set 0 (some (.ins c ks vs)))) else ev a (e.set 0 (some (.ins c ks vs)))).bnd fun t => chk (!g || noMut t) (fillF ev c r (ks ++ [f]) (vs ++ [t]) e)
/-- the instance is still the first slot's -/
def isC0 (e : Env) : Bool := match e.getD 0 none with
  | some (.cls c) => c == 1000
  | _ => false
/-- what leaves an __init__ -/
def grdC (r : R T) : R T := match r with
  | .ok t => chk (noCls t) (.ok t)
  | .exc x => chk (noCls x) (.exc x)
  | .bad => .bad
end

/-- the slots at the start -/
def start (f : Fn) (ts : List T) : Env := ts.map some ++ List.replicate (f.ns - ts.length) none
def startI (f : Ini) (ts : List T) : Env := some (.cls 1000) :: (ts.map some ++ List.replicate (f.ns - (ts.length + 1)) none)
mutual
noncomputable def run (P : Prog) : Nat → Nat → List T → R T
  | 0, _, _ => .bad
  | n + 1, f, ts => match P.fn f with
    | some d => chk (ts.length == d.np) (exB P (run P n) (make P n) none d.body (start d ts)).out
    | none => .bad
noncomputable def make (P : Prog) : Nat → Nat → List T → R T
  | 0, _, _ => .bad
  | n + 1, c, ts => match P.ini c with
    | some d => chk (ts.length + 1 == d.np && noClsL ts) (grdC (match exB P (run P n) (make P n) none d.pre (startI d ts) with
      | .nx e => chk (isC0 e) (fillF (evE P (run P n) (make P n) none) c d.fls [] [] e)
      | .exc x _ => .exc x
      | _ => .bad))
    | none => .bad
end
end Wt

/-! Snd1: how a tree lies in the heap; what an expression's judgement says. -/
namespace Wt
open PySem PySem.Spec PyProof.Rows L2

/-- where the classes stand, how the fields are called -/
structure Cfg where
  C : Nat → Addr
  an : Nat → Str
  K : PySem.W.Frag
  /-- the caught error: its slot, its place, its class, what it holds -/
  er : Option (Nat × Addr × Nat × List Nat × List T × Addr) := none

/-- the script: a list that is only read -/
def IsScr (K : PySem.W.Frag) (H : Hp) (a : Addr) (xs : List V) : Prop := (∃ o, H a = some (.frz o (.lst xs))) ∨
  ∃ (o : Obj) (its : Array Value) (n : Nat), K.lookup a = some o ∧ o.cls = .type "list" ∧ o.dict = none ∧ o.data = .seq its n ∧ its.size ≤ sizeLine ∧ Vals xs its.toList
theorem IsScr.sq {K : PySem.W.Frag} {H : Hp} {a : Addr} {xs : List V} (h : IsScr K H a xs) : SqL K H a xs := by
  rcases h with ⟨o, h⟩ | h
  · exact .inl (.inr ⟨o, h⟩)
  · exact .inr h

mutual
/-- the tree t lies at v; the lists and instances that it reaches are F -/
def Rep (g : Cfg) (H : Hp) : T → V → List Addr → Prop
  | .non, v, F => v = .non ∧ F = []
  | .bl b, v, F => v = .bl b ∧ F = []
  | .int i, v, F => v = .int i ∧ F = []
  | .str s, v, F => v = .str s ∧ F = []
  | .cls c, v, F => v = .ref (g.C c) ∧ F = []
  | .scr ns, v, F => (∃ a, v = .ref a ∧ IsScr g.K H a (ns.map V.int)) ∧ F = []
  | .tup xs, v, F => ∃ a vs, v = .ref a ∧ H a = some (.tup vs) ∧ RepL g H xs vs F
  | .lst xs, v, F => ∃ a vs G, v = .ref a ∧ H a = some (.lst vs) ∧ RepL g H xs vs G ∧ F = a :: G
  | .ins c ks ts, v, F => ∃ a dx fv G, v = .ref a ∧ H a = some (.ins (g.C c) dx fv) ∧ fv.map (·.1) = ks.map g.an ∧ RepL g H ts (fv.map (·.2)) G ∧ F = a :: G
def RepL (g : Cfg) (H : Hp) : List T → List V → List Addr → Prop
  | [], vs, F => vs = [] ∧ F = []
  | t :: ts, vs, F => ∃ v vr F1 F2, vs = v :: vr ∧ Rep g H t v F1 ∧ RepL g H ts vr F2 ∧ F = F1 ++ F2
end

theorem rep_lst {g : Cfg} {H : Hp} {xs : List T} {v : V} {F : List Addr} : Rep g H (.lst xs) v F = ∃ a vs G, v = .ref a ∧ H a = some (.lst vs) ∧ RepL g H xs vs G ∧ F = a :: G := by rw [Rep]
theorem rep_tup {g : Cfg} {H : Hp} {xs : List T} {v : V} {F : List Addr} : Rep g H (.tup xs) v F = ∃ a vs, v = .ref a ∧ H a = some (.tup vs) ∧ RepL g H xs vs F := by rw [Rep]
theorem rep_i {g : Cfg} {H : Hp} {i : Int} {v : V} {F : List Addr} : Rep g H (.int i) v F = (v = .int i ∧ F = []) := by rw [Rep]
theorem rep_b {g : Cfg} {H : Hp} {i : Bool} {v : V} {F : List Addr} : Rep g H (.bl i) v F = (v = .bl i ∧ F = []) := by rw [Rep]
theorem rep_n {g : Cfg} {H : Hp} {v : V} {F : List Addr} : Rep g H .non v F = (v = .non ∧ F = []) := by rw [Rep]
theorem rep_s {g : Cfg} {H : Hp} {i : Str} {v : V} {F : List Addr} : Rep g H (.str i) v F = (v = .str i ∧ F = []) := by rw [Rep]
theorem rep_scr {g : Cfg} {H : Hp} {ns : List Int} {v : V} {F : List Addr} : Rep g H (.scr ns) v F = ((∃ a, v = .ref a ∧ IsScr g.K H a (ns.map V.int)) ∧ F = []) := by rw [Rep]
theorem rep_ins {g : Cfg} {H : Hp} {c : Nat} {ks : List Nat} {ts : List T} {v : V} {F : List Addr} : Rep g H (.ins c ks ts) v F = ∃ a dx fv G, v = .ref a ∧ H a = some (.ins (g.C c) dx fv) ∧ fv.map (·.1) = ks.map g.an ∧ RepL g H ts (fv.map (·.2)) G ∧ F = a :: G := by rw [Rep]
theorem rep_cls {g : Cfg} {H : Hp} {c : Nat} {v : V} {F : List Addr} : Rep g H (.cls c) v F = (v = .ref (g.C c) ∧ F = []) := by rw [Rep]

def Ext (H H' : Hp) : Prop := ∀ b o, H b = some o → H' b = some o
theorem Ext.refl (H : Hp) : Ext H H := fun _ _ h => h
theorem Ext.trans {H H1 H2 : Hp} (a : Ext H H1) (b : Ext H1 H2) : Ext H H2 := fun c o h => b c o (a c o h)
theorem Ext.none {H H' : Hp} (e : Ext H H') {l : Addr} (h : H' l = Option.none) : H l = Option.none := by
  cases q : H l with
  | none => rfl
  | some o =>
    have z := e l o q
    rw [h] at z
    cases z
theorem Ext.new {H : Hp} {p : Addr} {o : HO} (h : H p = Option.none) : Ext H (upd H p o) := fun b u e => by
  rw [upd_ne (ne_of_none e h)]
  exact e
theorem Ext.rd {H H' : Hp} (e : Ext H H') {a : Addr} {u : HO} (h : Rd H a u) : Rd H' a u := by
  rcases h with h | ⟨o, h⟩
  · exact .inl (e _ _ h)
  · exact .inr ⟨o, e _ _ h⟩

/-! ### what a tree's place leans on -/
section
variable {g : Cfg}
/-- enough is kept -/
structure Kp (H H' : Hp) (F : List Addr) : Prop where
  lst : ∀ b ∈ F, ∀ o, H b = some o → H' b = some o
  tup : ∀ b xs, H b = some (.tup xs) → H' b = some (.tup xs)
  frz : ∀ b o u, H b = some (.frz o u) → H' b = some (.frz o u)
theorem Kp.ext {H H' : Hp} {F : List Addr} (e : Ext H H') : Kp H H' F := ⟨fun b _ o h => e b o h, fun b xs h => e b _ h, fun b o u h => e b _ h⟩
theorem Kp.sub {H H' : Hp} {F G : List Addr} (k : Kp H H' F) (h : ∀ b ∈ G, b ∈ F) : Kp H H' G := ⟨fun b hb => k.lst b (h b hb), k.tup, k.frz⟩
mutual
theorem Rep.kp {H H' : Hp} : ∀ {t : T} {v : V} {F : List Addr}, Rep g H t v F → Kp H H' F → Rep g H' t v F
  | .non, _, _, h, _ => by rw [Rep] at h ⊢; exact h
  | .bl _, _, _, h, _ => by rw [Rep] at h ⊢; exact h
  | .int _, _, _, h, _ => by rw [Rep] at h ⊢; exact h
  | .str _, _, _, h, _ => by rw [Rep] at h ⊢; exact h
  | .cls _, _, _, h, _ => by rw [Rep] at h ⊢; exact h
  | .scr ns, _, _, h, k => by
    rw [Rep] at h ⊢
    obtain ⟨⟨a, e, h1⟩, h2⟩ := h
    refine ⟨⟨a, e, ?_⟩, h2⟩
    rcases h1 with ⟨o, h1⟩ | h1
    · exact .inl ⟨o, k.frz _ _ _ h1⟩
    · exact .inr h1
  | .tup xs, _, _, h, k => by
    rw [Rep] at h ⊢
    obtain ⟨a, vs, e, h1, h2⟩ := h
    exact ⟨a, vs, e, k.tup _ _ h1, RepL.kp h2 k⟩
  | .lst xs, _, _, h, k => by
    rw [Rep] at h ⊢
    obtain ⟨a, vs, G, e, h1, h2, rfl⟩ := h
    exact ⟨a, vs, G, e, k.lst a List.mem_cons_self _ h1, RepL.kp h2 (k.sub fun b hb => List.mem_cons_of_mem _ hb), rfl⟩
  | .ins c ks ts, _, _, h, k => by
    rw [Rep] at h ⊢
    obtain ⟨a, dx, fv, G, e, h1, h2, h3, rfl⟩ := h
    exact ⟨a, dx, fv, G, e, k.lst a List.mem_cons_self _ h1, h2, RepL.kp h3 (k.sub fun b hb => List.mem_cons_of_mem _ hb), rfl⟩
theorem RepL.kp {H H' : Hp} : ∀ {ts : List T} {vs : List V} {F : List Addr}, RepL g H ts vs F → Kp H H' F → RepL g H' ts vs F
  | [], _, _, h, _ => by rw [RepL] at h ⊢; exact h
  | t :: ts, _, _, h, k => by
    rw [RepL] at h ⊢
    obtain ⟨v, vr, F1, F2, e, h1, h2, rfl⟩ := h
    exact ⟨v, vr, F1, F2, e, Rep.kp h1 (k.sub fun b hb => List.mem_append_left _ hb), RepL.kp h2 (k.sub fun b hb => List.mem_append_right _ hb), rfl⟩
end
theorem Rep.ext {H H' : Hp} {t : T} {v : V} {F : List Addr} (h : Rep g H t v F) (e : Ext H H') : Rep g H' t v F := h.kp (.ext e)
theorem RepL.ext {H H' : Hp} {t : List T} {v : List V} {F : List Addr} (h : RepL g H t v F) (e : Ext H H') : RepL g H' t v F := h.kp (.ext e)
mutual
/-- what a tree reaches is tracked -/
theorem Rep.dom {H : Hp} : ∀ {t : T} {v : V} {F : List Addr}, Rep g H t v F → ∀ b ∈ F, H b ≠ Option.none
  | .non, _, _, h, b, hb => by rw [Rep] at h; rw [h.2] at hb; cases hb
  | .bl _, _, _, h, b, hb => by rw [Rep] at h; rw [h.2] at hb; cases hb
  | .int _, _, _, h, b, hb => by rw [Rep] at h; rw [h.2] at hb; cases hb
  | .str _, _, _, h, b, hb => by rw [Rep] at h; rw [h.2] at hb; cases hb
  | .cls _, _, _, h, b, hb => by rw [Rep] at h; rw [h.2] at hb; cases hb
  | .scr _, _, _, h, b, hb => by rw [Rep] at h; rw [h.2] at hb; cases hb
  | .tup xs, _, _, h, b, hb => by
    rw [Rep] at h
    obtain ⟨a, vs, e, h1, h2⟩ := h
    exact RepL.dom h2 b hb
  | .lst xs, _, _, h, b, hb => by
    rw [Rep] at h
    obtain ⟨a, vs, G, e, h1, h2, rfl⟩ := h
    rcases List.mem_cons.mp hb with rfl | hb
    · rw [h1]; exact fun z => by cases z
    · exact RepL.dom h2 b hb
  | .ins c ks ts, _, _, h, b, hb => by
    rw [Rep] at h
    obtain ⟨a, dx, fv, G, e, h1, h2, h3, rfl⟩ := h
    rcases List.mem_cons.mp hb with rfl | hb
    · rw [h1]; exact fun z => by cases z
    · exact RepL.dom h3 b hb
theorem RepL.dom {H : Hp} : ∀ {ts : List T} {vs : List V} {F : List Addr}, RepL g H ts vs F → ∀ b ∈ F, H b ≠ Option.none
  | [], _, _, h, b, hb => by rw [RepL] at h; rw [h.2] at hb; cases hb
  | t :: ts, _, _, h, b, hb => by
    rw [RepL] at h
    obtain ⟨v, vr, F1, F2, e, h1, h2, rfl⟩ := h
    rcases List.mem_append.mp hb with hb | hb
    · exact Rep.dom h1 b hb
    · exact RepL.dom h2 b hb
end
theorem RepL.len {H : Hp} : ∀ {ts : List T} {vs : List V} {F : List Addr}, RepL g H ts vs F → vs.length = ts.length
  | [], _, _, h => by rw [RepL] at h; rw [h.1]; rfl
  | t :: ts, _, _, h => by
    rw [RepL] at h
    obtain ⟨v, vr, F1, F2, rfl, h1, h2, rfl⟩ := h
    rw [List.length_cons, List.length_cons, RepL.len h2]
theorem RepL.nil {H : Hp} : RepL g H [] [] [] := by rw [RepL]; exact ⟨rfl, rfl⟩
theorem RepL.cons {H : Hp} {t : T} {ts : List T} {v : V} {vs : List V} {F1 F2 : List Addr} (h1 : Rep g H t v F1) (h2 : RepL g H ts vs F2) : RepL g H (t :: ts) (v :: vs) (F1 ++ F2) := by
  rw [RepL]
  exact ⟨v, vs, F1, F2, rfl, h1, h2, rfl⟩
theorem RepL.append {H : Hp} : ∀ {ts us : List T} {vs ws : List V} {F G : List Addr}, RepL g H ts vs F → RepL g H us ws G → RepL g H (ts ++ us) (vs ++ ws) (F ++ G)
  | [], us, _, ws, _, G, h, h' => by
    rw [RepL] at h
    obtain ⟨rfl, rfl⟩ := h
    exact h'
  | t :: ts, us, _, ws, _, G, h, h' => by
    rw [RepL] at h
    obtain ⟨v, vr, F1, F2, rfl, h1, h2, rfl⟩ := h
    rw [List.append_assoc]
    exact RepL.cons h1 (RepL.append h2 h')
/-- the i-th -/
theorem RepL.get {H : Hp} : ∀ {ts : List T} {vs : List V} {F : List Addr} {i : Nat} {t : T}, RepL g H ts vs F → ts[i]? = some t → ∃ v G, vs[i]? = some v ∧ Rep g H t v G ∧ ∀ b ∈ G, b ∈ F
  | [], _, _, i, t, h, e => by simp at e
  | t :: ts, _, _, 0, u, h, e => by
    rw [RepL] at h
    obtain ⟨v, vr, F1, F2, rfl, h1, h2, rfl⟩ := h
    simp at e
    subst e
    exact ⟨v, F1, rfl, h1, fun b hb => List.mem_append_left _ hb⟩
  | t :: ts, _, _, i + 1, u, h, e => by
    rw [RepL] at h
    obtain ⟨v, vr, F1, F2, rfl, h1, h2, rfl⟩ := h
    obtain ⟨w, G, e1, e2, e3⟩ := RepL.get (i := i) h2 (by simpa using e)
    exact ⟨w, G, by simpa using e1, e2, fun b hb => List.mem_append_right _ (e3 b hb)⟩
theorem RepL.drop {H : Hp} : ∀ {ts : List T} {vs : List V} {F : List Addr} (n : Nat), RepL g H ts vs F → ∃ G, RepL g H (ts.drop n) (vs.drop n) G ∧ ∀ b ∈ G, b ∈ F
  | ts, vs, F, 0, h => ⟨F, h, fun _ hb => hb⟩
  | [], _, _, n + 1, h => by
    rw [RepL] at h
    obtain ⟨rfl, rfl⟩ := h
    exact ⟨[], RepL.nil, fun _ hb => hb⟩
  | t :: ts, _, _, n + 1, h => by
    rw [RepL] at h
    obtain ⟨v, vr, F1, F2, rfl, h1, h2, rfl⟩ := h
    obtain ⟨G, e1, e2⟩ := RepL.drop n h2
    exact ⟨G, e1, fun b hb => List.mem_append_right _ (e2 b hb)⟩
theorem RepL.take {H : Hp} : ∀ {ts : List T} {vs : List V} {F : List Addr} (n : Nat), RepL g H ts vs F → ∃ G, RepL g H (ts.take n) (vs.take n) G ∧ ∀ b ∈ G, b ∈ F
  | ts, vs, F, 0, h => ⟨[], by rw [List.take_zero, List.take_zero]; exact RepL.nil, fun _ hb => by cases hb⟩
  | [], _, _, n + 1, h => by
    rw [RepL] at h
    obtain ⟨rfl, rfl⟩ := h
    exact ⟨[], RepL.nil, fun _ hb => hb⟩
  | t :: ts, _, _, n + 1, h => by
    rw [RepL] at h
    obtain ⟨v, vr, F1, F2, rfl, h1, h2, rfl⟩ := h
    obtain ⟨G, e1, e2⟩ := RepL.take n h2
    refine ⟨F1 ++ G, RepL.cons h1 e1, fun b hb => ?_⟩
    rcases List.mem_append.mp hb with hb | hb
    · exact List.mem_append_left _ hb
    · exact List.mem_append_right _ (e2 b hb)
end

/-! ### freshness -/
/-- 1: the list itself is new and stands apart; 2: of a list of plain things or lists of them, all is new, each once -/
def Lv (n : Nat) (H : Hp) (t : T) (v : V) (F : List Addr) : Prop :=
  match n with
  | 0 => True
  | 1 => ∀ xs, t = .lst xs → ∃ a G, v = .ref a ∧ F = a :: G ∧ H a = none ∧ a ∉ G
  | _ + 2 => (∀ xs, t = .lst xs → ∃ a G, v = .ref a ∧ F = a :: G ∧ H a = none ∧ a ∉ G) ∧ ∀ xs, t = .lst xs → flat2 xs = true → F.Nodup ∧ ∀ b ∈ F, H b = none

/-! ### the slots -/
/-- where what the caught error reaches is booked: behind all slots -/
def erS : Nat := 1000
/-- the caught error stands in its slot; its fields can be read -/
def ErrCx (g : Cfg) (σ : L2.St) (H : Hp) (Fs : Nat → List Addr) : Prop :=
  match g.er with
  | none => True
  | some (i, a, _, ks, ts, dd) => (i < σ.length → σ[i]? = some (some (.ref a))) ∧ ∃ fs : List (Str × V), H dd = some (.xd fs) ∧
    ∀ (i k : Nat) (t : T), ks[i]? = some k → ts[i]? = some t → ∃ v F, fs.lookup (g.an k) = some v ∧ Rep g H t v F ∧ ∀ b ∈ F, b ∈ Fs erS
theorem ErrCx.ext {g : Cfg} {H H' : Hp} {σ : L2.St} {Fs : Nat → List Addr} (h : ErrCx g σ H Fs) (k : Ext H H') : ErrCx g σ H' Fs := by
  unfold ErrCx at h ⊢
  revert h
  cases g.er with
  | none => exact id
  | some x => exact fun ⟨a, fs, b, c⟩ => ⟨a, fs, k _ _ b, fun i k' t h1 h2 => let ⟨v, F, p, q, z⟩ := c i k' t h1 h2; ⟨v, F, p, q.ext k, z⟩⟩
/-- slot by slot; Fs: what each reaches -/
structure EnvR (g : Cfg) (H : Hp) (σ : L2.St) (e : Env) (Fs : Nat → List Addr) : Prop where
  len : σ.length = e.length
  at_ : ∀ i t, e[i]? = some (some t) → ∃ v, σ[i]? = some (some v) ∧ Rep g H t v (Fs i)
  cx : ErrCx g σ H Fs
theorem EnvR.ext {g : Cfg} {H H' : Hp} {σ : L2.St} {e : Env} {Fs : Nat → List Addr} (h : EnvR g H σ e Fs) (k : Ext H H') : EnvR g H' σ e Fs :=
  ⟨h.len, fun i t z => let ⟨v, a, b⟩ := h.at_ i t z; ⟨v, a, b.ext k⟩, h.cx.ext k⟩

/-- an error's object; Av: what its fields may reach -/
def RepX (g : Cfg) (H : Hp) (x : T) (cls : Value) (d : Option Addr) (Av : Addr → Prop) : Prop :=
  ∃ (c : Nat) (ks : List Nat) (ts : List T), x = .ins c ks ts ∧ cls = .ref (g.C c) ∧ ∃ (dd : Addr) (fs : List (Str × V)), d = some dd ∧ H dd = some (.xd fs) ∧
    ∀ (i k : Nat) (t : T), ks[i]? = some k → ts[i]? = some t → ∃ v F, fs.lookup (g.an k) = some v ∧ Rep g H t v F ∧ ∀ b ∈ F, Av b
theorem RepX.imp {g : Cfg} {H : Hp} {x : T} {cls : Value} {d : Option Addr} {Av Bv : Addr → Prop} (h : RepX g H x cls d Av) (k : ∀ b, Av b → Bv b) : RepX g H x cls d Bv := by
  obtain ⟨c, ks, ts, e1, e2, dd, fs, e3, e4, e5⟩ := h
  exact ⟨c, ks, ts, e1, e2, dd, fs, e3, e4, fun i k' t h1 h2 => let ⟨v, F, p, q, z⟩ := e5 i k' t h1 h2; ⟨v, F, p, q, fun b hb => k b (z b hb)⟩⟩
theorem RepX.mono {g : Cfg} {H H' Hx : Hp} {x : T} {cls : Value} {d : Option Addr} {A : Addr → Prop} (h : RepX g Hx x cls d fun b => H' b = none ∨ A b) (e : Ext H H') : RepX g Hx x cls d fun b => H b = none ∨ A b := h.imp fun b z => z.imp e.none id
theorem RepX.mono2 {g : Cfg} {H H' Hx : Hp} {x : T} {cls : Value} {d : Option Addr} {A B : Addr → Prop} (h : RepX g Hx x cls d fun b => H' b = none ∨ B b) (e : Ext H H') (k : ∀ b, B b → A b) : RepX g Hx x cls d fun b => H b = none ∨ A b := h.imp fun b z => z.imp e.none (k b)

/-- what an outcome asks of the end -/
def Out (g : Cfg) (W : WX) (n : Nat) (A : Addr → Prop) (σ : L2.St) (H : Hp) (Q : VK) (r : R T) : Prop :=
  match r with
  | .ok t => ∀ v H' F, Ext H H' → Rep g H' t v F → Lv n H t v F → (∀ b ∈ F, H b = none ∨ A b) → Q v H'
  | .exc x => ∀ cls d H', Ext H H' → RepX g H' x cls d (fun b => H b = none ∨ A b) → W cls d σ H'
  | .bad => False
theorem Lv.mono {n : Nat} {H H' : Hp} {t : T} {v : V} {F : List Addr} (e : Ext H H') (h : Lv n H' t v F) : Lv n H t v F := by
  match n, h with
  | 0, _ => trivial
  | 1, h =>
    intro xs ex
    obtain ⟨a, G, h1, h2, h3, h4⟩ := h xs ex
    exact ⟨a, G, h1, h2, e.none h3, h4⟩
  | _ + 2, h =>
    refine ⟨fun xs ex => ?_, fun xs ex fl => ?_⟩
    · obtain ⟨a, G, h1, h2, h3, h4⟩ := h.1 xs ex
      exact ⟨a, G, h1, h2, e.none h3, h4⟩
    · obtain ⟨h1, h2⟩ := h.2 xs ex fl
      exact ⟨h1, fun b hb => e.none (h2 b hb)⟩
theorem Out.mono {g : Cfg} {W : WX} {n : Nat} {A : Addr → Prop} {σ : L2.St} {H H1 : Hp} {Q : VK} {r : R T} (e : Ext H H1) (h : Out g W n A σ H Q r) : Out g W n A σ H1 Q r := by
  unfold Out at h ⊢
  cases r with
  | ok t => exact fun v H' F a b c d => h v H' F (e.trans a) b (c.mono e) fun x hx => (d x hx).imp e.none id
  | exc x => exact fun cls d H' a b => h cls d H' (e.trans a) (b.mono e)
  | bad => exact h
end Wt

/-! Snd2: expressions. -/
namespace Wt
open PySem PySem.Spec PyProof.Rows L2

/-- an expression that answers f: n its freshness, vs the slots it reads -/
def TEv (g : Cfg) (W : WX) (n : Nat) (vs : List Nat) (f : Env → R T) : TE := fun σ H Q => ∃ e Fs, EnvR g H σ e Fs ∧ Out g W n (fun b => ∃ i ∈ vs, b ∈ Fs i) σ H Q (f e)

theorem PE.imp {X : Cx} {e : Expr} {t t' : TE} (h : PE X e t) (k : ∀ σ H Q, t' σ H Q → t σ H Q) : PE X e t' := ⟨fun pins s σ H Q I q => h.run pins s σ H Q I (k σ H Q q)⟩

theorem Lv.low {n m : Nat} {H : Hp} {t : T} {v : V} {F : List Addr} (h : Lv n H t v F) (k : m ≤ n) : Lv m H t v F := by
  match m, n, h, k with
  | 0, _, _, _ => trivial
  | 1, 1, h, _ => exact h
  | 1, _ + 2, h, _ => exact h.1
  | _ + 2, _ + 2, h, _ => exact h
  | 1, 0, _, k => omega
  | _ + 2, 0, _, k => omega
  | _ + 2, 1, _, k => omega
theorem Out.low {g : Cfg} {W : WX} {n m : Nat} {A B : Addr → Prop} {σ : L2.St} {H : Hp} {Q : VK} {r : R T} (k : m ≤ n) (hA : ∀ b, A b → B b) (h : Out g W m B σ H Q r) : Out g W n A σ H Q r := by
  cases r with
  | ok t => exact fun v H' F a b c d => h v H' F a b (c.low k) fun x hx => (d x hx).imp id (hA x)
  | exc x => exact fun cls d H' a b => h cls d H' a (b.imp fun b z => z.imp id (hA b))
  | bad => exact h
theorem TEv.low {g : Cfg} {W : WX} {n m : Nat} {vs vs' : List Nat} {f : Env → R T} {X : Cx} {a : Expr} (k : m ≤ n) (hs : ∀ i ∈ vs, i ∈ vs') (h : PE X a (TEv g W n vs f)) : PE X a (TEv g W m vs' f) :=
  PE.imp h fun σ H Q ⟨e, Fs, he, h⟩ => ⟨e, Fs, he, h.low k fun b ⟨i, hi, hb⟩ => ⟨i, hs i hi, hb⟩⟩
theorem noMut_F {g : Cfg} {H : Hp} : (∀ {t : T} {v : V} {F : List Addr}, Rep g H t v F → noMut t = true → F = []) := by
  intro t
  refine T.rec (motive_1 := fun t => ∀ {v : V} {F : List Addr}, Rep g H t v F → noMut t = true → F = []) (motive_2 := fun ts => ∀ {v : List V} {F : List Addr}, RepL g H ts v F → noMuts ts = true → F = []) ?_ ?_ ?_ ?_ ?_ ?_ ?_ ?_ ?_ ?_ ?_ t
  · intro v F h _; rw [Rep] at h; exact h.2
  · intro b v F h _; rw [Rep] at h; exact h.2
  · intro b v F h _; rw [Rep] at h; exact h.2
  · intro b v F h _; rw [Rep] at h; exact h.2
  · intro xs ih v F h k; rw [Rep] at h; obtain ⟨a, vs, e, h1, h2⟩ := h; exact ih h2 (by rw [noMut] at k; exact k)
  · intro xs ih v F h k; rw [noMut] at k; cases k
  · intro c ks vs ih v F h k; rw [noMut] at k; cases k
  · intro b v F h _; rw [Rep] at h; exact h.2
  · intro b v F h _; rw [Rep] at h; exact h.2
  · intro v F h _; rw [RepL] at h; exact h.2
  · intro t ts ih1 ih2 v F h k
    rw [RepL] at h
    obtain ⟨w, vr, F1, F2, rfl, h1, h2, rfl⟩ := h
    rw [noMuts, Bool.and_eq_true] at k
    rw [ih1 h1 k.1, ih2 h2 k.2]; rfl

section
variable {X : Cx} {g : Cfg} {W : WX} {pins : List (Addr × Obj)} {s : Shared} {σ : L2.St} {Hb H : Hp} {Q : VK} {e : Env} {Fs : Nat → List Addr} {A : Addr → Prop}

/-- THE STEP: a is evaluated, then what follows -/
theorem run1 {n m : Nat} {vs : List Nat} {a : Expr} {f : Env → R T} {k : T → R T} {Post : Value → Shared → Prop} (ha : PE X a (TEv g W m vs f)) (I : Inv X pins σ H s) (he : EnvR g H σ e Fs) (eb : Ext Hb H)
    (hA : ∀ i ∈ vs, ∀ b ∈ Fs i, A b) (h : Out g W n A σ Hb Q ((f e).bnd k))
    (hk : ∀ t v u F H1 s1, f e = .ok t → Inv X pins σ H1 s1 → EnvR g H1 σ e Fs → Ext Hb H1 → Ext H H1 → RelV v u → Rep g H1 t v F → Lv m H t v F → (∀ b ∈ F, Hb b = none ∨ A b) → Out g W n A σ Hb Q (k t) → Post u s1) :
    wpAny (model X.prog X.w) X.A (eval a X.env) Post X.xe s := by
  refine thn (ha.run pins s σ H (fun v H1 => ∃ t F, f e = .ok t ∧ Ext H H1 ∧ Rep g H1 t v F ∧ Lv m H t v F ∧ ∀ b ∈ F, H b = none ∨ A b) I ⟨e, Fs, he, ?_⟩) fun u s1 ⟨v, H1, I1, r1, t, F, et, e1, rt, lv, pf⟩ => ?_
  · revert h
    cases f e with
    | ok t => exact fun _ v H' F a b c d => ⟨t, F, rfl, a, b, c, fun x hx => (d x hx).imp id fun ⟨i, hi, hb⟩ => hA i hi x hb⟩
    | exc x => exact fun h cls d H' a b => h cls d H' (eb.trans a) (b.mono2 eb fun b ⟨i, hi, hb⟩ => hA i hi b hb)
    | bad => exact id
  · rw [et, R.bnd_ok] at h
    exact hk t v u F H1 s1 et I1 (he.ext e1) (eb.trans e1) e1 r1 rt lv (fun b hb => (pf b hb).imp eb.none id) h
/-- the end: a value's place -/
theorem fin {n : Nat} {t : T} {v : V} {u : Value} {F : List Addr} (I : Inv X pins σ H s) (eb : Ext Hb H) (r : RelV v u) (rt : Rep g H t v F) (lv : Lv n Hb t v F) (pf : ∀ b ∈ F, Hb b = none ∨ A b) (h : Out g W n A σ Hb Q (.ok t)) : EP X pins σ Q u s :=
  ⟨v, H, I, r, h v H F eb rt lv pf⟩
theorem lv_of {n : Nat} {t : T} {v : V} {F : List Addr} (h : ∀ xs, t ≠ .lst xs) : Lv n Hb t v F := by
  match n with
  | 0 => trivial
  | 1 => exact fun xs e => (h xs e).elim
  | _ + 2 => exact ⟨fun xs e => (h xs e).elim, fun xs e => (h xs e).elim⟩
theorem fin_int {n : Nat} {i : Int} {t : Tok} (I : Inv X pins σ H s) (eb : Ext Hb H) (h : Out g W n A σ Hb Q (.ok (.int i))) : EP X pins σ Q (.int i t) s :=
  fin I eb (v := .int i) ⟨_, rfl⟩ (F := []) (by rw [Rep]; exact ⟨rfl, rfl⟩) (lv_of fun _ z => by cases z) (fun _ z => by cases z) h
theorem fin_bool {n : Nat} {b : Bool} (I : Inv X pins σ H s) (eb : Ext Hb H) (h : Out g W n A σ Hb Q (.ok (.bl b))) : EP X pins σ Q (.bool b) s :=
  fin I eb (v := .bl b) rfl (F := []) (by rw [Rep]; exact ⟨rfl, rfl⟩) (lv_of fun _ z => by cases z) (fun _ z => by cases z) h
theorem fin_none {n : Nat} (I : Inv X pins σ H s) (eb : Ext Hb H) (h : Out g W n A σ Hb Q (.ok .non)) : EP X pins σ Q .none s :=
  fin I eb (v := .non) rfl (F := []) (by rw [Rep]; exact ⟨rfl, rfl⟩) (lv_of fun _ z => by cases z) (fun _ z => by cases z) h
theorem Out.bnd_bad {n : Nat} {k : T → R T} : ¬ Out g W n A σ Hb Q ((R.bad).bnd k) := fun h => h

/-! ### values by kind -/
theorem rep_int {i : Int} {v : V} {u : Value} {F : List Addr} (r : RelV v u) (h : Rep g H (.int i) v F) : ∃ t, u = .int i t := by
  rw [Rep] at h
  obtain ⟨rfl, _⟩ := h
  exact r
theorem rep_bl {b : Bool} {v : V} {u : Value} {F : List Addr} (r : RelV v u) (h : Rep g H (.bl b) v F) : u = .bool b := by
  rw [Rep] at h
  obtain ⟨rfl, _⟩ := h
  exact r
/-- a list's object -/
theorem rd_lst {a : Addr} {vs : List V} (I : Inv X pins σ H s) (h : Rd H a (.lst vs)) : ∃ (its : List Value) (n : Nat), Vals vs its ∧ its.length ≤ sizeLine ∧ s.heap.get? a = some { cls := .type "list", data := .seq its.toArray n } := by
  have z : ObjOk X.prog X.w H s.heap a (.lst vs) := h.ok I.hok
  obtain ⟨h1, its, n, r, e⟩ := z
  exact ⟨its, n, r, by rw [← r.length]; exact h1, e⟩
theorem tp_tup {a : Addr} {vs : List V} (I : Inv X pins σ H s) (h : H a = some (.tup vs)) : ∃ its : List Value, Vals vs its ∧ its.length ≤ sizeLine ∧ IsTup s.heap a its.toArray := by
  obtain ⟨h1, its, r, e⟩ : vs.length ≤ sizeLine ∧ ∃ its : List Value, Vals vs its ∧ IsTup s.heap a its.toArray := I.hok a _ h
  exact ⟨its, r, by rw [← r.length]; exact h1, e⟩
theorem lim_eq : sizeLine = LIM := by rw [sizeLine_eq]; rfl

/-! ### new lists and tuples -/
/-- a new list at the heap's end -/
theorem fin_lst {n : Nat} {xs : List T} {vs : List V} {us : List Value} {G : List Addr} {c tk : Nat} (I : Inv X pins σ H s) (eb : Ext Hb H) (r : Vals vs us) (rt : RepL g H xs vs G) (pf : ∀ b ∈ G, Hb b = none ∨ A b) (hn : n ≤ 1) (hl : vs.length ≤ sizeLine) (h : Out g W n A σ Hb Q (.ok (.lst xs))) :
    EP X pins σ Q (.ref s.heap.objs.size) { s with heap := s.heap.push { cls := .type "list", data := .seq us.toArray c }, toks := tk } := by
  have hf : H s.heap.objs.size = none := I.hok.fresh (Nat.le_refl _)
  have J : Inv X pins σ (upd H s.heap.objs.size (.lst vs)) { s with heap := s.heap.push { cls := .type "list", data := .seq us.toArray c }, toks := tk } :=
    I.laid (fun b u e => Heap.get?_push_of_some _ e) (Nat.le_refl _) ⟨hl, us, c, r, Heap.get?_push_size _ rfl⟩
  have ne : s.heap.objs.size ∉ G := fun hm => rt.dom _ hm hf
  refine fin (t := .lst xs) (F := s.heap.objs.size :: G) J (eb.trans (.new hf)) (v := .ref s.heap.objs.size) rfl ?_ ?_ ?_ h
  · rw [Rep]
    exact ⟨_, vs, G, rfl, upd_same, rt.ext (.new hf), rfl⟩
  · match n, hn with
    | 0, _ => trivial
    | 1, _ => exact fun ys e => ⟨_, G, rfl, rfl, eb.none hf, ne⟩
  · intro b hb
    rcases List.mem_cons.mp hb with rfl | hb
    · exact .inl (eb.none hf)
    · exact pf b hb
theorem fin_tup {n : Nat} {xs : List T} {vs : List V} {us : List Value} {G : List Addr} {c tk : Nat} (I : Inv X pins σ H s) (eb : Ext Hb H) (r : Vals vs us) (rt : RepL g H xs vs G) (pf : ∀ b ∈ G, Hb b = none ∨ A b) (hl : vs.length ≤ sizeLine) (h : Out g W n A σ Hb Q (.ok (.tup xs))) :
    EP X pins σ Q (.ref s.heap.objs.size) { s with heap := s.heap.push { cls := .type "tuple", data := .seq us.toArray c }, toks := tk } := by
  have hf : H s.heap.objs.size = none := I.hok.fresh (Nat.le_refl _)
  have J : Inv X pins σ (upd H s.heap.objs.size (.tup vs)) { s with heap := s.heap.push { cls := .type "tuple", data := .seq us.toArray c }, toks := tk } :=
    I.laid (fun b u e => Heap.get?_push_of_some _ e) (Nat.le_refl _) ⟨hl, us, r, ⟨_, Heap.get?_push_size _ rfl, rfl, _, rfl⟩⟩
  refine fin (t := .tup xs) (F := G) J (eb.trans (.new hf)) (v := .ref s.heap.objs.size) rfl ?_ (lv_of fun _ z => by cases z) pf h
  rw [Rep]
  exact ⟨_, vs, rfl, upd_same, rt.ext (.new hf)⟩
end

/-! ### names and constants -/
section
variable {X : Cx} {g : Cfg} {W : WX} {pos : Pos}
theorem ev_var {i : Nat} {x : Str} (hN : X.N[i]? = some x) (hv : Vis X.env.scope x) (hd : (x == ("__debug__" : Str)) = false) (hcd : (x == ("__classdict__" : Str)) = false) : PE X (.Name x pos) (TEv g W 0 [i] fun e => ofO (e.getD i none)) := by
  refine PE.imp (pe_var hN hv hd hcd) fun σ H Q ⟨e, Fs, he, h⟩ => ?_
  dsimp only at h
  rw [List.getD_eq_getElem?_getD] at h
  cases q : e[i]? with
  | none => rw [q] at h; exact h.elim
  | some o =>
    cases o with
    | none => rw [q] at h; exact h.elim
    | some t =>
      rw [q] at h
      obtain ⟨v, e1, r⟩ := he.at_ i t q
      exact ⟨v, e1, h v H _ (.refl H) r trivial fun b hb => .inr ⟨i, List.mem_singleton.mpr rfl, hb⟩⟩
theorem ev_int {i : Int} {j : Nat} {n : Nat} {vs : List Nat} : PE X (.Constant (.int i) j pos) (TEv g W n vs fun _ => .ok (.int i)) :=
  PE.imp pe_int fun σ H Q ⟨e, Fs, he, h⟩ => h _ H [] (.refl H) (by rw [Rep]; exact ⟨rfl, rfl⟩) (lv_of fun _ z => by cases z) fun _ z => by cases z
theorem ev_bl {i : Bool} {j : Nat} {n : Nat} {vs : List Nat} : PE X (.Constant (.bool i) j pos) (TEv g W n vs fun _ => .ok (.bl i)) :=
  PE.imp pe_bl fun σ H Q ⟨e, Fs, he, h⟩ => h _ H [] (.refl H) (by rw [Rep]; exact ⟨rfl, rfl⟩) (lv_of fun _ z => by cases z) fun _ z => by cases z
theorem ev_non {j : Nat} {n : Nat} {vs : List Nat} : PE X (.Constant .none j pos) (TEv g W n vs fun _ => .ok .non) :=
  PE.imp pe_non fun σ H Q ⟨e, Fs, he, h⟩ => h _ H [] (.refl H) (by rw [Rep]; exact ⟨rfl, rfl⟩) (lv_of fun _ z => by cases z) fun _ z => by cases z
theorem ev_str {i : Str} {j : Nat} {n : Nat} {vs : List Nat} : PE X (.Constant (.str i) j pos) (TEv g W n vs fun _ => .ok (.str i)) :=
  PE.imp pe_str fun σ H Q ⟨e, Fs, he, h⟩ => h _ H [] (.refl H) (by rw [Rep]; exact ⟨rfl, rfl⟩) (lv_of fun _ z => by cases z) fun _ z => by cases z

/-! ### two-place operations -/
/-- f on two values answers as k says -/
def Op2 (X : Cx) (g : Cfg) (W : WX) (n : Nat) (f : Value → Value → Sem Value) (k : T → T → R T) : Prop :=
  ∀ (pins : List (Addr × Obj)) (s : Shared) (σ : L2.St) (Hb H : Hp) (A : Addr → Prop) (Q : VK) (x y : V) (v u : Value) (t1 t2 : T) (F1 F2 : List Addr), Inv X pins σ H s → Ext Hb H → RelV x v → RelV y u → Rep g H t1 x F1 → Rep g H t2 y F2 →
    (∀ b ∈ F1, Hb b = none ∨ A b) → (∀ b ∈ F2, Hb b = none ∨ A b) → Out g W n A σ Hb Q (k t1 t2) → wpAny (model X.prog X.w) X.A (f v u) (EP X pins σ Q) X.xe s
variable {a b : Expr} {fa fb : Env → R T} {va vb : List Nat} {n : Nat}
/-- two expressions, then an operation -/
theorem run2 {f : Value → Value → Sem Value} {k : T → T → R T} (ho : Op2 X g W n f k) (ha : PE X a (TEv g W 0 va fa)) (hb : PE X b (TEv g W 0 vb fb)) {pins : List (Addr × Obj)} {s : Shared} {σ : L2.St} {H : Hp} {Q : VK} (I : Inv X pins σ H s)
    (h : TEv g W n (va ++ vb) (fun e => (fa e).bnd fun x => (fb e).bnd fun y => k x y) σ H Q) :
    wpAny (model X.prog X.w) X.A (eval a X.env) (fun v s₁ => wpAny (model X.prog X.w) X.A (eval b X.env) (fun u s₂ => wpAny (model X.prog X.w) X.A (f v u) (EP X pins σ Q) X.xe s₂) X.xe s₁) X.xe s := by
  obtain ⟨e, Fs, he, h⟩ := h
  refine run1 (A := fun b => ∃ i ∈ va ++ vb, b ∈ Fs i) (k := fun x => (fb e).bnd fun y => k x y) ha I he (.refl H) (fun i hi b hb => ⟨i, List.mem_append_left _ hi, hb⟩) h fun t1 x v F1 H1 s1 _ I1 he1 eb1 _ rx rt1 _ pf1 h1 => ?_
  refine run1 (A := fun b => ∃ i ∈ va ++ vb, b ∈ Fs i) (k := fun y => k t1 y) hb I1 he1 eb1 (fun i hi b hb => ⟨i, List.mem_append_right _ hi, hb⟩) h1 fun t2 y u F2 H2 s2 _ I2 he2 eb2 e2 ry rt2 _ pf2 h2 => ?_
  exact ho pins s2 σ H H2 _ Q x y v u t1 t2 F1 F2 I2 eb2 rx ry (rt1.ext e2) rt2 pf1 pf2 h2
theorem ev_bin {op : Operator} {k : T → T → R T} (ho : Op2 X g W n (binaryOp op) k) (ha : PE X a (TEv g W 0 va fa)) (hb : PE X b (TEv g W 0 vb fb)) : PE X (.BinOp a op b pos) (TEv g W n (va ++ vb) fun e => (fa e).bnd fun x => (fb e).bnd fun y => k x y) :=
  ⟨fun pins s σ H Q I h => wpAny_BinOp (run2 ho ha hb I h)⟩
end
end Wt

/-! Snd3: operators. -/
namespace Wt
open PySem PySem.Spec PyProof.Rows L2

section
variable {X : Cx} {g : Cfg} {W : WX} {n : Nat} {A : Addr → Prop} {σ : L2.St} {Hb H : Hp} {Q : VK}
theorem ok_int {i : Int} (eb : Ext Hb H) (h : Out g W n A σ Hb Q (.ok (.int i))) : Q (.int i) H := h _ H [] eb (by rw [Rep]; exact ⟨rfl, rfl⟩) (lv_of fun _ z => by cases z) fun _ z => by cases z
theorem ok_bl {i : Bool} (eb : Ext Hb H) (h : Out g W n A σ Hb Q (.ok (.bl i))) : Q (.bl i) H := h _ H [] eb (by rw [Rep]; exact ⟨rfl, rfl⟩) (lv_of fun _ z => by cases z) fun _ z => by cases z
theorem ok_non (eb : Ext Hb H) (h : Out g W n A σ Hb Q (.ok .non)) : Q .non H := h _ H [] eb (by rw [Rep]; exact ⟨rfl, rfl⟩) (lv_of fun _ z => by cases z) fun _ z => by cases z
/-- a new list -/
theorem ok_lst {p : Addr} {xs : List T} {vs : List V} {G : List Addr} (eb : Ext Hb H) (hf : H p = none) (rt : RepL g H xs vs G) (pf : ∀ b ∈ G, Hb b = none ∨ A b) (hn : n ≤ 1) (h : Out g W n A σ Hb Q (.ok (.lst xs))) : Q (.ref p) (upd H p (.lst vs)) := by
  refine h _ _ (p :: G) (eb.trans (.new hf)) ?_ ?_ ?_
  · rw [Rep]
    exact ⟨_, vs, G, rfl, upd_same, rt.ext (.new hf), rfl⟩
  · match n, hn with
    | 0, _ => trivial
    | 1, _ => exact fun ys e => ⟨_, G, rfl, rfl, eb.none hf, fun hm => rt.dom _ hm hf⟩
  · intro b hb
    rcases List.mem_cons.mp hb with rfl | hb
    · exact .inl (eb.none hf)
    · exact pf b hb
theorem ok_tup {p : Addr} {xs : List T} {vs : List V} {G : List Addr} (eb : Ext Hb H) (hf : H p = none) (rt : RepL g H xs vs G) (pf : ∀ b ∈ G, Hb b = none ∨ A b) (h : Out g W n A σ Hb Q (.ok (.tup xs))) : Q (.ref p) (upd H p (.tup vs)) := by
  refine h _ _ G (eb.trans (.new hf)) ?_ (lv_of fun _ z => by cases z) pf
  rw [Rep]
  exact ⟨_, vs, rfl, upd_same, rt.ext (.new hf)⟩
theorem ok_old {t : T} {v : V} {F : List Addr} (eb : Ext Hb H) (rt : Rep g H t v F) (pf : ∀ b ∈ F, Hb b = none ∨ A b) (ht : n = 0 ∨ ∀ xs, t ≠ .lst xs) (h : Out g W n A σ Hb Q (.ok t)) : Q v H := by
  refine h v H F eb rt ?_ pf
  rcases ht with rfl | ht
  · trivial
  · exact lv_of ht
theorem Out.chk {b : Bool} {r : R T} (h : Out g W n A σ Hb Q (chk b r)) : b = true ∧ Out g W n A σ Hb Q r := by
  cases b with
  | true => exact ⟨rfl, h⟩
  | false => exact h.elim
theorem RepL.flat {xs : List T} {vs : List V} {G : List Addr} (h : RepL g H xs vs G) : ∀ k : Nat, ∃ G', RepL g H (repL k xs) (List.replicate k vs).flatten G' ∧ ∀ b ∈ G', b ∈ G
  | 0 => ⟨[], RepL.nil, fun _ z => by cases z⟩
  | k + 1 => by
    obtain ⟨G', h1, h2⟩ := RepL.flat h k
    refine ⟨G ++ G', ?_, fun b hb => (List.mem_append.mp hb).elim id (h2 b)⟩
    unfold repL at h1 ⊢
    rw [List.replicate_succ, List.replicate_succ, List.flatten_cons, List.flatten_cons]
    exact h.append h1
end

/-- what an instance's operator answers -/
def Dun (X : Cx) (g : Cfg) (W : WX) (n : Nat) (f : Value → Value → Sem Value) (k : Nat → T → T → R T) : Prop :=
  ∀ (pins : List (Addr × Obj)) (s : Shared) (σ : L2.St) (Hb H : Hp) (A : Addr → Prop) (Q : VK) (x y : V) (v u : Value) (c : Nat) (ks : List Nat) (ts : List T) (t2 : T) (F1 F2 : List Addr), Inv X pins σ H s → Ext Hb H → RelV x v → RelV y u →
    Rep g H (.ins c ks ts) x F1 → Rep g H t2 y F2 → (∀ b ∈ F1, Hb b = none ∨ A b) → (∀ b ∈ F2, Hb b = none ∨ A b) → Out g W n A σ Hb Q (k c (.ins c ks ts) t2) → wpAny (model X.prog X.w) X.A (f v u) (EP X pins σ Q) X.xe s

theorem blt64 {i : Int} (h : i.natAbs.blt 18446744073709551616 = true) : -(2 ^ 64) < i ∧ i < 2 ^ 64 := by
  have h1 : i.natAbs < 18446744073709551616 := Nat.le_of_ble_eq_true h
  omega
theorem big_eq : BIG = 2 ^ 8000 := by unfold BIG; rfl
theorem MulOk.ok {i j : Int} (h : MulOk i j = true) : CMul i j ∨ CMulW i j := by
  unfold MulOk at h
  rw [Bool.or_eq_true, Bool.or_eq_true, Bool.and_eq_true] at h
  rcases h with h | h | ⟨h1, h2⟩
  · exact .inl (.inl (blt64 h))
  · exact .inl (.inr (blt64 h))
  · refine .inr (wide_mul (a := 8000) (b := 8000) ?_ ?_ (by decide) (by decide) (by decide))
    · rw [← big_eq]; exact Nat.le_of_ble_eq_true h1
    · rw [← big_eq]; exact Nat.le_of_ble_eq_true h2
theorem DivOk.ok {i j : Int} (h : DivOk i j = true) : CDivW i j := by
  unfold DivOk at h
  rw [Bool.and_eq_true, Bool.or_eq_true] at h
  obtain ⟨h1, h2⟩ := h
  have h1 : 0 < j := of_decide_eq_true h1
  rcases h2 with h2 | h2
  · exact wide_div h1 (b := 30) (Nat.le_of_ble_eq_true h2) (by decide) (by decide)
  · exact wide_div h1 (b := 8000) (by rw [← big_eq]; exact Nat.le_of_ble_eq_true h2) (by decide) (by decide)

theorem mcallOut {P : Prog} {cl : Nat → List T → R T} {c m : Nat} {ts : List T} : mcall P cl c m ts = match P.meth c m with
  | some f => cl f ts
  | none => .bad := rfl

theorem nat_bit (i j : Int) (hi : 0 ≤ i) (hj : 0 ≤ j) : Builtin.bitAnd i j = ((Nat.land i.toNat j.toNat : Nat) : Int) := by
  obtain ⟨a, rfl⟩ := Int.eq_ofNat_of_zero_le hi
  obtain ⟨b, rfl⟩ := Int.eq_ofNat_of_zero_le hj
  rfl

section
variable {X : Cx} {g : Cfg} {W : WX} {P : Prog} {cl : Nat → List T → R T}
theorem op2_add (hd : Dun X g W 1 (binaryOp .Add) fun c x y => mcall P cl c 1 [x, y]) : Op2 X g W 1 (binaryOp .Add) (binT P cl .add) := by
  intro pins s σ Hb H A Q x y v u t1 t2 F1 F2 I eb rx ry r1 r2 p1 p2 h
  cases t1 with
  | int i =>
    cases t2 with
    | int j =>
      rw [Rep] at r1 r2
      exact op_add pins s σ H x y v u Q I rx ry ⟨i, j, r1.1, r2.1, ok_int eb h⟩
    | _ => exact (show False from h).elim
  | lst a =>
    cases t2 with
    | lst b =>
      obtain ⟨hl, h⟩ := Out.chk h
      rw [Rep] at r1 r2
      obtain ⟨p, vs, G, rfl, h1, h2, rfl⟩ := r1
      obtain ⟨q, ws, G', rfl, h1', h2', rfl⟩ := r2
      refine op_cat pins s σ H _ _ v u Q I rx ry ⟨p, q, vs, ws, rfl, rfl, h1, h1', ?_, fun z hz => ok_lst eb hz (h2.append h2') (fun b hb => ?_) (Nat.le_refl _) h⟩
      · rw [h2.len, h2'.len, lim_eq]; exact Nat.le_of_ble_eq_true hl
      · rcases List.mem_append.mp hb with hb | hb
        · exact p1 b (List.mem_cons_of_mem _ hb)
        · exact p2 b (List.mem_cons_of_mem _ hb)
    | _ => exact (show False from h).elim
  | tup a =>
    cases t2 with
    | tup b =>
      obtain ⟨hl, h⟩ := Out.chk h
      have r1' := r1
      have r2' := r2
      rw [Rep] at r1 r2
      obtain ⟨p, vs, rfl, h1, h2⟩ := r1
      obtain ⟨q, ws, rfl, h1', h2'⟩ := r2
      refine op_catA pins s σ H _ _ v u Q I rx ry ⟨p, q, vs, ws, rfl, rfl, SqT.of h1, SqT.of h1', ?_, fun z => ?_, fun z z' => ?_, fun _ _ z hz => ok_tup eb hz (h2.append h2') (fun b hb => ?_) h⟩
      · rw [h2.len, h2'.len, lim_eq]; exact Nat.le_of_ble_eq_true hl
      · subst z
        have : a = [] := List.eq_nil_of_length_eq_zero (by rw [← h2.len]; rfl)
        subst this
        exact ok_old eb r2' p2 (.inr fun _ z => by cases z) h
      · subst z'
        have : b = [] := List.eq_nil_of_length_eq_zero (by rw [← h2'.len]; rfl)
        subst this
        rw [List.append_nil] at h
        exact ok_old eb r1' p1 (.inr fun _ z => by cases z) h
      · rcases List.mem_append.mp hb with hb | hb
        · exact p1 b hb
        · exact p2 b hb
    | _ => exact (show False from h).elim
  | ins c ks ts => exact hd pins s σ Hb H A Q x y v u c ks ts t2 F1 F2 I eb rx ry r1 r2 p1 p2 h
  | _ => exact (show False from h).elim
theorem op2_sub (hd : Dun X g W 1 (binaryOp .Sub) fun c x y => mcall P cl c 2 [x, y]) : Op2 X g W 1 (binaryOp .Sub) (binT P cl .sub) := by
  intro pins s σ Hb H A Q x y v u t1 t2 F1 F2 I eb rx ry r1 r2 p1 p2 h
  cases t1 with
  | int i =>
    cases t2 with
    | int j =>
      rw [Rep] at r1 r2
      exact op_sub pins s σ H x y v u Q I rx ry ⟨i, j, r1.1, r2.1, ok_int eb h⟩
    | _ => exact (show False from h).elim
  | ins c ks ts => exact hd pins s σ Hb H A Q x y v u c ks ts t2 F1 F2 I eb rx ry r1 r2 p1 p2 h
  | lst a => cases t2 <;> exact (show False from h).elim
  | tup a => cases t2 <;> exact (show False from h).elim
  | _ => exact (show False from h).elim
theorem op2_band (hd : Dun X g W 1 (binaryOp .BitAnd) fun c x y => mcall P cl c 3 [x, y]) : Op2 X g W 1 (binaryOp .BitAnd) (binT P cl .band) := by
  intro pins s σ Hb H A Q x y v u t1 t2 F1 F2 I eb rx ry r1 r2 p1 p2 h
  cases t1 with
  | int i =>
    cases t2 with
    | int j =>
      obtain ⟨hc, h⟩ := Out.chk h
      rw [Bool.and_eq_true] at hc
      have h1 := of_decide_eq_true hc.1
      have h2 := of_decide_eq_true hc.2
      rw [Rep] at r1 r2
      exact op_and pins s σ H x y v u Q I rx ry ⟨i, j, r1.1, r2.1, by show Q (.int (Builtin.bitAnd i j)) H; rw [nat_bit i j h1 h2]; exact ok_int eb h⟩
    | _ => exact (show False from h).elim
  | ins c ks ts => exact hd pins s σ Hb H A Q x y v u c ks ts t2 F1 F2 I eb rx ry r1 r2 p1 p2 h
  | lst a => cases t2 <;> exact (show False from h).elim
  | tup a => cases t2 <;> exact (show False from h).elim
  | _ => exact (show False from h).elim
theorem op2_mul (hn : ∀ c, P.meth c 0 = none) : Op2 X g W 1 (binaryOp .Mult) (binT P cl .mul) := by
  intro pins s σ Hb H A Q x y v u t1 t2 F1 F2 I eb rx ry r1 r2 p1 p2 h
  cases t1 with
  | int i =>
    cases t2 with
    | int j =>
      obtain ⟨hc, h⟩ := Out.chk h
      rw [Rep] at r1 r2
      rcases MulOk.ok hc with hc | hc
      · exact L2.op_mul pins s σ H x y v u Q I rx ry ⟨i, j, r1.1, r2.1, hc, ok_int eb h⟩
      · exact op_mulW pins s σ H x y v u Q I rx ry ⟨i, j, r1.1, r2.1, hc, ok_int eb h⟩
    | _ => exact (show False from h).elim
  | lst a =>
    cases t2 with
    | int k =>
      obtain ⟨hc, h⟩ := Out.chk h
      rw [Bool.and_eq_true, Bool.and_eq_true] at hc
      obtain ⟨c1, c2, c3⟩ := hc
      have c1 := of_decide_eq_true c1
      have c2 := of_decide_eq_true c2
      have c3 := Nat.le_of_ble_eq_true c3
      rw [rep_lst] at r1
      rw [rep_i] at r2
      obtain ⟨p, vs, G, rfl, h1, h2, rfl⟩ := r1
      obtain ⟨G', e1, e2⟩ := h2.flat k.toNat
      exact op_rep pins s σ H _ y v u Q I rx ry ⟨p, k, vs, rfl, r2.1, h1, by omega, by omega, by rw [h2.len, lim_eq]; exact c3, fun z hz => ok_lst eb hz e1 (fun b hb => p1 b (List.mem_cons_of_mem _ (e2 b hb))) (Nat.le_refl _) h⟩
    | _ => exact (show False from h).elim
  | ins c ks ts =>
    have z : Out g W 1 A σ Hb Q (mcall P cl c 0 [.ins c ks ts, t2]) := h
    rw [mcallOut, hn c] at z
    exact (show False from z).elim
  | tup a => cases t2 <;> exact (show False from h).elim
  | _ => exact (show False from h).elim
theorem op2_fdiv (hn : ∀ c, P.meth c 0 = none) : Op2 X g W 2 (binaryOp .FloorDiv) (binT P cl .fdiv) := by
  intro pins s σ Hb H A Q x y v u t1 t2 F1 F2 I eb rx ry r1 r2 p1 p2 h
  cases t1 with
  | int i =>
    cases t2 with
    | int j =>
      obtain ⟨hc, h⟩ := Out.chk h
      rw [Rep] at r1 r2
      exact op_fdivW pins s σ H x y v u Q I rx ry ⟨i, j, r1.1, r2.1, DivOk.ok hc, ok_int eb h⟩
    | _ => exact (show False from h).elim
  | ins c ks ts =>
    have z : Out g W 2 A σ Hb Q (mcall P cl c 0 [.ins c ks ts, t2]) := h
    rw [mcallOut, hn c] at z
    exact (show False from z).elim
  | lst a => cases t2 <;> exact (show False from h).elim
  | tup a => cases t2 <;> exact (show False from h).elim
  | _ => exact (show False from h).elim
theorem op2_mod (hn : ∀ c, P.meth c 0 = none) : Op2 X g W 2 (binaryOp .Mod) (binT P cl .mod) := by
  intro pins s σ Hb H A Q x y v u t1 t2 F1 F2 I eb rx ry r1 r2 p1 p2 h
  cases t1 with
  | int i =>
    cases t2 with
    | int j =>
      obtain ⟨hc, h⟩ := Out.chk h
      rw [Rep] at r1 r2
      exact op_mod pins s σ H x y v u Q I rx ry ⟨i, j, r1.1, r2.1, of_decide_eq_true hc, ok_int eb h⟩
    | _ => exact (show False from h).elim
  | ins c ks ts =>
    have z : Out g W 2 A σ Hb Q (mcall P cl c 0 [.ins c ks ts, t2]) := h
    rw [mcallOut, hn c] at z
    exact (show False from z).elim
  | lst a => cases t2 <;> exact (show False from h).elim
  | tup a => cases t2 <;> exact (show False from h).elim
  | _ => exact (show False from h).elim
theorem op2_shl (hn : ∀ c, P.meth c 0 = none) : Op2 X g W 2 (binaryOp .LShift) (binT P cl .shl) := by
  intro pins s σ Hb H A Q x y v u t1 t2 F1 F2 I eb rx ry r1 r2 p1 p2 h
  cases t1 with
  | int i =>
    cases t2 with
    | int j =>
      obtain ⟨hc, h⟩ := Out.chk h
      rw [Bool.and_eq_true, Bool.and_eq_true] at hc
      obtain ⟨c1, c2, c3⟩ := hc
      have c1 := of_decide_eq_true c1
      have c2 := of_decide_eq_true c2
      have c3 : i.natAbs < 18446744073709551616 := Nat.le_of_ble_eq_true c3
      rw [Rep] at r1 r2
      exact op_shl pins s σ H x y v u Q I rx ry ⟨i, j, r1.1, r2.1, ⟨c1, by omega, by omega⟩, ok_int eb h⟩
    | _ => exact (show False from h).elim
  | ins c ks ts =>
    have z : Out g W 2 A σ Hb Q (mcall P cl c 0 [.ins c ks ts, t2]) := h
    rw [mcallOut, hn c] at z
    exact (show False from z).elim
  | lst a => cases t2 <;> exact (show False from h).elim
  | tup a => cases t2 <;> exact (show False from h).elim
  | _ => exact (show False from h).elim
end

/-! ### data -/
mutual
/-- the library's data of a tree -/
def toD : T → PyData
  | .non => .none
  | .bl b => .bool b
  | .int i => .int i
  | .str s => .str s
  | .tup xs => .tuple (toDs xs)
  | .lst xs => .list (toDs xs)
  | _ => .none
def toDs : List T → List PyData
  | [] => []
  | x :: xs => toD x :: toDs xs
end
theorem toDs_all {f : T → Bool} {q : PyData → Bool} : ∀ {xs : List T}, (∀ x, f x = true → q (toD x) = true) → xs.all f = true → (toDs xs).all q = true
  | [], _, _ => by rw [toDs]; rfl
  | x :: xs, k, h => by
    rw [List.all_cons, Bool.and_eq_true] at h
    rw [toDs, List.all_cons, Bool.and_eq_true]
    exact ⟨k x h.1, toDs_all k h.2⟩
theorem lay_all : ∀ ds : List PyData, PyData.canLayAll0 ds = ds.all PyData.canLay0
  | [] => by rw [PyData.canLayAll0]; rfl
  | d :: ds => by rw [PyData.canLayAll0, List.all_cons, lay_all ds]
theorem depth_all {n : Nat} : ∀ ds : List PyData, (ds.all fun d => decide (d.depth ≤ n)) = true → PyData.depthAll ds ≤ n
  | [], _ => by rw [PyData.depthAll]; exact Nat.zero_le _
  | d :: ds, h => by
    rw [List.all_cons, Bool.and_eq_true] at h
    rw [PyData.depthAll]
    exact Nat.max_le.mpr ⟨of_decide_eq_true h.1, depth_all ds h.2⟩
theorem dataD_ok : ∀ (n : Nat) (t : T), dataD n t = true → (toD t).canLay0 = true ∧ (toD t).depth ≤ n
  | _, .non, _ => ⟨rfl, by rw [toD, PyData.depth]; exact Nat.zero_le _⟩
  | _, .bl _, _ => ⟨by rw [toD, PyData.canLay0], by rw [toD, PyData.depth]; exact Nat.zero_le _⟩
  | _, .int _, _ => ⟨by rw [toD, PyData.canLay0], by rw [toD, PyData.depth]; exact Nat.zero_le _⟩
  | _, .str s, h => ⟨by
      rw [toD, PyData.canLay0]
      have z : strFine s = true := by
        unfold dataD at h
        exact h
      exact z, by rw [toD, PyData.depth]; exact Nat.zero_le _⟩
  | n + 1, .tup xs, h => by
    have h : xs.all (dataD n) = true := h
    rw [toD]
    refine ⟨?_, ?_⟩
    · rw [PyData.canLay0, lay_all]
      exact toDs_all (fun x hx => (dataD_ok n x hx).1) h
    · rw [PyData.depth]
      exact Nat.succ_le_succ (depth_all _ (toDs_all (fun x hx => decide_eq_true (dataD_ok n x hx).2) h))
  | n + 1, .lst xs, h => by
    have h : xs.all (dataD n) = true := h
    rw [toD]
    refine ⟨?_, ?_⟩
    · rw [PyData.canLay0, lay_all]
      exact toDs_all (fun x hx => (dataD_ok n x hx).1) h
    · rw [PyData.depth]
      exact Nat.succ_le_succ (depth_all _ (toDs_all (fun x hx => decide_eq_true (dataD_ok n x hx).2) h))
  | 0, .tup _, h => by unfold dataD at h; cases h
  | 0, .lst _, h => by unfold dataD at h; cases h
  | _, .ins _ _ _, h => by unfold dataD at h; cases h
  | _, .cls _, h => by unfold dataD at h; cases h
  | _, .scr _, h => by unfold dataD at h; cases h
theorem shaped_of {t : T} (h : dataT t = true) : SeqAt.shaped (toD t) = true := by
  obtain ⟨h1, h2⟩ := dataD_ok 8 t h
  unfold SeqAt.shaped
  rw [h1, decide_eq_true (Nat.le_trans h2 (by decide))]
  rfl
theorem dataD_all {n : Nat} {xs : List T} : dataD (n + 1) (.lst xs) = xs.all (dataD n) := rfl
section
variable {g : Cfg} {H : Hp}
mutual
theorem Rep.dp {K : PySem.W.Frag} : ∀ {n : Nat} {t : T} {v : V} {F : List Addr}, dataD n t = true → Rep g H t v F → Dp K H v (toD t)
  | _, .non, _, _, _, h => by rw [Rep] at h; obtain ⟨rfl, _⟩ := h; rw [toD]; exact .non
  | _, .bl _, _, _, _, h => by rw [Rep] at h; obtain ⟨rfl, _⟩ := h; rw [toD]; exact .bl _
  | _, .int _, _, _, _, h => by rw [Rep] at h; obtain ⟨rfl, _⟩ := h; rw [toD]; exact .int _
  | _, .str _, _, _, _, h => by rw [Rep] at h; obtain ⟨rfl, _⟩ := h; rw [toD]; exact .str _
  | n + 1, .tup xs, _, _, hd, h => by
    have hd : xs.all (dataD n) = true := hd
    rw [Rep] at h
    obtain ⟨a, vs, rfl, h1, h2⟩ := h
    rw [toD]
    exact .tup (SqT.of h1) (RepL.dp hd h2)
  | n + 1, .lst xs, _, _, hd, h => by
    have hd : xs.all (dataD n) = true := hd
    rw [Rep] at h
    obtain ⟨a, vs, G, rfl, h1, h2, rfl⟩ := h
    rw [toD]
    exact .lst (SqL.of h1) (RepL.dp hd h2)
  | 0, .tup _, _, _, h, _ => by unfold dataD at h; cases h
  | 0, .lst _, _, _, h, _ => by unfold dataD at h; cases h
  | _, .ins _ _ _, _, _, h, _ => by unfold dataD at h; cases h
  | _, .cls _, _, _, h, _ => by unfold dataD at h; cases h
  | _, .scr _, _, _, h, _ => by unfold dataD at h; cases h
theorem RepL.dp {K : PySem.W.Frag} : ∀ {n : Nat} {ts : List T} {vs : List V} {F : List Addr}, ts.all (dataD n) = true → RepL g H ts vs F → DpAll K H vs (toDs ts)
  | _, [], _, _, _, h => by rw [RepL] at h; obtain ⟨rfl, _⟩ := h; rw [toDs]; exact .nil
  | _, t :: ts, _, _, hd, h => by
    rw [List.all_cons, Bool.and_eq_true] at hd
    rw [RepL] at h
    obtain ⟨v, vr, F1, F2, rfl, h1, h2, rfl⟩ := h
    rw [toDs]
    exact .cons (Rep.dp hd.1 h1) (RepL.dp hd.2 h2)
end
end
end Wt

/-! Snd4: comparisons. -/
namespace Wt
open PySem PySem.Spec PyProof.Rows L2

mutual
theorem eqT_eqv : ∀ {n m : Nat} {a b : T}, dataD n a = true → dataD m b = true → PyData.eqv (toD a) (toD b) = eqT a b
  | n, m, .tup xs, .tup ys, h1, h2 => by
    match n, m, h1, h2 with
    | n + 1, m + 1, h1, h2 =>
      have h1 : xs.all (dataD n) = true := h1
      have h2 : ys.all (dataD m) = true := h2
      rw [toD, toD, PyData.eqv, eqT]
      exact eqL_eqv h1 h2
    | 0, _, h1, _ => unfold dataD at h1; cases h1
    | _ + 1, 0, _, h2 => unfold dataD at h2; cases h2
  | n, m, .lst xs, .lst ys, h1, h2 => by
    match n, m, h1, h2 with
    | n + 1, m + 1, h1, h2 =>
      have h1 : xs.all (dataD n) = true := h1
      have h2 : ys.all (dataD m) = true := h2
      rw [toD, toD, PyData.eqv, eqT]
      exact eqL_eqv h1 h2
    | 0, _, h1, _ => unfold dataD at h1; cases h1
    | _ + 1, 0, _, h2 => unfold dataD at h2; cases h2
  | _, _, .non, .non, _, _ => by simp [toD, PyData.eqv, eqT]
  | _, _, .bl a, .bl b, _, _ => by simp [toD, PyData.eqv, eqT]
  | _, _, .int a, .int b, _, _ => by simp only [toD, PyData.eqv, eqT]; rw [Bool.beq_eq_decide_eq]
  | _, _, .int a, .bl b, _, _ => by simp only [toD, PyData.eqv, eqT, b2i]; rw [Bool.beq_eq_decide_eq]; rfl
  | _, _, .bl a, .int b, _, _ => by simp only [toD, PyData.eqv, eqT, b2i]; rw [Bool.beq_eq_decide_eq]; rfl
  | _, _, .str a, .str b, _, _ => by simp only [toD, PyData.eqv, eqT]; rw [Bool.beq_eq_decide_eq]
  | _, _, .non, .bl _, _, _ => by simp [toD, PyData.eqv, eqT]
  | _, _, .non, .int _, _, _ => by simp [toD, PyData.eqv, eqT]
  | _, _, .non, .str _, _, _ => by simp [toD, PyData.eqv, eqT]
  | _, _, .non, .tup _, _, _ => by simp [toD, PyData.eqv, eqT]
  | _, _, .non, .lst _, _, _ => by simp [toD, PyData.eqv, eqT]
  | _, _, .bl _, .non, _, _ => by simp [toD, PyData.eqv, eqT]
  | _, _, .bl _, .str _, _, _ => by simp [toD, PyData.eqv, eqT]
  | _, _, .bl _, .tup _, _, _ => by simp [toD, PyData.eqv, eqT]
  | _, _, .bl _, .lst _, _, _ => by simp [toD, PyData.eqv, eqT]
  | _, _, .int _, .non, _, _ => by simp [toD, PyData.eqv, eqT]
  | _, _, .int _, .str _, _, _ => by simp [toD, PyData.eqv, eqT]
  | _, _, .int _, .tup _, _, _ => by simp [toD, PyData.eqv, eqT]
  | _, _, .int _, .lst _, _, _ => by simp [toD, PyData.eqv, eqT]
  | _, _, .str _, .non, _, _ => by simp [toD, PyData.eqv, eqT]
  | _, _, .str _, .bl _, _, _ => by simp [toD, PyData.eqv, eqT]
  | _, _, .str _, .int _, _, _ => by simp [toD, PyData.eqv, eqT]
  | _, _, .str _, .tup _, _, _ => by simp [toD, PyData.eqv, eqT]
  | _, _, .str _, .lst _, _, _ => by simp [toD, PyData.eqv, eqT]
  | _, _, .tup _, .non, _, _ => by simp [toD, PyData.eqv, eqT]
  | _, _, .tup _, .bl _, _, _ => by simp [toD, PyData.eqv, eqT]
  | _, _, .tup _, .int _, _, _ => by simp [toD, PyData.eqv, eqT]
  | _, _, .tup _, .str _, _, _ => by simp [toD, PyData.eqv, eqT]
  | _, _, .tup _, .lst _, _, _ => by simp [toD, PyData.eqv, eqT]
  | _, _, .lst _, .non, _, _ => by simp [toD, PyData.eqv, eqT]
  | _, _, .lst _, .bl _, _, _ => by simp [toD, PyData.eqv, eqT]
  | _, _, .lst _, .int _, _, _ => by simp [toD, PyData.eqv, eqT]
  | _, _, .lst _, .str _, _, _ => by simp [toD, PyData.eqv, eqT]
  | _, _, .lst _, .tup _, _, _ => by simp [toD, PyData.eqv, eqT]
  | _, _, .ins _ _ _, _, h, _ => by unfold dataD at h; cases h
  | _, _, .cls _, _, h, _ => by unfold dataD at h; cases h
  | _, _, .scr _, _, h, _ => by unfold dataD at h; cases h
  | _, _, _, .ins _ _ _, _, h => by unfold dataD at h; cases h
  | _, _, _, .cls _, _, h => by unfold dataD at h; cases h
  | _, _, _, .scr _, _, h => by unfold dataD at h; cases h
theorem eqL_eqv : ∀ {n m : Nat} {a b : List T}, a.all (dataD n) = true → b.all (dataD m) = true → PyData.eqvAll (toDs a) (toDs b) = eqL a b
  | _, _, [], [], _, _ => by rw [toDs, PyData.eqvAll, eqL]
  | _, _, [], _ :: _, _, _ => by simp [toDs, PyData.eqvAll, eqL]
  | _, _, _ :: _, [], _, _ => by simp [toDs, PyData.eqvAll, eqL]
  | n, m, x :: xs, y :: ys, h1, h2 => by
    rw [List.all_cons, Bool.and_eq_true] at h1 h2
    rw [toDs, toDs, PyData.eqvAll, eqL, eqT_eqv h1.1 h2.1, eqL_eqv h1.2 h2.2]
end
theorem any_eqv {n m : Nat} {x : T} (hx : dataD n x = true) : ∀ {ys : List T}, ys.all (dataD m) = true → (toDs ys).any (fun z => PyData.eqv z (toD x)) = inL x ys
  | [], _ => by rw [toDs, inL]; rfl
  | y :: ys, h => by
    rw [List.all_cons, Bool.and_eq_true] at h
    rw [toDs, inL, List.any_cons, eqT_eqv h.1 hx, any_eqv hx h.2]

/-- the second is an instance -/
def DunR (X : Cx) (g : Cfg) (W : WX) (n : Nat) (f : Value → Value → Sem Value) (k : Nat → T → T → R T) : Prop :=
  ∀ (pins : List (Addr × Obj)) (s : Shared) (σ : L2.St) (Hb H : Hp) (A : Addr → Prop) (Q : VK) (x y : V) (v u : Value) (c : Nat) (ks : List Nat) (ts : List T) (t1 : T) (F1 F2 : List Addr), Inv X pins σ H s → Ext Hb H → RelV x v → RelV y u →
    Rep g H t1 x F1 → Rep g H (.ins c ks ts) y F2 → (∀ b ∈ F1, Hb b = none ∨ A b) → (∀ b ∈ F2, Hb b = none ∨ A b) → Out g W n A σ Hb Q (k c t1 (.ins c ks ts)) → wpAny (model X.prog X.w) X.A (f v u) (EP X pins σ Q) X.xe s

section
variable {X : Cx} {g : Cfg} {W : WX} {P : Prog} {cl : Nat → List T → R T}
theorem op2_eq (hu : X.A.units + 64 < cLine) (hd : Dun X g W 2 (compareOp .Eq) fun c x y => mcall P cl c 4 [x, y]) : Op2 X g W 2 (compareOp .Eq) (cmpT P cl .eq) := by
  intro pins s σ Hb H A Q x y v u t1 t2 F1 F2 I eb rx ry r1 r2 p1 p2 h
  have go : (∀ c ks ts, t1 ≠ .ins c ks ts) → wpAny (model X.prog X.w) X.A (compareOp .Eq v u) (EP X pins σ Q) X.xe s := fun hn => by
    have e : cmpT P cl .eq t1 t2 = chk (dataT t1 && dataT t2) (.ok (.bl (eqT t1 t2))) := by
      cases t1 <;> first | rfl | exact absurd rfl (hn _ _ _)
    rw [e] at h
    obtain ⟨hc, h⟩ := Out.chk h
    rw [Bool.and_eq_true] at hc
    exact op_eqD hu pins s σ H x y v u Q I rx ry ⟨_, _, r1.dp hc.1, r2.dp hc.2, shaped_of hc.1, shaped_of hc.2, by rw [eqT_eqv hc.1 hc.2]; exact ok_bl eb h⟩
  cases t1 with
  | ins c ks ts => exact hd pins s σ Hb H A Q x y v u c ks ts t2 F1 F2 I eb rx ry r1 r2 p1 p2 h
  | _ => exact go (fun _ _ _ z => by cases z)
theorem op2_ne (hu : X.A.units + 64 < cLine) : Op2 X g W 2 (compareOp .NotEq) (cmpT P cl .ne) := by
  intro pins s σ Hb H A Q x y v u t1 t2 F1 F2 I eb rx ry r1 r2 p1 p2 h
  have go : (∀ c ks ts, t1 ≠ .ins c ks ts) → wpAny (model X.prog X.w) X.A (compareOp .NotEq v u) (EP X pins σ Q) X.xe s := fun hn => by
    have e : cmpT P cl .ne t1 t2 = notR (chk (dataT t1 && dataT t2) (.ok (.bl (eqT t1 t2)))) := by
      cases t1 <;> first | rfl | exact absurd rfl (hn _ _ _)
    rw [e] at h
    cases q : (dataT t1 && dataT t2) with
    | false => rw [q] at h; exact h.elim
    | true =>
      rw [q] at h
      rw [Bool.and_eq_true] at q
      exact op_neD hu pins s σ H x y v u Q I rx ry ⟨_, _, r1.dp q.1, r2.dp q.2, shaped_of q.1, shaped_of q.2, by rw [eqT_eqv q.1 q.2]; exact ok_bl eb h⟩
  cases t1 with
  | ins c ks ts => exact (show False from h).elim
  | _ => exact go (fun _ _ _ z => by cases z)
theorem op2_cmpI {op : CmpOp} {f : Int → Int → Bool} (ho : OpR X (compareOp op) (rI0 fun i j => .bl (f i j))) : Op2 X g W 2 (compareOp op) (cmpI f) := by
  intro pins s σ Hb H A Q x y v u t1 t2 F1 F2 I eb rx ry r1 r2 p1 p2 h
  cases t1 with
  | int i =>
    cases t2 with
    | int j =>
      rw [rep_i] at r1 r2
      exact ho pins s σ H x y v u Q I rx ry ⟨i, j, r1.1, r2.1, ok_bl eb h⟩
    | _ => exact (show False from h).elim
  | _ => exact (show False from h).elim
theorem room_in {A : Around} {ds : List PyData} {d : PyData} (sd : SeqAt.shaped d = true) (hu : A.units + 65 < cLine) : A.units + 1 + min (PyData.depthAll ds) d.depth < cLine := by
  have h1 := SeqAt.depth_of_shaped sd
  have h2 : min (PyData.depthAll ds) d.depth ≤ d.depth := Nat.min_le_right _ _
  omega
theorem dataIn_ok {a : T} {xs : List T} (h : dataIn a xs = true) : dataT a = true ∧ xs.all (dataD 7) = true := by
  unfold dataIn at h
  rw [Bool.and_eq_true] at h
  exact h
theorem op2_in (hu : X.A.units + 65 < cLine) (hd : DunR X g W 2 (compareOp .In) fun c x y => mcall P cl c 5 [y, x]) : Op2 X g W 2 (compareOp .In) (cmpT P cl .isin) := by
  intro pins s σ Hb H A Q x y v u t1 t2 F1 F2 I eb rx ry r1 r2 p1 p2 h
  cases t2 with
  | ins c ks ts => exact hd pins s σ Hb H A Q x y v u c ks ts t1 F1 F2 I eb rx ry r1 r2 p1 p2 h
  | lst xs =>
    obtain ⟨hc, h⟩ := Out.chk (b := dataIn t1 xs) h
    obtain ⟨c1, c2⟩ := dataIn_ok hc
    have l2 : dataT (.lst xs) = true := c2
    obtain ⟨as, q1⟩ := Dp.reads I _ x v (r1.dp c1) rx
    obtain ⟨bs, q2⟩ := Dp.reads I _ y u (r2.dp l2) ry
    rw [toD] at q2
    refine SeqAt.in_list_reads q2 q1 ?_ (SeqAt.canLay_of_shaped (shaped_of c1)) (room_in (shaped_of c1) hu) ⟨.bl _, H, I, rfl, ?_⟩
    · have z := SeqAt.canLay_of_shaped (shaped_of l2)
      rw [toD, PyData.canLay0] at z
      exact z
    · rw [any_eqv c1 c2]
      exact ok_bl eb h
  | tup xs =>
    obtain ⟨hc, h⟩ := Out.chk (b := dataIn t1 xs) h
    obtain ⟨c1, c2⟩ := dataIn_ok hc
    have l2 : dataT (.tup xs) = true := c2
    obtain ⟨as, q1⟩ := Dp.reads I _ x v (r1.dp c1) rx
    obtain ⟨bs, q2⟩ := Dp.reads I _ y u (r2.dp l2) ry
    rw [toD] at q2
    refine SeqAt.in_tuple_reads q2 q1 ?_ (SeqAt.canLay_of_shaped (shaped_of c1)) (room_in (shaped_of c1) hu) ⟨.bl _, H, I, rfl, ?_⟩
    · have z := SeqAt.canLay_of_shaped (shaped_of l2)
      rw [toD, PyData.canLay0] at z
      exact z
    · rw [any_eqv c1 c2]
      exact ok_bl eb h
  | _ => exact (show False from h).elim
theorem op2_notin (hu : X.A.units + 65 < cLine) (hd : DunR X g W 2 (compareOp .NotIn) fun c x y => notR (mcall P cl c 5 [y, x])) : Op2 X g W 2 (compareOp .NotIn) (cmpT P cl .notin) := by
  intro pins s σ Hb H A Q x y v u t1 t2 F1 F2 I eb rx ry r1 r2 p1 p2 h
  cases t2 with
  | ins c ks ts => exact hd pins s σ Hb H A Q x y v u c ks ts t1 F1 F2 I eb rx ry r1 r2 p1 p2 h
  | lst xs =>
    have h : Out g W 2 A σ Hb Q (notR (chk (dataIn t1 xs) (.ok (.bl (inL t1 xs))))) := h
    cases hc : dataIn t1 xs with
    | false => rw [hc] at h; exact h.elim
    | true =>
      rw [hc] at h
      obtain ⟨c1, c2⟩ := dataIn_ok hc
      have l2 : dataT (.lst xs) = true := c2
      obtain ⟨as, q1⟩ := Dp.reads I _ x v (r1.dp c1) rx
      obtain ⟨bs, q2⟩ := Dp.reads I _ y u (r2.dp l2) ry
      rw [toD] at q2
      refine SeqAt.notIn_list_reads q2 q1 ?_ (SeqAt.canLay_of_shaped (shaped_of c1)) (room_in (shaped_of c1) hu) ⟨.bl _, H, I, rfl, ?_⟩
      · have z := SeqAt.canLay_of_shaped (shaped_of l2)
        rw [toD, PyData.canLay0] at z
        exact z
      · rw [any_eqv c1 c2]
        exact ok_bl eb h
  | tup xs =>
    have h : Out g W 2 A σ Hb Q (notR (chk (dataIn t1 xs) (.ok (.bl (inL t1 xs))))) := h
    cases hc : dataIn t1 xs with
    | false => rw [hc] at h; exact h.elim
    | true =>
      rw [hc] at h
      obtain ⟨c1, c2⟩ := dataIn_ok hc
      have l2 : dataT (.tup xs) = true := c2
      obtain ⟨as, q1⟩ := Dp.reads I _ x v (r1.dp c1) rx
      obtain ⟨bs, q2⟩ := Dp.reads I _ y u (r2.dp l2) ry
      rw [toD] at q2
      refine SeqAt.notIn_tuple_reads q2 q1 ?_ (SeqAt.canLay_of_shaped (shaped_of c1)) (room_in (shaped_of c1) hu) ⟨.bl _, H, I, rfl, ?_⟩
      · have z := SeqAt.canLay_of_shaped (shaped_of l2)
        rw [toD, PyData.canLay0] at z
        exact z
      · rw [any_eqv c1 c2]
        exact ok_bl eb h
  | _ => exact (show False from h).elim
def isBlV (k : Bool) : V → Bool
  | .bl j => j == k
  | _ => false
theorem is_bool_gen {M : Model} {A : Around} {E : Value → Shared → Prop} {s : Shared} {x : V} {v : Value} {d : Bool} {Q : Value → Shared → Prop} (r : RelV x v) (h : Q (.bool (isBlV d x)) s) : wpAny M A (compareOp .Is v (.bool d)) Q E s := by
  cases x with
  | non => cases r; exact wpAny_pure h
  | bl b => cases r; exact is_bool h
  | int i => obtain ⟨t, rfl⟩ := r; exact wpAny_pure h
  | str i => obtain ⟨t, rfl⟩ := r; exact wpAny_pure h
  | byt i => obtain ⟨t, rfl⟩ := r; exact wpAny_pure h
  | flt i => obtain ⟨t, rfl⟩ := r; exact wpAny_pure h
  | ref i => cases r; exact wpAny_pure h
  | ty i => cases r; exact wpAny_pure h
theorem isnot_bool_gen {M : Model} {A : Around} {E : Value → Shared → Prop} {s : Shared} {x : V} {v : Value} {d : Bool} {Q : Value → Shared → Prop} (r : RelV x v) (h : Q (.bool (!isBlV d x)) s) : wpAny M A (compareOp .IsNot v (.bool d)) Q E s := by
  cases x with
  | non => cases r; exact wpAny_pure h
  | bl b => cases r; exact wpAny_pure (by
      have e : (Value.bool b == Value.bool d) = (b == d) := by cases b <;> cases d <;> rfl
      show Q (.bool (!(Value.bool b == Value.bool d))) s
      rw [e]; exact h)
  | int i => obtain ⟨t, rfl⟩ := r; exact wpAny_pure h
  | str i => obtain ⟨t, rfl⟩ := r; exact wpAny_pure h
  | byt i => obtain ⟨t, rfl⟩ := r; exact wpAny_pure h
  | flt i => obtain ⟨t, rfl⟩ := r; exact wpAny_pure h
  | ref i => cases r; exact wpAny_pure h
  | ty i => cases r; exact wpAny_pure h
theorem is_non {H : Hp} {t : T} {x : V} {F : List Addr} (r : Rep g H t x F) : decide (x = .non) = isNonT t := by
  cases t with
  | non => rw [rep_n] at r; obtain ⟨rfl, _⟩ := r; rfl
  | bl b => rw [rep_b] at r; obtain ⟨rfl, _⟩ := r; rfl
  | int b => rw [rep_i] at r; obtain ⟨rfl, _⟩ := r; rfl
  | str b => rw [rep_s] at r; obtain ⟨rfl, _⟩ := r; rfl
  | cls b => rw [rep_cls] at r; obtain ⟨rfl, _⟩ := r; rfl
  | scr b => rw [rep_scr] at r; obtain ⟨⟨a, rfl, _⟩, _⟩ := r; rfl
  | tup b => rw [rep_tup] at r; obtain ⟨a, _, rfl, _⟩ := r; rfl
  | lst b => rw [rep_lst] at r; obtain ⟨a, _, _, rfl, _⟩ := r; rfl
  | ins c ks ts => rw [rep_ins] at r; obtain ⟨a, _, _, _, rfl, _⟩ := r; rfl
theorem is_blt {H : Hp} {t : T} {x : V} {F : List Addr} {k : Bool} (r : Rep g H t x F) : isBlV k x = isBlT k t := by
  cases t with
  | non => rw [rep_n] at r; obtain ⟨rfl, _⟩ := r; rfl
  | bl b => rw [rep_b] at r; obtain ⟨rfl, _⟩ := r; rfl
  | int b => rw [rep_i] at r; obtain ⟨rfl, _⟩ := r; rfl
  | str b => rw [rep_s] at r; obtain ⟨rfl, _⟩ := r; rfl
  | cls b => rw [rep_cls] at r; obtain ⟨rfl, _⟩ := r; rfl
  | scr b => rw [rep_scr] at r; obtain ⟨⟨a, rfl, _⟩, _⟩ := r; rfl
  | tup b => rw [rep_tup] at r; obtain ⟨a, _, rfl, _⟩ := r; rfl
  | lst b => rw [rep_lst] at r; obtain ⟨a, _, _, rfl, _⟩ := r; rfl
  | ins c ks ts => rw [rep_ins] at r; obtain ⟨a, _, _, _, rfl, _⟩ := r; rfl
theorem op2_is : Op2 X g W 2 (compareOp .Is) (cmpT P cl .is) := by
  intro pins s σ Hb H A Q x y v u t1 t2 F1 F2 I eb rx ry r1 r2 p1 p2 h
  cases t2 with
  | non =>
    rw [rep_n] at r2
    exact op_isN pins s σ H x y v u Q I rx ry ⟨r2.1, by rw [is_non r1]; exact ok_bl eb h⟩
  | bl k =>
    rw [rep_b] at r2
    obtain ⟨rfl, _⟩ := r2
    cases ry
    exact is_bool_gen rx ⟨.bl _, H, I, rfl, by rw [is_blt r1]; exact ok_bl eb h⟩
  | _ => exact (show False from h).elim
theorem op2_isnot : Op2 X g W 2 (compareOp .IsNot) (cmpT P cl .isnot) := by
  intro pins s σ Hb H A Q x y v u t1 t2 F1 F2 I eb rx ry r1 r2 p1 p2 h
  cases t2 with
  | non =>
    rw [rep_n] at r2
    exact op_notN pins s σ H x y v u Q I rx ry ⟨r2.1, by rw [is_non r1]; exact ok_bl eb h⟩
  | bl k =>
    rw [rep_b] at r2
    obtain ⟨rfl, _⟩ := r2
    cases ry
    exact isnot_bool_gen rx ⟨.bl _, H, I, rfl, by rw [is_blt r1]; exact ok_bl eb h⟩
  | _ => exact (show False from h).elim
end
end Wt

/-! Snd5: tests, displays, places, fields. -/
namespace Wt
open PySem PySem.Spec PyProof.Rows L2

/-- what a test's outcome asks -/
def OutB (W : WX) (A : Addr → Prop) (σ : L2.St) (H : Hp) (Q : Bool → Hp → Prop) (g : Cfg) (r : R Bool) : Prop :=
  match r with
  | .ok b => ∀ H', Ext H H' → Q b H'
  | .exc x => ∀ cls d H', Ext H H' → RepX g H' x cls d (fun b => H b = none ∨ A b) → W cls d σ H'
  | .bad => False
def TTv (g : Cfg) (W : WX) (vs : List Nat) (f : Env → R Bool) : TT := fun σ H Q => ∃ e Fs, EnvR g H σ e Fs ∧ OutB W (fun b => ∃ i ∈ vs, b ∈ Fs i) σ H Q g (f e)
theorem PT.imp {X : Cx} {e : Expr} {t t' : TT} (h : PT X e t) (k : ∀ σ H Q, t' σ H Q → t σ H Q) : PT X e t' := ⟨fun pins s σ H Q I q => h.run pins s σ H Q I (k σ H Q q)⟩
theorem PW.imp {X : Cx} {e : Expr} {t t' : TT} (h : PW X e t) (k : ∀ σ H Q, t' σ H Q → t σ H Q) : PW X e t' := ⟨fun wh pins s σ H Q I q => h.run wh pins s σ H Q I (k σ H Q q)⟩
section
variable {X : Cx} {g : Cfg} {W : WX} {σ : L2.St} {Hb H : Hp} {Q : VK} {e : Env} {Fs : Nat → List Addr} {A : Addr → Prop} {n m : Nat} {vs : List Nat} {f : Env → R T}
/-- a part's reading, from the whole's outcome -/
theorem te1 {k : T → R T} {Q' : VK} (he : EnvR g H σ e Fs) (eb : Ext Hb H) (hA : ∀ i ∈ vs, ∀ b ∈ Fs i, A b) (h : Out g W n A σ Hb Q ((f e).bnd k))
    (hk : ∀ t v F H1, f e = .ok t → EnvR g H1 σ e Fs → Ext Hb H1 → Ext H H1 → Rep g H1 t v F → Lv m H t v F → (∀ b ∈ F, Hb b = none ∨ A b) → Out g W n A σ Hb Q (k t) → Q' v H1) : TEv g W m vs f σ H Q' := by
  refine ⟨e, Fs, he, ?_⟩
  revert h
  cases q : f e with
  | ok t => exact fun h v H1 F a b c d => hk t v F H1 q (he.ext a) (eb.trans a) a b c (fun x hx => (d x hx).imp eb.none fun ⟨i, hi, hb⟩ => hA i hi x hb) h
  | exc x => exact fun h cls d H' a b => h cls d H' (eb.trans a) (b.mono2 eb fun b ⟨i, hi, hb⟩ => hA i hi b hb)
  | bad => exact id
theorem tb1 {k : Bool → R T} {f : Env → R Bool} {Q' : Bool → Hp → Prop} (he : EnvR g H σ e Fs) (eb : Ext Hb H) (hA : ∀ i ∈ vs, ∀ b ∈ Fs i, A b) (h : Out g W n A σ Hb Q ((f e).bnd k))
    (hk : ∀ t H1, EnvR g H1 σ e Fs → Ext Hb H1 → Ext H H1 → Out g W n A σ Hb Q (k t) → Q' t H1) : TTv g W vs f σ H Q' := by
  refine ⟨e, Fs, he, ?_⟩
  revert h
  cases f e with
  | ok t => exact fun h H1 a => hk t H1 (he.ext a) (eb.trans a) a h
  | exc x => exact fun h cls d H' a b => h cls d H' (eb.trans a) (b.mono2 eb fun b ⟨i, hi, hb⟩ => hA i hi b hb)
  | bad => exact id
theorem tbb {k : Bool → R Bool} {f : Env → R Bool} {Qb Q' : Bool → Hp → Prop} (he : EnvR g H σ e Fs) (eb : Ext Hb H) (hA : ∀ i ∈ vs, ∀ b ∈ Fs i, A b) (h : OutB W A σ Hb Qb g ((f e).bnd k))
    (hk : ∀ t H1, EnvR g H1 σ e Fs → Ext Hb H1 → Ext H H1 → OutB W A σ Hb Qb g (k t) → Q' t H1) : TTv g W vs f σ H Q' := by
  refine ⟨e, Fs, he, ?_⟩
  revert h
  cases f e with
  | ok t => exact fun h H1 a => hk t H1 (he.ext a) (eb.trans a) a h
  | exc x => exact fun h cls d H' a b => h cls d H' (eb.trans a) (b.mono2 eb fun b ⟨i, hi, hb⟩ => hA i hi b hb)
  | bad => exact id
theorem teb {k : T → R Bool} {Qb : Bool → Hp → Prop} {Q' : VK} (he : EnvR g H σ e Fs) (eb : Ext Hb H) (hA : ∀ i ∈ vs, ∀ b ∈ Fs i, A b) (h : OutB W A σ Hb Qb g ((f e).bnd k))
    (hk : ∀ t v F H1, EnvR g H1 σ e Fs → Ext Hb H1 → Ext H H1 → Rep g H1 t v F → OutB W A σ Hb Qb g (k t) → Q' v H1) : TEv g W m vs f σ H Q' := by
  refine ⟨e, Fs, he, ?_⟩
  revert h
  cases f e with
  | ok t => exact fun h v H1 F a b c d => hk t v F H1 (he.ext a) (eb.trans a) a b h
  | exc x => exact fun h cls d H' a b => h cls d H' (eb.trans a) (b.mono2 eb fun b ⟨i, hi, hb⟩ => hA i hi b hb)
  | bad => exact id
theorem OutB.ext {Qb : Bool → Hp → Prop} {r : R Bool} (h : OutB W A σ Hb Qb g r) (eb : Ext Hb H) {B : Addr → Prop} (hA : ∀ b, B b → A b) : OutB W B σ H Qb g r := by
  cases r with
  | ok b => exact fun H' a => h H' (eb.trans a)
  | exc x => exact fun cls d H' a b => h cls d H' (eb.trans a) (b.imp fun b z => z.elim (fun z => .inl (eb.none z)) fun z => .inr (hA b z))
  | bad => exact h
theorem Out.ext {r : R T} (h : Out g W n A σ Hb Q r) (eb : Ext Hb H) (hA : ∀ b, A b → A b) : Out g W n A σ H Q r := h.mono eb
end

/-! ### tests -/
section
variable {X : Cx} {g : Cfg} {W : WX} {a b c : Expr} {fa fb fc : Env → R T} {ga gb : Env → R Bool} {va vb vc : List Nat} {n : Nat} {pos : Pos} {rest : List Expr}
/-- a value as a test -/
theorem tt_val (ha : PE X a (TEv g W 0 va fa)) (he : ∀ whole, isTrue a X.env whole = (do let v ← whole; standAt a.pos; holding [v] (truthy v))) : PT X a (TTv g W va fun e => truth (fa e)) := by
  refine PT.imp (pt_val ha he) fun σ H Q ⟨e, Fs, hE, h⟩ => ?_
  refine teb (Fs := Fs) (Hb := H) (A := fun b => ∃ i ∈ va, b ∈ Fs i) (k := fun t => match t with | .bl b => R.ok b | _ => R.bad) hE (.refl H) (fun i hi b hb => ⟨i, hi, hb⟩) h fun t v F H1 _ e1 _ r h => ?_
  cases t with
  | bl b =>
    rw [rep_b] at r
    exact ⟨b, r.1, h H1 e1⟩
  | _ => exact (show False from h).elim
theorem tt_not (ha : PT X a (TTv g W va ga)) : PT X (.UnaryOp .Not a pos) (TTv g W va fun e => truth ((ga e).bnd fun b => .ok (.bl (!b)))) := by
  refine PT.imp (pt_not ha) fun σ H Q ⟨e, Fs, hE, h⟩ => ?_
  refine ⟨e, Fs, hE, ?_⟩
  dsimp only at h
  revert h
  cases ga e with
  | ok b => exact fun h H' a => h H' a
  | exc x => exact id
  | bad => exact id
theorem ev_not (ha : PE X a (TEv g W 0 va fa)) : PE X (.UnaryOp .Not a pos) (TEv g W n va fun e => (truth (fa e)).bnd fun b => .ok (.bl (!b))) := by
  refine PE.imp (pe_not ha) fun σ H Q ⟨e, Fs, hE, h⟩ => ?_
  have h' : Out g W n (fun b => ∃ i ∈ va, b ∈ Fs i) σ H Q ((fa e).bnd fun t => (truth (.ok t)).bnd fun b => .ok (.bl (!b))) := by
    revert h
    dsimp only [truth]
    cases fa e <;> exact id
  refine te1 (A := fun b => ∃ i ∈ va, b ∈ Fs i) hE (.refl H) (fun i hi b hb => ⟨i, hi, hb⟩) h' fun t v F H1 _ _ e1 _ r _ _ h => ?_
  cases t with
  | bl b =>
    rw [rep_b] at r
    exact ⟨b, r.1, ok_bl e1 h⟩
  | _ => exact (show False from h).elim
theorem truth_bnd {r : R T} {k : Bool → R T} : (truth r).bnd k = r.bnd fun t => (truth (.ok t)).bnd k := by cases r <;> rfl
theorem ev_and (ha : PE X a (TEv g W 0 va fa)) (hb : PE X (.BoolOp .And (b :: rest) pos) (TEv g W 0 vb fb)) : PE X (.BoolOp .And (a :: b :: rest) pos) (TEv g W 0 (va ++ vb) fun e => (truth (fa e)).bnd fun k => pick k (fb e) (.ok (.bl false))) := by
  refine PE.imp (pe_and ha hb) fun σ H Q ⟨e, Fs, hE, h⟩ => ?_
  dsimp only at h
  rw [truth_bnd] at h
  refine te1 (A := fun b => ∃ i ∈ va ++ vb, b ∈ Fs i) hE (.refl H) (fun i hi b hb => ⟨i, List.mem_append_left _ hi, hb⟩) h fun t v F H1 _ hE1 e1 _ r _ _ h => ?_
  cases t with
  | bl k =>
    rw [rep_b] at r
    refine ⟨k, r.1, ?_⟩
    cases k with
    | true => exact ⟨e, Fs, hE1, (h.mono e1).low (Nat.le_refl _) fun b ⟨i, hi, hb⟩ => ⟨i, List.mem_append_right _ hi, hb⟩⟩
    | false => exact ok_bl e1 h
  | _ => exact (show False from h).elim
theorem ev_or (ha : PE X a (TEv g W 0 va fa)) (hb : PE X (.BoolOp .Or (b :: rest) pos) (TEv g W 0 vb fb)) : PE X (.BoolOp .Or (a :: b :: rest) pos) (TEv g W 0 (va ++ vb) fun e => (truth (fa e)).bnd fun k => pick k (.ok (.bl true)) (fb e)) := by
  refine PE.imp (pe_or ha hb) fun σ H Q ⟨e, Fs, hE, h⟩ => ?_
  dsimp only at h
  rw [truth_bnd] at h
  refine te1 (A := fun b => ∃ i ∈ va ++ vb, b ∈ Fs i) hE (.refl H) (fun i hi b hb => ⟨i, List.mem_append_left _ hi, hb⟩) h fun t v F H1 _ hE1 e1 _ r _ _ h => ?_
  cases t with
  | bl k =>
    rw [rep_b] at r
    refine ⟨k, r.1, ?_⟩
    cases k with
    | false => exact ⟨e, Fs, hE1, (h.mono e1).low (Nat.le_refl _) fun b ⟨i, hi, hb⟩ => ⟨i, List.mem_append_right _ hi, hb⟩⟩
    | true => exact ok_bl e1 h
  | _ => exact (show False from h).elim
theorem truth_pick {r : R Bool} {x y : R T} : truth (r.bnd fun k => pick k x y) = r.bnd fun k => (match k with | true => truth x | false => truth y) := by
  cases r with
  | ok k => cases k <;> rfl
  | _ => rfl
theorem tw_and (ha : PT X a (TTv g W va fun e => truth (fa e))) (hb : PW X (.BoolOp .And (b :: rest) pos) (TTv g W vb fun e => truth (fb e))) : PW X (.BoolOp .And (a :: b :: rest) pos) (TTv g W (va ++ vb) fun e => truth ((truth (fa e)).bnd fun k => pick k (fb e) (.ok (.bl false)))) := by
  refine PW.imp (pw_and ha hb) fun σ H Q ⟨e, Fs, hE, h⟩ => ?_
  dsimp only at h
  rw [truth_pick] at h
  refine tbb (Fs := Fs) (Hb := H) (A := fun b => ∃ i ∈ va ++ vb, b ∈ Fs i) hE (.refl H) (fun i hi b hb => ⟨i, List.mem_append_left _ hi, hb⟩) h fun k H1 hE1 e1 _ h => ?_
  cases k with
  | true => exact ⟨e, Fs, hE1, h.ext (B := fun b => ∃ i ∈ vb, b ∈ Fs i) e1 fun b ⟨i, hi, hb⟩ => ⟨i, List.mem_append_right _ hi, hb⟩⟩
  | false => exact h H1 e1
theorem tw_or (ha : PT X a (TTv g W va fun e => truth (fa e))) (hb : PW X (.BoolOp .Or (b :: rest) pos) (TTv g W vb fun e => truth (fb e))) : PW X (.BoolOp .Or (a :: b :: rest) pos) (TTv g W (va ++ vb) fun e => truth ((truth (fa e)).bnd fun k => pick k (.ok (.bl true)) (fb e))) := by
  refine PW.imp (pw_or ha hb) fun σ H Q ⟨e, Fs, hE, h⟩ => ?_
  dsimp only at h
  rw [truth_pick] at h
  refine tbb (Fs := Fs) (Hb := H) (A := fun b => ∃ i ∈ va ++ vb, b ∈ Fs i) hE (.refl H) (fun i hi b hb => ⟨i, List.mem_append_left _ hi, hb⟩) h fun k H1 hE1 e1 _ h => ?_
  cases k with
  | false => exact ⟨e, Fs, hE1, h.ext (B := fun b => ∃ i ∈ vb, b ∈ Fs i) e1 fun b ⟨i, hi, hb⟩ => ⟨i, List.mem_append_right _ hi, hb⟩⟩
  | true => exact h H1 e1
/-- if else, as a value -/
theorem ev_ite (hc : PT X c (TTv g W vc fun e => truth (fc e))) (ha : PE X a (TEv g W n va fa)) (hb : PE X b (TEv g W n vb fb)) : PE X (.IfExp c a b pos) (TEv g W n (vc ++ (va ++ vb)) fun e => (truth (fc e)).bnd fun k => pick k (fa e) (fb e)) := by
  refine PE.imp (pe_ifExp hc ha hb) fun σ H Q ⟨e, Fs, hE, h⟩ => ?_
  refine tb1 (A := fun b => ∃ i ∈ vc ++ (va ++ vb), b ∈ Fs i) (f := fun e => truth (fc e)) hE (.refl H) (fun i hi b hb => ⟨i, List.mem_append_left _ hi, hb⟩) h fun k H1 hE1 e1 _ h => ?_
  cases k with
  | true => exact ⟨e, Fs, hE1, (h.mono e1).low (Nat.le_refl _) fun b ⟨i, hi, hb⟩ => ⟨i, List.mem_append_right _ (List.mem_append_left _ hi), hb⟩⟩
  | false => exact ⟨e, Fs, hE1, (h.mono e1).low (Nat.le_refl _) fun b ⟨i, hi, hb⟩ => ⟨i, List.mem_append_right _ (List.mem_append_right _ hi), hb⟩⟩
theorem tt_ite (hc : PT X c (TTv g W vc fun e => truth (fc e))) (ha : PT X a (TTv g W va fun e => truth (fa e))) (hb : PT X b (TTv g W vb fun e => truth (fb e))) : PT X (.IfExp c a b pos) (TTv g W (vc ++ (va ++ vb)) fun e => truth ((truth (fc e)).bnd fun k => pick k (fa e) (fb e))) := by
  refine ⟨fun pins s σ H Q I h => ?_⟩
  obtain ⟨e, Fs, hE, h⟩ := h
  dsimp only at h
  rw [truth_pick] at h
  show wpAny _ _ (do if ← isTrue c X.env (eval c X.env) then isTrue a X.env (eval a X.env) else isTrue b X.env (eval b X.env)) _ _ _
  refine wpAny_bind (thn (hc.run pins s σ H _ I (tbb (Fs := Fs) (Hb := H) (A := fun b => ∃ i ∈ vc ++ (va ++ vb), b ∈ Fs i) (Q' := fun k H1 => EnvR g H1 σ e Fs ∧ OutB W (fun b => ∃ i ∈ vc ++ (va ++ vb), b ∈ Fs i) σ H1 Q g (match k with | true => truth (fa e) | false => truth (fb e))) hE (.refl H) (fun i hi b hb => ⟨i, List.mem_append_left _ hi, hb⟩) h fun k H1 hE1 e1 _ h => ⟨hE1, h.ext e1 fun b z => z⟩)) fun k s1 ⟨H1, I1, hE1, h1⟩ => ?_)
  cases k with
  | true => exact ha.run pins s1 σ H1 Q I1 ⟨e, Fs, hE1, h1.ext (.refl _) fun b ⟨i, hi, hb⟩ => ⟨i, List.mem_append_right _ (List.mem_append_left _ hi), hb⟩⟩
  | false => exact hb.run pins s1 σ H1 Q I1 ⟨e, Fs, hE1, h1.ext (.refl _) fun b ⟨i, hi, hb⟩ => ⟨i, List.mem_append_right _ (List.mem_append_right _ hi), hb⟩⟩
theorem ev_neg (ha : PE X a (TEv g W 0 va fa)) : PE X (.UnaryOp .USub a pos) (TEv g W n va fun e => (fa e).bnd fun x => match x with | .int i => .ok (.int (-i)) | _ => .bad) := by
  refine PE.imp (pe_un un_neg ha) fun σ H Q ⟨e, Fs, hE, h⟩ => ?_
  refine te1 (A := fun b => ∃ i ∈ va, b ∈ Fs i) hE (.refl H) (fun i hi b hb => ⟨i, hi, hb⟩) h fun t v F H1 _ _ e1 _ r _ _ h => ?_
  cases t with
  | int i =>
    rw [rep_i] at r
    exact ⟨i, r.1, ok_int e1 h⟩
  | _ => exact (show False from h).elim
end
end Wt

/-! Snd6: argument lists, displays, places, fields. -/
namespace Wt
open PySem PySem.Spec PyProof.Rows L2

/-- the freshness of a list of parts: 1: each list among them is new and stands apart -/
def LvL (n : Nat) (H : Hp) (ts : List T) (F : List Addr) : Prop := n = 0 ∨ (flat2 ts = true → F.Nodup ∧ ∀ b ∈ F, H b = none)
/-- what a list of parts asks -/
def OutL (g : Cfg) (W : WX) (n : Nat) (A : Addr → Prop) (σ : L2.St) (H : Hp) (Q : List V → Hp → Prop) (r : R (List T)) : Prop :=
  match r with
  | .ok ts => ∀ vs H' F, Ext H H' → RepL g H' ts vs F → LvL n H ts F → (∀ b ∈ F, H b = none ∨ A b) → Q vs H'
  | .exc x => ∀ cls d H', Ext H H' → RepX g H' x cls d (fun b => H b = none ∨ A b) → W cls d σ H'
  | .bad => False
def TAv (g : Cfg) (W : WX) (n : Nat) (vs : List Nat) (f : Env → R (List T)) : TA := fun σ H Q => ∃ e Fs, EnvR g H σ e Fs ∧ OutL g W n (fun b => ∃ i ∈ vs, b ∈ Fs i) σ H Q (f e)
theorem PA.imp {X : Cx} {e : List Expr} {t t' : TA} (h : PA X e t) (k : ∀ σ H Q, t' σ H Q → t σ H Q) : PA X e t' := ⟨fun pos pins s σ H Q I q => h.run pos pins s σ H Q I (k σ H Q q)⟩
theorem OutL.low {g : Cfg} {W : WX} {n m : Nat} {A B : Addr → Prop} {σ : L2.St} {H : Hp} {Q : List V → Hp → Prop} {r : R (List T)} (k : m = n ∨ m = 0) (hA : ∀ b, A b → B b) (h : OutL g W m B σ H Q r) : OutL g W n A σ H Q r := by
  cases r with
  | ok t =>
    exact fun v H' F a b c d => h v H' F a b (by
      rcases k with rfl | rfl
      · exact c
      · exact .inl rfl) fun x hx => (d x hx).imp id (hA x)
  | exc x => exact fun cls d H' a b => h cls d H' a (b.imp fun b z => z.imp id (hA b))
  | bad => exact h
theorem TAv.low {g : Cfg} {W : WX} {n : Nat} {vs vs' : List Nat} {f : Env → R (List T)} {X : Cx} {a : List Expr} (hs : ∀ i ∈ vs, i ∈ vs') (h : PA X a (TAv g W n vs f)) : PA X a (TAv g W 0 vs' f) :=
  PA.imp h fun σ H Q ⟨e, Fs, he, h⟩ => ⟨e, Fs, he, h.low (.inr rfl) fun b ⟨i, hi, hb⟩ => ⟨i, hs i hi, hb⟩⟩
section
variable {X : Cx} {g : Cfg} {W : WX} {σ : L2.St} {Hb H : Hp} {Q : VK} {e : Env} {Fs : Nat → List Addr} {A : Addr → Prop} {n m : Nat} {vs : List Nat} {f : Env → R (List T)}
theorem ta1 {k : List T → R T} {Q' : List V → Hp → Prop} (he : EnvR g H σ e Fs) (eb : Ext Hb H) (hA : ∀ i ∈ vs, ∀ b ∈ Fs i, A b) (h : Out g W n A σ Hb Q ((f e).bnd k))
    (hk : ∀ t v F H1, f e = .ok t → EnvR g H1 σ e Fs → Ext Hb H1 → Ext H H1 → RepL g H1 t v F → LvL m H t F → (∀ b ∈ F, Hb b = none ∨ A b) → Out g W n A σ Hb Q (k t) → Q' v H1) : TAv g W m vs f σ H Q' := by
  refine ⟨e, Fs, he, ?_⟩
  revert h
  cases q : f e with
  | ok t => exact fun h v H1 F a b c d => hk t v F H1 q (he.ext a) (eb.trans a) a b c (fun x hx => (d x hx).imp eb.none fun ⟨i, hi, hb⟩ => hA i hi x hb) h
  | exc x => exact fun h cls d H' a b => h cls d H' (eb.trans a) (b.mono2 eb fun b ⟨i, hi, hb⟩ => hA i hi b hb)
  | bad => exact id
end
section
variable {X : Cx} {g : Cfg} {W : WX} {a b c : Expr} {es : List Expr} {fa fb fc : Env → R T} {fl : Env → R (List T)} {va vb vc vl : List Nat} {n m : Nat} {pos : Pos}
theorem av_nil : PA X [] (TAv g W n vl fun _ => .ok []) := PA.imp pa_nil fun σ H Q ⟨e, Fs, hE, h⟩ => h [] H [] (.refl H) RepL.nil (.inr fun _ => ⟨List.nodup_nil, fun _ z => by cases z⟩) fun _ z => by cases z
/-- a flat part is new, each once -/
theorem lv_flat {H H1 : Hp} {t : T} {v : V} {F : List Addr} (r : Rep g H1 t v F) (h : Lv (n + 1) H t v F) (ht : flat1 t = true) : F.Nodup ∧ ∀ b ∈ F, H b = none := by
  cases t with
  | lst ys =>
    have ht : noMuts ys = true := ht
    obtain ⟨a, G, e1, e2, e3, e4⟩ := (h.low (m := 1) (by omega)) ys rfl
    rw [rep_lst] at r
    obtain ⟨p, vs, G', _, _, r2, e5⟩ := r
    rw [e2] at e5
    have eG : G = G' := (List.cons.inj e5).2
    have z : G' = [] := by
      have r3 : Rep g H1 (.tup ys) (.ref p) G' → G' = [] := fun q => noMut_F q (by rw [noMut]; exact ht)
      clear r3
      have key : ∀ {ts : List T} {ws : List V} {K : List Addr}, RepL g H1 ts ws K → noMuts ts = true → K = [] := by
        intro ts
        induction ts with
        | nil => intro ws K q _; rw [RepL] at q; exact q.2
        | cons t ts ih =>
          intro ws K q w
          rw [RepL] at q
          obtain ⟨_, _, F1, F2, _, q1, q2, rfl⟩ := q
          rw [noMuts, Bool.and_eq_true] at w
          rw [noMut_F q1 w.1, ih q2 w.2]; rfl
      exact key r2 ht
    rw [e2, eG, z]
    exact ⟨List.nodup_cons.mpr ⟨by simp, List.nodup_nil⟩, fun b hb => by rw [List.mem_singleton.mp hb]; exact e3⟩
  | non => rw [rep_n] at r; rw [r.2]; exact ⟨List.nodup_nil, fun _ z => by cases z⟩
  | bl _ => rw [rep_b] at r; rw [r.2]; exact ⟨List.nodup_nil, fun _ z => by cases z⟩
  | int _ => rw [rep_i] at r; rw [r.2]; exact ⟨List.nodup_nil, fun _ z => by cases z⟩
  | str _ => rw [rep_s] at r; rw [r.2]; exact ⟨List.nodup_nil, fun _ z => by cases z⟩
  | cls _ => rw [rep_cls] at r; rw [r.2]; exact ⟨List.nodup_nil, fun _ z => by cases z⟩
  | scr _ => rw [rep_scr] at r; rw [r.2]; exact ⟨List.nodup_nil, fun _ z => by cases z⟩
  | tup xs =>
    have z := noMut_F r ht
    rw [z]; exact ⟨List.nodup_nil, fun _ z => by cases z⟩
  | ins c ks ts => exact absurd (show false = true by have h : noMut (.ins c ks ts) = true := ht; rw [noMut] at h; exact h) Bool.false_ne_true
/-- the parts from the left: n 0 or 1 -/
theorem av_cons (ha : PE X a (TEv g W n va fa)) (hl : PA X es (TAv g W n vl fl)) (hs : starEach (a :: es) X.env = (false, eval a X.env) :: starEach es X.env) :
    PA X (a :: es) (TAv g W n (va ++ vl) fun e => (fa e).bnd fun x => (fl e).bnd fun xs => .ok (x :: xs)) := by
  refine PA.imp (pa_cons ha hl hs) fun σ H Q ⟨e, Fs, hE, h⟩ => ?_
  refine ⟨e, Fs, hE, ?_⟩
  dsimp only at h
  revert h
  cases fa e with
  | ok t =>
    intro h v H1 F e1 r lv pf
    refine ⟨e, Fs, hE.ext e1, ?_⟩
    revert h
    cases fl e with
    | ok ts =>
      intro h ws H2 F2 e2 r2 lv2 pf2
      refine h (v :: ws) H2 (F ++ F2) (e1.trans e2) (RepL.cons (r.ext e2) r2) ?_ fun b hb => ?_
      · match n, lv, lv2 with
        | 0, _, _ => exact .inl rfl
        | k + 1, lv, .inl z => omega
        | k + 1, lv, .inr lv2 =>
          refine .inr fun fl => ?_
          have fl : (flat1 t && flat2 ts) = true := fl
          rw [Bool.and_eq_true] at fl
          obtain ⟨n1, f1⟩ := lv_flat r lv fl.1
          obtain ⟨n2, f2⟩ := lv2 fl.2
          refine ⟨List.nodup_append.mpr ⟨n1, n2, fun x hx y hy e => ?_⟩, fun b hb => ?_⟩
          · subst e
            exact r.dom x hx (f2 x hy)
          · rcases List.mem_append.mp hb with hb | hb
            · exact f1 b hb
            · exact e1.none (f2 b hb)
      · rcases List.mem_append.mp hb with hb | hb
        · exact (pf b hb).imp id fun ⟨i, hi, q⟩ => ⟨i, List.mem_append_left _ hi, q⟩
        · exact (pf2 b hb).imp e1.none fun ⟨i, hi, q⟩ => ⟨i, List.mem_append_right _ hi, q⟩
    | exc x => exact fun h cls d H' a b => h cls d H' (e1.trans a) (b.mono2 e1 fun b ⟨i, hi, q⟩ => ⟨i, List.mem_append_right _ hi, q⟩)
    | bad => exact id
  | exc x => exact fun h cls d H' a b => h cls d H' a (b.imp fun b z => z.imp id fun ⟨i, hi, q⟩ => ⟨i, List.mem_append_left _ hi, q⟩)
  | bad => exact id
/-- a new list of fresh parts -/
theorem ok_lst2 {σ : L2.St} {Hb H : Hp} {Q : VK} {A : Addr → Prop} {p : Addr} {xs : List T} {vs : List V} {G : List Addr} (eb : Ext Hb H) (hf : H p = none) (rt : RepL g H xs vs G) (pf : ∀ b ∈ G, Hb b = none ∨ A b) (lv : n ≤ 1 ∨ (flat2 xs = true → G.Nodup ∧ ∀ b ∈ G, Hb b = none))
    (h : Out g W n A σ Hb Q (.ok (.lst xs))) : Q (.ref p) (upd H p (.lst vs)) := by
  refine h _ _ (p :: G) (eb.trans (.new hf)) ?_ ?_ ?_
  · rw [rep_lst]
    exact ⟨_, vs, G, rfl, upd_same, rt.ext (.new hf), rfl⟩
  · match n, lv with
    | 0, _ => trivial
    | 1, _ => exact fun ys e => ⟨_, G, rfl, rfl, eb.none hf, fun hm => rt.dom _ hm hf⟩
    | k + 2, lv =>
      refine ⟨fun ys e => ⟨_, G, rfl, rfl, eb.none hf, fun hm => rt.dom _ hm hf⟩, fun ys e fl => ?_⟩
      cases e
      rcases lv with z | lv
      · omega
      · obtain ⟨n1, f1⟩ := lv fl
        refine ⟨List.nodup_cons.mpr ⟨fun hm => rt.dom _ hm hf, n1⟩, fun b hb => ?_⟩
        rcases List.mem_cons.mp hb with rfl | hb
        · exact eb.none hf
        · exact f1 b hb
  · intro b hb
    rcases List.mem_cons.mp hb with rfl | hb
    · exact .inl (eb.none hf)
    · exact pf b hb
theorem ev_lst (hl : PA X es (TAv g W m vl fl)) (hlen : ∀ e ts, fl e = .ok ts → ts.length ≤ 1000) (hn : n ≤ m + 1) (hm : m ≤ 1) : PE X (.List es pos) (TEv g W n vl fun e => (fl e).bnd fun ts => .ok (.lst ts)) := by
  refine PE.imp (pe_lst hl) fun σ H Q ⟨e, Fs, hE, h⟩ => ?_
  refine ta1 (A := fun b => ∃ i ∈ vl, b ∈ Fs i) hE (.refl H) (fun i hi b hb => ⟨i, hi, hb⟩) h fun ts vs F H1 et _ e1 _ r lv pf h => ?_
  refine ⟨?_, fun p hp => ok_lst2 e1 hp r pf ?_ h⟩
  · rw [r.len, lim_eq]
    exact Nat.le_trans (hlen e ts et) (by decide)
  · rcases lv with rfl | lv
    · exact .inl (by omega)
    · exact .inr fun z => let ⟨a, b⟩ := lv z; ⟨a, fun x hx => b x hx⟩
theorem ev_tup {k : Nat} (hl : PA X es (TAv g W m vl fl)) (hlen : ∀ e ts, fl e = .ok ts → ts.length ≤ 1000) : PE X (.Tuple es k pos) (TEv g W n vl fun e => (fl e).bnd fun ts => .ok (.tup ts)) := by
  refine PE.imp (pe_tup hl) fun σ H Q ⟨e, Fs, hE, h⟩ => ?_
  refine ta1 (A := fun b => ∃ i ∈ vl, b ∈ Fs i) hE (.refl H) (fun i hi b hb => ⟨i, hi, hb⟩) h fun ts vs F H1 et _ e1 _ r lv pf h => ?_
  refine ⟨?_, fun p hp => ok_tup e1 hp r pf h⟩
  rw [r.len, lim_eq]
  exact Nat.le_trans (hlen e ts et) (by decide)

/-! ### places -/
theorem ixI_eq {n : Nat} {i : Int} : ixI n i = ixN n i := rfl
theorem ev_ix (hK : g.K = X.K) (ha : PE X a (TEv g W 0 va fa)) (hb : PE X b (TEv g W 0 vb fb)) (hs : PlainIx b) : PE X (.Subscript a b pos) (TEv g W 0 (va ++ vb) fun e => (fa e).bnd fun x => (fb e).bnd fun y => ixT x y) := by
  refine ⟨fun pins s σ H Q I h => Subscript_ ?_⟩
  obtain ⟨e, Fs, he, h⟩ := h
  refine run1 (A := fun b => ∃ i ∈ va ++ vb, b ∈ Fs i) (k := fun x => (fb e).bnd fun y => ixT x y) ha I he (.refl H) (fun i hi b hb => ⟨i, List.mem_append_left _ hi, hb⟩) h fun t1 x v F1 H1 s1 _ I1 he1 eb1 _ rx rt1 _ pf1 h1 => ?_
  refine run1 (A := fun b => ∃ i ∈ va ++ vb, b ∈ Fs i) (k := fun y => ixT t1 y) hb I1 he1 eb1 (fun i hi b hb => ⟨i, List.mem_append_right _ hi, hb⟩) h1 fun t2 y u F2 H2 s2 _ I2 he2 eb2 e2 ry rt2 _ pf2 h2 => ?_
  have rt1 := rt1.ext e2
  cases t2 with
  | int k =>
    rw [rep_i] at rt2
    have done : ∀ (xs : List T) (p : Addr) (vs : List V) (G : List Addr), RepL g H2 xs vs G → (∀ b ∈ G, b ∈ F1) → Out g W 0 (fun b => ∃ i ∈ va ++ vb, b ∈ Fs i) σ H Q ((ofO (ixI xs.length k)).bnd fun j => ofO xs[j]?) → ∃ w, atI vs k = some w ∧ Q w H2 := fun xs p vs G rG sub hh => by
      cases q : ixI xs.length k with
      | none => rw [q] at hh; exact hh.elim
      | some j =>
        rw [q] at hh
        have hh : Out g W 0 (fun b => ∃ i ∈ va ++ vb, b ∈ Fs i) σ H Q (ofO xs[j]?) := hh
        cases q2 : xs[j]? with
        | none => rw [q2] at hh; exact hh.elim
        | some t =>
          rw [q2] at hh
          obtain ⟨w, G', e1, e2, e3⟩ := rG.get q2
          refine ⟨w, ?_, ok_old eb2 e2 (fun b hb => pf1 b (sub b (e3 b hb))) (.inl rfl) hh⟩
          unfold atI
          rw [rG.len, ← ixI_eq, q]
          exact e1
    cases t1 with
    | lst xs =>
      rw [rep_lst] at rt1
      obtain ⟨p, vs, G, ep, h1, h2', eG⟩ := rt1
      obtain ⟨w, w1, w2⟩ := done xs p vs G h2' (fun b hb => by rw [eG]; exact List.mem_cons_of_mem _ hb) h2
      exact ix_list a b pins s2 σ H2 x y v u Q I2 rx ry ⟨p, vs, k, w, ep, rt2.1, SqL.of h1, w1, w2⟩ (hs _ _)
    | tup xs =>
      rw [rep_tup] at rt1
      obtain ⟨p, vs, ep, h1, h2'⟩ := rt1
      obtain ⟨w, w1, w2⟩ := done xs p vs F1 h2' (fun b hb => hb) h2
      exact ix_tup a b pins s2 σ H2 x y v u Q I2 rx ry ⟨p, vs, k, w, ep, rt2.1, SqT.of h1, w1, w2⟩ (hs _ _)
    | scr ns =>
      rw [rep_scr] at rt1
      obtain ⟨⟨p, ep, h1⟩, eF⟩ := rt1
      have h2 : Out g W 0 (fun b => ∃ i ∈ va ++ vb, b ∈ Fs i) σ H Q ((ofO (ixI ns.length k)).bnd fun j => (ofO ns[j]?).bnd fun n => .ok (.int n)) := h2
      cases q : ixI ns.length k with
      | none => rw [q] at h2; exact h2.elim
      | some j =>
        rw [q] at h2
        have h2 : Out g W 0 (fun b => ∃ i ∈ va ++ vb, b ∈ Fs i) σ H Q ((ofO ns[j]?).bnd fun n => .ok (.int n)) := h2
        cases q2 : ns[j]? with
        | none => rw [q2] at h2; exact h2.elim
        | some t =>
          rw [q2] at h2
          refine ix_list a b pins s2 σ H2 x y v u Q I2 rx ry ⟨p, _, k, .int t, ep, rt2.1, by rw [← hK]; exact h1.sq, ?_, ok_int eb2 h2⟩ (hs _ _)
          unfold atI
          rw [List.length_map, ← ixI_eq, q]
          show (ns.map V.int)[j]? = _
          rw [List.getElem?_map, q2]; rfl
    | _ => exact (show False from h2).elim
  | _ => exact (show False from h2).elim
/-! ### slices -/
/-- an end of a slice -/
def PartIs : Option Int → T → Prop
  | none, t => t = .non
  | some i, t => t = .int i
theorem cut_eq {n d : Nat} {t : T} {l : Nat} (h : cutI n d t = some l) : ∃ o : Option Int, HT.sIx n d o = l ∧ PartIs o t := by
  cases t with
  | non => exact ⟨none, by cases h; rfl, rfl⟩
  | int i =>
    refine ⟨some i, ?_, rfl⟩
    have h : some (if i < 0 then (i + n).toNat else min i.toNat n) = some l := h
    exact Option.some.inj h
  | _ => exact absurd h (by intro z; cases z)
theorem cutV_rep {H : Hp} {xs : List T} {vs : List V} {G : List Addr} (r : RepL g H xs vs G) (l h : Nat) : ∃ G', RepL g H (cutL xs l h) ((vs.drop l).take (h - l)) G' ∧ ∀ b ∈ G', b ∈ G := by
  obtain ⟨G1, r1, s1⟩ := r.drop l
  obtain ⟨G2, r2, s2⟩ := r1.take (h - l)
  exact ⟨G2, r2, fun b hb => s1 b (s2 b hb)⟩
/-- the object of a slice and what is taken -/
theorem slice_end {pins : List (Addr × Obj)} {s : Shared} {σ : L2.St} {Hb H : Hp} {Q : VK} {A : Addr → Prop} {x : V} {v vl vu : Value} {t1 tl tu : T} {lo hi : Option Int} {F1 : List Addr} {e' : Expr} {lo' hi' : Option Expr} {p2 : Pos}
    (I : Inv X pins σ H s) (eb : Ext Hb H) (rx : RelV x v) (r1 : Rep g H t1 x F1) (pf1 : ∀ b ∈ F1, Hb b = none ∨ A b) (pl : IsPart vl lo) (pu : IsPart vu hi) (el : PartIs lo tl) (eu : PartIs hi tu)
    (h : Out g W 1 A σ Hb Q (sliceT t1 tl tu)) :
    wpAny (model X.prog X.w) X.A (subscriptTail e' (.Slice lo' hi' none p2) v (.ref s.heap.objs.size)) (EP X pins σ Q) X.xe { s with heap := s.heap.push { cls := .type "slice", data := .fields #[vl, vu, .none] } } := by
  have I4 : Inv X pins σ H { s with heap := s.heap.push { cls := .type "slice", data := .fields #[vl, vu, .none] } } := I.kept (t' := s.toks) fun b ob q => Heap.get?_push_of_some _ q
  have cl : ∀ n d, cutI n d tl = some (HT.sIx n d lo) := fun n d => by
    cases lo with
    | none => rw [show tl = .non from el]; rfl
    | some i => rw [show tl = .int i from el]; rfl
  have cu : ∀ n d, cutI n d tu = some (HT.sIx n d hi) := fun n d => by
    cases hi with
    | none => rw [show tu = .non from eu]; rfl
    | some i => rw [show tu = .int i from eu]; rfl
  cases t1 with
  | lst xs =>
    rw [rep_lst] at r1
    obtain ⟨p, vs, G, ep, h1, h2, eG⟩ := r1
    have h : Out g W 1 A σ Hb Q ((ofO (cutI xs.length 0 tl)).bnd fun l => (ofO (cutI xs.length xs.length tu)).bnd fun h => .ok (.lst (cutL xs l h))) := h
    rw [cl, cu] at h
    obtain ⟨G', r', sub⟩ := cutV_rep h2 (HT.sIx xs.length 0 lo) (HT.sIx xs.length xs.length hi)
    obtain ⟨T, id, hT, ht, hg⟩ := sl_list (X := X) pins _ σ H x v vl vu lo hi s.heap.objs.size Q I4 rx (Heap.IsSliceOf.new ..) pl pu ⟨p, vs, ep, SqL.of h1, fun q hq => by
      unfold L2.cutV
      rw [h2.len]
      exact ok_lst eb hq r' (fun b hb => pf1 b (by rw [eG]; exact List.mem_cons_of_mem _ (sub b hb))) (Nat.le_refl _) h⟩
    exact tail_any (ops := [.ref s.heap.objs.size, v]) ht hT hg (by with_unfolding_all rfl)
  | tup xs =>
    have r1' := r1
    rw [rep_tup] at r1
    obtain ⟨p, vs, ep, h1, h2⟩ := r1
    have h : Out g W 1 A σ Hb Q ((ofO (cutI xs.length 0 tl)).bnd fun l => (ofO (cutI xs.length xs.length tu)).bnd fun h => .ok (.tup (cutL xs l h))) := h
    rw [cl, cu] at h
    obtain ⟨G', r', sub⟩ := cutV_rep h2 (HT.sIx xs.length 0 lo) (HT.sIx xs.length xs.length hi)
    obtain ⟨T, id, hT, ht, hg⟩ := sl_tupA (X := X) pins _ σ H x v vl vu lo hi s.heap.objs.size Q I4 rx (Heap.IsSliceOf.new ..) pl pu ⟨p, vs, ep, SqT.of h1, fun hw => by
      rw [h2.len] at hw
      have ec : cutL xs (HT.sIx xs.length 0 lo) (HT.sIx xs.length xs.length hi) = xs := by
        unfold cutL
        rw [hw.1, hw.2, List.drop_zero, Nat.sub_zero, List.take_length]
      have h : Out g W 1 A σ Hb Q (.ok (.tup (cutL xs (HT.sIx xs.length 0 lo) (HT.sIx xs.length xs.length hi)))) := h
      rw [ec] at h
      exact ok_old eb (by rw [← ep]; exact r1') pf1 (.inr fun _ z => by cases z) h, fun hw q hq => by
      unfold L2.cutV
      rw [h2.len]
      exact ok_tup eb hq r' (fun b hb => pf1 b (sub b hb)) h⟩
    exact tail_any (ops := [.ref s.heap.objs.size, v]) ht hT hg (by with_unfolding_all rfl)
  | _ => exact (show False from h).elim
/-- an end of a slice, read -/
theorem po_run {pins : List (Addr × Obj)} {s : Shared} {σ : L2.St} {Hb H : Hp} {Q : VK} {A : Addr → Prop} {e : Env} {Fs : Nat → List Addr} {o : Option Expr} {f : Env → R T} {vs : List Nat} {k : T → R T} {Post : Value → Shared → Prop}
    (ho : (o = none ∧ f = fun _ => .ok .non) ∨ ∃ pe, o = some pe ∧ PE X pe (TEv g W 0 vs f)) (I : Inv X pins σ H s) (he : EnvR g H σ e Fs) (eb : Ext Hb H) (hA : ∀ i ∈ vs, ∀ b ∈ Fs i, A b) (h : Out g W n A σ Hb Q ((partR (f e)).bnd k))
    (hn : o = none ∨ ∀ e, f e ≠ .ok .non)
    (hk : ∀ t u op H1 s1, Inv X pins σ H1 s1 → EnvR g H1 σ e Fs → Ext Hb H1 → Ext H H1 → IsPart u op → PartIs op t → Out g W n A σ Hb Q (k t) → Post u s1) :
    wpAny (model X.prog X.w) X.A (evalPart o X.env) Post X.xe s := by
  rcases ho with ⟨rfl, rfl⟩ | ⟨pe, rfl, hp⟩
  · refine thn (po_none.run pins s σ H (fun o H2 => o = none ∧ H2 = H) I ⟨rfl, rfl⟩) fun u s2 ⟨l, H2, I2, pl, el, e2⟩ => ?_
    subst el e2
    exact hk .non u none _ s2 I2 he eb (.refl _) pl rfl h
  · have h' : Out g W n A σ Hb Q ((f e).bnd fun t => (partR (.ok t)).bnd k) := by
      revert h
      unfold partR
      cases f e <;> exact id
    rcases hn with hn | hn
    · cases hn
    refine thn ((po_some hp).run pins s σ H (fun o H2 => ∃ i, o = some i ∧ Ext H H2 ∧ Out g W n A σ Hb Q (k (.int i))) I ?_) fun u s2 ⟨l, H2, I2, pl, i, el, e2, h2⟩ => ?_
    · refine te1 he eb hA h' fun t v F H1 et _ e1 e2 r _ _ h => ?_
      cases t with
      | int i =>
        rw [rep_i] at r
        exact ⟨i, r.1, i, rfl, e2, h⟩
      | non => exact absurd et (hn e)
      | _ => exact (show False from h).elim
    · subst el
      exact hk (.int i) u (some i) H2 s2 I2 (he.ext e2) (eb.trans e2) e2 pl rfl h2
theorem ev_slice {lo hi : Option Expr} {p2 : Pos} {fl fh : Env → R T} {vl vh : List Nat} (ha : PE X a (TEv g W 0 va fa)) (hl : (lo = none ∧ fl = fun _ => .ok .non) ∨ ∃ pe, lo = some pe ∧ PE X pe (TEv g W 0 vl fl)) (hh : (hi = none ∧ fh = fun _ => .ok .non) ∨ ∃ pe, hi = some pe ∧ PE X pe (TEv g W 0 vh fh))
    (nl : lo = none ∨ ∀ e, fl e ≠ .ok .non) (nh : hi = none ∨ ∀ e, fh e ≠ .ok .non) :
    PE X (.Subscript a (.Slice lo hi none p2) pos) (TEv g W 1 (va ++ (vl ++ vh)) fun e => (fa e).bnd fun x => (partR (fl e)).bnd fun y => (partR (fh e)).bnd fun z => sliceT x y z) := by
  refine ⟨fun pins s σ H Q I h => Subscript_ ?_⟩
  obtain ⟨e, Fs, he, h⟩ := h
  refine run1 (A := fun b => ∃ i ∈ va ++ (vl ++ vh), b ∈ Fs i) (k := fun x => (partR (fl e)).bnd fun y => (partR (fh e)).bnd fun z => sliceT x y z) ha I he (.refl H) (fun i hi b hb => ⟨i, List.mem_append_left _ hi, hb⟩) h fun t1 x v F1 H1 s1 _ I1 he1 eb1 _ rx rt1 _ pf1 h1 => ?_
  refine wpAny_Slice ?_
  refine po_run (A := fun b => ∃ i ∈ va ++ (vl ++ vh), b ∈ Fs i) (k := fun y => (partR (fh e)).bnd fun z => sliceT t1 y z) hl I1 he1 eb1 (fun i hi b hb => ⟨i, List.mem_append_right _ (List.mem_append_left _ hi), hb⟩) h1 nl fun tl vl' lo' H2 s2 I2 he2 eb2 e2 pl el h2 => ?_
  refine po_run (A := fun b => ∃ i ∈ va ++ (vl ++ vh), b ∈ Fs i) (k := fun z => sliceT t1 tl z) hh I2 he2 eb2 (fun i hi b hb => ⟨i, List.mem_append_right _ (List.mem_append_right _ hi), hb⟩) h2 nh fun tu vu' hi' H3 s3 I3 he3 eb3 e3 pu eu h3 => ?_
  rw [evalPart_none]
  refine wpAny_pure ?_
  exact slice_end I3 eb3 rx ((rt1.ext e2).ext e3) pf1 pl pu el eu h3
/-- xs[::-1] of a list -/
theorem ev_rev {k : Nat} {p1 p2 p3 : Pos} (ha : PE X a (TEv g W 0 va fa)) : PE X (.Subscript a (.Slice none none (some (.UnaryOp .USub (.Constant (.int 1) k p1) p2)) p3) pos) (TEv g W 1 va fun e => (fa e).bnd fun x => revT x) := by
  refine PE.imp (pe_revL ha) fun σ H Q ⟨e, Fs, hE, h⟩ => ?_
  refine te1 (A := fun b => ∃ i ∈ va, b ∈ Fs i) hE (.refl H) (fun i hi b hb => ⟨i, hi, hb⟩) h fun t v F H1 _ _ e1 _ r _ pf h => ?_
  cases t with
  | lst xs =>
    rw [rep_lst] at r
    obtain ⟨p, vs, G, ep, h1, h2, eG⟩ := r
    have key : ∀ {ts : List T} {ws : List V} {K : List Addr}, RepL g H1 ts ws K → ∃ K', RepL g H1 ts.reverse ws.reverse K' ∧ ∀ b ∈ K', b ∈ K := by
      intro ts
      induction ts with
      | nil => intro ws K q; rw [RepL] at q; obtain ⟨rfl, rfl⟩ := q; exact ⟨[], RepL.nil, fun _ z => z⟩
      | cons t ts ih =>
        intro ws K q
        rw [RepL] at q
        obtain ⟨w, wr, F1, F2, rfl, q1, q2, rfl⟩ := q
        obtain ⟨K', r1, r2⟩ := ih q2
        refine ⟨K' ++ (F1 ++ []), ?_, fun b hb => ?_⟩
        · rw [List.reverse_cons, List.reverse_cons]
          exact r1.append (RepL.cons q1 RepL.nil)
        · rw [List.append_nil] at hb
          exact (List.mem_append.mp hb).elim (fun z => List.mem_append_right _ (r2 b z)) fun z => List.mem_append_left _ z
    obtain ⟨K', k1, k2⟩ := key h2
    exact ⟨p, vs, ep, SqL.of h1, fun q hq => ok_lst e1 hq k1 (fun b hb => pf b (by rw [eG]; exact List.mem_cons_of_mem _ (k2 b hb))) (Nat.le_refl _) h⟩
  | _ => exact (show False from h).elim
end
end Wt

/-! Snd7: calls. -/
namespace Wt
open PySem PySem.Spec PyProof.Rows L2

section
variable {X : Cx} {g : Cfg} {W : WX} {pins : List (Addr × Obj)} {s : Shared} {σ : L2.St} {Hb H : Hp} {Q : VK} {e : Env} {Fs : Nat → List Addr} {A : Addr → Prop} {n m : Nat} {vs : List Nat} {es : List Expr} {f : Env → R (List T)}
/-- arguments, then what follows -/
theorem runL {k : List T → R T} {Post : List Value → Shared → Prop} {pos : Pos} (ha : PA X es (TAv g W m vs f)) (I : Inv X pins σ H s) (he : EnvR g H σ e Fs) (eb : Ext Hb H)
    (hA : ∀ i ∈ vs, ∀ b ∈ Fs i, A b) (h : Out g W n A σ Hb Q ((f e).bnd k))
    (hk : ∀ ts xs us F H1 s1, f e = .ok ts → Inv X pins σ H1 s1 → EnvR g H1 σ e Fs → Ext Hb H1 → Ext H H1 → Vals xs us → RepL g H1 ts xs F → (∀ b ∈ F, Hb b = none ∨ A b) → Out g W n A σ Hb Q (k ts) → Post us s1) :
    wpAny (model X.prog X.w) X.A (spliced (backTo pos (starEach es X.env))) Post X.xe s := by
  refine thn (ha.run pos pins s σ H (fun v H1 => ∃ t F, f e = .ok t ∧ Ext H H1 ∧ RepL g H1 t v F ∧ ∀ b ∈ F, H b = none ∨ A b) I ⟨e, Fs, he, ?_⟩) fun u s1 ⟨v, H1, I1, r1, t, F, et, e1, rt, pf⟩ => ?_
  · revert h
    cases f e with
    | ok t => exact fun _ v H' F a b _ d => ⟨t, F, rfl, a, b, fun x hx => (d x hx).imp id fun ⟨i, hi, hb⟩ => hA i hi x hb⟩
    | exc x => exact fun h cls d H' a b => h cls d H' (eb.trans a) (b.mono2 eb fun b ⟨i, hi, hb⟩ => hA i hi b hb)
    | bad => exact id
  · rw [et, R.bnd_ok] at h
    exact hk t v u F H1 s1 et I1 (he.ext e1) (eb.trans e1) e1 r1 rt (fun b hb => (pf b hb).imp eb.none id) h
/-- keywords' values, from the left -/
structure PKv (X : Cx) (g : Cfg) (W : WX) (vs : List Nat) (kws : List Keyword) (f : Env → R (List T)) : Prop where
  run : ∀ (pos : Pos) (pins : List (Addr × Obj)) (s : Shared) (σ : L2.St) (Hb H : Hp) (Q : VK) (e : Env) (Fs : Nat → List Addr) (A : Addr → Prop) (n : Nat) (k : List T → R T) (Post : List Value → Shared → Prop), Inv X pins σ H s → EnvR g H σ e Fs → Ext Hb H →
    (∀ i ∈ vs, ∀ b ∈ Fs i, A b) → Out g W n A σ Hb Q ((f e).bnd k) →
    (∀ ts xs us F H1 s1, f e = .ok ts → Inv X pins σ H1 s1 → EnvR g H1 σ e Fs → Ext Hb H1 → Ext H H1 → Vals xs us → RepL g H1 ts xs F → (∀ b ∈ F, Hb b = none ∨ A b) → Out g W n A σ Hb Q (k ts) → Post us s1) →
    wpAny (model X.prog X.w) X.A (evalAll ((backToKw pos (keywordEach kws X.env)).map (·.2))) Post X.xe s
theorem pkv_nil {vl : List Nat} : PKv X g W vl [] fun _ => .ok [] := by
  refine ⟨fun pos pins s σ Hb H Q e Fs A n k Post I he eb hA h hk => ?_⟩
  exact wpAny_evalAll_nil (hk [] [] [] [] H s rfl I he eb (.refl _) .nil RepL.nil (fun _ z => by cases z) h)
theorem pkv_cons {nm : Option Str} {a : Expr} {kp : Pos} {kws : List Keyword} {va vl : List Nat} {fa : Env → R T} {fl : Env → R (List T)} (ha : PE X a (TEv g W 0 va fa)) (hl : PKv X g W vl kws fl) :
    PKv X g W (va ++ vl) (⟨nm, a, kp⟩ :: kws) fun e => (fa e).bnd fun x => (fl e).bnd fun xs => .ok (x :: xs) := by
  refine ⟨fun pos pins s σ Hb H Q e Fs A n k Post I he eb hA h hk => ?_⟩
  have h' : Out g W n A σ Hb Q ((fa e).bnd fun x => (fl e).bnd fun xs => k (x :: xs)) := by
    revert h
    cases fa e with
    | ok t => cases fl e <;> exact id
    | exc x => exact id
    | bad => exact id
  show wpAny _ _ (evalAll ((do let v ← eval a X.env; standAt pos; pure v) :: (backToKw pos (keywordEach kws X.env)).map (·.2))) _ _ s
  refine wpAny_evalAll_cons (wpAny_bind ?_)
  refine run1 (k := fun x => (fl e).bnd fun xs => k (x :: xs)) ha I he eb (fun i hi => hA i (List.mem_append_left _ hi)) h' fun t v u F H1 s1 et I1 he1 eb1 e1 rv rt _ pf h1 => wpAny_bind (wpAny_standAt (wpAny_pure ?_))
  refine hl.run pos pins s1 σ Hb H1 Q e Fs A n (fun xs => k (t :: xs)) _ I1 he1 eb1 (fun i hi => hA i (List.mem_append_right _ hi)) h1 fun ts xs us F2 H2 s2 ets I2 he2 eb2 e2 rvs rts pf2 h2 => ?_
  refine hk (t :: ts) (v :: xs) (u :: us) (F ++ F2) H2 s2 ?_ I2 he2 eb2 (e1.trans e2) (.cons rv rvs) (RepL.cons (rt.ext e2) rts) (fun b hb => (List.mem_append.mp hb).elim (pf b) (pf2 b)) h2
  rw [et, ets]; rfl

/-! ### built-ins -/
/-- the call of a known value with values -/
def CallT (X : Cx) (g : Cfg) (W : WX) (n : Nat) (f : Value) (k : List T → R T) : Prop :=
  ∀ (pins : List (Addr × Obj)) (s : Shared) (σ : L2.St) (Hb H : Hp) (A : Addr → Prop) (Q : VK) (xs : List V) (us : List Value) (ts : List T) (F : List Addr), Inv X pins σ H s → Ext Hb H → Vals xs us → RepL g H ts xs F → (∀ b ∈ F, Hb b = none ∨ A b) →
    Out g W n A σ Hb Q (k ts) → wpAny (model X.prog X.w) X.A (call f us) (EP X pins σ Q) X.xe s
variable {x : Str} {p pos : Pos} {a : Expr} {id T' : String} {k : List T → R T}
theorem ev_callB (hc : CallT X g W n (.builtin id) k) (hg : Gl X x) (hm : X.mg x = none) (hv : bootBuiltins x = some (.builtin id)) (ha : PA X (a :: es) (TAv g W 0 vs f)) (hn : x ≠ "__name__") (hdb : (x == ("__debug__" : Str)) = false)
    (he : starEach (a :: es) X.env = (false, eval a X.env) :: starEach es X.env) (hpl : (backTo pos (starEach es X.env)).any (·.1) = false) : PE X (.Call (.Name x p) (a :: es) [] pos) (TEv g W n vs fun e => (f e).bnd k) := by
  refine ⟨fun pins s σ H Q I h => ?_⟩
  obtain ⟨e, Fs, hE, h⟩ := h
  refine wpAny_Call_Name_kw (ld_blt I hg hm hv ?_ hn hdb)
  refine PyProof.Rows.callWith_builtin1 (runL (A := fun b => ∃ i ∈ vs, b ∈ Fs i) ha I hE (.refl _) (fun i hi b hb => ⟨i, hi, hb⟩) h fun ts xs us F H1 s1 _ I1 _ eb1 _ r rt pf h1 => ?_) he hpl
  exact hc pins s1 σ H H1 _ Q xs us ts F I1 eb1 r rt pf h1
theorem ev_callTy (hc : CallT X g W n (.type T') k) (hg : Gl X x) (hm : X.mg x = none) (hv : bootBuiltins x = some (.type T')) (ha : PA X (a :: es) (TAv g W 0 vs f)) (hn : x ≠ "__name__") (hdb : (x == ("__debug__" : Str)) = false)
    (he : starEach (a :: es) X.env = (false, eval a X.env) :: starEach es X.env) (hpl : (backTo pos (starEach es X.env)).any (·.1) = false) : PE X (.Call (.Name x p) (a :: es) [] pos) (TEv g W n vs fun e => (f e).bnd k) := by
  refine ⟨fun pins s σ H Q I h => ?_⟩
  obtain ⟨e, Fs, hE, h⟩ := h
  refine wpAny_Call_Name_kw (ld_blt I hg hm hv ?_ hn hdb)
  refine PyProof.Rows.callWith_type1 (runL (A := fun b => ∃ i ∈ vs, b ∈ Fs i) ha I hE (.refl _) (fun i hi b hb => ⟨i, hi, hb⟩) h fun ts xs us F H1 s1 _ I1 _ eb1 _ r rt pf h1 => ?_) he hpl
  exact hc pins s1 σ H H1 _ Q xs us ts F I1 eb1 r rt pf h1

/-! ### own defs -/
def argsV (pm : List Pa) (vs : List V) : List V :=
  match pm with
  | [] => vs
  | _ => pm.map fun p => match p with
    | .ev k => vs.getD k .non
    | .non => .non
    | .int i => .int i
/-- every place that is named is there -/
def paOk (n : Nat) : Pa → Bool
  | .ev k => Nat.blt k n
  | _ => true
def pmOk (n : Nat) (pm : List Pa) : Bool := pm.all (paOk n)
/-- how such a call binds: np values, keywords ks -/
structure BndOk (K : PySem.W.Frag) (fd : FuncData) (ps : List Str) (np : Nat) (ks : List Str) (pm : List Pa) : Prop where
  to : ∀ (s : Shared) (us ws : List Value), K.In s.heap → us.length = np → ws.length = ks.length → ∃ ds : List Value, BindsTo s fd ⟨us, ks.zip ws⟩ (ps.zip ds) ∧ ∀ vs : List V, Vals vs (us ++ ws) → Vals (argsV pm vs) ds
/-- a def that answers as f says: lv its freshness -/
def spOf (g : Cfg) (np lv : Nat) (f : List T → R T) : Sp := fun vs H Q E => vs.length = np ∧ ∃ ts Fs, RepL g H ts vs Fs ∧ Out g (fun c d _ H' => E c d H') lv (fun b => b ∈ Fs) [] H Q (f ts)
theorem rep_args {ts : List T} {vs : List V} {F : List Addr} {pm : List Pa} (h : RepL g H ts vs F) (ok : pmOk ts.length pm = true) : ∃ G, RepL g H (args pm ts) (argsV pm vs) G ∧ ∀ b ∈ G, b ∈ F := by
  have key : ∀ {pm : List Pa}, pmOk ts.length pm = true → ∃ G, RepL g H (pm.map fun p => match p with | .ev k => ts.getD k .non | .non => .non | .int i => .int i) (pm.map fun p => match p with | .ev k => vs.getD k .non | .non => .non | .int i => .int i) G ∧ ∀ b ∈ G, b ∈ F := by
    intro pm
    induction pm with
    | nil => intro _; exact ⟨[], RepL.nil, fun _ z => by cases z⟩
    | cons q r ih =>
      intro ok
      have ok2 : (paOk ts.length q && pmOk ts.length r) = true := ok
      rw [Bool.and_eq_true] at ok2
      obtain ⟨G, g1, g2⟩ := ih ok2.2
      cases q with
      | ev k =>
        have hk : k < ts.length := Nat.le_of_ble_eq_true ok2.1
        obtain ⟨v, G', e1, e2, e3⟩ := h.get (i := k) (t := ts[k]) (by simp [hk])
        refine ⟨G' ++ G, ?_, fun b hb => (List.mem_append.mp hb).elim (e3 b) (g2 b)⟩
        have q1 : ts.getD k .non = ts[k] := by rw [List.getD_eq_getElem?_getD]; simp [hk]
        have q2 : vs.getD k .non = v := by rw [List.getD_eq_getElem?_getD, e1]; rfl
        rw [List.map_cons, List.map_cons]
        refine RepL.cons ?_ g1
        show Rep g H (ts.getD k .non) (vs.getD k .non) G'
        rw [q1, q2]
        exact e2
      | non => exact ⟨[] ++ G, RepL.cons (by rw [rep_n]; exact ⟨rfl, rfl⟩) g1, g2⟩
      | int i => exact ⟨[] ++ G, RepL.cons (by rw [rep_i]; exact ⟨rfl, rfl⟩) g1, g2⟩
  cases pm with
  | nil => exact ⟨F, h, fun _ z => z⟩
  | cons q r => exact key ok
/-- the callee runs -/
theorem call_run {kl np lv : Nat} {f : Addr} {fd : FuncData} {ps ks : List Str} {cf : List T → R T} {q : Nat} {pm : List Pa} {xs : List V} {us ws : List Value} {ts : List T} {F : List Addr}
    (Fn : FnOk X.prog X.w X.K X.mg X.base (L2.CX X.prog X.w) kl f fd ps (spOf g q lv cf)) (hr : Room kl X.A) (hb : BndOk X.K fd ps np ks pm) (hps : (argsV pm xs).length = q) (tk : Takes X W) (I : Inv X pins σ H s) (eb : Ext Hb H) (r : Vals xs (us ++ ws)) (lu : us.length = np) (lw : ws.length = ks.length)
    (rt : RepL g H ts xs F) (ok : pmOk ts.length pm = true) (pf : ∀ b ∈ F, Hb b = none ∨ A b) (hn : n ≤ lv) (h : Out g W n A σ Hb Q (cf (args pm ts))) : wpAny (model X.prog X.w) X.A (call (.ref f) us (ks.zip ws)) (EP X pins σ Q) X.xe s := by
  obtain ⟨ds, b1, b2⟩ := hb.to s us ws I.kIn lu lw
  obtain ⟨G, g1, g2⟩ := rep_args rt ok
  have hsp : spOf g q lv cf (argsV pm xs) H Q (fun c d H' => W c d σ H') := by
    refine ⟨hps, _, G, g1, ?_⟩
    revert h
    cases cf (args pm ts) with
    | ok t => exact fun h v H' F' a b c d => h v H' F' (eb.trans a) b ((c.low hn).mono eb) fun x hx => (d x hx).elim (fun z => .inl (eb.none z)) fun z => pf x (g2 x z)
    | exc x => exact fun h cls d H' a b => h cls d H' (eb.trans a) (b.imp fun x hx => hx.elim (fun z => .inl (eb.none z)) fun z => pf x (g2 x z))
    | bad => exact id
  refine wpAny_call (codeAny_mono (Fn.run X.A X.stack s H ⟨us, ks.zip ws⟩ ds (argsV pm xs) Q (fun c d H' => W c d σ H') hr I.env0 b1 (b2 xs r) hsp) fun res s' hq => ?_)
  cases res with
  | error ev => exact passAt tk σ pins H s ev s' I hq
  | ok fl =>
    cases fl with
    | ret u => exact I.after hq
    | next => exact False.elim hq
    | brk => exact False.elim hq
    | cont => exact False.elim hq
end
end Wt

/-! Snd8: calls of names, methods, classes. -/
namespace Wt
open PySem PySem.Spec PyProof.Rows L2

def shiftPa : Pa → Pa
  | .ev k => .ev (k + 1)
  | z => z
/-- the same call with the object ahead -/
def selfPm : List Pa → List Pa
  | [] => []
  | p :: r => .ev 0 :: (p :: r).map shiftPa
theorem selfPm_V (pm : List Pa) (x : V) (xs : List V) : argsV (selfPm pm) (x :: xs) = x :: argsV pm xs := by
  cases pm with
  | nil => rfl
  | cons z r =>
    unfold selfPm argsV
    dsimp only
    rw [List.map_cons, List.map_map]
    congr 1
    refine List.map_congr_left fun p _ => ?_
    cases p <;> rfl
/-- all but x is kept -/
def ExtB (x : Addr) (H H' : Hp) : Prop := ∀ b o, b ≠ x → H b = some o → H' b = some o
/-- an __init__ that fills the instance as f says -/
def spInit (g : Cfg) (np c : Nat) (f : List T → R T) : Sp := fun vs H Q E => vs.length = np ∧ ∃ x dx ws ts Fs, vs = .ref x :: ws ∧ H x = some (.ins (g.C c) dx []) ∧ RepL g H ts ws Fs ∧ x ∉ Fs ∧
  match f ts with
  | .ok t => ∀ H' F, ExtB x H H' → Rep g H' t (.ref x) F → (∀ b ∈ F, b = x ∨ H b = none ∨ b ∈ Fs) → Q .non H'
  | .exc z => ∀ cls d H', ExtB x H H' → RepX g H' z cls d (fun b => H b = none ∨ b ∈ Fs) → E cls d H'
  | .bad => False
section
variable {X : Cx} {g : Cfg} {W : WX} {pins : List (Addr × Obj)} {s : Shared} {σ : L2.St} {Hb H : Hp} {Q : VK} {e : Env} {Fs : Nat → List Addr} {A : Addr → Prop} {n m : Nat} {vs vk : List Nat} {es : List Expr} {kws : List Keyword} {f fk : Env → R (List T)}
theorem make_run {kl np : Nat} {c : Nat} {fa : Addr} {fd : FuncData} {ps ks : List Str} {cf : List T → R T} {q : Nat} {pm : List Pa} {xs : List V} {us ws : List Value} {ts : List T} {F : List Addr}
    (M : Mk X.K (g.C c) fa) (Fn : FnOk X.prog X.w X.K X.mg X.base (L2.CX X.prog X.w) kl fa fd ps (spInit g q c cf)) (hr : Room (kl + 1) X.A) (hb : BndOk X.K fd ps (np + 1) ks (selfPm pm))
    (hps : (argsV pm xs).length + 1 = q) (tk : Takes X W) (I : Inv X pins σ H s) (eb : Ext Hb H) (r : Vals xs (us ++ ws)) (lu : us.length = np) (lw : ws.length = ks.length)
    (rt : RepL g H ts xs F) (ok : pmOk ts.length pm = true) (pf : ∀ b ∈ F, Hb b = none ∨ A b) (hn : n = 0) (h : Out g W n A σ Hb Q (cf (args pm ts))) : wpAny (model X.prog X.w) X.A (call (.ref (g.C c)) us (ks.zip ws)) (EP X pins σ Q) X.xe s := by
  subst hn
  have I2 := Inv.made (C := g.C c) I
  generalize hx : s.heap.objs.size + 1 = x at I2
  generalize hd : s.heap.objs.size = dx at I2 hx
  have fx : H x = none := I.hok.fresh (by omega)
  have fdx : H dx = none := I.hok.fresh (by omega)
  have ne : dx ≠ x := by omega
  generalize hH2 : upd (upd H dx (.own x)) x (.ins (g.C c) dx []) = H2 at I2
  have e2 : Ext H H2 := by rw [← hH2]; exact (Ext.new fdx).trans (.new (by rw [upd_ne ne.symm]; exact fx))
  have atx : H2 x = some (.ins (g.C c) dx []) := by rw [← hH2]; exact upd_same
  have lu2 : (Value.ref x :: us).length = np + 1 := by rw [List.length_cons, lu]
  obtain ⟨ds, b1, b2⟩ := hb.to _ (Value.ref x :: us) ws I2.kIn lu2 lw
  have b2' := b2 (.ref x :: xs) (.cons rfl r)
  obtain ⟨G, g1, g2⟩ := rep_args (rt.ext e2) ok
  rw [selfPm_V] at b2'
  have hsp : spInit g q c cf (.ref x :: argsV pm xs) H2 (fun v H' => v = .non ∧ Q (.ref x) H') (fun cl d H' => W cl d σ H') := by
    refine ⟨by rw [List.length_cons]; exact hps, x, dx, _, _, G, rfl, atx, g1, fun hm => rt.dom x (g2 x hm) fx, ?_⟩
    have up : ∀ {H' : Hp}, ExtB x H2 H' → Ext H H' := fun k b o q => k b o (ne_of_none q fx) (e2 b o q)
    revert h
    cases cf (args pm ts) with
    | ok t =>
      intro h H' F' a b c'
      refine ⟨rfl, h (.ref x) H' F' (eb.trans (up a)) b trivial fun z hz => ?_⟩
      rcases c' z hz with rfl | k | k
      · exact .inl (eb.none fx)
      · exact .inl (eb.none (e2.none k))
      · exact pf z (g2 z k)
    | exc z => exact fun h cls d H' a b => h cls d H' (eb.trans (up a)) (b.imp fun x hx => hx.elim (fun k => .inl (eb.none (e2.none k))) fun k => pf x (g2 x k))
    | bad => exact id
  refine wpAny_call (make_map (f := fa) I.kIn M.makes M.init (beq_iff_eq.mp M.fn) ?_)
  rw [hd, hx]
  refine codeAny_mono (Fn.run _ X.stack _ _ ⟨Value.ref x :: us, ks.zip ws⟩ ds _ _ _ (hr.make (g.C c) us (ks.zip ws)) (I2.env0.make (g.C c) us (ks.zip ws)) b1 b2' hsp) fun res s' hq' => ?_
  cases res with
  | error ev => exact passAt tk σ pins H2 _ ev s' I2 hq'
  | ok fl =>
    cases fl with
    | ret u =>
      obtain ⟨v, H', I3, rv, ev, q3⟩ := I2.after hq'
      subst ev
      exact ⟨rv, ⟨V.ref x, H', I3, rfl, q3⟩⟩
    | next => exact False.elim hq'
    | brk => exact False.elim hq'
    | cont => exact False.elim hq'

/-- what a call's written parts must be -/
structure ArgsOk (X : Cx) (pos : Pos) (es : List Expr) (kws : List Keyword) (ks : List Str) : Prop where
  star : ∀ a r, es = a :: r → starEach (a :: r) X.env = (false, eval a X.env) :: starEach r X.env
  all : (backToKw pos (keywordEach kws X.env)).all (·.1.isSome) = true
  ks : (backToKw pos (keywordEach kws X.env)).filterMap (·.1) = ks
  pl : ((backTo pos (starEach es X.env)).any (·.1) || (backToKw pos (keywordEach kws X.env)).any (·.1.isNone)) = false
/-- arguments, keywords, then the call -/
theorem call_args {pos : Pos} {ks : List Str} {fv : Value} {first : List Value} {k : List T → R T} (O : ArgsOk X pos es kws ks) (hkp : PySem.W.keepIn X.K fv = true) (ha : PA X es (TAv g W 0 vs f)) (hk : PKv X g W vk kws fk) (I : Inv X pins σ H s) (he : EnvR g H σ e Fs) (eb : Ext Hb H)
    (hA : ∀ i ∈ vs ++ vk, ∀ b ∈ Fs i, A b) (h : Out g W n A σ Hb Q ((f e).bnd fun ts => (fk e).bnd fun us => k (ts ++ us)))
    (hl : ∀ ts, f e = .ok ts → ts.length = es.length) (hnil : es = [] → f e = .ok [])
    (hc : ∀ ts xs us ws F H1 s1, Inv X pins σ H1 s1 → Ext Hb H1 → Ext H H1 → Vals xs (us ++ ws) → us.length = es.length → ws.length = ks.length → RepL g H1 ts xs F → (∀ b ∈ F, Hb b = none ∨ A b) → Out g W n A σ Hb Q (k ts) →
      wpAny (model X.prog X.w) X.A (call fv (first ++ us) (ks.zip ws)) (EP X pins σ Q) X.xe s1)
    (lk : ∀ us, fk e = .ok us → us.length = ks.length) :
    wpAny (model X.prog X.w) X.A (callWith pos fv first (backTo pos (starEach es X.env)) (backToKw pos (keywordEach kws X.env))) (EP X pins σ Q) X.xe s := by
  cases es with
  | nil =>
    refine PySem.W.callWith_KW0 (h₀ := X.base) I.ok.mod.kin hkp O.all ?_ O.pl
    rw [hnil rfl, R.bnd_ok] at h
    refine hk.run pos pins s σ Hb H Q e Fs A n (fun us => k ([] ++ us)) _ I he eb (fun i hi => hA i (List.mem_append_right _ hi)) h fun us ys ws F H1 s1 efk I1 he1 eb1 e1 r rt pf h1 => ⟨I1.kIn, ?_⟩
    rw [O.ks]
    exact hc us ys [] ws F H1 s1 I1 eb1 e1 r rfl (by rw [← r.length, rt.len]; exact lk us efk) rt pf h1
  | cons a r =>
    refine PySem.W.callWith_KW (h₀ := X.base) I.ok.mod.kin hkp O.all ?_ O.pl (O.star a r rfl)
    refine runL (k := fun ts => (fk e).bnd fun us => k (ts ++ us)) ha I he eb (fun i hi => hA i (List.mem_append_left _ hi)) h fun ts xs us F H1 s1 ets I1 he1 eb1 e1 rv rt pf h1 => ?_
    refine hk.run pos pins s1 σ Hb H1 Q e Fs A n (fun us => k (ts ++ us)) _ I1 he1 eb1 (fun i hi => hA i (List.mem_append_right _ hi)) h1 fun us2 ys ws F2 H2 s2 efk I2 he2 eb2 e2 rvs rts pf2 h2 => ⟨I2.kIn, ?_⟩
    rw [O.ks]
    exact hc (ts ++ us2) (xs ++ ys) us ws (F ++ F2) H2 s2 I2 eb2 (e1.trans e2) (rv.append rvs) (by rw [← rv.length, rt.len]; exact hl ts ets) (by rw [← rvs.length, rts.len]; exact lk us2 efk) ((rt.ext e2).append rts)
      (fun b hb => (List.mem_append.mp hb).elim (pf b) (pf2 b)) h2
end
end Wt

/-! Snd9: comparisons; the call of a def by its name; fields. -/
namespace Wt
open PySem PySem.Spec PyProof.Rows L2

section
variable {X : Cx} {g : Cfg} {W : WX} {a b c : Expr} {fa fb fc : Env → R T} {va vb vc : List Nat} {n : Nat} {pos : Pos}
/-- a value's outcome, from a test's -/
theorem out_of_B {σ : L2.St} {H : Hp} {Q : Bool → Hp → Prop} {A : Addr → Prop} {r : R T} (h : OutB W A σ H Q g (truth r)) : Out g W n A σ H (fun v H' => ∃ k, v = .bl k ∧ Q k H') r := by
  cases r with
  | ok t =>
    cases t with
    | bl k =>
      intro v H' F e r _ _
      rw [rep_b] at r
      exact ⟨k, r.1, h H' e⟩
    | _ => exact (show False from h).elim
  | exc x => exact h
  | bad => exact h
theorem ev_cmp {op : CmpOp} {k : T → T → R T} (ho : Op2 X g W n (compareOp op) k) (ha : PE X a (TEv g W 0 va fa)) (hb : PE X b (TEv g W 0 vb fb)) (hm : behindInMarks op b = false) :
    PE X (.Compare a [op] [b] pos) (TEv g W n (va ++ vb) fun e => (fa e).bnd fun x => (fb e).bnd fun y => k x y) :=
  ⟨fun pins s σ H Q I h => wpAny_Compare1 (run2 ho ha hb I h) hm⟩
theorem tt_cmp {op : CmpOp} {k : T → T → R T} (ho : Op2 X g W n (compareOp op) k) (ha : PE X a (TEv g W 0 va fa)) (hb : PE X b (TEv g W 0 vb fb)) (hm : behindInMarks op b = false) :
    PT X (.Compare a [op] [b] pos) (TTv g W (va ++ vb) fun e => truth ((fa e).bnd fun x => (fb e).bnd fun y => k x y)) := by
  refine ⟨fun pins s σ H Q I h => ?_⟩
  obtain ⟨e, Fs, he, h⟩ := h
  refine wpAny_isTrue_Compare1 (thn (run2 ho ha hb I ⟨e, Fs, he, out_of_B h⟩) fun v s1 h1 => thn h1 fun u s2 h2 => thn h2 fun w s3 ⟨z, H3, I3, r3, q, eq, q3⟩ => ?_) hm
  subst eq
  cases r3
  exact wpAny_truthy_bool ⟨H3, I3, q3⟩

/-- what a link of a chain asks -/
theorem link_out {σ : L2.St} {Hb H : Hp} {Q : VK} {A : Addr → Prop} {r : R T} {k : Bool → R T} (eb : Ext Hb H) (h : Out g W n A σ Hb Q ((truth r).bnd k)) :
    Out g W n (fun b => Hb b = none ∨ A b) σ H (fun v H' => ∃ b, v = .bl b ∧ Ext H H' ∧ Out g W n A σ Hb Q (k b)) r := by
  cases r with
  | ok t =>
    cases t with
    | bl b =>
      intro v H' F e r _ _
      rw [rep_b] at r
      exact ⟨b, r.1, e, h⟩
    | _ => exact (show False from h).elim
  | exc x => exact fun cls d H' a b => h cls d H' (eb.trans a) (b.imp fun x hx => hx.elim (fun z => .inl (eb.none z)) id)
  | bad => exact h
theorem ev_cmp2 {o1 o2 : CmpOp} {k1 k2 : T → T → R T} (h1 : Op2 X g W n (compareOp o1) k1) (h2 : Op2 X g W n (compareOp o2) k2) (ha : PE X a (TEv g W 0 va fa)) (hb : PE X b (TEv g W 0 vb fb)) (hc : PE X c (TEv g W 0 vc fc))
    (hm : lastMarks [o1, o2] [b, c] = false) : PE X (.Compare a [o1, o2] [b, c] pos) (TEv g W n (va ++ (vb ++ vc)) fun e => (fa e).bnd fun x => (fb e).bnd fun y => (truth (k1 x y)).bnd fun k => pick k ((fc e).bnd fun z => k2 y z) (.ok (.bl false))) := by
  refine ⟨fun pins s σ H Q I h => ?_⟩
  obtain ⟨e, Fs, he, h⟩ := h
  refine Compare_chain (run1 (A := fun b => ∃ i ∈ va ++ (vb ++ vc), b ∈ Fs i) (k := fun x => (fb e).bnd fun y => (truth (k1 x y)).bnd fun k => pick k ((fc e).bnd fun z => k2 y z) (.ok (.bl false))) ha I he (.refl H) (fun i hi b hb => ⟨i, List.mem_append_left _ hi, hb⟩) h fun t1 x v F1 H1 s1 _ I1 he1 eb1 _ rx rt1 _ pf1 q1 => ?_) hm
  refine chain_link (run1 (A := fun b => ∃ i ∈ va ++ (vb ++ vc), b ∈ Fs i) (k := fun y => (truth (k1 t1 y)).bnd fun k => pick k ((fc e).bnd fun z => k2 y z) (.ok (.bl false))) hb I1 he1 eb1 (fun i hi b hb => ⟨i, List.mem_append_right _ (List.mem_append_left _ hi), hb⟩) q1 fun t2 y u F2 H2 s2 _ I2 he2 eb2 e2 ry rt2 _ pf2 q2 => ?_)
  refine thn (h1 pins s2 σ H2 H2 (fun b => H b = none ∨ ∃ i ∈ va ++ (vb ++ vc), b ∈ Fs i) _ x y v u t1 t2 F1 F2 I2 (.refl _) rx ry (rt1.ext e2) rt2 (fun b hb => .inr (pf1 b hb)) (fun b hb => .inr (pf2 b hb)) (link_out eb2 q2)) fun d s3 ⟨z, H3, I3, r3, k, ez, e3, q3⟩ => ?_
  subst ez
  cases r3
  refine wpAny_truthy_bool ?_
  cases k with
  | false => exact ite_ff ⟨.bl false, H3, I3, rfl, ok_bl (eb2.trans e3) q3⟩
  | true =>
    refine ite_tt (chain_last (run1 (A := fun b => ∃ i ∈ va ++ (vb ++ vc), b ∈ Fs i) (k := fun z => k2 t2 z) hc I3 (he2.ext e3) (eb2.trans e3) (fun i hi b hb => ⟨i, List.mem_append_right _ (List.mem_append_right _ hi), hb⟩) q3 fun t3 w wv F3 H4 s4 _ I4 he4 eb4 e4 rw' rt3 _ pf3 q4 => ?_))
    exact h2 pins s4 σ H H4 _ Q y w u wv t2 t3 F2 F3 I4 eb4 ry rw' (rt2.ext (e3.trans e4)) rt3 pf2 pf3 q4
theorem tt_cmp2 {o1 o2 : CmpOp} {k1 k2 : T → T → R T} (h1 : Op2 X g W n (compareOp o1) k1) (h2 : Op2 X g W n (compareOp o2) k2) (ha : PE X a (TEv g W 0 va fa)) (hb : PE X b (TEv g W 0 vb fb)) (hc : PE X c (TEv g W 0 vc fc))
    (hm : lastMarks [o1, o2] [b, c] = false) : PT X (.Compare a [o1, o2] [b, c] pos) (TTv g W (va ++ (vb ++ vc)) fun e => truth ((fa e).bnd fun x => (fb e).bnd fun y => (truth (k1 x y)).bnd fun k => pick k ((fc e).bnd fun z => k2 y z) (.ok (.bl false)))) := by
  refine ⟨fun pins s σ H Q I h => ?_⟩
  obtain ⟨e, Fs, he, h⟩ := h
  have h : Out g W n (fun b => ∃ i ∈ va ++ (vb ++ vc), b ∈ Fs i) σ H (fun v H' => ∃ k, v = .bl k ∧ Q k H') _ := out_of_B h
  refine isTrue_chain (run1 (A := fun b => ∃ i ∈ va ++ (vb ++ vc), b ∈ Fs i) (k := fun x => (fb e).bnd fun y => (truth (k1 x y)).bnd fun k => pick k ((fc e).bnd fun z => k2 y z) (.ok (.bl false))) ha I he (.refl H) (fun i hi b hb => ⟨i, List.mem_append_left _ hi, hb⟩) h fun t1 x v F1 H1 s1 _ I1 he1 eb1 _ rx rt1 _ pf1 q1 => ?_) hm
  refine test_link (run1 (A := fun b => ∃ i ∈ va ++ (vb ++ vc), b ∈ Fs i) (k := fun y => (truth (k1 t1 y)).bnd fun k => pick k ((fc e).bnd fun z => k2 y z) (.ok (.bl false))) hb I1 he1 eb1 (fun i hi b hb => ⟨i, List.mem_append_right _ (List.mem_append_left _ hi), hb⟩) q1 fun t2 y u F2 H2 s2 _ I2 he2 eb2 e2 ry rt2 _ pf2 q2 => ?_)
  refine thn (h1 pins s2 σ H2 H2 (fun b => H b = none ∨ ∃ i ∈ va ++ (vb ++ vc), b ∈ Fs i) _ x y v u t1 t2 F1 F2 I2 (.refl _) rx ry (rt1.ext e2) rt2 (fun b hb => .inr (pf1 b hb)) (fun b hb => .inr (pf2 b hb)) (link_out eb2 q2)) fun d s3 ⟨z, H3, I3, r3, k, ez, e3, q3⟩ => ?_
  subst ez
  cases r3
  refine wpAny_truthy_bool ?_
  cases k with
  | false =>
    obtain ⟨k', e', q'⟩ := ok_bl (eb2.trans e3) q3
    cases e'
    exact ite_ff ⟨H3, I3, q'⟩
  | true =>
    refine ite_tt (test_last (run1 (A := fun b => ∃ i ∈ va ++ (vb ++ vc), b ∈ Fs i) (k := fun z => k2 t2 z) hc I3 (he2.ext e3) (eb2.trans e3) (fun i hi b hb => ⟨i, List.mem_append_right _ (List.mem_append_right _ hi), hb⟩) q3 fun t3 w wv F3 H4 s4 _ I4 he4 eb4 e4 rw' rt3 _ pf3 q4 => ?_))
    refine thn (h2 pins s4 σ H H4 _ _ y w u wv t2 t3 F2 F3 I4 eb4 ry rw' (rt2.ext (e3.trans e4)) rt3 pf2 pf3 q4) fun d' s5 ⟨z2, H5, I5, r5, k2, e2', q5⟩ => ?_
    subst e2'
    cases r5
    exact wpAny_truthy_bool ⟨H5, I5, q5⟩
end

/-! ### calls by name -/
section
variable {X : Cx} {g : Cfg} {W : WX} {n : Nat} {vs vk : List Nat} {es : List Expr} {kws : List Keyword} {f fk : Env → R (List T)} {pos p : Pos} {x : Str} {ks : List Str}
/-- a def that a scope can call: q parameters, answers as cf says -/
structure CallOk (X : Cx) (g : Cfg) (x : Str) (cf : List T → R T) (lv np : Nat) (ks : List Str) (pm : List Pa) : Prop where
  ex : ∃ (fa : Addr) (fd : FuncData) (ps : List Str) (kl q : Nat), FnOk X.prog X.w X.K X.mg X.base (L2.CX X.prog X.w) kl fa fd ps (spOf g q lv cf) ∧ Room kl X.A ∧ X.mg x = some (.ref fa) ∧ PySem.W.keepIn X.K (.ref fa) = true ∧
    BndOk X.K fd ps np ks pm ∧ q = (match pm with | [] => np + ks.length | _ => pm.length)
theorem argsV_len {pm : List Pa} {vs : List V} {m : Nat} (h : vs.length = m) : (argsV pm vs).length = (match pm with | [] => m | _ => pm.length) := by
  cases pm with
  | nil => exact h
  | cons a r => unfold argsV; rw [List.length_map]
theorem ev_call {lv np : Nat} {pm : List Pa} {cf : List T → R T} (C : CallOk X g x cf lv np ks pm) (tk : Takes X W) (hg : Gl X x) (hdb : (x == ("__debug__" : Str)) = false) (O : ArgsOk X pos es kws ks) (ha : PA X es (TAv g W 0 vs f)) (hk : PKv X g W vk kws fk)
    (hl : ∀ e ts, f e = .ok ts → ts.length = es.length) (hnil : es = [] → ∀ e, f e = .ok []) (lk : ∀ e us, fk e = .ok us → us.length = ks.length) (hnp : es.length = np) (ok : pmOk (np + ks.length) pm = true) (hn : n ≤ lv) :
    PE X (.Call (.Name x p) es kws pos) (TEv g W n (vs ++ vk) fun e => (f e).bnd fun ts => (fk e).bnd fun us => cf (args pm (ts ++ us))) := by
  obtain ⟨fa, fd, ps, kl, q, F, hr, hm, kp, hb, hq⟩ := C.ex
  refine ⟨fun pins s σ H Q I h => ?_⟩
  obtain ⟨e, Fs, he, h⟩ := h
  refine wpAny_Call_Name_kw (ld_glob I hg hm ?_ hdb)
  refine call_args (A := fun b => ∃ i ∈ vs ++ vk, b ∈ Fs i) (k := fun ts => cf (args pm ts)) O kp ha hk I he (.refl H) (fun i hi b hb => ⟨i, hi, hb⟩) h (hl e) (fun z => hnil z e) (fun ts xs us ws F1 H1 s1 I1 eb1 e1 r lu lw rt pf h1 => ?_) (lk e)
  have lx : xs.length = np + ks.length := by rw [r.length, List.length_append, lu, lw, hnp]
  rw [List.nil_append]
  exact call_run F hr hb (by rw [argsV_len lx, hq]) tk I1 eb1 r (by rw [lu, hnp]) lw rt (by rw [← rt.len, lx]; exact ok) pf hn h1
end

/-! ### fields -/
section
variable {X : Cx} {g : Cfg} {W : WX} {P : Prog} {n : Nat} {va : List Nat} {a : Expr} {fa : Env → R T} {pos : Pos}
theorem lookF_rep {H : Hp} {f : Nat} (inj : ∀ k, g.an k = g.an f → k = f) : ∀ {ks : List Nat} {ts : List T} {fv : List (Str × V)} {G : List Addr} {t : T}, fv.map (·.1) = ks.map g.an → RepL g H ts (fv.map (·.2)) G → lookF f ks ts = some t →
    ∃ v G', fv.lookup (g.an f) = some v ∧ Rep g H t v G' ∧ ∀ b ∈ G', b ∈ G
  | [], _, _, _, _, _, _, h => by unfold lookF at h; cases h
  | k :: ks, [], _, _, _, _, _, h => by unfold lookF at h; cases h
  | k :: ks, t :: ts, [], _, _, h1, _, _ => by cases h1
  | k :: ks, t :: ts, (x, v) :: fv, G, u, h1, h2, h3 => by
    rw [List.map_cons, RepL] at h2
    obtain ⟨v', vr, F1, F2, ev, r1, r2, rfl⟩ := h2
    cases ev
    rw [List.map_cons, List.map_cons] at h1
    have hx : x = g.an k := (List.cons.inj h1).1
    have h3 : (if k = f then some t else lookF f ks ts) = some u := h3
    by_cases hk : k = f
    · rw [if_pos hk] at h3
      cases h3
      refine ⟨v, F1, ?_, r1, fun b hb => List.mem_append_left _ hb⟩
      rw [List.lookup_cons, hx, hk]
      simp
    · rw [if_neg hk] at h3
      obtain ⟨w, G', l, r, sub⟩ := lookF_rep inj (List.cons.inj h1).2 r2 h3
      refine ⟨w, G', ?_, r, fun b hb => List.mem_append_right _ (sub b hb)⟩
      rw [List.lookup_cons, hx]
      have : (g.an f == g.an k) = false := by
        rw [beq_eq_false_iff_ne]
        exact fun z => hk (inj k z.symm)
      rw [this]
      exact l
/-- f is a plain field of the program's instances -/
structure FldOk (X : Cx) (g : Cfg) (P : Prog) (f : Nat) : Prop where
  inj : ∀ k, g.an k = g.an f → k = f
  cls : ∀ c, (P.ini c).isSome = true → Cls X.K (g.C c) ∧ NoAttr X.K (g.C c) (g.an f)
theorem ev_fld {f : Nat} {x : Str} (F : FldOk X g P f) (hx : g.an f = x) (ha : PE X a (TEv g W 0 va fa)) (hb : attributeBase a x X.env (eval a X.env) = eval a X.env) :
    PE X (.Attribute a x pos) (TEv g W 0 va fun e => (fa e).bnd fun t => fldT P t f) := by
  refine PE.imp (pe_fld ha hb) fun σ H Q ⟨e, Fs, hE, h⟩ => ?_
  refine te1 (A := fun b => ∃ i ∈ va, b ∈ Fs i) hE (.refl H) (fun i hi b hb => ⟨i, hi, hb⟩) h fun t v F1 H1 _ _ e1 _ r _ pf h => ?_
  cases t with
  | ins c ks ts =>
    obtain ⟨hc, h⟩ := Out.chk h
    rw [rep_ins] at r
    obtain ⟨p, dx, fv, G, ev, h1, h2, h3, eF⟩ := r
    cases q : lookF f ks ts with
    | none => rw [q] at h; exact h.elim
    | some t =>
      rw [q] at h
      obtain ⟨w, G', l, r', sub⟩ := lookF_rep F.inj h2 h3 q
      rw [← hx]
      exact ⟨p, g.C c, dx, fv, w, ev, h1, (F.cls c hc).1, (F.cls c hc).2, l, ok_old e1 r' (fun b hb => pf b (by rw [eF]; exact List.mem_cons_of_mem _ (sub b hb))) (.inl rfl) h⟩
  | _ => exact (show False from h).elim
end
end Wt

/-! Snd10: what a block's slots own; small statements. -/
namespace Wt
open PySem PySem.Spec PyProof.Rows L2

/-- the ownership level of a slot -/
def lvA (L : List Nat) (i : Nat) : Nat := L.getD i 0
/-- a list that nobody else reaches; at 2, with the lists within -/
def Own (k : Nat) (H0 : Hp) (held : List Addr) (oth : Addr → Prop) (t : T) (F : List Addr) : Prop :=
  (1 ≤ k → ∀ xs, t = .lst xs → ∃ a G, F = a :: G ∧ H0 a = none ∧ a ∉ G ∧ a ∉ held ∧ ¬ oth a) ∧
  (2 ≤ k → ∀ xs, t = .lst xs → flat2 xs = true → F.Nodup ∧ ∀ b ∈ F, H0 b = none ∧ b ∉ held ∧ ¬ oth b)
structure StR (g : Cfg) (H0 : Hp) (A : Addr → Prop) (held : List Addr) (L : List Nat) (H : Hp) (σ : L2.St) (e : Env) (Fs : Nat → List Addr) : Prop where
  env : EnvR g H σ e Fs
  emp : ∀ i, (∀ t, e[i]? ≠ some (some t)) → ∀ b ∈ Fs i, H b ≠ none
  ext : Ext H0 H
  pro : ∀ i, ∀ b ∈ Fs i, H0 b = none ∨ A b
  hd : ∀ b ∈ held, H b ≠ none
  hpv : ∀ b ∈ held, H0 b = none ∨ A b
  own : ∀ i t, e[i]? = some (some t) → Own (lvA L i) H0 held (fun b => ∃ j, j ≠ i ∧ b ∈ Fs j) t (Fs i)
theorem Own.imp {k k' : Nat} {H0 : Hp} {held held' : List Addr} {oth oth' : Addr → Prop} {t : T} {F : List Addr} (h : Own k H0 held oth t F) (hk : k' ≤ k) (hh : ∀ b ∈ held', b ∈ held) (ho : ∀ b, oth' b → oth b) : Own k' H0 held' oth' t F := by
  refine ⟨fun h1 xs e => ?_, fun h1 xs e fl => ?_⟩
  · obtain ⟨a, G, e1, e2, e3, e4, e5⟩ := h.1 (by omega) xs e
    exact ⟨a, G, e1, e2, e3, fun z => e4 (hh a z), fun z => e5 (ho a z)⟩
  · obtain ⟨e1, e2⟩ := h.2 (by omega) xs e fl
    exact ⟨e1, fun b hb => ⟨(e2 b hb).1, fun z => (e2 b hb).2.1 (hh b z), fun z => (e2 b hb).2.2 (ho b z)⟩⟩
theorem Own.zero {H0 : Hp} {held : List Addr} {oth : Addr → Prop} {t : T} {F : List Addr} : Own 0 H0 held oth t F := ⟨fun h => absurd h (by omega), fun h => absurd h (by omega)⟩
section
variable {g : Cfg} {H0 : Hp} {A : Addr → Prop} {held : List Addr} {L L' : List Nat} {H H' : Hp} {σ : L2.St} {e : Env} {Fs : Nat → List Addr}
theorem StR.dom (S : StR g H0 A held L H σ e Fs) (i : Nat) : ∀ b ∈ Fs i, H b ≠ none := by
  intro b hb
  rcases Classical.em (∃ t, e[i]? = some (some t)) with ⟨t, q⟩ | q
  · obtain ⟨v, _, r⟩ := S.env.at_ i t q
    exact r.dom b hb
  · exact S.emp i (fun t z => q ⟨t, z⟩) b hb
theorem StR.weak (S : StR g H0 A held L H σ e Fs) (h : ∀ i, lvA L' i ≤ lvA L i) : StR g H0 A held L' H σ e Fs :=
  ⟨S.env, S.emp, S.ext, S.pro, S.hd, S.hpv, fun i t q => (S.own i t q).imp (h i) (fun _ z => z) fun _ z => z⟩
theorem Ext.dom {b : Addr} (k : Ext H H') (z : H b ≠ Option.none) : H' b ≠ Option.none := by
  cases q : H b with
  | none => exact absurd q z
  | some o => rw [k b o q]; exact fun z => by cases z
theorem StR.up (S : StR g H0 A held L H σ e Fs) (k : Ext H H') : StR g H0 A held L H' σ e Fs :=
  ⟨S.env.ext k, fun i q b hb => k.dom (S.emp i q b hb), S.ext.trans k, S.pro, (fun b hb => by
    have z := S.hd b hb
    cases q : H b with
    | none => exact absurd q z
    | some o => rw [k b o q]; exact fun z => by cases z), S.hpv, S.own⟩
theorem StR.less {held' : List Addr} (S : StR g H0 A held' L H σ e Fs) (h : ∀ b ∈ held, b ∈ held') : StR g H0 A held L H σ e Fs :=
  ⟨S.env, S.emp, S.ext, S.pro, (fun b hb => S.hd b (h b hb)), (fun b hb => S.hpv b (h b hb)), fun i t q => (S.own i t q).imp (Nat.le_refl _) h fun _ z => z⟩

/-- what noList reaches: instances -/
theorem noList_F : ∀ {t : T} {v : V} {F : List Addr}, Rep g H t v F → noList t = true → ∀ b ∈ F, ∃ C dx fs, H b = some (.ins C dx fs) := by
  intro t
  refine T.rec (motive_1 := fun t => ∀ {v : V} {F : List Addr}, Rep g H t v F → noList t = true → ∀ b ∈ F, ∃ C dx fs, H b = some (.ins C dx fs)) (motive_2 := fun ts => ∀ {v : List V} {F : List Addr}, RepL g H ts v F → noLists ts = true → ∀ b ∈ F, ∃ C dx fs, H b = some (.ins C dx fs)) ?_ ?_ ?_ ?_ ?_ ?_ ?_ ?_ ?_ ?_ ?_ t
  · intro v F h _ b hb; rw [Rep] at h; rw [h.2] at hb; cases hb
  · intro b v F h _ b hb; rw [Rep] at h; rw [h.2] at hb; cases hb
  · intro b v F h _ b hb; rw [Rep] at h; rw [h.2] at hb; cases hb
  · intro b v F h _ b hb; rw [Rep] at h; rw [h.2] at hb; cases hb
  · intro xs ih v F h k b hb; rw [Rep] at h; obtain ⟨a, vs, e, h1, h2⟩ := h; exact ih h2 (by rw [noList] at k; exact k) b hb
  · intro xs ih v F h k b hb; rw [noList] at k; cases k
  · intro c ks vs ih v F h k b hb
    rw [Rep] at h
    obtain ⟨a, dx, fv, G, ev, h1, h2, h3, eF⟩ := h
    rw [eF] at hb
    rcases List.mem_cons.mp hb with rfl | hb
    · exact ⟨_, _, _, h1⟩
    · exact ih h3 (by rw [noList] at k; exact k) b hb
  · intro b v F h _ b hb; rw [Rep] at h; rw [h.2] at hb; cases hb
  · intro b v F h _ b hb; rw [Rep] at h; rw [h.2] at hb; cases hb
  · intro v F h _ b hb; rw [RepL] at h; rw [h.2] at hb; cases hb
  · intro t ts ih1 ih2 v F h k b hb
    rw [RepL] at h
    obtain ⟨w, vr, F1, F2, rfl, h1, h2, rfl⟩ := h
    rw [noLists, Bool.and_eq_true] at k
    rcases List.mem_append.mp hb with hb | hb
    · exact ih1 h1 k.1 b hb
    · exact ih2 h2 k.2 b hb
theorem noMuts_F : ∀ {ts : List T} {vs : List V} {F : List Addr}, RepL g H ts vs F → noMuts ts = true → F = []
  | [], _, _, h, _ => by rw [RepL] at h; exact h.2
  | t :: ts, _, _, h, k => by
    rw [RepL] at h
    obtain ⟨w, vr, F1, F2, _, h1, h2, rfl⟩ := h
    rw [noMuts, Bool.and_eq_true] at k
    rw [noMut_F h1 k.1, noMuts_F h2 k.2]; rfl
theorem flat1_lists {t : T} {v : V} {F : List Addr} (r : Rep g H t v F) (h : flat1 t = true) : ∀ b ∈ F, ∃ ws, H b = some (.lst ws) := by
  have go : noMut t = true → ∀ b ∈ F, ∃ ws, H b = some (.lst ws) := fun k b hb => by rw [noMut_F r k] at hb; cases hb
  cases t with
  | lst ys =>
    rw [rep_lst] at r
    obtain ⟨a, ws, G, _, h1, h2, rfl⟩ := r
    intro b hb
    rcases List.mem_cons.mp hb with rfl | hb
    · exact ⟨ws, h1⟩
    · have h : noMuts ys = true := h
      rw [noMuts_F h2 h] at hb
      cases hb
  | _ => exact go h
theorem flat2_lists : ∀ {ts : List T} {vs : List V} {F : List Addr}, RepL g H ts vs F → flat2 ts = true → ∀ b ∈ F, ∃ ws, H b = some (.lst ws)
  | [], _, _, h, _, b, hb => by rw [RepL] at h; rw [h.2] at hb; cases hb
  | t :: ts, _, _, h, k, b, hb => by
    rw [RepL] at h
    obtain ⟨w, vr, F1, F2, _, h1, h2, rfl⟩ := h
    unfold flat2 at k
    rw [Bool.and_eq_true] at k
    rcases List.mem_append.mp hb with hb | hb
    · exact flat1_lists h1 k.1 b hb
    · exact flat2_lists h2 k.2 b hb
/-- what a slot owns are lists -/
theorem own_lists {xs : List T} {v : V} {F : List Addr} (r : Rep g H (.lst xs) v F) (fl : flat2 xs = true) : ∀ b ∈ F, ∃ ws, H b = some (.lst ws) := by
  rw [rep_lst] at r
  obtain ⟨a, ws, G, _, h1, h2, rfl⟩ := r
  intro b hb
  rcases List.mem_cons.mp hb with rfl | hb
  · exact ⟨ws, h1⟩
  · exact flat2_lists h2 fl b hb
theorem top_list {xs : List T} {v : V} {a : Addr} {G : List Addr} (r : Rep g H (.lst xs) v (a :: G)) : v = .ref a ∧ ∃ ws, H a = some (.lst ws) ∧ RepL g H xs ws G := by
  rw [rep_lst] at r
  obtain ⟨a', ws, G', ev, h1, h2, eq⟩ := r
  obtain ⟨rfl, rfl⟩ := List.cons.inj eq
  exact ⟨ev, ws, h1, h2⟩
/-- a slot stays owned beside what is new -/
theorem Own.beside {k : Nat} {oth oth' : Addr → Prop} {t : T} {v : V} {F : List Addr} (r : Rep g H t v F) (h : Own k H0 held oth t F) (ho : ∀ b, (∃ ws, H b = some (.lst ws)) → b ∈ F → b ∉ held → oth' b → oth b) : Own k H0 held oth' t F := by
  refine ⟨fun h1 xs e => ?_, fun h1 xs e fl => ?_⟩
  · obtain ⟨a, G, e1, e2, e3, e4, e5⟩ := h.1 h1 xs e
    subst e
    subst e1
    obtain ⟨_, ws, q, _⟩ := top_list r
    exact ⟨a, G, rfl, e2, e3, e4, fun z => e5 (ho a ⟨ws, q⟩ List.mem_cons_self e4 z)⟩
  · obtain ⟨e1, e2⟩ := h.2 h1 xs e fl
    subst e
    exact ⟨e1, fun b hb => ⟨(e2 b hb).1, (e2 b hb).2.1, fun z => (e2 b hb).2.2 (ho b (own_lists r fl b hb) hb (e2 b hb).2.1 z)⟩⟩
end

/-! ### levels -/
def dropL : List Nat → List Nat → List Nat
  | [], L => L
  | i :: is, L => (dropL is L).set i 0
theorem lvA_set {L : List Nat} {x n j : Nat} : lvA (L.set x n) j = if j = x then (if x < L.length then n else 0) else lvA L j := by
  unfold lvA
  rw [List.getD_eq_getElem?_getD, List.getD_eq_getElem?_getD, List.getElem?_set]
  by_cases h : x = j
  · subst h
    simp only [if_true]
    by_cases h2 : x < L.length
    · simp [h2]
    · simp [h2]
  · rw [if_neg h, if_neg (fun z => h z.symm)]
theorem dropL_le : ∀ {vs L : List Nat} {i : Nat}, lvA (dropL vs L) i ≤ lvA L i
  | [], _, _ => Nat.le_refl _
  | v :: vs, L, i => by
    unfold dropL
    rw [lvA_set]
    split
    · split <;> exact Nat.zero_le _
    · exact dropL_le
theorem dropL_zero : ∀ {vs L : List Nat} {i : Nat}, i ∈ vs → lvA (dropL vs L) i = 0
  | v :: vs, L, i, h => by
    unfold dropL
    rw [lvA_set]
    by_cases e : i = v
    · rw [if_pos e]; split <;> rfl
    · rw [if_neg e]
      rcases List.mem_cons.mp h with h | h
      · exact absurd h e
      · exact dropL_zero h
/-- the levels after a value with the slots vs within it was put somewhere -/
def dropG (g : Bool) (vs L : List Nat) : List Nat := if g then L else dropL vs L
theorem dropG_le {gd : Bool} {vs L : List Nat} {i : Nat} : lvA (dropG gd vs L) i ≤ lvA L i := by
  unfold dropG
  split
  · exact Nat.le_refl _
  · exact dropL_le
theorem dropG_zero {gd : Bool} {vs L : List Nat} {i : Nat} (h : i ∈ vs) : gd = true ∨ lvA (dropG gd vs L) i = 0 := by
  unfold dropG
  cases gd with
  | true => exact .inl rfl
  | false => exact .inr (dropL_zero h)

/-! ### what a statement asks -/
def lv0 : List Nat := []
theorem lv0_le {L : List Nat} (i : Nat) : lvA lv0 i ≤ lvA L i := by
  have : lvA lv0 i = 0 := by unfold lvA lv0; simp
  omega
def OutS (g : Cfg) (W : WX) (lv : Nat) (H0 : Hp) (A : Addr → Prop) (held : List Addr) (Ln Lk : List Nat) (D : Ends) (H : Hp) (r : SR) : Prop :=
  match r with
  | .nx e => ∀ σ' H' Fs, StR g H0 A held Ln H' σ' e Fs → Kp H H' held → D.nx σ' H'
  | .bk e => ∀ σ' H' Fs, StR g H0 A held Lk H' σ' e Fs → Kp H H' held → D.bk σ' H'
  | .ct e => ∀ σ' H' Fs, StR g H0 A held Lk H' σ' e Fs → Kp H H' held → D.ct σ' H'
  | .rt t => ∀ v H' F, Ext H0 H' → Rep g H' t v F → Lv lv H0 t v F → (∀ b ∈ F, H0 b = none ∨ A b) → Kp H H' held → D.rt v H'
  | .exc x e => ∀ cls d σ' H' Fs, StR g H0 A held lv0 H' σ' e Fs → RepX g H' x cls d (fun b => H0 b = none ∨ A b) → Kp H H' held → W cls d σ' H'
  | .bad => False
def TSv (g : Cfg) (W : WX) (lv : Nat) (H0 : Hp) (A : Addr → Prop) (held : List Addr) (L Ln Lk : List Nat) (f : Env → SR) : TS := fun D σ H => ∃ e Fs, StR g H0 A held L H σ e Fs ∧ OutS g W lv H0 A held Ln Lk D H (f e)
theorem Kp.refl {H : Hp} {F : List Addr} : Kp H H F := ⟨fun _ _ _ h => h, fun _ _ h => h, fun _ _ _ h => h⟩
theorem Kp.trans {H H1 H2 : Hp} {F : List Addr} (a : Kp H H1 F) (b : Kp H1 H2 F) : Kp H H2 F := ⟨fun c hc o h => b.lst c hc o (a.lst c hc o h), fun c xs h => b.tup c xs (a.tup c xs h), fun c o u h => b.frz c o u (a.frz c o u h)⟩
theorem PS.imp {X : Cx} {e : Stmt} {t t' : TS} (h : PS X e t) (k : ∀ D σ H, t' D σ H → t D σ H) : PS X e t' := ⟨fun pins s σ H D I q => h.run pins s σ H D I (k D σ H q)⟩
theorem PSs.imp {X : Cx} {e : List Stmt} {t t' : TS} (h : PSs X e t) (k : ∀ D σ H, t' D σ H → t D σ H) : PSs X e t' := ⟨fun pins s σ H D I q => h.run pins s σ H D I (k D σ H q)⟩
section
variable {X : Cx} {g : Cfg} {W : WX} {lv : Nat} {H0 : Hp} {A : Addr → Prop} {held : List Addr} {L Ln Lk Lm : List Nat} {H : Hp} {σ : L2.St} {e : Env} {Fs : Nat → List Addr} {D : Ends} {f : Env → SR} {n : Nat} {vs : List Nat} {fa : Env → R T}
theorem OutS.kp {H1 : Hp} {r : SR} (k : Kp H H1 held) (h : OutS g W lv H0 A held Ln Lk D H r) : OutS g W lv H0 A held Ln Lk D H1 r := by
  cases r with
  | nx e => exact fun σ' H' Fs a b => h σ' H' Fs a (k.trans b)
  | bk e => exact fun σ' H' Fs a b => h σ' H' Fs a (k.trans b)
  | ct e => exact fun σ' H' Fs a b => h σ' H' Fs a (k.trans b)
  | rt t => exact fun v H' F a b c d z => h v H' F a b c d (k.trans z)
  | exc x e => exact fun cls d σ' H' Fs a b z => h cls d σ' H' Fs a b (k.trans z)
  | bad => exact h
/-- an expression in a statement -/
theorem st1 {k : T → SR} {Q : VK} (S : StR g H0 A held L H σ e Fs) (h : OutS g W lv H0 A held Ln Lk D H ((fa e).st e k))
    (hk : ∀ t v F H1, Ext H H1 → StR g H0 A held L H1 σ e Fs → Rep g H1 t v F → Lv n H t v F → (∀ b ∈ F, H b = none ∨ ∃ i ∈ vs, b ∈ Fs i) → OutS g W lv H0 A held Ln Lk D H1 (k t) → Q v H1) : TEv g W n vs fa σ H Q := by
  refine ⟨e, Fs, S.env, ?_⟩
  revert h
  cases fa e with
  | ok t => exact fun h v H1 F a b c d => hk t v F H1 a (S.up a) b c d (h.kp (.ext a))
  | exc x => exact fun h cls d H1 a b => h cls d σ H1 Fs ((S.up a).weak fun i => lv0_le i) (b.imp fun x hx => hx.elim (fun z => .inl (S.ext.none z)) fun ⟨i, _, q⟩ => S.pro i x q) (.ext a)
  | bad => exact id
theorem sb1 {k : Bool → SR} {f : Env → R Bool} {Q : Bool → Hp → Prop} (S : StR g H0 A held L H σ e Fs) (h : OutS g W lv H0 A held Ln Lk D H ((f e).st e k))
    (hk : ∀ t H1, Ext H H1 → StR g H0 A held L H1 σ e Fs → OutS g W lv H0 A held Ln Lk D H1 (k t) → Q t H1) : TTv g W vs f σ H Q := by
  refine ⟨e, Fs, S.env, ?_⟩
  revert h
  cases f e with
  | ok t => exact fun h H1 a => hk t H1 a (S.up a) (h.kp (.ext a))
  | exc x => exact fun h cls d H1 a b => h cls d σ H1 Fs ((S.up a).weak fun i => lv0_le i) (b.imp fun x hx => hx.elim (fun z => .inl (S.ext.none z)) fun ⟨i, _, q⟩ => S.pro i x q) (.ext a)
  | bad => exact id
theorem sl1 {m : Nat} {k : List T → SR} {f : Env → R (List T)} {Q : List V → Hp → Prop} (S : StR g H0 A held L H σ e Fs) (h : OutS g W lv H0 A held Ln Lk D H ((f e).st e k))
    (hk : ∀ t v F H1, f e = .ok t → Ext H H1 → StR g H0 A held L H1 σ e Fs → RepL g H1 t v F → LvL m H t F → (∀ b ∈ F, H b = none ∨ ∃ i ∈ vs, b ∈ Fs i) → OutS g W lv H0 A held Ln Lk D H1 (k t) → Q v H1) : TAv g W m vs f σ H Q := by
  refine ⟨e, Fs, S.env, ?_⟩
  revert h
  cases q : f e with
  | ok t => exact fun h v H1 F a b c d => hk t v F H1 q a (S.up a) b c d (h.kp (.ext a))
  | exc x => exact fun h cls d H1 a b => h cls d σ H1 Fs ((S.up a).weak fun i => lv0_le i) (b.imp fun x hx => hx.elim (fun z => .inl (S.ext.none z)) fun ⟨i, _, q⟩ => S.pro i x q) (.ext a)
  | bad => exact id
theorem OutS.low {Ln' : List Nat} {r : SR} (k : ∀ i, lvA Ln i ≤ lvA Ln' i) (h : OutS g W lv H0 A held Ln Lk D H r) : OutS g W lv H0 A held Ln' Lk D H r := by
  cases r with
  | nx e => exact fun σ' H' Fs a b => h σ' H' Fs (a.weak k) b
  | bk e => exact h
  | ct e => exact h
  | rt t => exact h
  | exc x e => exact h
  | bad => exact h
theorem sv_low {st : Stmt} {Ln' : List Nat} (h : PS X st (TSv g W lv H0 A held L Ln' Lk f)) (k : ∀ i, lvA Ln i ≤ lvA Ln' i) : PS X st (TSv g W lv H0 A held L Ln Lk f) := PS.imp h fun D σ H ⟨e, Fs, S, o⟩ => ⟨e, Fs, S, o.low k⟩
theorem svs_low {st : List Stmt} {Ln' : List Nat} (h : PSs X st (TSv g W lv H0 A held L Ln' Lk f)) (k : ∀ i, lvA Ln i ≤ lvA Ln' i) : PSs X st (TSv g W lv H0 A held L Ln Lk f) := PSs.imp h fun D σ H ⟨e, Fs, S, o⟩ => ⟨e, Fs, S, o.low k⟩
theorem svs_pre {st : List Stmt} {L' : List Nat} (h : PSs X st (TSv g W lv H0 A held L' Ln Lk f)) (k : ∀ i, lvA L' i ≤ lvA L i) : PSs X st (TSv g W lv H0 A held L Ln Lk f) := PSs.imp h fun D σ H ⟨e, Fs, S, o⟩ => ⟨e, Fs, S.weak k, o⟩

/-! ### blocks -/
theorem svs_nil : PSs X [] (TSv g W lv H0 A held L L Lk fun e => .nx e) := PSs.imp pss_nil fun D σ H ⟨e, Fs, S, h⟩ => h σ H Fs S .refl
theorem svs_cons {st : Stmt} {rest : List Stmt} {f1 f2 : Env → SR} (h1 : PS X st (TSv g W lv H0 A held L Lm Lk f1)) (h2 : PSs X rest (TSv g W lv H0 A held Lm Ln Lk f2)) : PSs X (st :: rest) (TSv g W lv H0 A held L Ln Lk fun e => (f1 e).seq f2) := by
  refine PSs.imp (pss_cons h1 h2) fun D σ H ⟨e, Fs, S, h⟩ => ⟨e, Fs, S, ?_⟩
  dsimp only at h
  revert h
  cases f1 e with
  | nx e1 => exact fun h σ' H' Fs' S' k => ⟨e1, Fs', S', h.kp k⟩
  | rt t => exact id
  | bk e1 => exact id
  | ct e1 => exact id
  | exc x e1 => exact id
  | bad => exact id
theorem sv_pass {pos : Pos} : PS X (.Pass pos) (TSv g W lv H0 A held L L Lk fun e => .nx e) := PS.imp ps_pass fun D σ H ⟨e, Fs, S, h⟩ => h σ H Fs S .refl
theorem sv_doc {x : Str} {j : Nat} {pos pos' : Pos} : PS X (.Expr (.Constant (.str x) j pos) pos') (TSv g W lv H0 A held L L Lk fun e => .nx e) := PS.imp ps_doc fun D σ H ⟨e, Fs, S, h⟩ => h σ H Fs S .refl
theorem sv_brk {pos : Pos} (k : ∀ i, lvA Lk i ≤ lvA L i) : PS X (.Break pos) (TSv g W lv H0 A held L Ln Lk fun e => .bk e) := PS.imp ps_break fun D σ H ⟨e, Fs, S, h⟩ => h σ H Fs (S.weak k) .refl
theorem sv_cont {pos : Pos} (k : ∀ i, lvA Lk i ≤ lvA L i) : PS X (.Continue pos) (TSv g W lv H0 A held L Ln Lk fun e => .ct e) := PS.imp ps_continue fun D σ H ⟨e, Fs, S, h⟩ => h σ H Fs (S.weak k) .refl
theorem sv_expr {a : Expr} {pos : Pos} (ha : PE X a (TEv g W 0 vs fa)) (hs : swapsWith a none pos.line X.env = pure false) : PS X (.Expr a pos) (TSv g W lv H0 A held L L Lk fun e => (fa e).st e fun _ => .nx e) :=
  PS.imp (ps_expr ha hs) fun D σ H ⟨e, Fs, S, h⟩ => st1 (k := fun _ => .nx e) S h fun t v F H1 e1 S1 r _ _ h => h σ H1 Fs S1 .refl
theorem sv_retN {pos : Pos} : PS X (.Return none pos) (TSv g W lv H0 A held L Ln Lk fun _ => .rt .non) :=
  PS.imp ps_retN fun D σ H ⟨e, Fs, S, h⟩ => h .non H [] S.ext (by rw [rep_n]; exact ⟨rfl, rfl⟩) (lv_of fun _ z => by cases z) (fun _ z => by cases z) .refl
theorem sv_ret {a : Expr} {pos : Pos} (ha : PE X a (TEv g W lv vs fa)) : PS X (.Return (some a) pos) (TSv g W lv H0 A held L Ln Lk fun e => (fa e).st e fun t => .rt t) :=
  PS.imp (ps_ret ha) fun D σ H ⟨e, Fs, S, h⟩ => st1 (k := fun t => .rt t) S h fun t v F H1 e1 S1 r l pf h => h v H1 F S1.ext r (l.mono S.ext) (fun b hb => (pf b hb).elim (fun z => .inl (S.ext.none z)) fun ⟨i, _, q⟩ => S.pro i b q) .refl
/-- a return of an owned slot -/
theorem sv_retO {x : Nat} {y : Str} {pos p : Pos} (hN : X.N[x]? = some y) (hv : Vis X.env.scope y) (hd : (y == ("__debug__" : Str)) = false) (hcd : (y == ("__classdict__" : Str)) = false) (ho : lv ≤ lvA L x) (h1 : lv ≤ 2) :
    PS X (.Return (some (.Name y p)) pos) (TSv g W lv H0 A held L Ln Lk fun e => (ofO (e.getD x none)).st e fun t => .rt t) :=
  PS.imp (ps_ret (pe_var hN hv hd hcd)) fun D σ H ⟨e, Fs, S, h⟩ => by
    dsimp only at h
    rw [List.getD_eq_getElem?_getD] at h
    cases q : e[x]? with
    | none => rw [q] at h; exact h.elim
    | some o =>
      cases o with
      | none => rw [q] at h; exact h.elim
      | some t =>
        rw [q] at h
        obtain ⟨v, ev, r⟩ := S.env.at_ x t q
        have O := S.own x t q
        refine ⟨v, ev, h v H (Fs x) S.ext r ?_ (S.pro x) .refl⟩
        match lv, ho, h1 with
        | 0, _, _ => trivial
        | 1, ho, _ =>
          intro xs ex
          subst ex
          obtain ⟨a, G, e1, e2, e3, _⟩ := O.1 ho xs rfl
          rw [e1] at r
          exact ⟨a, G, (top_list r).1, e1, e2, e3⟩
        | 2, ho, _ =>
          refine ⟨fun xs ex => ?_, fun xs ex fl => ?_⟩
          · subst ex
            obtain ⟨a, G, e1, e2, e3, _⟩ := O.1 (by omega) xs rfl
            rw [e1] at r
            exact ⟨a, G, (top_list r).1, e1, e2, e3⟩
          · obtain ⟨e1, e2⟩ := O.2 ho xs ex fl
            exact ⟨e1, fun b hb => (e2 b hb).1⟩
theorem sv_if {c : Expr} {a b : List Stmt} {pos : Pos} {fc : Env → R T} {f1 f2 : Env → SR} (hc : PT X c (TTv g W vs fun e => truth (fc e))) (ha : PSs X a (TSv g W lv H0 A held L Ln Lk f1)) (hb : PSs X b (TSv g W lv H0 A held L Ln Lk f2)) :
    PS X (.If c a b pos) (TSv g W lv H0 A held L Ln Lk fun e => (truth (fc e)).st e fun k => match k with | true => f1 e | false => f2 e) :=
  PS.imp (ps_if hc ha hb) fun D σ H ⟨e, Fs, S, h⟩ => sb1 (f := fun e => truth (fc e)) (k := fun k => match k with | true => f1 e | false => f2 e) S h fun t H1 e1 S1 h => by
    cases t with
    | true => exact ⟨e, Fs, S1, h⟩
    | false => exact ⟨e, Fs, S1, h⟩
end
end Wt

/-! Snd11: assignments; the methods that change a list. -/
namespace Wt
open PySem PySem.Spec PyProof.Rows L2

def putF (Fs : Nat → List Addr) (x : Nat) (F : List Addr) : Nat → List Addr := fun i => if i = x then F else Fs i
theorem putF_same {Fs : Nat → List Addr} {x : Nat} {F : List Addr} : putF Fs x F x = F := by unfold putF; rw [if_pos rfl]
theorem putF_ne {Fs : Nat → List Addr} {x i : Nat} {F : List Addr} (h : i ≠ x) : putF Fs x F i = Fs i := by unfold putF; rw [if_neg h]
theorem get_set {α : Type} {l : List α} {x i : Nat} {a : α} : (l.set x a)[i]? = if i = x then (if x < l.length then some a else none) else l[i]? := by
  rw [List.getElem?_set]
  by_cases h : x = i
  · subst h; simp
  · rw [if_neg h, if_neg (fun z => h z.symm)]
theorem ErrCx.set {g : Cfg} {H : Hp} {σ : L2.St} {Fs : Nat → List Addr} {x : Nat} {v : V} {F : List Addr} (h : ErrCx g σ H Fs) (hx : ∀ q, g.er = some q → q.1 ≠ x ∧ x ≠ erS) : ErrCx g (σ.set x (some v)) H (putF Fs x F) := by
  unfold ErrCx at h ⊢
  cases q : g.er with
  | none => trivial
  | some p =>
    rw [q] at h
    obtain ⟨i, a, c, ks, ts, dd⟩ := p
    obtain ⟨h1, fs, h2, h3⟩ := h
    refine ⟨?_, fs, h2, fun j k t z1 z2 => ?_⟩
    · intro hl
      rw [List.length_set] at hl
      rw [get_set, if_neg (hx _ q).1]
      exact h1 hl
    · obtain ⟨w, G, g1, g2, g3⟩ := h3 j k t z1 z2
      exact ⟨w, G, g1, g2, fun b hb => by rw [putF_ne (fun z => (hx _ q).2 z.symm)]; exact g3 b hb⟩
section
variable {g : Cfg} {H0 : Hp} {A : Addr → Prop} {held : List Addr} {L L' : List Nat} {Hb H : Hp} {σ : L2.St} {e : Env} {Fs : Nat → List Addr} {n : Nat} {vs : List Nat} {t : T} {v : V} {F : List Addr} {gd : Bool} {x : Nat}
/-- a value is put into a slot -/
theorem StR.put (Sb : StR g H0 A held L Hb σ e Fs) (S : StR g H0 A held L H σ e Fs) (r : Rep g H t v F) (l : Lv n Hb t v F) (pf : ∀ b ∈ F, Hb b = none ∨ (∃ i ∈ vs, b ∈ Fs i) ∨ b ∈ held) (hg : gd = true → noList t = true) (hn : n ≤ 2) (her : ∀ q, g.er = some q → q.1 ≠ x ∧ x ≠ erS) :
    ∃ Fs', StR g H0 A held ((dropG gd vs L).set x n) H (σ.set x (some v)) (e.set x (some t)) Fs' := by
  by_cases hx : x < e.length
  · refine ⟨putF Fs x F, ⟨⟨?_, fun i u q => ?_, S.env.cx.set her⟩, fun i q => ?_, S.ext, fun i b hb => ?_, S.hd, S.hpv, fun i u q => ?_⟩⟩
    · rw [List.length_set, List.length_set]; exact S.env.len
    · rw [get_set] at q
      by_cases hi : i = x
      · subst hi
        rw [if_pos rfl, if_pos hx] at q
        cases q
        refine ⟨v, ?_, by rw [putF_same]; exact r⟩
        rw [get_set, if_pos rfl, if_pos (by rw [S.env.len]; exact hx)]
      · rw [if_neg hi] at q
        obtain ⟨w, w1, w2⟩ := S.env.at_ i u q
        exact ⟨w, by rw [get_set, if_neg hi]; exact w1, by rw [putF_ne hi]; exact w2⟩
    · by_cases hi : i = x
      · subst hi
        exact absurd (by rw [get_set, if_pos rfl, if_pos hx]) (q t)
      · rw [putF_ne hi]
        refine S.emp i fun u z => q u ?_
        rw [get_set, if_neg hi]; exact z
    · by_cases hi : i = x
      · subst hi
        rw [putF_same] at hb
        exact (pf b hb).elim (fun z => .inl (Sb.ext.none z)) fun z => z.elim (fun ⟨j, _, z⟩ => S.pro j b z) fun z => S.hpv b z
      · rw [putF_ne hi] at hb
        exact S.pro i b hb
    · rw [get_set] at q
      by_cases hi : i = x
      · subst hi
        rw [if_pos rfl, if_pos hx] at q
        cases q
        rw [putF_same]
        have hk : lvA ((dropG gd vs L).set i n) i ≤ n := by
          rw [lvA_set, if_pos rfl]
          split
          · exact Nat.le_refl _
          · exact Nat.zero_le _
        have noth : ∀ b, Hb b = none → ¬ ∃ j, j ≠ i ∧ b ∈ putF Fs i F j := fun b hb ⟨j, hj, z⟩ => by
          rw [putF_ne hj] at z
          exact Sb.dom j b z hb
        have nh : ∀ b, Hb b = none → b ∉ held := fun b hb z => Sb.hd b z hb
        refine (Own.imp (k := n) ⟨fun h1 xs ex => ?_, fun h1 xs ex fl => ?_⟩ hk (fun _ z => z) fun _ z => z)
        · obtain ⟨a, G, e1, e2, e3, e4⟩ := (l.low h1) xs ex
          exact ⟨a, G, e2, Sb.ext.none e3, e4, nh a e3, noth a e3⟩
        · obtain ⟨e1, e2⟩ := (l.low (m := 2) h1).2 xs ex fl
          exact ⟨e1, fun b hb => ⟨Sb.ext.none (e2 b hb), nh b (e2 b hb), noth b (e2 b hb)⟩⟩
      · rw [if_neg hi] at q
        rw [putF_ne hi]
        obtain ⟨w, w1, w2⟩ := S.env.at_ i u q
        by_cases hz : lvA ((dropG gd vs L).set x n) i = 0
        · rw [hz]; exact Own.zero
        · rw [lvA_set, if_neg hi] at hz ⊢
          refine Own.beside w2 ((S.own i u q).imp dropG_le (fun _ z => z) fun _ z => z) fun b ⟨ws, hw⟩ hb hnh ⟨j, hj, z⟩ => ?_
          by_cases hjx : j = x
          · subst hjx
            rw [putF_same] at z
            rcases pf b z with k | ⟨m, hm, k⟩ | k
            · exact absurd k (Sb.dom i b hb)
            · by_cases hmi : m = i
              · subst hmi
                rcases dropG_zero (gd := gd) (L := L) hm with hgd | h0
                · obtain ⟨C, dx, fs, y⟩ := noList_F r (hg hgd) b z
                  rw [y] at hw
                  cases hw
                · exact absurd h0 hz
              · exact ⟨m, hmi, k⟩
            · exact absurd k hnh
          · rw [putF_ne hjx] at z
            exact ⟨j, hj, z⟩
  · have e1 : e.set x (some t) = e := List.set_eq_of_length_le (by omega)
    have e2 : σ.set x (some v) = σ := List.set_eq_of_length_le (by have := S.env.len; omega)
    rw [e1, e2]
    refine ⟨Fs, ⟨S.env, S.emp, S.ext, S.pro, S.hd, S.hpv, fun i u q => ?_⟩⟩
    have hi : i ≠ x := fun z => by
      subst z
      rw [List.getElem?_eq_none (by omega)] at q
      cases q
    rw [lvA_set, if_neg hi]
    exact (S.own i u q).imp dropG_le (fun _ z => z) fun _ z => z

/-- an owned list is written anew -/
theorem StR.mut {xs ys : List T} {us : List V} {G' : List Addr} {a : Addr} {G : List Addr} (S : StR g H0 A held L H σ e Fs) (her : g.er = none) (hx : e[x]? = some (some (.lst xs))) (h1 : 1 ≤ lvA L x) (hF : Fs x = a :: G)
    (ry : RepL g H ys us G') (na : a ∉ G') (pv : ∀ b ∈ G', H0 b = none ∨ A b) (hL : ∀ i, lvA L' i ≤ lvA L i)
    (oth : ∀ b, (∃ ws, H b = some (.lst ws)) → ∀ j, j ≠ x → lvA L' j ≠ 0 → b ∈ Fs j → b ∈ G' → ∃ i, i ≠ j ∧ b ∈ Fs i)
    (two : 2 ≤ lvA L' x → flat2 ys = true → G'.Nodup ∧ ∀ b ∈ G', H0 b = none ∧ b ∉ held ∧ ∀ j, j ≠ x → b ∉ Fs j) :
    ∃ Fs', StR g H0 A held L' (upd H a (.lst us)) σ (putL e x ys) Fs' ∧ Kp H (upd H a (.lst us)) held := by
  have O := S.own x _ hx
  obtain ⟨a', G1, e1, e2, e3, e4, e5⟩ := O.1 h1 xs rfl
  rw [hF] at e1
  obtain ⟨rfl, rfl⟩ := List.cons.inj e1
  obtain ⟨v, v1, v2⟩ := S.env.at_ x _ hx
  rw [hF] at v2
  obtain ⟨rfl, ws, hw, rx⟩ := top_list v2
  have hlen : x < e.length := by
    rcases Nat.lt_or_ge x e.length with z | z
    · exact z
    · rw [List.getElem?_eq_none z] at hx; cases hx
  have kp : ∀ {F : List Addr}, a ∉ F → Kp H (upd H a (.lst us)) F := fun hn => ⟨fun b hb o q => by
    rw [upd_ne (fun z => hn (by rw [← z]; exact hb))]; exact q, fun b xs q => by
    rw [upd_ne (ne_of q hw (by intro z; cases z))]; exact q, fun b o u q => by
    rw [upd_ne (ne_of q hw (by intro z; cases z))]; exact q⟩
  refine ⟨putF Fs x (a :: G'), ⟨⟨?_, fun i u q => ?_, ?_⟩, fun i q => ?_, ?_, fun i b hb => ?_, fun b hb => ?_, S.hpv, fun i u q => ?_⟩, kp e4⟩
  · unfold putL; rw [List.length_set]; exact S.env.len
  · unfold putL at q
    rw [get_set] at q
    by_cases hi : i = x
    · subst hi
      rw [if_pos rfl, if_pos hlen] at q
      cases q
      refine ⟨_, v1, ?_⟩
      rw [putF_same, rep_lst]
      exact ⟨a, us, G', rfl, upd_same, ry.kp (kp na), rfl⟩
    · rw [if_neg hi] at q
      obtain ⟨w, w1, w2⟩ := S.env.at_ i u q
      refine ⟨w, w1, ?_⟩
      rw [putF_ne hi]
      exact w2.kp (kp fun z => e5 ⟨i, hi, z⟩)
  · unfold ErrCx; rw [her]; trivial
  · by_cases hi : i = x
    · subst hi
      exact absurd (by unfold putL; rw [get_set, if_pos rfl, if_pos hlen]) (q (.lst ys))
    · rw [putF_ne hi]
      intro b hb hz
      by_cases hba : b = a
      · rw [hba, upd_same] at hz; cases hz
      · rw [upd_ne hba] at hz
        refine S.emp i (fun u z => q u ?_) b hb hz
        unfold putL
        rw [get_set, if_neg hi]; exact z
  · intro b o q
    rw [upd_ne (ne_of_none q e2)]
    exact S.ext b o q
  · by_cases hi : i = x
    · subst hi
      rw [putF_same] at hb
      rcases List.mem_cons.mp hb with rfl | hb
      · exact .inl e2
      · exact pv b hb
    · rw [putF_ne hi] at hb
      exact S.pro i b hb
  · by_cases hb' : b = a
    · rw [hb', upd_same]; exact fun z => by cases z
    · rw [upd_ne hb']; exact S.hd b hb
  · unfold putL at q
    rw [get_set] at q
    by_cases hi : i = x
    · subst hi
      rw [if_pos rfl, if_pos hlen] at q
      cases q
      rw [putF_same]
      refine ⟨fun k1 zs ez => ⟨a, G', rfl, e2, na, e4, fun ⟨j, hj, z⟩ => e5 ⟨j, hj, by rw [putF_ne hj] at z; exact z⟩⟩, fun k2 zs ez fl => ?_⟩
      cases ez
      obtain ⟨n1, n2⟩ := two k2 fl
      refine ⟨List.nodup_cons.mpr ⟨na, n1⟩, fun b hb => ?_⟩
      rcases List.mem_cons.mp hb with rfl | hb
      · exact ⟨e2, e4, fun ⟨j, hj, z⟩ => e5 ⟨j, hj, by rw [putF_ne hj] at z; exact z⟩⟩
      · exact ⟨(n2 b hb).1, (n2 b hb).2.1, fun ⟨j, hj, z⟩ => (n2 b hb).2.2 j hj (by rw [putF_ne hj] at z; exact z)⟩
    · rw [if_neg hi] at q
      rw [putF_ne hi]
      obtain ⟨w, w1, w2⟩ := S.env.at_ i u q
      by_cases hz : lvA L' i = 0
      · rw [hz]; exact Own.zero
      · refine Own.beside w2 ((S.own i u q).imp (hL i) (fun _ z => z) fun _ z => z) fun b hw hb _ ⟨j, hj, z⟩ => ?_
        by_cases hjx : j = x
        · subst hjx
          rw [putF_same] at z
          rcases List.mem_cons.mp z with rfl | z
          · exact absurd ⟨i, hi, hb⟩ e5
          · exact oth b hw i hi hz hb z
        · rw [putF_ne hjx] at z
          exact ⟨j, hj, z⟩
end

/-! ### lists of places -/
section
variable {g : Cfg} {H : Hp}
theorem RepL.setAt : ∀ {ts : List T} {vs : List V} {G : List Addr} {j : Nat} {t : T} {v : V} {F : List Addr}, RepL g H ts vs G → j < ts.length → Rep g H t v F → ∃ G1 Gm G2, G = G1 ++ (Gm ++ G2) ∧ RepL g H (ts.set j t) (vs.set j v) (G1 ++ (F ++ G2))
  | [], _, _, _, _, _, _, _, hj, _ => absurd hj (by simp)
  | u :: ts, _, _, 0, t, v, F, h, _, r => by
    rw [RepL] at h
    obtain ⟨w, vr, F1, F2, rfl, h1, h2, rfl⟩ := h
    exact ⟨[], F1, F2, rfl, show RepL g H (t :: ts) (v :: vr) (F ++ F2) from RepL.cons r h2⟩
  | u :: ts, _, _, j + 1, t, v, F, h, hj, r => by
    rw [RepL] at h
    obtain ⟨w, vr, F1, F2, rfl, h1, h2, rfl⟩ := h
    obtain ⟨G1, Gm, G2, rfl, q⟩ := RepL.setAt (j := j) h2 (by simpa using hj) r
    refine ⟨F1 ++ G1, Gm, G2, by rw [List.append_assoc], ?_⟩
    rw [List.append_assoc]
    exact RepL.cons h1 q
theorem RepL.eraseAt : ∀ {ts : List T} {vs : List V} {G : List Addr} {j : Nat}, RepL g H ts vs G → ∃ G', RepL g H (ts.eraseIdx j) (vs.eraseIdx j) G' ∧ G'.Sublist G
  | [], _, _, j, h => by
    rw [RepL] at h
    obtain ⟨rfl, rfl⟩ := h
    exact ⟨[], RepL.nil, List.Sublist.refl _⟩
  | u :: ts, _, _, 0, h => by
    rw [RepL] at h
    obtain ⟨w, vr, F1, F2, rfl, h1, h2, rfl⟩ := h
    exact ⟨F2, h2, List.sublist_append_right _ _⟩
  | u :: ts, _, _, j + 1, h => by
    rw [RepL] at h
    obtain ⟨w, vr, F1, F2, rfl, h1, h2, rfl⟩ := h
    obtain ⟨G', q, s⟩ := RepL.eraseAt (j := j) h2
    exact ⟨F1 ++ G', RepL.cons h1 q, List.Sublist.append (List.Sublist.refl _) s⟩
theorem RepL.takeS : ∀ {ts : List T} {vs : List V} {G : List Addr} (n : Nat), RepL g H ts vs G → ∃ G', RepL g H (ts.take n) (vs.take n) G' ∧ G'.Sublist G
  | ts, vs, G, 0, h => ⟨[], by rw [List.take_zero, List.take_zero]; exact RepL.nil, List.nil_sublist _⟩
  | [], _, _, n + 1, h => by
    rw [RepL] at h
    obtain ⟨rfl, rfl⟩ := h
    exact ⟨[], RepL.nil, List.Sublist.refl _⟩
  | u :: ts, _, _, n + 1, h => by
    rw [RepL] at h
    obtain ⟨w, vr, F1, F2, rfl, h1, h2, rfl⟩ := h
    obtain ⟨G', q, s⟩ := RepL.takeS n h2
    exact ⟨F1 ++ G', RepL.cons h1 q, List.Sublist.append (List.Sublist.refl _) s⟩
theorem RepL.insAt : ∀ {ts : List T} {vs : List V} {G : List Addr} (k : Nat) {t : T} {v : V} {F : List Addr}, RepL g H ts vs G → Rep g H t v F → ∃ G1 G2, G = G1 ++ G2 ∧ RepL g H (ts.take k ++ t :: ts.drop k) (vs.take k ++ v :: vs.drop k) (G1 ++ (F ++ G2))
  | ts, vs, G, 0, t, v, F, h, r => ⟨[], G, rfl, show RepL g H (t :: ts) (v :: vs) (F ++ G) from RepL.cons r h⟩
  | [], _, _, k + 1, t, v, F, h, r => by
    rw [RepL] at h
    obtain ⟨rfl, rfl⟩ := h
    exact ⟨[], [], rfl, show RepL g H [t] [v] (F ++ []) from RepL.cons r RepL.nil⟩
  | u :: ts, _, _, k + 1, t, v, F, h, r => by
    rw [RepL] at h
    obtain ⟨w, vr, F1, F2, rfl, h1, h2, rfl⟩ := h
    obtain ⟨G1, G2, rfl, q⟩ := RepL.insAt k h2 r
    refine ⟨F1 ++ G1, G2, by rw [List.append_assoc], ?_⟩
    rw [List.append_assoc]
    exact RepL.cons h1 q
end

/-! ### assignments -/
section
variable {X : Cx} {g : Cfg} {W : WX} {lv : Nat} {H0 : Hp} {A : Addr → Prop} {held : List Addr} {L Ln Lk : List Nat} {f : Env → SR} {n : Nat} {vs : List Nat} {fa : Env → R T} {a : Expr} {x : Nat} {y : Str} {pos p : Pos}
theorem out_grd {gd : Bool} {t : T} {r : SR} {D : Ends} {H : Hp} (h : OutS g W lv H0 A held Ln Lk D H (grd gd t r)) : (gd = true → noList t = true) ∧ OutS g W lv H0 A held Ln Lk D H r := by
  unfold grd at h
  cases gd with
  | false => exact ⟨fun z => (Bool.false_ne_true z).elim, by simpa using h⟩
  | true =>
    cases q : noList t with
    | true => rw [q] at h; exact ⟨fun _ => rfl, by simpa using h⟩
    | false => rw [q] at h; exact h.elim
theorem sv_asg {gd : Bool} (hN : X.N.Nodup) (hi : X.N[x]? = some y) (hx : Loc X.env.scope y) (ha : PE X a (TEv g W n vs fa)) (hn : n ≤ 2) (hs : swapsWith a (some (.Name y p)) pos.line X.env = pure false) (hf : X.fn y = true ∨ X.env.scope.names.lookup y = some .local) (her : ∀ q, g.er = some q → q.1 ≠ x ∧ x ≠ erS) :
    PS X (.Assign [.Name y p] a pos) (TSv g W lv H0 A held L ((dropG gd vs L).set x n) Lk fun e => (fa e).st e fun t => grd gd t (.nx (e.set x (some t)))) :=
  PS.imp (ps_set hN hi hx ha hs hf) fun D σ H ⟨e, Fs, S, h⟩ => st1 (k := fun t => grd gd t (.nx (e.set x (some t)))) S h fun t v F H1 e1 S1 r l pf h => by
    obtain ⟨hg, h⟩ := out_grd h
    obtain ⟨Fs', S2⟩ := StR.put S S1 r l (fun b hb => (pf b hb).imp id .inl) hg hn her
    exact h _ _ Fs' S2 .refl
end
end Wt

/-! Snd12: what the written form alone tells. -/
namespace Wt
open PySem PySem.Spec PyProof.Rows L2

/-- no star -/
def nst : Expr → Bool
  | .Starred _ _ => false
  | _ => true
theorem star_cons {a : Expr} {es : List Expr} {env : PySem.Env} (h : nst a = true) : starEach (a :: es) env = (false, eval a env) :: starEach es env := by
  cases a <;> first | rfl | cases h
theorem star_none : ∀ {es : List Expr} {env : PySem.Env}, es.all nst = true → (starEach es env).any (·.1) = false
  | [], _, _ => rfl
  | a :: es, env, h => by
    rw [List.all_cons, Bool.and_eq_true] at h
    rw [star_cons h.1, List.any_cons, star_none h.2]; rfl
theorem back_any {pos : Pos} {l : List (Bool × Sem Value)} : (backTo pos l).any (·.1) = l.any (·.1) := by
  unfold backTo
  rw [List.any_map]
  rfl
theorem back_none {es : List Expr} {env : PySem.Env} {pos : Pos} (h : es.all nst = true) : (backTo pos (starEach es env)).any (·.1) = false := by rw [back_any, star_none h]
def nm1 (k : Keyword) : Option Str := k.arg
theorem kw_names {pos : Pos} : ∀ {kws : List Keyword} {env : PySem.Env}, (backToKw pos (keywordEach kws env)).map (·.1) = kws.map nm1
  | [], _ => rfl
  | ⟨n, v, p⟩ :: r, env => by
    show n :: (backToKw pos (keywordEach r env)).map (·.1) = n :: r.map nm1
    rw [kw_names]
/-- the names of the keywords, all written -/
def kwNames : List Keyword → Option (List Str)
  | [] => some []
  | k :: r => match k.arg, kwNames r with
    | some n, some ns => some (n :: ns)
    | _, _ => none
theorem kw_ok {pos : Pos} : ∀ {kws : List Keyword} {env : PySem.Env} {ks : List Str}, kwNames kws = some ks →
    (backToKw pos (keywordEach kws env)).all (·.1.isSome) = true ∧ (backToKw pos (keywordEach kws env)).filterMap (·.1) = ks ∧ (backToKw pos (keywordEach kws env)).any (·.1.isNone) = false
  | [], _, ks, h => by cases h; exact ⟨rfl, rfl, rfl⟩
  | ⟨n, v, p⟩ :: r, env, ks, h => by
    unfold kwNames at h
    cases n with
    | none => cases h
    | some n =>
      cases q : kwNames r with
      | none => rw [q] at h; cases h
      | some ns =>
        rw [q] at h
        cases h
        obtain ⟨a, b, c⟩ := kw_ok (pos := pos) (env := env) q
        refine ⟨?_, ?_, ?_⟩
        · show (true && (backToKw pos (keywordEach r env)).all (·.1.isSome)) = true
          rw [a]; rfl
        · show n :: (backToKw pos (keywordEach r env)).filterMap (·.1) = n :: ns
          rw [b]
        · show (false || (backToKw pos (keywordEach r env)).any (·.1.isNone)) = false
          rw [c]; rfl
theorem argsOk_of {X : Cx} {pos : Pos} {es : List Expr} {kws : List Keyword} {ks : List Str} (h1 : es.all nst = true) (h2 : kwNames kws = some ks) : ArgsOk X pos es kws ks := by
  obtain ⟨a, b, c⟩ := kw_ok (pos := pos) (env := X.env) h2
  refine ⟨fun x r e => ?_, a, b, ?_⟩
  · subst e
    rw [List.all_cons, Bool.and_eq_true] at h1
    exact star_cons h1.1
  · rw [back_none h1, c]; rfl
/-- not super() -/
def plainBase : Expr → Bool
  | .Call _ _ _ _ => false
  | _ => true
theorem base_of {o : Expr} {f : Str} {env : PySem.Env} {w : Sem Value} (h : plainBase o = true) : attributeBase o f env w = w := by
  cases o <;> first | rfl | cases h
def notComp : Expr → Bool
  | .ListComp _ _ _ _ => false
  | .SetComp _ _ _ _ => false
  | .DictComp _ _ _ _ _ => false
  | _ => true
theorem swaps_no {e : Expr} {t : Option Expr} {l : Nat} {env : PySem.Env} (h : notComp e = true) : swapsWith e t l env = pure false := by
  cases e <;> first | rfl | cases h
def notSet : Expr → Bool
  | .Set _ _ _ => false
  | _ => true
theorem mark_no {op : CmpOp} {b : Expr} (h : notSet b = true) : behindInMarks op b = false := by
  cases b <;> first | rfl | cases h
theorem fold_no {b : Expr} {env : PySem.Env} (h : notSet b = true) (x : Value) : foldedSetIterable b env x = pure x := by
  cases b <;> first | rfl | cases h
def notSlice : Expr → Bool
  | .Slice _ _ _ _ => false
  | _ => true
theorem ix_plain {b : Expr} (h : notSlice b = true) : PlainIx b := by
  intro o i
  cases b <;> first | rfl | cases h
def plainTest : Expr → Bool
  | .UnaryOp .Not _ _ => false
  | .BoolOp _ _ _ => false
  | .IfExp _ _ _ _ => false
  | .Compare _ _ _ _ => false
  | _ => true
theorem test_plain {e : Expr} {env : PySem.Env} (h : plainTest e = true) (whole : Sem Value) : isTrue e env whole = (do let v ← whole; standAt e.pos; holding [v] (truthy v)) := by
  cases e <;> first
    | rfl
    | cases h
    | (rename_i op _ _; cases op <;> first | rfl | cases h)
theorem asg_one {tg : Expr} {env : PySem.Env} (h : nst tg = true) : (assignEach [tg] env).map (·.2) = [assign tg env] := by
  cases tg <;> first | rfl | cases h
theorem asg_cons {tg : Expr} {es : List Expr} {env : PySem.Env} (h : nst tg = true) : assignEach (tg :: es) env = (false, assign tg env) :: assignEach es env := by
  cases tg <;> first | rfl | cases h
theorem asg_find : ∀ {es : List Expr} {env : PySem.Env}, es.all nst = true → (assignEach es env).findIdx? (·.1) = none
  | [], _, _ => rfl
  | a :: es, env, h => by
    rw [List.all_cons, Bool.and_eq_true] at h
    rw [asg_cons h.1, List.findIdx?_cons, asg_find h.2]; rfl
theorem asg_len : ∀ {es : List Expr} {env : PySem.Env}, es.all nst = true → (assignEach es env).length = es.length
  | [], _, _ => rfl
  | a :: es, env, h => by
    rw [List.all_cons, Bool.and_eq_true] at h
    rw [asg_cons h.1, List.length_cons, List.length_cons, asg_len h.2]

/-! ### methods of lists -/
section
variable {X : Cx} {g : Cfg} {W : WX} {lv : Nat} {H0 : Hp} {A : Addr → Prop} {held : List Addr} {L Ln Lk : List Nat} {n : Nat} {vs : List Nat} {fa : Env → R T} {a : Expr} {x : Nat} {y : Str} {pos p ap cp : Pos}
theorem few1 {a : Expr} {env : PySem.Env} (h : nst a = true) : ((backTo cp (starEach [a] env)).all (fun x => !x.1) && (backToKw cp (keywordEach [] env)).all (fun x => x.1.isSome)
      && decide (([a] : List Expr).length + ([] : List Keyword).length + (if ([] : List Keyword).isEmpty then 0 else 1) < 30)) = true := by
  rw [star_cons h]; rfl
theorem slotL_ok {e : Env} {k : List T → SR} {D : Ends} {H : Hp} (h : OutS g W lv H0 A held Ln Lk D H ((slotL e x).st e k)) : ∃ xs, e[x]? = some (some (.lst xs)) ∧ OutS g W lv H0 A held Ln Lk D H (k xs) := by
  unfold slotL slot at h
  rw [List.getD_eq_getElem?_getD] at h
  cases q : e[x]? with
  | none => rw [q] at h; exact h.elim
  | some o =>
    cases o with
    | none => rw [q] at h; exact h.elim
    | some t =>
      rw [q] at h
      cases t with
      | lst xs => exact ⟨xs, rfl, h⟩
      | _ => exact (show False from h).elim
theorem out_chkS {b : Bool} {r : SR} {D : Ends} {H : Hp} (h : OutS g W lv H0 A held Ln Lk D H (chkS b r)) : b = true ∧ OutS g W lv H0 A held Ln Lk D H r := by
  cases b with
  | true => exact ⟨rfl, h⟩
  | false => exact h.elim
/-- an owned list as it stands -/
theorem StR.list {H : Hp} {σ : L2.St} {e : Env} {Fs : Nat → List Addr} {xs : List T} (S : StR g H0 A held L H σ e Fs) (hx : e[x]? = some (some (.lst xs))) (h1 : 1 ≤ lvA L x) :
    ∃ a G ws, σ[x]? = some (some (.ref a)) ∧ Fs x = a :: G ∧ H a = some (.lst ws) ∧ RepL g H xs ws G ∧ a ∉ G ∧ ∀ i, i ≠ x → a ∉ Fs i := by
  obtain ⟨a, G, e1, e2, e3, e4, e5⟩ := (S.own x _ hx).1 h1 xs rfl
  obtain ⟨v, v1, v2⟩ := S.env.at_ x _ hx
  rw [e1] at v2
  obtain ⟨rfl, ws, hw, rx⟩ := top_list v2
  exact ⟨a, G, ws, v1, e1, hw, rx, e3, fun i hi z => e5 ⟨i, hi, z⟩⟩
/-- what is new is not the list -/
theorem top_out {Hb H : Hp} {σ : L2.St} {e : Env} {Fs : Nat → List Addr} {t : T} {v : V} {F : List Addr} {b : Addr} {gd : Bool} {ws : List V} (Sb : StR g H0 A held L Hb σ e Fs) (r : Rep g H t v F) (pf : ∀ b ∈ F, Hb b = none ∨ ∃ i ∈ vs, b ∈ Fs i) (hg : gd = true → noList t = true)
    {j : Nat} (hj : j ∈ vs → gd = true ∨ lvA (dropG gd vs L) j = 0) (hz : lvA (dropG gd vs L) j ≠ 0) (hw : H b = some (.lst ws)) (hb : b ∈ Fs j) (hF : b ∈ F) : ∃ i, i ≠ j ∧ b ∈ Fs i := by
  rcases pf b hF with k | ⟨m, hm, k⟩
  · exact absurd k (Sb.dom j b hb)
  · by_cases hmj : m = j
    · subst hmj
      rcases hj hm with q | q
      · obtain ⟨C, dx, fs, z⟩ := noList_F r (hg q) b hF
        rw [z] at hw
        cases hw
      · exact absurd q hz
    · exact ⟨m, hmj, k⟩
theorem flat2_app {xs : List T} {t : T} : flat2 (xs ++ [t]) = (flat2 xs && flat1 t) := by
  induction xs with
  | nil => show (flat1 t && true) = (true && flat1 t); cases flat1 t <;> rfl
  | cons x xs ih => show (flat1 x && flat2 (xs ++ [t])) = ((flat1 x && flat2 xs) && flat1 t); rw [ih, Bool.and_assoc]
/-- x.append(a) -/
theorem sv_app {gd : Bool} (her : g.er = none) (hN : X.N[x]? = some y) (hv : Vis X.env.scope y) (hd : (y == ("__debug__" : Str)) = false) (hcd : (y == ("__classdict__" : Str)) = false) (hl : (ap.endLine == cp.line) = true) (hst : nst a = true)
    (ha : PE X a (TEv g W n vs fa)) (h1 : 1 ≤ lvA L x) (hx : x ∉ vs ∨ gd = true) (L' : List Nat) (hL' : ∀ i, lvA L' i ≤ lvA (dropG gd (vs.filter (· ≠ x)) L) i) (h2 : lvA L' x ≤ 1 ∨ 1 ≤ n ∨ gd = true) :
    PS X (.Expr (.Call (.Attribute (.Name y p) "append" ap) [a] [] cp) pos) (TSv g W lv H0 A held L L' Lk fun e => (slotL e x).st e fun xs => (fa e).st e fun t => chkS (Nat.blt xs.length LIM) (grd gd t (.nx (putL e x (xs ++ [t]))))) := by
  refine PS.imp (ps_expr (pe_bm PySem.F.plainAttrs_list PySem.F.slot_list_append PySem.F.type_list_append mt_append (pe_var hN hv hd hcd) (pa_cons ha pa_nil (star_cons hst)) rfl (few1 hst) hl (star_cons hst) rfl) rfl) fun D σ H ⟨e, Fs, S, h⟩ => ?_
  obtain ⟨xs, hx0, h⟩ := slotL_ok h
  obtain ⟨l, G, ws, s1, s2, s3, s4, s5, s6⟩ := S.list hx0 h1
  refine ⟨_, s1, .inl ⟨rfl, ws, SqL.of s3⟩, ?_⟩
  refine st1 (k := fun t => chkS (Nat.blt xs.length LIM) (grd gd t (.nx (putL e x (xs ++ [t]))))) S h fun t v F H1 e1 S1 r lt pf h => ?_
  obtain ⟨c1, h⟩ := out_chkS h
  obtain ⟨hg, h⟩ := out_grd h
  have hw1 : H1 l = some (.lst ws) := e1 l _ s3
  have nF : l ∉ F := fun z => by
    rcases pf l z with k | ⟨m, hm, k⟩
    · rw [s3] at k; cases k
    · by_cases hmx : m = x
      · rcases hx with hx | hx
        · exact hx (hmx ▸ hm)
        · obtain ⟨C, dx, fs, q⟩ := noList_F r (hg hx) l z
          rw [q] at hw1; cases hw1
      · exact s6 m hmx k
  have pf' : ∀ b ∈ F, H b = none ∨ ∃ i ∈ vs, b ∈ Fs i := pf
  obtain ⟨Fs', S2, kp⟩ := StR.mut (x := x) (L' := L') S1 her hx0 h1 s2 ((s4.ext e1).append (RepL.cons r RepL.nil)) (fun z => by
      rcases List.mem_append.mp z with z | z
      · exact s5 z
      · exact nF (by simpa using z)) (fun b hb => by
      rcases List.mem_append.mp hb with hb | hb
      · exact S1.pro x b (by rw [s2]; exact List.mem_cons_of_mem _ hb)
      · exact (pf b (by simpa using hb)).elim (fun z => .inl (S.ext.none z)) fun ⟨i, _, q⟩ => S.pro i b q)
    (fun i => Nat.le_trans (hL' i) dropG_le)
    (fun b ⟨bs, hbs⟩ j hj hz hbj hbG => by
      rcases List.mem_append.mp hbG with z | z
      · exact ⟨x, fun q => hj q.symm, by rw [s2]; exact List.mem_cons_of_mem _ z⟩
      · have zF : b ∈ F := by simpa using z
        rcases pf b zF with k | ⟨m, hm, k⟩
        · exact absurd k (S.dom j b hbj)
        · by_cases hmj : m = j
          · subst hmj
            have hmem : m ∈ vs.filter (· ≠ x) := List.mem_filter.mpr ⟨hm, by simpa using hj⟩
            rcases dropG_zero (gd := gd) (L := L) hmem with q | q
            · obtain ⟨C, dx, fs, w⟩ := noList_F r (hg q) b zF
              rw [w] at hbs; cases hbs
            · exact absurd (Nat.le_antisymm (by have := hL' m; omega) (Nat.zero_le _)) hz
          · exact ⟨m, hmj, k⟩)
    (fun k2 fl => by
      rw [flat2_app, Bool.and_eq_true] at fl
      have hx2 : 2 ≤ lvA L x := Nat.le_trans k2 (Nat.le_trans (hL' x) dropG_le)
      obtain ⟨o1, o2⟩ := (S.own x _ hx0).2 hx2 xs rfl fl.1
      rw [s2] at o1 o2
      have gG : ∀ b ∈ G, H0 b = none ∧ b ∉ held ∧ ∀ j, j ≠ x → b ∉ Fs j := fun b hb =>
        let z := o2 b (List.mem_cons_of_mem _ hb)
        ⟨z.1, z.2.1, fun j hj q => z.2.2 ⟨j, hj, q⟩⟩
      have fF : F.Nodup ∧ ∀ b ∈ F, H b = none := by
        rcases h2 with q | q | q
        · omega
        · exact lv_flat (n := 0) r (lt.low q) fl.2
        · have nm : noMut t = true := by
            have nl := hg q
            cases t with
            | lst ys => exact absurd nl (by rw [noList]; decide)
            | _ => exact fl.2
          rw [noMut_F r nm]
          exact ⟨List.nodup_nil, fun _ z => by cases z⟩
      refine ⟨?_, fun b hb => ?_⟩
      · rw [List.nodup_append]
        refine ⟨(List.nodup_cons.mp o1).2, by simpa using fF.1, fun c hc d hd' q => ?_⟩
        subst q
        exact s4.dom c hc (fF.2 c (by simpa using hd'))
      · rcases List.mem_append.mp hb with hb | hb
        · exact gG b hb
        · have fb := fF.2 b (by simpa using hb)
          exact ⟨S.ext.none fb, fun z => S.hd b z fb, fun j hj z => S.dom j b z fb⟩)
  refine ⟨l, ws, v, rfl, rfl, hw1, ?_, ?_⟩
  · rw [s4.len, lim_eq]; exact Nat.le_of_ble_eq_true c1
  · exact h σ _ Fs' S2 kp
/-- a part of an owned list stays -/
theorem StR.part {H : Hp} {σ : L2.St} {e : Env} {Fs : Nat → List Addr} {xs ys : List T} {us : List V} {l : Addr} {G G' : List Addr} (S : StR g H0 A held L H σ e Fs) (her : g.er = none) (hx : e[x]? = some (some (.lst xs))) (h1 : 1 ≤ lvA L x) (hF : Fs x = l :: G)
    (ry : RepL g H ys us G') (sub : G'.Sublist G) (fl : flat2 ys = true → flat2 xs = true ∨ G' = []) : ∃ Fs', StR g H0 A held L (upd H l (.lst us)) σ (putL e x ys) Fs' ∧ Kp H (upd H l (.lst us)) held := by
  obtain ⟨a, G1, e1, e2, e3, e4, e5⟩ := (S.own x _ hx).1 h1 xs rfl
  rw [hF] at e1
  obtain ⟨rfl, rfl⟩ := List.cons.inj e1
  refine StR.mut S her hx h1 hF ry (fun z => e3 (sub.subset z)) (fun b hb => S.pro x b (by rw [hF]; exact List.mem_cons_of_mem _ (sub.subset hb))) (fun _ => Nat.le_refl _)
    (fun b _ j hj _ _ hb => ⟨x, fun q => hj q.symm, by rw [hF]; exact List.mem_cons_of_mem _ (sub.subset hb)⟩) fun k2 f => ?_
  rcases fl f with f | rfl
  · obtain ⟨o1, o2⟩ := (S.own x _ hx).2 k2 xs rfl f
    rw [hF] at o1 o2
    refine ⟨(List.nodup_cons.mp o1).2.sublist sub, fun b hb => ?_⟩
    obtain ⟨q1, q2, q3⟩ := o2 b (List.mem_cons_of_mem _ (sub.subset hb))
    exact ⟨q1, q2, fun j hj z => q3 ⟨j, hj, z⟩⟩
  · exact ⟨List.nodup_nil, fun _ z => by cases z⟩
/-- x.clear() -/
theorem sv_clear (her : g.er = none) (hN : X.N[x]? = some y) (hv : Vis X.env.scope y) (hd : (y == ("__debug__" : Str)) = false) (hcd : (y == ("__classdict__" : Str)) = false) (hl : (ap.endLine == cp.line) = true) (h1 : 1 ≤ lvA L x) :
    PS X (.Expr (.Call (.Attribute (.Name y p) "clear" ap) [] [] cp) pos) (TSv g W lv H0 A held L L Lk fun e => (slotL e x).st e fun _ => .nx (putL e x [])) := by
  refine PS.imp (ps_expr (pe_bm0 PySem.F.plainAttrs_list PySem.F.slot_list_clear PySem.F.type_list_clear mt_clear (pe_var hN hv hd hcd) rfl hl) rfl) fun D σ H ⟨e, Fs, S, h⟩ => ?_
  obtain ⟨xs, hx0, h⟩ := slotL_ok h
  obtain ⟨l, G, ws, s1, s2, s3, s4, s5, s6⟩ := S.list hx0 h1
  obtain ⟨Fs', S2, kp⟩ := StR.part (us := []) (ys := []) S her hx0 h1 s2 RepL.nil (List.nil_sublist _) (fun _ => .inr rfl)
  exact ⟨_, s1, .inl ⟨rfl, ws, SqL.of s3⟩, l, ws, rfl, rfl, s3, h σ _ Fs' S2 kp⟩
end
end Wt

/-! Snd13: loops. -/
namespace Wt
open PySem PySem.Spec PyProof.Rows L2

/-- the iterator yields xs, as long as what F reaches is kept -/
def IsIt (g : Cfg) (J : It) (xs : List T) (H : Hp) (F : List Addr) : Prop :=
  ∀ H2, Kp H H2 F → J.stop xs.length H2 ∧ ∀ (i : Nat) (t : T), xs[i]? = some t → J.go i H2 ∧ ∀ v H3, J.yld i H2 v H3 → Ext H2 H3 ∧ ∃ G, Rep g H3 t v G ∧ ∀ b ∈ G, b ∈ F
def OutI (g : Cfg) (W : WX) (A : Addr → Prop) (σ : L2.St) (H : Hp) (R' : It → Hp → Prop) (r : R (List T)) : Prop :=
  match r with
  | .ok xs => ∀ J H' F, Ext H H' → IsIt g J xs H' F → (∀ b ∈ F, (H b = none ∨ A b) ∧ H' b ≠ none) → R' J H'
  | .exc x => ∀ cls d H', Ext H H' → RepX g H' x cls d (fun b => H b = none ∨ A b) → W cls d σ H'
  | .bad => False
def TIv (g : Cfg) (W : WX) (vs : List Nat) (f : Env → R (List T)) : TI := fun σ H R' => ∃ e Fs, EnvR g H σ e Fs ∧ OutI g W (fun b => ∃ i ∈ vs, b ∈ Fs i) σ H R' (f e)
theorem PI.imp {X : Cx} {tg e : Expr} {t t' : TI} (h : PI X tg e t) (k : ∀ σ H R', t' σ H R' → t σ H R') : PI X tg e t' := ⟨fun pins s σ H R' I q => h.run pins s σ H R' I (k σ H R' q)⟩

section
variable {X : Cx} {g : Cfg} {W : WX} {a b c : Expr} {tg : Expr} {fa : Env → R T} {fl : Env → R (List T)} {vs : List Nat} {pos p : Pos}
theorem isIt_list {K : PySem.W.Frag} {H : Hp} {l : Addr} {xs : List T} {ws : List V} {G : List Addr} (h : H l = some (.lst ws)) (r : RepL g H xs ws G) : IsIt g (Itl K l) xs H (l :: G) := by
  intro H2 k
  have h2 : SqL K H2 l ws := SqL.of (k.lst l List.mem_cons_self _ h)
  have r2 := r.kp (k.sub fun b hb => List.mem_cons_of_mem _ hb)
  refine ⟨⟨ws, h2, by rw [r.len]; exact Nat.le_refl _⟩, fun i t q => ?_⟩
  obtain ⟨v, G', e1, e2, e3⟩ := r2.get q
  refine ⟨⟨ws, v, h2, e1⟩, fun v' H3 ⟨eH, hy⟩ => ?_⟩
  subst eH
  have := hy ws h2
  rw [e1] at this
  cases this
  exact ⟨.refl _, G', e2, fun b hb => List.mem_cons_of_mem _ (e3 b hb)⟩
theorem isIt_tup {K : PySem.W.Frag} {H : Hp} {l : Addr} {xs : List T} {ws : List V} {G : List Addr} (h : H l = some (.tup ws)) (r : RepL g H xs ws G) : IsIt g (Itt K l) xs H G := by
  intro H2 k
  have h2 : SqT K H2 l ws := SqT.of (k.tup l _ h)
  have r2 := r.kp k
  refine ⟨⟨ws, h2, by rw [r.len]; exact Nat.le_refl _⟩, fun i t q => ?_⟩
  obtain ⟨v, G', e1, e2, e3⟩ := r2.get q
  refine ⟨⟨ws, v, h2, e1⟩, fun v' H3 ⟨eH, hy⟩ => ?_⟩
  subst eH
  have := hy ws h2
  rw [e1] at this
  cases this
  exact ⟨.refl _, G', e2, e3⟩
/-- a list or a tuple -/
theorem it_seq (ha : PE X a (TEv g W 0 vs fa)) : PI X tg a (TIv g W vs fun e => (fa e).bnd fun t => ofO (items t)) := by
  refine ⟨fun pins s σ H R' I h => ?_⟩
  obtain ⟨e, Fs, he, h⟩ := h
  refine thn (ha.run pins s σ H (fun v H1 => ∃ t F, fa e = .ok t ∧ Ext H H1 ∧ Rep g H1 t v F ∧ ∀ b ∈ F, H b = none ∨ ∃ i ∈ vs, b ∈ Fs i) I ⟨e, Fs, he, ?_⟩) fun v s1 ⟨x, H1, I1, r1, t, F, et, e1, rt, pf⟩ => ?_
  · revert h
    dsimp only
    cases fa e with
    | ok t => exact fun _ v H' F a b _ d => ⟨t, F, rfl, a, b, d⟩
    | exc x => exact fun h => h
    | bad => exact fun h => h
  · dsimp only at h
    rw [et] at h
    cases t with
    | lst xs =>
      have h : OutI g W (fun b => ∃ i ∈ vs, b ∈ Fs i) σ H R' (.ok xs) := h
      have dm := rt.dom
      rw [rep_lst] at rt
      obtain ⟨l, ws, G, rfl, h1, h2, rfl⟩ := rt
      cases r1
      obtain ⟨its, rv, p, hz⟩ := I1.list (SqL.of h1)
      refine wpAny_pyIter_list p.isList ?_
      refine ⟨s1.heap.objs.size, [s1.heap.objs.size], _, _, H1, rfl, I1.kept (t' := s1.toks) fun b o e => Heap.get?_push_of_some _ e, turn_list l _, ⟨_, Heap.get?_push_size _ rfl, rfl, rfl⟩, fun b hb => ?_, h _ H1 _ e1 (isIt_list h1 h2) fun b hb => ⟨pf b hb, dm b hb⟩⟩
      have e : b = s1.heap.objs.size := by simpa using hb
      subst e
      exact I1.fpOk (Nat.le_refl _) (I1.hok.fresh (Nat.le_refl _))
    | tup xs =>
      have h : OutI g W (fun b => ∃ i ∈ vs, b ∈ Fs i) σ H R' (.ok xs) := h
      have dm := rt.dom
      rw [rep_tup] at rt
      obtain ⟨l, ws, rfl, h1, h2⟩ := rt
      cases r1
      obtain ⟨its, rv, p, hz⟩ := I1.tuple (SqT.of h1)
      refine wpAny_pyIter_tuple (show s1.heap.IsTuple l its.toArray from p) ?_
      refine ⟨s1.heap.objs.size, [s1.heap.objs.size], _, _, H1, rfl, I1.kept (t' := s1.toks) fun b o e => Heap.get?_push_of_some _ e, turn_tuple l _, ⟨_, Heap.get?_push_size _ rfl, rfl, rfl⟩, fun b hb => ?_, h _ H1 _ e1 (isIt_tup h1 h2) fun b hb => ⟨pf b hb, dm b hb⟩⟩
      have e : b = s1.heap.objs.size := by simpa using hb
      subst e
      exact I1.fpOk (Nat.le_refl _) (I1.hok.fresh (Nat.le_refl _))
    | _ => exact (show False from h).elim
theorem rangeI_len {lo hi : Int} : (rangeI lo hi).length = (hi - lo).toNat := by unfold rangeI; rw [List.length_map, List.length_range]
theorem rangeI_get {lo hi : Int} {i : Nat} {t : T} (h : ((rangeI lo hi).map T.int)[i]? = some t) : i < (hi - lo).toNat ∧ t = .int (lo + (i : Int)) := by
  have hl : i < ((rangeI lo hi).map T.int).length := (List.getElem?_eq_some_iff.mp h).1
  rw [List.length_map, rangeI_len] at hl
  unfold rangeI at h
  rw [List.getElem?_map, List.getElem?_map, List.getElem?_range hl] at h
  exact ⟨hl, (Option.some.inj h).symm⟩
theorem isIt_rng {H : Hp} {lo hi : Int} : IsIt g (Itr lo (hi - lo).toNat) ((rangeI lo hi).map T.int) H [] := by
  intro H2 _
  refine ⟨by rw [List.length_map, rangeI_len]; exact Nat.le_refl _, fun i t q => ?_⟩
  obtain ⟨h1, rfl⟩ := rangeI_get q
  refine ⟨h1, fun v H3 ⟨eH, ev⟩ => ?_⟩
  subst eH ev
  exact ⟨.refl _, [], by rw [rep_i]; exact ⟨rfl, rfl⟩, fun _ z => by cases z⟩
theorem small_ok {i : Int} (h : small i = true) : -(2 ^ 62) ≤ i ∧ i < 2 ^ 62 := by
  unfold small at h
  rw [Bool.and_eq_true] at h
  have h1 := of_decide_eq_true h.1
  have h2 := of_decide_eq_true h.2
  omega
theorem OutI.chk {A : Addr → Prop} {σ : L2.St} {H : Hp} {R' : It → Hp → Prop} {b : Bool} {r : R (List T)} (h : OutI g W A σ H R' (chk b r)) : b = true ∧ OutI g W A σ H R' r := by
  cases b with
  | true => exact ⟨rfl, h⟩
  | false => exact h.elim
theorem OutI.chkN {A : Addr → Prop} {σ : L2.St} {H : Hp} {R' : It → Hp → Prop} {b : Bool} {r : List T} (h : OutI g W A σ H R' (nxR (Wt.chk b (.ok r)))) : b = true ∧ OutI g W A σ H R' (.ok r) := by
  cases b with
  | true => exact ⟨rfl, h⟩
  | false => exact h.elim
theorem ti1 {m : Nat} {k : T → R (List T)} {A : Addr → Prop} {σ : L2.St} {Hb H : Hp} {e : Env} {Fs : Nat → List Addr} {R' : It → Hp → Prop} {Q : VK} {va : List Nat} (he : EnvR g H σ e Fs) (eb : Ext Hb H) (hA : ∀ i ∈ va, ∀ b ∈ Fs i, A b) (h : OutI g W A σ Hb R' ((fa e).bnd k))
    (hk : ∀ t v F H1, EnvR g H1 σ e Fs → Ext Hb H1 → Ext H H1 → Rep g H1 t v F → (∀ b ∈ F, Hb b = none ∨ A b) → OutI g W A σ Hb R' (k t) → Q v H1) : TEv g W m va fa σ H Q := by
  refine ⟨e, Fs, he, ?_⟩
  revert h
  cases fa e with
  | ok t => exact fun h v H1 F a b _ d => hk t v F H1 (he.ext a) (eb.trans a) a b (fun x hx => (d x hx).imp eb.none fun ⟨i, hi, hb⟩ => hA i hi x hb) h
  | exc x => exact fun h cls d H' a b => h cls d H' (eb.trans a) (b.mono2 eb fun b ⟨i, hi, hb⟩ => hA i hi b hb)
  | bad => exact id
theorem ti0 {m : Nat} {k : T → R (List T)} {A : Addr → Prop} {σ : L2.St} {Hb H : Hp} {e : Env} {Fs : Nat → List Addr} {R' : It → Hp → Prop} {Q : VK} {va : List Nat} (he : EnvR g H σ e Fs) (eb : Ext Hb H) (h : OutI g W A σ Hb R' (nxR ((fa e).bnd k)))
    (hk : ∀ t v F H1, EnvR g H1 σ e Fs → Ext Hb H1 → Ext H H1 → Rep g H1 t v F → OutI g W A σ Hb R' (nxR (k t)) → Q v H1) : TEv g W m va fa σ H Q := by
  refine ⟨e, Fs, he, ?_⟩
  revert h
  cases fa e with
  | ok t => exact fun h v H1 F a b _ d => hk t v F H1 (he.ext a) (eb.trans a) a b h
  | exc x => exact fun h => h.elim
  | bad => exact fun h => h.elim
theorem nofp {A : Addr → Prop} {H H' : Hp} : ∀ b ∈ ([] : List Addr), (H b = none ∨ A b) ∧ H' b ≠ none := fun _ z => by cases z
variable {P : Prog} {cl : Nat → List T → R T} {fb fc : Env → R T} {va vb vc : List Nat}
theorem it_rng1 (hg : Gl X "range") (hm : X.mg "range" = none) (hst : nst a = true) (ha : PE X a (TEv g W 0 va fa)) : PI X tg (.Call (.Name "range" p) [a] [] pos) (TIv g W vs fun e => nxR ((fa e).bnd fun x => walk P cl .rng [x])) := by
  refine PI.imp (pi_range1 hg hm (pa_cons ha pa_nil (star_cons hst)) (by rw [star_cons hst]; rfl)) fun σ H R' ⟨e, Fs, he, h⟩ => ?_
  refine ti0 (A := fun b => ∃ i ∈ vs, b ∈ Fs i) he (.refl H) h fun t v F H1 he1 _ e1 r h => ?_
  cases t with
  | int n =>
    obtain ⟨hs, h⟩ := OutI.chkN (b := small n) h
    rw [rep_i] at r
    refine ⟨n, by rw [r.1], (small_ok hs).1, (small_ok hs).2, h _ H1 [] e1 ?_ nofp⟩
    have := isIt_rng (g := g) (H := H1) (lo := 0) (hi := n)
    rwa [Int.sub_zero] at this
  | _ => exact (show False from h).elim
theorem it_rng2 (hg : Gl X "range") (hm : X.mg "range" = none) (hst : nst a = true) (hst2 : nst b = true) (ha : PE X a (TEv g W 0 va fa)) (hb : PE X b (TEv g W 0 vb fb)) :
    PI X tg (.Call (.Name "range" p) [a, b] [] pos) (TIv g W vs fun e => nxR ((fa e).bnd fun x => (fb e).bnd fun y => walk P cl .rng [x, y])) := by
  refine PI.imp (pi_range2 hg hm (pa_cons ha (pa_cons hb pa_nil (star_cons hst2)) (star_cons hst)) (by rw [star_cons hst, star_cons hst2]; rfl) (by rw [star_cons hst2]; rfl)) fun σ H R' ⟨e, Fs, he, h⟩ => ?_
  refine ti0 (A := fun b => ∃ i ∈ vs, b ∈ Fs i) he (.refl H) h fun t v F H1 he1 eb1 e1 r h => ?_
  refine ti0 (A := fun b => ∃ i ∈ vs, b ∈ Fs i) he1 eb1 h fun t2 v2 F2 H2 he2 eb2 e2 r2 h => ?_
  cases t with
  | int n =>
    cases t2 with
    | int m =>
      obtain ⟨hs, h⟩ := OutI.chkN (b := small n && small m) h
      rw [Bool.and_eq_true] at hs
      rw [rep_i] at r r2
      exact ⟨n, m, by rw [r.1, r2.1], ⟨(small_ok hs.1).1, (small_ok hs.1).2, (small_ok hs.2).1, (small_ok hs.2).2⟩, h _ H2 [] eb2 isIt_rng nofp⟩
    | _ => exact (show False from h).elim
  | _ => cases t2 <;> exact (show False from h).elim
theorem stepI_get {lo c : Int} {n i : Nat} {t : T} (h : (stepI lo c n)[i]? = some t) : i < n ∧ t = .int (lo + (i : Int) * c) := by
  have hl : i < (stepI lo c n).length := (List.getElem?_eq_some_iff.mp h).1
  unfold stepI at h hl
  rw [List.length_map, List.length_range] at hl
  rw [List.getElem?_map, List.getElem?_range hl] at h
  exact ⟨hl, (Option.some.inj h).symm⟩
theorem isIt_step {H : Hp} {lo c : Int} {n : Nat} : IsIt g (Itc lo c n) (stepI lo c n) H [] := by
  intro H2 _
  refine ⟨by unfold stepI; rw [List.length_map, List.length_range]; exact Nat.le_refl _, fun i t q => ?_⟩
  obtain ⟨h1, rfl⟩ := stepI_get q
  refine ⟨h1, fun v H3 ⟨eH, ev⟩ => ?_⟩
  subst eH ev
  exact ⟨.refl _, [], by rw [rep_i]; exact ⟨rfl, rfl⟩, fun _ z => by cases z⟩
theorem it_rng3 (hg : Gl X "range") (hm : X.mg "range" = none) (hst : nst a = true) (hst2 : nst b = true) (hst3 : nst c = true) (ha : PE X a (TEv g W 0 va fa)) (hb : PE X b (TEv g W 0 vb fb)) (hc : PE X c (TEv g W 0 vc fc)) :
    PI X tg (.Call (.Name "range" p) [a, b, c] [] pos) (TIv g W vs fun e => nxR ((fa e).bnd fun x => (fb e).bnd fun y => (fc e).bnd fun z => walk P cl .rng [x, y, z])) := by
  refine PI.imp (pi_range3 hg hm (pa_cons ha (pa_cons hb (pa_cons hc pa_nil (star_cons hst3)) (star_cons hst2)) (star_cons hst)) (by rw [star_cons hst, star_cons hst2, star_cons hst3]) (back_none (by show (nst b && (nst c && true)) = true; rw [hst2, hst3]; rfl))) fun σ H R' ⟨e, Fs, he, h⟩ => ?_
  refine ti0 (A := fun b => ∃ i ∈ vs, b ∈ Fs i) he (.refl H) h fun t v F H1 he1 eb1 e1 r h => ?_
  refine ti0 (A := fun b => ∃ i ∈ vs, b ∈ Fs i) he1 eb1 h fun t2 v2 F2 H2 he2 eb2 e2 r2 h => ?_
  refine ti0 (A := fun b => ∃ i ∈ vs, b ∈ Fs i) he2 eb2 h fun t3 v3 F3 H3 he3 eb3 e3 r3 h => ?_
  cases t with
  | int n =>
    cases t2 with
    | int m =>
      cases t3 with
      | int q =>
        obtain ⟨hs, h'⟩ := OutI.chkN (b := small n && (small m && decide (q = -1))) h
        rw [Bool.and_eq_true, Bool.and_eq_true] at hs
        obtain ⟨hs1, hs2, hs3⟩ := hs
        have hs3 := of_decide_eq_true hs3
        subst hs3
        rw [rep_i] at r r2 r3
        exact ⟨n, m, -1, (n - m).toNat, (by rw [r.1, r2.1, r3.1]), RgC.neg (small_ok hs1).1 (small_ok hs1).2 (small_ok hs2).1 (small_ok hs2).2, h' _ H3 [] eb3 isIt_step nofp⟩
      | _ => exact (show False from h).elim
    | _ => cases t3 <;> exact (show False from h).elim
  | _ => cases t2 <;> cases t3 <;> exact (show False from h).elim
/-- enumerate of a list -/
theorem enumL_get : ∀ {xs : List T} {n i : Nat} {t : T}, (enumL n xs)[i]? = some t → ∃ x, xs[i]? = some x ∧ t = .tup [.int ((n + i : Nat) : Int), x]
  | [], _, _, _, h => by unfold enumL at h; simp at h
  | x :: xs, n, 0, t, h => by
    unfold enumL at h
    simp at h
    exact ⟨x, rfl, by rw [← h]; simp⟩
  | x :: xs, n, i + 1, t, h => by
    unfold enumL at h
    obtain ⟨y, h1, h2⟩ := enumL_get (i := i) (by simpa using h)
    exact ⟨y, by simpa using h1, by rw [h2, show n + 1 + i = n + (i + 1) by omega]⟩
theorem enumL_len : ∀ {xs : List T} {n : Nat}, (enumL n xs).length = xs.length
  | [], _ => rfl
  | x :: xs, n => by unfold enumL; rw [List.length_cons, List.length_cons, enumL_len]
end

/-! ### targets -/
def tgI : Tg → List Nat
  | .one i => [i]
  | .many js => js
structure TgOk (g : Cfg) (tg : Tg) (gt : TG) (K : PySem.W.Frag) : Prop where
  run : ∀ {H0 : Hp} {A : Addr → Prop} {held : List Addr} {L : List Nat} {H : Hp} {σ : L2.St} {e e' : Env} {Fs : Nat → List Addr} {t : T} {v : V} {F : List Addr} {Q : L2.St → Hp → Prop}, g.er = none → StR g H0 A held L H σ e Fs → Rep g H t v F → (∀ b ∈ F, b ∈ held) →
    bindTg tg t e = some e' → (∀ σ' Fs', StR g H0 A held (dropL (tgI tg) L) H σ' e' Fs' → Q σ' H) → gt v σ H Q
theorem StR.putH {g : Cfg} {H0 : Hp} {A : Addr → Prop} {held : List Addr} {L : List Nat} {H : Hp} {σ : L2.St} {e : Env} {Fs : Nat → List Addr} {t : T} {v : V} {F : List Addr} {x : Nat} (S : StR g H0 A held L H σ e Fs) (her : g.er = none) (r : Rep g H t v F) (pf : ∀ b ∈ F, b ∈ held) :
    ∃ Fs', StR g H0 A held (L.set x 0) H (σ.set x (some v)) (e.set x (some t)) Fs' :=
  StR.put (vs := []) (gd := false) (n := 0) S S r trivial (fun b hb => .inr (.inr (pf b hb))) (fun z => by cases z) (by omega) (fun q z => by rw [her] at z; cases z)
theorem lvA_drop1 {L : List Nat} {x : Nat} {js : List Nat} : ∀ i, lvA (dropL (x :: js) L) i ≤ lvA (dropL js (L.set x 0)) i := by
  intro i
  by_cases h : i ∈ x :: js
  · rw [dropL_zero h]; exact Nat.zero_le _
  · have key : ∀ (js L : List Nat), i ∉ js → lvA (dropL js L) i = lvA L i := by
      intro js
      induction js with
      | nil => intro L _; rfl
      | cons j js ih =>
        intro L hn
        unfold dropL
        rw [lvA_set, if_neg (fun z => hn (by rw [z]; exact List.mem_cons_self)), ih L (fun z => hn (List.mem_cons_of_mem _ z))]
    rw [key _ _ h, key _ _ (fun z => h (List.mem_cons_of_mem _ z)), lvA_set, if_neg (fun z => h (by rw [z]; exact List.mem_cons_self))]
    exact Nat.le_refl _
theorem tg_one {g : Cfg} {x : Nat} {K : PySem.W.Frag} : TgOk g (.one x) (gName x) K := by
  refine ⟨fun {H0 A held L H σ e e' Fs t v F Q} her S r pf hb k => ?_⟩
  obtain ⟨Fs', S'⟩ := StR.putH (x := x) S her r pf
  cases hb
  exact k _ Fs' (S'.weak fun i => lvA_drop1 (x := x) (js := []) (L := L) i)
def gNames : List Nat → TGs
  | [] => gNil
  | j :: js => gCons (gName j) (gNames js)
theorem tg_list {g : Cfg} {H0 : Hp} {A : Addr → Prop} {held : List Addr} {H : Hp} (her : g.er = none) : ∀ {js : List Nat} {L : List Nat} {σ : L2.St} {e e' : Env} {Fs : Nat → List Addr} {ts : List T} {vs : List V} {F : List Addr} {Q : L2.St → Hp → Prop}, StR g H0 A held L H σ e Fs → RepL g H ts vs F → (∀ b ∈ F, b ∈ held) →
    setAll js ts e = some e' → (∀ σ' Fs', StR g H0 A held (dropL js L) H σ' e' Fs' → Q σ' H) → gNames js vs σ H Q
  | [], L, σ, e, e', Fs, [], vs, F, Q, S, r, pf, hb, k => by
    cases hb
    rw [RepL] at r
    exact ⟨r.1, k σ Fs S⟩
  | [], L, σ, e, e', Fs, _ :: _, vs, F, Q, S, r, pf, hb, k => by cases hb
  | _ :: _, L, σ, e, e', Fs, [], vs, F, Q, S, r, pf, hb, k => by cases hb
  | j :: js, L, σ, e, e', Fs, t :: ts, vs, F, Q, S, r, pf, hb, k => by
    rw [RepL] at r
    obtain ⟨v, vr, F1, F2, rfl, r1, r2, rfl⟩ := r
    obtain ⟨Fs', S'⟩ := StR.putH (x := j) S her r1 fun b hb => pf b (List.mem_append_left _ hb)
    refine ⟨v, vr, rfl, ?_⟩
    exact tg_list her S' r2 (fun b hb => pf b (List.mem_append_right _ hb)) hb fun σ' Fs'' S'' => k σ' Fs'' (S''.weak lvA_drop1)
theorem setAll_len : ∀ {js : List Nat} {ts : List T} {e e' : Env}, setAll js ts e = some e' → js.length = ts.length
  | [], [], _, _, _ => rfl
  | [], _ :: _, _, _, h => by cases h
  | _ :: _, [], _, _, h => by cases h
  | j :: js, t :: ts, e, e', h => by
    rw [List.length_cons, List.length_cons, setAll_len (js := js) (ts := ts) h]
theorem tg_many {g : Cfg} {js : List Nat} {K : PySem.W.Frag} : TgOk g (.many js) (gTup K js.length (gNames js)) K := by
  refine ⟨fun {H0 A held L H σ e e' Fs t v F Q} her S r pf hb k => ?_⟩
  cases t with
  | tup ts =>
    have hb : setAll js ts e = some e' := hb
    rw [rep_tup] at r
    obtain ⟨a, vs, rfl, h1, h2⟩ := r
    exact ⟨a, vs, rfl, SqT.of h1, by rw [h2.len, setAll_len hb], tg_list her S h2 pf hb k⟩
  | _ => cases hb

/-! ### for -/
section
variable {X : Cx} {g : Cfg} {W : WX} {lv : Nat} {H0 : Hp} {A : Addr → Prop} {held : List Addr} {L Lh Lm Lk : List Nat} {vs : List Nat} {pos : Pos} {tgE iter : Expr} {body : List Stmt} {fw : Env → R (List T)} {fb : Env → SR} {tg : Tg} {gt : TG}
def forB (tg : Tg) (fb : Env → SR) (x : T) (e : Env) : SR := match bindTg tg x e with
  | some e2 => fb e2
  | none => .bad
theorem forX_cons {b : T → Env → SR} {x : T} {xs : List T} {e : Env} : forX b (x :: xs) e = match b x e with
    | .nx e' => forX b xs e'
    | .ct e' => forX b xs e'
    | .bk e' => .nx e'
    | .rt t => .rt t
    | .exc x e' => .exc x e'
    | .bad => .bad := rfl
theorem sv_for (her : g.er = none) (hp : PassesOwn (model X.prog X.w) X.A X.env X.xe) (hc : X.calm = true) (hi : PI X tgE iter (TIv g W vs fw)) (hg : PG X tgE gt) (ht : TgOk g tg gt X.K)
    (hb : ∀ held', PSs X body (TSv g W lv H0 A held' (dropL (tgI tg) Lh) Lm Lh fb)) (hm : ∀ i, lvA Lh i ≤ lvA Lm i) (hh : ∀ i, lvA Lh i ≤ lvA (dropL vs L) i) (hs : notSet iter = true) :
    PS X (.For tgE iter body [] pos) (TSv g W lv H0 A held L Lh Lk fun e => (fw e).st e fun xs => forX (forB tg fb) xs e) := by
  have hb' : PSs X body (fun D σ H => ∃ held', TSv g W lv H0 A held' (dropL (tgI tg) Lh) Lm Lh fb D σ H) := ⟨fun pins s σ H D I ⟨held', h⟩ => (hb held').run pins s σ H D I h⟩
  refine PS.imp (ps_for hp hc hi hg hb' (fold_no hs)) fun D σ H ⟨e, Fs, S, h⟩ => ⟨e, Fs, S.env, ?_⟩
  dsimp only at h
  cases qw : fw e with
  | exc x => rw [qw] at h; exact fun cls d H' a b => h cls d σ H' Fs ((S.up a).weak fun i => lv0_le i) (b.imp fun x hx => hx.elim (fun z => .inl (S.ext.none z)) fun ⟨i, _, q⟩ => S.pro i x q) (.ext a)
  | bad => rw [qw] at h; exact h
  | ok xs =>
    rw [qw] at h
    have h : OutS g W lv H0 A held Lh Lk D H (forX (forB tg fb) xs e) := h
    intro J H1 F e1 it pf
    have S1 := S.up e1
    have dj : ∀ i t, e[i]? = some (some t) → Own (lvA Lh i) H0 (held ++ F) (fun b => ∃ j, j ≠ i ∧ b ∈ Fs j) t (Fs i) := by
      intro i t q
      by_cases hz : lvA Lh i = 0
      · rw [hz]; exact Own.zero
      · have ni : i ∉ vs := fun z => by
          have a1 := hh i
          have a2 : lvA (dropL vs L) i = 0 := dropL_zero z
          omega
        have O := (S.own i t q).imp (Nat.le_trans (hh i) dropL_le) (fun _ z => z) fun _ z => z
        have nF : ∀ b ∈ Fs i, (¬ ∃ j, j ≠ i ∧ b ∈ Fs j) → b ∉ F := fun b hb no hF => by
          rcases (pf b hF).1 with z | ⟨j, hj, z⟩
          · exact S.dom i b hb z
          · exact no ⟨j, fun q => ni (q ▸ hj), z⟩
        refine ⟨fun k1 zs ez => ?_, fun k2 zs ez fl => ?_⟩
        · obtain ⟨a, G, o1, o2, o3, o4, o5⟩ := O.1 k1 zs ez
          refine ⟨a, G, o1, o2, o3, fun z => ?_, o5⟩
          rcases List.mem_append.mp z with z | z
          · exact o4 z
          · exact nF a (by rw [o1]; exact List.mem_cons_self) o5 z
        · obtain ⟨o1, o2⟩ := O.2 k2 zs ez fl
          refine ⟨o1, fun b hb => ⟨(o2 b hb).1, fun z => ?_, (o2 b hb).2.2⟩⟩
          rcases List.mem_append.mp z with z | z
          · exact (o2 b hb).2.1 z
          · exact nF b hb (o2 b hb).2.2 z
    have T1 : StR g H0 A (held ++ F) Lh H1 σ e Fs := ⟨S1.env, S1.emp, S1.ext, S1.pro, fun b hb => by
      rcases List.mem_append.mp hb with z | z
      · exact S1.hd b z
      · exact (pf b z).2, fun b hb => by
      rcases List.mem_append.mp hb with z | z
      · exact S.hpv b z
      · exact (pf b z).1.elim (fun z => .inl (S.ext.none z)) fun ⟨j, _, z⟩ => S.pro j b z, dj⟩
    refine ⟨fun i m σ2 H2 => m = xs.length - i ∧ i ≤ xs.length ∧ ∃ e2 Fs2, StR g H0 A (held ++ F) Lh H2 σ2 e2 Fs2 ∧ Kp H1 H2 (held ++ F) ∧ OutS g W lv H0 A held Lh Lk D H2 (forX (forB tg fb) (xs.drop i) e2), ⟨xs.length, by simp, Nat.zero_le _, e, Fs, T1, .refl, h.kp (.ext e1)⟩, ?_⟩
    rintro i m σ2 H2 ⟨rfl, hi, e2, Fs2, S2, kp, o2⟩
    obtain ⟨stop, step⟩ := it H2 (kp.sub fun b hb => List.mem_append_right _ hb)
    by_cases hlt : i < xs.length
    · have hx : xs[i]? = some xs[i] := by simp [hlt]
      obtain ⟨go, yl⟩ := step i _ hx
      refine .inr ⟨go, fun σ' H' => ∃ e3 Fs3, StR g H0 A (held ++ F) Lh H' σ' e3 Fs3 ∧ Kp H1 H' (held ++ F) ∧ OutS g W lv H0 A held Lh Lk D H' (forX (forB tg fb) (xs.drop (i + 1)) e3), fun σ' H' ⟨e3, Fs3, a, b, c⟩ => ⟨xs.length - (i + 1), by omega, rfl, hlt, e3, Fs3, a, b, c⟩, fun v H3 y => ?_⟩
      obtain ⟨e23, G, rG, subG⟩ := yl v H3 y
      rw [List.drop_eq_getElem_cons hlt, forX_cons] at o2
      unfold forB at o2
      cases qb : bindTg tg xs[i] e2 with
      | none => rw [qb] at o2; exact (show False from o2).elim
      | some e3 =>
        rw [qb] at o2
        refine ht.run her (S2.up e23) rG (fun b hb => List.mem_append_right _ (subG b hb)) qb fun σ3 Fs3 S3 => ⟨held ++ F, e3, Fs3, S3, ?_⟩
        have kp3 : Kp H1 H3 (held ++ F) := kp.trans (.ext e23)
        have o3 : OutS g W lv H0 A held Lh Lk D H3 _ := o2.kp (.ext e23)
        dsimp only at o3
        have subh : ∀ b ∈ held, b ∈ held ++ F := fun b hb => List.mem_append_left _ hb
        cases qf : fb e3 with
        | nx e4 => rw [qf] at o3; exact fun σ' H' Fs' S' k' => ⟨e4, Fs', S'.weak hm, kp3.trans k', o3.kp (k'.sub subh)⟩
        | ct e4 => rw [qf] at o3; exact fun σ' H' Fs' S' k' => ⟨e4, Fs', S', kp3.trans k', o3.kp (k'.sub subh)⟩
        | bk e4 => rw [qf] at o3; exact fun σ' H' Fs' S' k' => o3 σ' H' Fs' (S'.less subh) (k'.sub subh)
        | rt t => rw [qf] at o3; exact fun v H' F' a b c d k' => o3 v H' F' a b c d (k'.sub subh)
        | exc x e4 => rw [qf] at o3; exact fun cls d σ' H' Fs' S' r k' => o3 cls d σ' H' Fs' (S'.less subh) r (k'.sub subh)
        | bad => rw [qf] at o3; exact o3
    · have ei : i = xs.length := by omega
      subst ei
      refine .inl ⟨stop, ?_⟩
      rw [List.drop_length] at o2
      exact o2 σ2 H2 Fs2 (S2.less fun b hb => List.mem_append_left _ hb) .refl

/-! ### while -/
theorem whileN_mono {c : Env → R Bool} {b : Env → SR} : ∀ {n m : Nat} {e : Env} {r : SR}, whileN c b n e = some r → n ≤ m → whileN c b m e = some r
  | 0, _, _, _, h, _ => by cases h
  | n + 1, 0, _, _, _, h => by omega
  | n + 1, m + 1, e, r, h, hm => by
    unfold whileN at h ⊢
    revert h
    cases c e with
    | ok k =>
      cases k with
      | true =>
        dsimp only
        cases b e with
        | nx e' => exact fun h => whileN_mono h (by omega)
        | ct e' => exact fun h => whileN_mono h (by omega)
        | _ => exact id
      | false => exact id
    | exc x => exact id
    | bad => exact id
theorem whileX_eq {c : Env → R Bool} {b : Env → SR} {n : Nat} {e : Env} {r : SR} (h : whileN c b n e = some r) : whileX c b e = r := by
  unfold whileX
  have hx : ∃ r, ∃ n, whileN c b n e = some r := ⟨r, n, h⟩
  rw [dif_pos hx]
  obtain ⟨m, hm⟩ := Classical.choose_spec hx
  have h1 := whileN_mono hm (Nat.le_max_left m n)
  have h2 := whileN_mono h (Nat.le_max_right m n)
  rw [h1] at h2
  exact Option.some.inj h2
theorem whileX_of {c : Env → R Bool} {b : Env → SR} {e : Env} : whileX c b e = .bad ∨ ∃ n, whileN c b n e = some (whileX c b e) := by
  by_cases hx : ∃ r, ∃ n, whileN c b n e = some r
  · refine .inr ?_
    have : whileX c b e = Classical.choose hx := by unfold whileX; rw [dif_pos hx]
    rw [this]
    exact Classical.choose_spec hx
  · refine .inl ?_
    unfold whileX
    rw [dif_neg hx]
theorem sv_while {c : Expr} {fc : Env → R T} (hp : PassesOwn (model X.prog X.w) X.A X.env X.xe) (hc : PT X c (TTv g W vs fun e => truth (fc e)))
    (hb : PSs X body (TSv g W lv H0 A held Lh Lm Lh fb)) (hm : ∀ i, lvA Lh i ≤ lvA Lm i) (hh : ∀ i, lvA Lh i ≤ lvA L i) :
    PS X (.While c body [] pos) (TSv g W lv H0 A held L Lh Lk fun e => whileX (fun e => truth (fc e)) fb e) := by
  refine PS.imp (ps_while hp hc hb) fun D σ H ⟨e, Fs, S, h⟩ => ?_
  dsimp only at h
  rcases whileX_of (c := fun e => truth (fc e)) (b := fb) (e := e) with q | ⟨n, q⟩
  · rw [q] at h; exact h.elim
  · refine ⟨fun m σ2 H2 => ∃ e2 Fs2 r, StR g H0 A held Lh H2 σ2 e2 Fs2 ∧ whileN (fun e => truth (fc e)) fb m e2 = some r ∧ OutS g W lv H0 A held Lh Lk D H2 r, ⟨n, e, Fs, _, S.weak hh, q, h⟩, ?_⟩
    rintro m σ2 H2 ⟨e2, Fs2, r, S2, q2, o2⟩
    cases m with
    | zero => cases q2
    | succ m =>
      unfold whileN at q2
      refine ⟨e2, Fs2, S2.env, ?_⟩
      dsimp only at q2 ⊢
      cases qc : truth (fc e2) with
      | exc x =>
        rw [qc] at q2
        cases q2
        exact fun cls d H' a b => o2 cls d σ2 H' Fs2 ((S2.up a).weak fun i => lv0_le i) (b.imp fun x hx => hx.elim (fun z => .inl (S2.ext.none z)) fun ⟨i, _, q⟩ => S2.pro i x q) (.ext a)
      | bad =>
        rw [qc] at q2
        cases q2
        exact o2
      | ok k =>
        rw [qc] at q2
        intro H3 e3
        have S3 := S2.up e3
        cases k with
        | false =>
          cases q2
          exact o2 σ2 H3 Fs2 S3 (.ext e3)
        | true =>
          rw [if_pos rfl]
          refine ⟨fun σ' H' => ∃ e2 Fs2 r, StR g H0 A held Lh H' σ' e2 Fs2 ∧ whileN (fun e => truth (fc e)) fb m e2 = some r ∧ OutS g W lv H0 A held Lh Lk D H' r, fun σ' H' z => ⟨m, Nat.lt_succ_self _, z⟩, e2, Fs2, S3, ?_⟩
          have o3 : OutS g W lv H0 A held Lh Lk D H3 r := o2.kp (.ext e3)
          dsimp only at q2
          cases qf : fb e2 with
          | nx e4 => rw [qf] at q2; exact fun σ' H' Fs' S' k' => ⟨e4, Fs', r, S'.weak hm, q2, o3.kp k'⟩
          | ct e4 => rw [qf] at q2; exact fun σ' H' Fs' S' k' => ⟨e4, Fs', r, S', q2, o3.kp k'⟩
          | bk e4 => rw [qf] at q2; cases q2; exact fun σ' H' Fs' S' k' => o3 σ' H' Fs' S' k'
          | rt t => rw [qf] at q2; cases q2; exact o3
          | exc x e4 => rw [qf] at q2; cases q2; exact o3
          | bad => rw [qf] at q2; cases q2; exact o3
end
end Wt

/-! Snd14: list comprehensions. -/
namespace Wt
open PySem PySem.Spec PyProof.Rows L2

/-- inside a block no exception leaves -/
def WF : WX := fun _ _ _ _ => False
theorem takes_blk {X : Cx} {s : Shared} {H : Hp} {scope : Scope} {cenv : PySem.Env} {fp : List Addr} : Takes (X.blk s H scope cenv fp) WF := fun u s' ⟨_, _, _, _, _, _, _, _, _, _, _, _, _, _, _, _, w⟩ => w

theorem wipe_get {σ : L2.St} {i : Nat} : ∀ {vs : List Nat}, i ∉ vs → (wipe σ vs)[i]? = σ[i]? := fun h => wipe_out h
theorem wipe_in {σ : L2.St} : ∀ {vs : List Nat} {i : Nat} {v : V}, i ∈ vs → (wipe σ vs)[i]? ≠ some (some v)
  | j :: js, i, v, h => by
    unfold wipe
    rw [get_set]
    by_cases e : i = j
    · rw [if_pos e]
      split
      · exact fun z => by cases z
      · exact fun z => by cases z
    · rw [if_neg e]
      rcases List.mem_cons.mp h with h | h
      · exact absurd h e
      · exact wipe_in h
theorem wipe_ext {σ σ' : L2.St} {vs : List Nat} (hl : σ.length = σ'.length) (h : ∀ i, i ∉ vs → σ[i]? = σ'[i]?) : wipe σ vs = wipe σ' vs := by
  have key : ∀ (σ : L2.St) (vs : List Nat) (i : Nat), (wipe σ vs)[i]? = if i ∈ vs then (if i < σ.length then some none else none) else σ[i]? := by
    intro σ vs
    induction vs with
    | nil => intro i; simp [wipe]
    | cons j js ih =>
      intro i
      unfold wipe
      rw [get_set, wipe_length]
      by_cases e : i = j
      · subst e
        simp
      · rw [if_neg e, ih]
        have : (i ∈ j :: js) ↔ i ∈ js := by simp [e]
        by_cases hi : i ∈ js
        · rw [if_pos hi, if_pos (this.mpr hi)]
        · rw [if_neg hi, if_neg (fun z => hi (this.mp z))]
  refine List.ext_getElem? fun i => ?_
  rw [key, key]
  by_cases hi : i ∈ vs
  · rw [if_pos hi, if_pos hi, hl]
  · rw [if_neg hi, if_neg hi, h i hi]

/-- slots as they stand, but for those in vs -/
structure EnvW (g : Cfg) (H : Hp) (σ : L2.St) (e : Env) (vs : List Nat) (Fs : Nat → List Addr) : Prop where
  len : σ.length = e.length
  at_ : ∀ i t, i ∉ vs → e[i]? = some (some t) → ∃ v, σ[i]? = some (some v) ∧ Rep g H t v (Fs i)
structure TgC (g : Cfg) (tg : Tg) (gt : TG) : Prop where
  run : ∀ {H : Hp} {σ : L2.St} {e e' : Env} {Fs : Nat → List Addr} {t : T} {v : V} {F : List Addr} {Q : L2.St → Hp → Prop}, g.er = none → EnvW g H σ e (tgI tg) Fs → Rep g H t v F → bindTg tg t e = some e' →
    (∀ σ' Fs', σ'.length = σ.length → (∀ i, i ∉ tgI tg → σ'[i]? = σ[i]?) → EnvR g H σ' e' Fs' → (∀ i, ∀ b ∈ Fs' i, b ∈ F ∨ (i ∉ tgI tg ∧ b ∈ Fs i)) → Q σ' H) → gt v σ H Q
theorem EnvW.put {g : Cfg} {H : Hp} {σ : L2.St} {e : Env} {x : Nat} {vs : List Nat} {Fs : Nat → List Addr} {t : T} {v : V} {F : List Addr} (h : EnvW g H σ e (x :: vs) Fs) (r : Rep g H t v F) : EnvW g H (σ.set x (some v)) (e.set x (some t)) vs (putF Fs x F) := by
  refine ⟨by rw [List.length_set, List.length_set, h.len], fun i u hi q => ?_⟩
  rw [get_set] at q
  by_cases e1 : i = x
  · subst e1
    rw [if_pos rfl] at q
    split at q
    · rename_i hl
      cases q
      exact ⟨v, by rw [get_set, if_pos rfl, if_pos (by rw [h.len]; exact hl)], by rw [putF_same]; exact r⟩
    · cases q
  · rw [if_neg e1] at q
    obtain ⟨w, w1, w2⟩ := h.at_ i u (by simp [e1, hi]) q
    exact ⟨w, by rw [get_set, if_neg e1]; exact w1, by rw [putF_ne e1]; exact w2⟩
theorem EnvW.env {g : Cfg} {H : Hp} {σ : L2.St} {e : Env} {Fs : Nat → List Addr} (her : g.er = none) (h : EnvW g H σ e [] Fs) : EnvR g H σ e Fs := ⟨h.len, fun i t q => h.at_ i t (by simp) q, by unfold ErrCx; rw [her]; trivial⟩
theorem tgc_one {g : Cfg} {x : Nat} : TgC g (.one x) (gName x) := by
  refine ⟨fun {H σ e e' Fs t v F Q} her h r hb k => ?_⟩
  cases hb
  refine k _ (putF Fs x F) (by rw [List.length_set]) (fun i hi => ?_) ((EnvW.put (vs := []) h r).env her) fun i b hb => ?_
  · rw [get_set, if_neg (fun z => hi (by rw [z]; exact List.mem_singleton.mpr rfl))]
  · by_cases e1 : i = x
    · subst e1; rw [putF_same] at hb; exact .inl hb
    · rw [putF_ne e1] at hb; exact .inr ⟨by simpa [tgI] using e1, hb⟩
theorem tgc_list {g : Cfg} {H : Hp} {F0 : List Addr} : ∀ {js : List Nat} {σ : L2.St} {e e' : Env} {Fs : Nat → List Addr} {ts : List T} {vs : List V} {F : List Addr} {Q : L2.St → Hp → Prop}, EnvW g H σ e js Fs → RepL g H ts vs F → (∀ b ∈ F, b ∈ F0) →
    setAll js ts e = some e' → (∀ σ' Fs', σ'.length = σ.length → (∀ i, i ∉ js → σ'[i]? = σ[i]?) → EnvW g H σ' e' [] Fs' → (∀ i, ∀ b ∈ Fs' i, b ∈ F0 ∨ (i ∉ js ∧ b ∈ Fs i)) → Q σ' H) → gNames js vs σ H Q
  | [], σ, e, e', Fs, [], vs, F, Q, S, r, pf, hb, k => by
    cases hb
    rw [RepL] at r
    exact ⟨r.1, k σ Fs rfl (fun _ _ => rfl) S fun i b hb => .inr ⟨by simp, hb⟩⟩
  | [], _, _, _, _, _ :: _, _, _, _, _, _, _, hb, _ => by cases hb
  | _ :: _, _, _, _, _, [], _, _, _, _, _, _, hb, _ => by cases hb
  | j :: js, σ, e, e', Fs, t :: ts, vs, F, Q, S, r, pf, hb, k => by
    rw [RepL] at r
    obtain ⟨v, vr, F1, F2, rfl, r1, r2, rfl⟩ := r
    refine ⟨v, vr, rfl, ?_⟩
    refine tgc_list (EnvW.put S r1) r2 (fun b hb => pf b (List.mem_append_right _ hb)) hb fun σ' Fs' hl hk S' hf => k σ' Fs' (by rw [hl, List.length_set]) (fun i hi => ?_) S' fun i b hb => ?_
    · rw [hk i (fun z => hi (List.mem_cons_of_mem _ z)), get_set, if_neg (fun z => hi (by rw [z]; exact List.mem_cons_self))]
    · rcases hf i b hb with z | ⟨z1, z2⟩
      · exact .inl z
      · by_cases e1 : i = j
        · subst e1; rw [putF_same] at z2; exact .inl (pf b (List.mem_append_left _ z2))
        · rw [putF_ne e1] at z2; exact .inr ⟨by simp [e1, z1], z2⟩
theorem tgc_many {g : Cfg} {js : List Nat} {K : PySem.W.Frag} : TgC g (.many js) (gTup K js.length (gNames js)) := by
  refine ⟨fun {H σ e e' Fs t v F Q} her S r hb k => ?_⟩
  cases t with
  | tup ts =>
    have hb : setAll js ts e = some e' := hb
    rw [rep_tup] at r
    obtain ⟨a, vs, rfl, h1, h2⟩ := r
    exact ⟨a, vs, rfl, SqT.of h1, by rw [h2.len, setAll_len hb], tgc_list S h2 (fun b hb => hb) hb fun σ' Fs' a b c d => k σ' Fs' a b (c.env her) d⟩
  | _ => cases hb

theorem EnvR.norm {g : Cfg} {H : Hp} {σ : L2.St} {e : Env} {Fs : Nat → List Addr} (her : g.er = none) (h : EnvR g H σ e Fs) : ∃ Fs', EnvR g H σ e Fs' ∧ (∀ i, ∀ b ∈ Fs' i, b ∈ Fs i) ∧ ∀ i, ∀ b ∈ Fs' i, H b ≠ none := by
  refine ⟨fun i => match e[i]? with | some (some _) => Fs i | _ => [], ⟨h.len, fun i t q => ?_, by unfold ErrCx; rw [her]; trivial⟩, fun i b hb => ?_, fun i b hb => ?_⟩
  · obtain ⟨v, v1, v2⟩ := h.at_ i t q
    refine ⟨v, v1, ?_⟩
    rw [q]
    exact v2
  · revert hb
    dsimp only
    split
    · exact id
    · exact fun z => by cases z
  · revert hb
    dsimp only
    split
    · rename_i t q
      intro hb
      obtain ⟨v, v1, v2⟩ := h.at_ i t q
      exact v2.dom b hb
    · exact fun z => by cases z
section
variable {X : Cx} {g : Cfg} {W : WX} {n m : Nat} {vs vc ve : List Nat} {pos : Pos} {tgE iter elt : Expr} {ifs : List Expr} {scope : Scope} {fw : Env → R (List T)} {fc : Env → R Bool} {fe : Env → R T} {tg : Tg} {gt : TG}
def compF (tg : Tg) (fw : Env → R (List T)) (fc : Env → R Bool) (fe : Env → R T) (e : Env) : R T := (fw e).bnd fun xs => chk (Nat.ble xs.length LIM) ((compL tg fc fe e xs).bnd fun r => .ok (.lst r))
theorem bnd_assoc {α β γ : Type} {r : R α} {f : α → R β} {h : β → R γ} : (r.bnd f).bnd h = r.bnd fun a => (f a).bnd h := by cases r <;> rfl
/-- a comprehension's reading -/
theorem lc_imp (her : g.er = none) (hn : n ≤ m + 1) (hm : m ≤ 1) (ht : TgC g tg gt) {σ : L2.St} {H : Hp} {Q : VK} (h : TEv g W n (vs ++ ve) (compF tg fw fc fe) σ H Q) :
    tLc (TIv g W vs fw) gt (TTv g WF vc fc) (TEv g WF m ve fe) (tgI tg) σ H Q := by
  obtain ⟨e, Fs0, hE0, h⟩ := h
  obtain ⟨Fs, hE, hs, hdm⟩ := hE0.norm her
  have h : Out g W n (fun b => ∃ j ∈ vs ++ ve, b ∈ Fs j) σ H Q (compF tg fw fc fe e) := h.low (Nat.le_refl _) fun b ⟨i, hi, hb⟩ => ⟨i, hi, hs i b hb⟩
  refine ⟨e, Fs, hE, ?_⟩
  unfold compF at h
  cases qw : fw e with
  | exc x => rw [qw] at h; exact fun cls d H' a b => h cls d H' a (b.imp fun x hx => hx.imp id fun ⟨i, hi, q⟩ => ⟨i, List.mem_append_left _ hi, q⟩)
  | bad => rw [qw] at h; exact h
  | ok xs =>
    rw [qw, R.bnd_ok] at h
    obtain ⟨hlen, h⟩ := Out.chk h
    have hlen : xs.length ≤ LIM := Nat.le_of_ble_eq_true hlen
    intro J H1 F e1 it pf D hD
    have HD : H D = none := e1.none hD
    have kpF : ∀ {H2 : Hp} {G : List Addr}, ExtB D (upd H1 D (.lst [])) H2 → D ∉ G → Kp H1 H2 G := fun k nd => ⟨fun b hb o q => k b o (fun z => nd (by rw [← z]; exact hb)) (by rw [upd_ne (fun z => nd (by rw [← z]; exact hb))]; exact q), fun b ys q => by
      have nb : b ≠ D := ne_of_none q hD
      exact k b _ nb (by rw [upd_ne nb]; exact q), fun b o u q => by
      have nb : b ≠ D := ne_of_none q hD
      exact k b _ nb (by rw [upd_ne nb]; exact q)⟩
    have ndF : D ∉ F := fun z => (pf D z).2 hD
    refine ⟨fun i k H2 => k = xs.length - i ∧ i ≤ xs.length ∧ ExtB D (upd H1 D (.lst [])) H2 ∧ ∃ ts acc G, H2 D = some (.lst acc) ∧ RepL g H2 ts acc G ∧ D ∉ G ∧ ts.length ≤ i ∧ (∀ b ∈ G, H b = none ∨ ∃ j ∈ vs ++ ve, b ∈ Fs j) ∧
      (1 ≤ m → flat2 ts = true → G.Nodup ∧ ∀ b ∈ G, H b = none) ∧ Out g W n (fun b => ∃ j ∈ vs ++ ve, b ∈ Fs j) σ H Q ((compL tg fc fe e (xs.drop i)).bnd fun r => .ok (.lst (ts ++ r))),
      ⟨xs.length, by simp, Nat.zero_le _, fun _ _ _ q => q, [], [], [], upd_same, RepL.nil, by simp, Nat.le_refl _, (fun _ z => by cases z), (fun _ _ => ⟨List.nodup_nil, fun _ z => by cases z⟩), h⟩, ?_⟩
    rintro i k H2 ⟨rfl, hi, ex, ts, acc, G, hacc, rG, ndG, htl, pG, fl, o2⟩
    obtain ⟨stop, step⟩ := it H2 (kpF ex ndF)
    have e02 : Ext H H2 := fun b o q => ex b o (ne_of_none q HD) (by rw [upd_ne (ne_of_none q HD)]; exact e1 b o q)
    by_cases hlt : i < xs.length
    · have hx : xs[i]? = some xs[i] := by simp [hlt]
      obtain ⟨go, yl⟩ := step i _ hx
      refine .inr ⟨go, fun H' => i + 1 ≤ xs.length ∧ ExtB D (upd H1 D (.lst [])) H' ∧ ∃ ts acc G, H' D = some (.lst acc) ∧ RepL g H' ts acc G ∧ D ∉ G ∧ ts.length ≤ i + 1 ∧ (∀ b ∈ G, H b = none ∨ ∃ j ∈ vs ++ ve, b ∈ Fs j) ∧
        (1 ≤ m → flat2 ts = true → G.Nodup ∧ ∀ b ∈ G, H b = none) ∧ Out g W n (fun b => ∃ j ∈ vs ++ ve, b ∈ Fs j) σ H Q ((compL tg fc fe e (xs.drop (i + 1))).bnd fun r => .ok (.lst (ts ++ r))), fun H' z => ⟨xs.length - (i + 1), by omega, rfl, z⟩, fun v H3 y => ?_⟩
      obtain ⟨e23, Gx, rx, subx⟩ := yl v H3 y
      rw [List.drop_eq_getElem_cons hlt] at o2
      have o2 : Out g W n (fun b => ∃ j ∈ vs ++ ve, b ∈ Fs j) σ H Q ((match bindTg tg xs[i] e with
        | none => .bad
        | some e' => match fc e' with
          | .ok true => (match fe e' with
            | .ok t => (compL tg fc fe e (xs.drop (i + 1))).bnd fun r => .ok (t :: r)
            | _ => .bad)
          | .ok false => compL tg fc fe e (xs.drop (i + 1))
          | _ => .bad : R (List T)).bnd fun r => .ok (.lst (ts ++ r))) := o2
      cases qb : bindTg tg xs[i] e with
      | none => rw [qb] at o2; exact o2.elim
      | some e' =>
        rw [qb] at o2
        dsimp only at o2
        have e03 : Ext H H3 := e02.trans e23
        have EW : EnvW g H3 (wipe σ (tgI tg)) e (tgI tg) Fs := ⟨by rw [wipe_length, hE.len], fun j t hj q => by
          obtain ⟨w, w1, w2⟩ := hE.at_ j t q
          exact ⟨w, by rw [wipe_get hj]; exact w1, w2.ext e03⟩⟩
        refine ht.run her EW rx qb fun σ2 Fs2 hl2 hk2 hE2 hf2 => ⟨?_, ?_⟩
        · refine wipe_ext (by rw [hl2, wipe_length]) fun j hj => ?_
          rw [hk2 j hj, wipe_get hj]
        have prov : ∀ {us : List Nat}, (∀ j ∈ us, j ∈ vs ++ ve) → ∀ b, (∃ j ∈ us, b ∈ Fs2 j) → H b = none ∨ ∃ j ∈ vs ++ ve, b ∈ Fs j := fun hu b ⟨j, hj, hb⟩ => by
          rcases hf2 j b hb with z | ⟨_, z⟩
          · exact (pf b (subx b z)).1.imp id fun ⟨q, q1, q2⟩ => ⟨q, List.mem_append_left _ q1, q2⟩
          · exact .inr ⟨j, hu j hj, z⟩
        refine ⟨e', Fs2, hE2, ?_⟩
        cases qc : fc e' with
        | exc x => rw [qc] at o2; exact (show False from o2).elim
        | bad => rw [qc] at o2; exact (show False from o2).elim
        | ok b =>
          rw [qc] at o2
          intro H4 e34
          have ex4 : ExtB D (upd H1 D (.lst [])) H4 := fun b o nb q => e34 b o (e23 b o (ex b o nb q))
          have hD4 : H4 D = some (.lst acc) := e34 _ _ (e23 _ _ hacc)
          have rG4 := (rG.ext e23).ext e34
          cases b with
          | false =>
            rw [if_neg Bool.false_ne_true]
            exact ⟨hlt, ex4, ts, acc, G, hD4, rG4, ndG, Nat.le_succ_of_le htl, pG, fl, o2⟩
          | true =>
            rw [if_pos rfl]
            refine ⟨e', Fs2, hE2.ext e34, ?_⟩
            dsimp only at o2
            cases qe : fe e' with
            | exc x => rw [qe] at o2; exact (show False from o2).elim
            | bad => rw [qe] at o2; exact (show False from o2).elim
            | ok t =>
              rw [qe] at o2
              intro yv H5 F5 e45 r5 l5 p5
              have hD5 := e45 _ _ hD4
              have rG5 := rG4.ext e45
              have nd5 : D ∉ F5 := fun z => by
                rcases p5 D z with q | ⟨j, hj, q⟩
                · rw [hD4] at q; cases q
                · rcases hf2 j D q with w | ⟨_, w⟩
                  · exact ndF (subx D w)
                  · exact hdm j D w HD
              refine ⟨acc, hD5, ?_, hlt, ?_, ts ++ [t], acc ++ [yv], G ++ F5, upd_same, ?_, ?_, ?_, ?_, ?_, ?_⟩
              · rw [rG.len, lim_eq]; omega
              · intro b o nb q
                rw [upd_ne nb]
                exact e45 b o (ex4 b o nb q)
              · have kpD : ∀ {G : List Addr}, D ∉ G → Kp H5 (upd H5 D (.lst (acc ++ [yv]))) G := fun nd => ⟨fun b hb o q => by rw [upd_ne (fun z => nd (by rw [← z]; exact hb))]; exact q, fun b ys q => by rw [upd_ne (ne_of q hD5 (by intro z; cases z))]; exact q, fun b o u q => by rw [upd_ne (ne_of q hD5 (by intro z; cases z))]; exact q⟩
                have r5' : RepL g H5 [t] [yv] F5 := by
                  have := RepL.cons r5 (RepL.nil (g := g) (H := H5))
                  rwa [List.append_nil] at this
                exact (rG5.append r5').kp (kpD fun z => (List.mem_append.mp z).elim ndG nd5)
              · exact fun z => (List.mem_append.mp z).elim ndG nd5
              · rw [List.length_append]; exact Nat.succ_le_succ htl
              · intro b hb
                rcases List.mem_append.mp hb with hb | hb
                · exact pG b hb
                · rcases p5 b hb with q | q
                  · exact .inl (e03.none (e34.none q))
                  · exact prov (us := ve) (fun j hj => List.mem_append_right _ hj) b q
              · intro hm1 f2
                rw [flat2_app, Bool.and_eq_true] at f2
                obtain ⟨n1, n2⟩ := fl hm1 f2.1
                obtain ⟨m1, m2⟩ := lv_flat (n := 0) r5 (l5.low hm1) f2.2
                refine ⟨?_, fun b hb => ?_⟩
                · rw [List.nodup_append]
                  refine ⟨n1, m1, fun c hc d hd q => ?_⟩
                  subst q
                  exact rG4.dom c hc (m2 c hd)
                · rcases List.mem_append.mp hb with hb | hb
                  · exact n2 b hb
                  · exact e03.none (e34.none (m2 b hb))
              · dsimp only at o2
                rw [bnd_assoc] at o2
                have eq : (fun r => R.ok (T.lst (ts ++ [t] ++ r))) = fun r => R.ok (T.lst (ts ++ (t :: r))) := funext fun r => by rw [List.append_assoc]; rfl
                rw [eq]
                exact o2
    · have ei : i = xs.length := by omega
      subst ei
      refine .inl ⟨stop, ?_⟩
      rw [List.drop_length] at o2
      have o2 : Out g W n (fun b => ∃ j ∈ vs ++ ve, b ∈ Fs j) σ H Q (.ok (.lst (ts ++ []))) := o2
      rw [List.append_nil] at o2
      refine o2 (.ref D) H2 (D :: G) e02 ?_ ?_ ?_
      · rw [rep_lst]; exact ⟨D, acc, G, rfl, hacc, rG, rfl⟩
      · match n, hn with
        | 0, _ => trivial
        | 1, _ => exact fun ys ey => ⟨D, G, rfl, rfl, HD, ndG⟩
        | q + 2, hn =>
          refine ⟨fun ys ey => ⟨D, G, rfl, rfl, HD, ndG⟩, fun ys ey f2 => ?_⟩
          cases ey
          obtain ⟨n1, n2⟩ := fl (by omega) f2
          refine ⟨List.nodup_cons.mpr ⟨ndG, n1⟩, fun b hb => ?_⟩
          rcases List.mem_cons.mp hb with rfl | hb
          · exact HD
          · exact n2 b hb
      · intro b hb
        rcases List.mem_cons.mp hb with rfl | hb
        · exact .inl HD
        · exact pG b hb

/-- the tests of a clause -/
theorem pts_nilT : PTs X [] (TTv g W [] fun _ => .ok true) := by
  refine ⟨fun pins s σ H Q I h => ?_⟩
  obtain ⟨e, Fs, he, h⟩ := h
  exact pts_nil.run pins s σ H Q I (h H (.refl H))
theorem ev_comp {own : List (Str × Nat)} (her : g.er = none) (hn : n ≤ m + 1) (hm : m ≤ 1) (ht : TgC g tg gt) (hc : X.calm = true) (hN : X.N.Nodup) (hi : PI X tgE iter (TIv g W vs fw)) (ok : BlkOk X.N X.env.scope scope own) (ho : own.map (·.2) = tgI tg)
    (hg : ∀ (s : Shared) (H : Hp) (C : Addr) (cl : List (Str × Addr)) (fp : List Addr), PG (X.blk s H scope (compEnvC scope cl C X.env) fp) tgE gt) (hts : ∀ (s : Shared) (H : Hp) (C : Addr) (cl : List (Str × Addr)) (fp : List Addr), PTs (X.blk s H scope (compEnvC scope cl C X.env) fp) ifs (TTv g WF vc fc))
    (he : ∀ (s : Shared) (H : Hp) (C : Addr) (cl : List (Str × Addr)) (fp : List Addr), PE (X.blk s H scope (compEnvC scope cl C X.env) fp) elt (TEv g WF m ve fe)) (hs : notSet iter = true) :
    PE X (.ListComp elt [⟨tgE, iter, ifs, 0⟩] scope pos) (TEv g W n (vs ++ ve) (compF tg fw fc fe)) :=
  PE.imp (pe_lc hc hN hi ok hg hts he (fold_no hs)) fun σ H Q h => by
    rw [ho]
    exact lc_imp her hn hm ht h
end
section
variable {X : Cx} {g : Cfg} {W : WX} {lv : Nat} {H0 : Hp} {A : Addr → Prop} {held : List Addr} {L Lk : List Nat} {n m : Nat} {vs vc ve : List Nat} {pos p : Pos} {tgE iter elt : Expr} {ifs : List Expr} {scope : Scope} {fw : Env → R (List T)} {fc : Env → R Bool} {fe : Env → R T} {tg : Tg} {gt : TG} {x : Nat} {y : Str} {spos : Pos}
/-- name = [..] on one line -/
theorem sv_asgC {own : List (Str × Nat)} {gd : Bool} (her : g.er = none) (hn : n ≤ m + 1) (hm : m ≤ 1) (ht : TgC g tg gt) (hc : X.calm = true) (hN : X.N.Nodup) (hy : X.N[x]? = some y) (hyl : X.env.scope.names.lookup y = some .local)
    (hsw : swapsWith (.ListComp elt [⟨tgE, iter, ifs, 0⟩] scope pos) (some (.Name y p)) spos.line X.env = pure true) (hi : PI X tgE iter (TIv g W vs fw)) (ok : BlkOk X.N X.env.scope scope own) (ho : own.map (·.2) = tgI tg)
    (hg : ∀ (s : Shared) (H : Hp) (C : Addr) (cl : List (Str × Addr)) (fp : List Addr), PG (X.blk s H scope (compEnvC scope cl C X.env) fp) tgE gt) (hts : ∀ (s : Shared) (H : Hp) (C : Addr) (cl : List (Str × Addr)) (fp : List Addr), PTs (X.blk s H scope (compEnvC scope cl C X.env) fp) ifs (TTv g WF vc fc))
    (he : ∀ (s : Shared) (H : Hp) (C : Addr) (cl : List (Str × Addr)) (fp : List Addr), PE (X.blk s H scope (compEnvC scope cl C X.env) fp) elt (TEv g WF m ve fe)) (hs : notSet iter = true) :
    PS X (.Assign [.Name y p] (.ListComp elt [⟨tgE, iter, ifs, 0⟩] scope pos) spos) (TSv g W lv H0 A held L ((dropG gd (vs ++ ve) L).set x n) Lk fun e => (compF tg fw fc fe e).st e fun t => grd gd t (.nx (e.set x (some t)))) :=
  PS.imp (ps_setLc hc hN hy hyl hsw hi ok hg hts he (fold_no hs)) fun D σ H ⟨e, Fs, S, h⟩ => by
    show tLc _ _ _ _ _ σ H _
    rw [ho]
    refine lc_imp her hn hm ht (st1 (k := fun t => grd gd t (.nx (e.set x (some t)))) S h fun t v F H1 e1 S1 r l pf h => ?_)
    obtain ⟨hg, h⟩ := out_grd h
    obtain ⟨Fs', S2⟩ := StR.put S S1 r l (fun b hb => (pf b hb).imp id .inl) hg (by omega) (fun q z => by rw [her] at z; cases z)
    exact h _ _ Fs' S2 .refl
end
end Wt

/-! Snd15: built-ins. -/
namespace Wt
open PySem PySem.Spec PyProof.Rows L2

section
variable {X : Cx} {g : Cfg} {W : WX} {P : Prog} {cl : Nat → List T → R T} {n : Nat}
/-- one argument -/
def Call1 (X : Cx) (g : Cfg) (W : WX) (n : Nat) (f : Value) (k : T → R T) : Prop :=
  ∀ (pins : List (Addr × Obj)) (s : Shared) (σ : L2.St) (Hb H : Hp) (A : Addr → Prop) (Q : VK) (x : V) (u : Value) (t : T) (F : List Addr), Inv X pins σ H s → Ext Hb H → RelV x u → Rep g H t x F → (∀ b ∈ F, Hb b = none ∨ A b) →
    Out g W n A σ Hb Q (k t) → wpAny (model X.prog X.w) X.A (call f [u]) (EP X pins σ Q) X.xe s
theorem items_seq {K : PySem.W.Frag} {H : Hp} {t : T} {x : V} {F : List Addr} {xs : List T} (r : Rep g H t x F) (h : items t = some xs) : ∃ p ws G, x = .ref p ∧ (SqL K H p ws ∨ SqT K H p ws) ∧ RepL g H xs ws G ∧ ∀ b ∈ G, b ∈ F := by
  cases t with
  | lst ys =>
    cases h
    rw [rep_lst] at r
    obtain ⟨a, ws, G, rfl, h1, h2, rfl⟩ := r
    exact ⟨a, ws, G, rfl, .inl (SqL.of h1), h2, fun b hb => List.mem_cons_of_mem _ hb⟩
  | tup ys =>
    cases h
    rw [rep_tup] at r
    obtain ⟨a, ws, rfl, h1, h2⟩ := r
    exact ⟨a, ws, F, rfl, .inr (SqT.of h1), h2, fun b hb => hb⟩
  | _ => cases h
theorem c1_len (hK : g.K = X.K) (hd : Call1 X g W n (.builtin "len") fun t => match t with | .ins c _ _ => mcall P cl c mLen [t] | _ => .bad) : Call1 X g W n (.builtin "len") (blt1 P cl .len) := by
  intro pins s σ Hb H A Q x u t F I eb rx r pf h
  have go : ∀ xs, items t = some xs → Out g W n A σ Hb Q (.ok (.int xs.length)) → wpAny (model X.prog X.w) X.A (call (.builtin "len") [u]) (EP X pins σ Q) X.xe s := fun xs hx h => by
    obtain ⟨p, ws, G, ex, hs, rl, _⟩ := items_seq (K := X.K) r hx
    exact call_len_seq pins s σ H [x] [u] Q I (.cons rx .nil) ⟨p, ws, by rw [ex], hs, by rw [rl.len]; exact ok_int eb h⟩
  cases t with
  | lst xs => exact go xs rfl h
  | tup xs => exact go xs rfl h
  | scr ns =>
    rw [rep_scr] at r
    obtain ⟨⟨p, ex, hs⟩, _⟩ := r
    have h : Out g W n A σ Hb Q (.ok (.int ns.length)) := h
    exact call_len_seq pins s σ H [x] [u] Q I (.cons rx .nil) ⟨p, ns.map V.int, by rw [ex], .inl (by rw [← hK]; exact hs.sq), by rw [List.length_map]; exact ok_int eb h⟩
  | ins c ks ts => exact hd pins s σ Hb H A Q x u _ F I eb rx r pf h
  | _ => exact (show False from h).elim
theorem c1_abs : Call1 X g W n (.builtin "abs") (blt1 P cl .abs) := by
  intro pins s σ Hb H A Q x u t F I eb rx r pf h
  cases t with
  | int i =>
    rw [rep_i] at r
    have h : Out g W n A σ Hb Q (.ok (.int i.natAbs)) := h
    refine call_abs pins s σ H [x] [u] Q I (.cons rx .nil) ⟨i, by rw [r.1], ?_⟩
    have e : (if i < 0 then -i else i) = (i.natAbs : Int) := by split <;> omega
    rw [e]
    exact ok_int eb h
  | _ => exact (show False from h).elim
theorem c1_int : Call1 X g W n (.type "int") (blt1 P cl .int) := by
  intro pins s σ Hb H A Q x u t F I eb rx r pf h
  cases t with
  | int i =>
    rw [rep_i] at r
    exact call_int1 pins s σ H [x] [u] Q I (.cons rx .nil) (.inl ⟨i, by rw [r.1], ok_int eb h⟩)
  | bl b =>
    rw [rep_b] at r
    exact call_int1 pins s σ H [x] [u] Q I (.cons rx .nil) (.inr ⟨b, by rw [r.1], ok_int eb h⟩)
  | _ => exact (show False from h).elim
theorem c1_list (hn : n ≤ 1) : Call1 X g W n (.type "list") (blt1 P cl .list) := by
  intro pins s σ Hb H A Q x u t F I eb rx r pf h
  have h : Out g W n A σ Hb Q ((ofO (items t)).bnd fun xs => .ok (.lst xs)) := h
  cases q : items t with
  | none => rw [q] at h; exact h.elim
  | some xs =>
    rw [q] at h
    obtain ⟨p, ws, G, ex, hs, rl, sub⟩ := items_seq (K := X.K) r q
    exact call_list_of pins s σ H [x] [u] Q I (.cons rx .nil) ⟨p, ws, by rw [ex], hs, fun l hl => ok_lst eb hl rl (fun b hb => pf b (sub b hb)) hn h⟩
theorem c1_tuple : Call1 X g W n (.type "tuple") (blt1 P cl .tuple) := by
  intro pins s σ Hb H A Q x u t F I eb rx r pf h
  cases t with
  | lst xs =>
    have h : Out g W n A σ Hb Q (.ok (.tup xs)) := h
    rw [rep_lst] at r
    obtain ⟨a, ws, G, ex, h1, h2, eF⟩ := r
    exact call_tuple_of pins s σ H [x] [u] Q I (.cons rx .nil) ⟨a, ws, by rw [ex], .inl ⟨SqL.of h1, fun l hl => ok_tup eb hl h2 (fun b hb => pf b (by rw [eF]; exact List.mem_cons_of_mem _ hb)) h⟩⟩
  | tup xs =>
    have h : Out g W n A σ Hb Q (.ok (.tup xs)) := h
    have r' := r
    rw [rep_tup] at r
    obtain ⟨a, ws, ex, h1, h2⟩ := r
    exact call_tuple_of pins s σ H [x] [u] Q I (.cons rx .nil) ⟨a, ws, by rw [ex], .inr ⟨SqT.of h1, by rw [← ex]; exact ok_old eb r' pf (.inr fun _ z => by cases z) h⟩⟩
  | _ => exact (show False from h).elim

/-- two arguments -/
def Call2 (X : Cx) (g : Cfg) (W : WX) (n : Nat) (f : Value) (k : T → T → R T) : Prop :=
  ∀ (pins : List (Addr × Obj)) (s : Shared) (σ : L2.St) (Hb H : Hp) (A : Addr → Prop) (Q : VK) (x y : V) (u w : Value) (t1 t2 : T) (F1 F2 : List Addr), Inv X pins σ H s → Ext Hb H → RelV x u → RelV y w → Rep g H t1 x F1 → Rep g H t2 y F2 → (∀ b ∈ F1, Hb b = none ∨ A b) → (∀ b ∈ F2, Hb b = none ∨ A b) →
    Out g W n A σ Hb Q (k t1 t2) → wpAny (model X.prog X.w) X.A (call f [u, w]) (EP X pins σ Q) X.xe s
theorem c2_max (hc : X.calm = true) : Call2 X g W n (.builtin "max") (blt2 .max2) := by
  intro pins s σ Hb H A Q x y u w t1 t2 F1 F2 I eb rx ry r1 r2 p1 p2 h
  cases t1 with
  | int i =>
    cases t2 with
    | int j =>
      rw [rep_i] at r1 r2
      exact call_max2 hc pins s σ H [x, y] [u, w] Q I (.cons rx (.cons ry .nil)) ⟨i, j, by rw [r1.1, r2.1], ok_int eb h⟩
    | _ => exact (show False from h).elim
  | _ => exact (show False from h).elim
theorem c2_min (hc : X.calm = true) : Call2 X g W n (.builtin "min") (blt2 .min2) := by
  intro pins s σ Hb H A Q x y u w t1 t2 F1 F2 I eb rx ry r1 r2 p1 p2 h
  cases t1 with
  | int i =>
    cases t2 with
    | int j =>
      rw [rep_i] at r1 r2
      exact call_min2 hc pins s σ H [x, y] [u, w] Q I (.cons rx (.cons ry .nil)) ⟨i, j, by rw [r1.1, r2.1], ok_int eb h⟩
    | _ => exact (show False from h).elim
  | _ => exact (show False from h).elim

/-! ### the call with written arguments -/
variable {a b : Expr} {fa fb : Env → R T} {va vb : List Nat} {x : Str} {p pos : Pos} {bid T' : String} {k : T → R T} {k2 : T → T → R T}
theorem ev_b1 (hc : Call1 X g W n (.builtin bid) k) (hg : Gl X x) (hm : X.mg x = none) (hv : bootBuiltins x = some (.builtin bid)) (hst : nst a = true) (ha : PE X a (TEv g W 0 va fa)) (hn : x ≠ "__name__") (hdb : (x == ("__debug__" : Str)) = false) :
    PE X (.Call (.Name x p) [a] [] pos) (TEv g W n va fun e => (fa e).bnd k) := by
  refine ⟨fun pins s σ H Q I h => ?_⟩
  obtain ⟨e, Fs, hE, h⟩ := h
  refine wpAny_Call_Name_kw (ld_blt I hg hm hv ?_ hn hdb)
  refine PyProof.Rows.callWith_builtin1 ?_ (star_cons hst) rfl
  refine thn ((pa_cons ha pa_nil (star_cons hst)).run pos pins s σ H (fun vs H1 => ∃ v t F, vs = [v] ∧ fa e = .ok t ∧ Ext H H1 ∧ Rep g H1 t v F ∧ ∀ b ∈ F, H b = none ∨ ∃ i ∈ va, b ∈ Fs i) I ⟨e, Fs, hE, ?_⟩) fun us s1 ⟨vs, H1, I1, r, v, t, F, ev, et, e1, rt, pf⟩ => ?_
  · revert h
    dsimp only
    cases fa e with
    | ok t => exact fun _ v H' F a b _ d => ⟨v, t, F, rfl, rfl, a, b, d⟩
    | exc z => exact id
    | bad => exact id
  · subst ev
    dsimp only at h
    rw [et] at h
    cases r with
    | cons r rr =>
      cases rr
      exact hc pins s1 σ H H1 _ Q v _ t F I1 e1 r rt pf h
theorem ev_t1 (hc : Call1 X g W n (.type T') k) (hg : Gl X x) (hm : X.mg x = none) (hv : bootBuiltins x = some (.type T')) (hst : nst a = true) (ha : PE X a (TEv g W 0 va fa)) (hn : x ≠ "__name__") (hdb : (x == ("__debug__" : Str)) = false) :
    PE X (.Call (.Name x p) [a] [] pos) (TEv g W n va fun e => (fa e).bnd k) := by
  refine ⟨fun pins s σ H Q I h => ?_⟩
  obtain ⟨e, Fs, hE, h⟩ := h
  refine wpAny_Call_Name_kw (ld_blt I hg hm hv ?_ hn hdb)
  refine PyProof.Rows.callWith_type1 ?_ (star_cons hst) rfl
  refine thn ((pa_cons ha pa_nil (star_cons hst)).run pos pins s σ H (fun vs H1 => ∃ v t F, vs = [v] ∧ fa e = .ok t ∧ Ext H H1 ∧ Rep g H1 t v F ∧ ∀ b ∈ F, H b = none ∨ ∃ i ∈ va, b ∈ Fs i) I ⟨e, Fs, hE, ?_⟩) fun us s1 ⟨vs, H1, I1, r, v, t, F, ev, et, e1, rt, pf⟩ => ?_
  · revert h
    dsimp only
    cases fa e with
    | ok t => exact fun _ v H' F a b _ d => ⟨v, t, F, rfl, rfl, a, b, d⟩
    | exc z => exact id
    | bad => exact id
  · subst ev
    dsimp only at h
    rw [et] at h
    cases r with
    | cons r rr =>
      cases rr
      exact hc pins s1 σ H H1 _ Q v _ t F I1 e1 r rt pf h
theorem ev_b2 (hc : Call2 X g W n (.builtin bid) k2) (hg : Gl X x) (hm : X.mg x = none) (hv : bootBuiltins x = some (.builtin bid)) (hst : nst a = true) (hst2 : nst b = true) (ha : PE X a (TEv g W 0 va fa)) (hb : PE X b (TEv g W 0 vb fb)) (hn : x ≠ "__name__") (hdb : (x == ("__debug__" : Str)) = false) :
    PE X (.Call (.Name x p) [a, b] [] pos) (TEv g W n (va ++ vb) fun e => (fa e).bnd fun t => (fb e).bnd fun u => k2 t u) := by
  refine ⟨fun pins s σ H Q I h => ?_⟩
  obtain ⟨e, Fs, hE, h⟩ := h
  refine wpAny_Call_Name_kw (ld_blt I hg hm hv ?_ hn hdb)
  refine PyProof.Rows.callWith_builtin1 ?_ (star_cons hst) (back_none (by show (nst b && true) = true; rw [hst2]; rfl))
  refine thn ((pa_cons ha (pa_cons hb pa_nil (star_cons hst2)) (star_cons hst)).run pos pins s σ H (fun vs H1 => ∃ v w t u F1 F2, vs = [v, w] ∧ fa e = .ok t ∧ fb e = .ok u ∧ Ext H H1 ∧ Rep g H1 t v F1 ∧ Rep g H1 u w F2 ∧ (∀ b ∈ F1, H b = none ∨ ∃ i ∈ va ++ vb, b ∈ Fs i) ∧ (∀ b ∈ F2, H b = none ∨ ∃ i ∈ va ++ vb, b ∈ Fs i)) I ⟨e, Fs, hE, ?_⟩) fun us s1 ⟨vs, H1, I1, r, v, w, t, u, F1, F2, ev, et, eu, e1, rt, ru, pf1, pf2⟩ => ?_
  · revert h
    dsimp only
    cases fa e with
    | ok t =>
      intro h v H' F1 a b _ d
      refine ⟨e, Fs, hE.ext a, ?_⟩
      have h : Out g W n (fun b => ∃ i ∈ va ++ vb, b ∈ Fs i) σ H Q ((fb e).bnd fun u => k2 t u) := h
      revert h
      cases fb e with
      | ok u => exact fun _ w H2 F2 a2 b2 _ d2 => ⟨v, w, t, u, F1, F2, rfl, rfl, rfl, a.trans a2, b.ext a2, b2, fun b hb => (d b hb).imp id fun ⟨i, hi, q⟩ => ⟨i, List.mem_append_left _ hi, q⟩, fun b hb => (d2 b hb).imp a.none fun ⟨i, hi, q⟩ => ⟨i, List.mem_append_right _ hi, q⟩⟩
      | exc z => exact fun h cls d H2 a2 b2 => h cls d H2 (a.trans a2) (b2.mono2 a fun b ⟨i, hi, q⟩ => ⟨i, List.mem_append_right _ hi, q⟩)
      | bad => exact id
    | exc z => exact fun h cls d H2 a2 b2 => h cls d H2 a2 (b2.imp fun x hx => hx.imp id fun ⟨i, hi, q⟩ => ⟨i, List.mem_append_left _ hi, q⟩)
    | bad => exact id
  · subst ev
    dsimp only at h
    rw [et, R.bnd_ok, eu] at h
    cases r with
    | cons r rr =>
      cases rr with
      | cons r' rr =>
        cases rr
        exact hc pins s1 σ H H1 _ Q v w _ _ t u F1 F2 I1 e1 r r' rt ru pf1 pf2 h

/-! ### isinstance -/
def isaB (ty : Ty) : List (String × Bool) := [("NoneType", false), ("str", tyS ty), ("bool", tyB ty), ("int", tyI ty), ("tuple", tyT ty), ("list", tyL ty)]
structure InsOk (K : PySem.W.Frag) (C : Addr) : Prop where
  cl : Cls K C
  ha : PySem.W.findIn K (.ref C) "__class__" = some (some (.builtin "object.__class__"))
  hn : PySem.W.specialIn K (.builtin "object.__class__") "__get__" = some (some (.builtin "getset_descriptor.__get__"))
  ht : PySem.W.takesIn K (.builtin "object.__class__") = some true
  hm : PySem.W.mroIn K C (.type "object") = some true
structure IsaOk (X : Cx) (g : Cfg) (P : Prog) (ty : Ty) (cv : Value) : Prop where
  base : ∀ k ∈ isaB ty, PySem.W.kitOne X.K (.type k.1) cv = some k.2
  ins : ∀ c, (P.ini c).isSome = true → InsOk X.K (g.C c) ∧ PySem.W.kitOne X.K (.ref (g.C c)) cv = some (tyO P c ty)
theorem isa_run {ty : Ty} {cv : Value} {c : V} {pins : List (Addr × Obj)} {s : Shared} {σ : L2.St} {Hb H : Hp} {A : Addr → Prop} {Q : VK} {x : V} {u w : Value} {t : T} {F : List Addr} (O : IsaOk X g P ty cv) (I : Inv X pins σ H s) (eb : Ext Hb H) (rx : RelV x u) (kc : ClsV c cv) (rc : RelV c w) (r : Rep g H t x F)
    (h : Out g W n A σ Hb Q (isaT P ty t)) : wpAny (model X.prog X.w) X.A (call (.builtin "isinstance") [u, w]) (EP X pins σ Q) X.xe s := by
  have go : ∀ (tv : Value) (b : Bool), TyX X.K H x tv → PySem.W.kitOne X.K tv cv = some b → Out g W n A σ Hb Q (.ok (.bl b)) → wpAny (model X.prog X.w) X.A (call (.builtin "isinstance") [u, w]) (EP X pins σ Q) X.xe s := fun tv b ty k h =>
    call_isi pins s σ H [x, c] [u, w] Q I (.cons rx (.cons rc .nil)) ⟨x, c, tv, cv, b, rfl, kc, ty, k, ok_bl eb h⟩
  cases t with
  | non =>
    rw [rep_n] at r
    obtain ⟨rfl, _⟩ := r
    exact go _ _ (.base .non) (O.base ("NoneType", false) (by simp [isaB])) h
  | bl b =>
    rw [rep_b] at r
    obtain ⟨rfl, _⟩ := r
    exact go _ (tyB ty) (.base (.bl b)) (O.base ("bool", tyB ty) (by simp [isaB])) h
  | int b =>
    rw [rep_i] at r
    obtain ⟨rfl, _⟩ := r
    exact go _ (tyI ty) (.base (.int b)) (O.base ("int", tyI ty) (by simp [isaB])) h
  | str b =>
    rw [rep_s] at r
    obtain ⟨rfl, _⟩ := r
    exact go _ _ (.base (.str b)) (O.base ("str", tyS ty) (by simp [isaB])) h
  | tup b =>
    rw [rep_tup] at r
    obtain ⟨a, ws, rfl, h1, _⟩ := r
    exact go _ (tyT ty) (.base (.tup h1)) (O.base ("tuple", tyT ty) (by simp [isaB])) h
  | lst b =>
    rw [rep_lst] at r
    obtain ⟨a, ws, G, rfl, h1, _⟩ := r
    exact go _ (tyL ty) (.base (.lst h1)) (O.base ("list", tyL ty) (by simp [isaB])) h
  | ins c ks ts =>
    obtain ⟨hc, h⟩ := Out.chk (b := (P.ini c).isSome) h
    rw [rep_ins] at r
    obtain ⟨a, dx, fv, G, rfl, h1, _⟩ := r
    obtain ⟨i, k⟩ := O.ins c hc
    exact go _ _ (.base (.ins h1 i.cl i.ha i.hn i.ht i.hm)) k h
  | _ => exact (show False from h).elim
theorem ev_isa {ty : Ty} {cv : Value} {c : V} (O : IsaOk X g P ty cv) (kc : ClsV c cv) (hg : Gl X "isinstance") (hm : X.mg "isinstance" = none) (hst : nst a = true) (hst2 : nst b = true) (ha : PE X a (TEv g W 0 va fa)) (hb : PE X b (tC c)) :
    PE X (.Call (.Name "isinstance" p) [a, b] [] pos) (TEv g W n va fun e => (fa e).bnd fun t => isaT P ty t) := by
  refine ⟨fun pins s σ H Q I h => ?_⟩
  obtain ⟨e, Fs, hE, h⟩ := h
  refine wpAny_Call_Name_kw (ld_blt I hg hm (show bootBuiltins "isinstance" = some (.builtin "isinstance") by decide +kernel) ?_ (by decide) (by decide))
  refine PyProof.Rows.callWith_builtin1 ?_ (star_cons hst) (back_none (by show (nst b && true) = true; rw [hst2]; rfl))
  refine thn ((pa_cons ha (pa_cons hb pa_nil (star_cons hst2)) (star_cons hst)).run pos pins s σ H (fun vs H1 => ∃ v t F, vs = [v, c] ∧ fa e = .ok t ∧ Ext H H1 ∧ Rep g H1 t v F) I ⟨e, Fs, hE, ?_⟩) fun us s1 ⟨vs, H1, I1, r, v, t, F, ev, et, e1, rt⟩ => ?_
  · revert h
    dsimp only
    cases fa e with
    | ok t => exact fun _ v H' F a b _ d => ⟨v, t, F, rfl, rfl, a, b⟩
    | exc z => exact id
    | bad => exact id
  · subst ev
    dsimp only at h
    rw [et] at h
    cases r with
    | cons r rr =>
      cases rr with
      | cons r' rr =>
        cases rr
        exact isa_run O I1 e1 r kc r' rt h
theorem pe_tyN {c : Str} {cn : String} (hg2 : Gl X c) (hm2 : X.mg c = none) (hv2 : bootBuiltins c = some (.type cn)) (hn2 : c ≠ "__name__") (hdb2 : (c == ("__debug__" : Str)) = false) : PE X (.Name c p) (tC (.ty cn)) :=
  ⟨fun pins s σ H Q I h => ld_blt I hg2 hm2 hv2 ⟨.ty cn, H, I, rfl, h⟩ hn2 hdb2⟩
end
end Wt

/-! Snd21: more built-ins, more methods of lists. -/
namespace Wt
open PySem PySem.Spec PyProof.Rows L2
theorem and2 {a b : Bool} (h : (a && b) = true) : a = true ∧ b = true := by rwa [Bool.and_eq_true] at h
section
variable {g : Cfg} {H : Hp}
theorem RepL.ints : ∀ ns : List Int, RepL g H (ns.map T.int) (ns.map V.int) []
  | [] => RepL.nil
  | n :: ns => by
    have := RepL.cons (g := g) (H := H) (t := .int n) (v := .int n) (F1 := []) (by rw [rep_i]; exact ⟨rfl, rfl⟩) (RepL.ints ns)
    exact this
/-- a list of ints -/
theorem ints_ok : ∀ {xs : List T} {ns : List Int}, intsOf xs = some ns → xs = ns.map T.int
  | [], ns, h => by cases h; rfl
  | .int i :: r, ns, h => by
    unfold intsOf at h
    cases q : intsOf r with
    | none => rw [q] at h; cases h
    | some ms => rw [q] at h; cases h; rw [ints_ok q]; rfl
  | .non :: r, ns, h => by cases h
  | .bl _ :: r, ns, h => by cases h
  | .str _ :: r, ns, h => by cases h
  | .tup _ :: r, ns, h => by cases h
  | .lst _ :: r, ns, h => by cases h
  | .ins _ _ _ :: r, ns, h => by cases h
  | .cls _ :: r, ns, h => by cases h
  | .scr _ :: r, ns, h => by cases h
theorem RepL.ints_of : ∀ {ns : List Int} {vs : List V} {F : List Addr}, RepL g H (ns.map T.int) vs F → vs = ns.map V.int ∧ F = []
  | [], vs, F, h => by
    have h : RepL g H [] vs F := h
    rw [RepL] at h
    exact h
  | n :: ns, vs, F, h => by
    have h : RepL g H (.int n :: ns.map T.int) vs F := h
    rw [RepL] at h
    obtain ⟨v, vr, F1, F2, rfl, h1, h2, rfl⟩ := h
    rw [rep_i] at h1
    obtain ⟨rfl, rfl⟩ := RepL.ints_of h2
    rw [h1.1, h1.2]
    exact ⟨rfl, rfl⟩
end

/-! ### list(range(n)), tuple(range(n)) -/
section
variable {X : Cx} {g : Cfg} {W : WX} {P : Prog} {cl : Nat → List T → R T} {n : Nat} {a : Expr} {fa : Env → R T} {va : List Nat} {p p2 pos pos2 : Pos}
theorem rgV_eq {i : Int} : rgV 0 i = (rangeI 0 i).map V.int := by
  unfold rgV rangeI
  rw [List.map_map]
  rfl
theorem ev_listRg (hc : X.calm = true) (hg : Gl X "list") (hm : X.mg "list" = none) (hg2 : Gl X "range") (hm2 : X.mg "range" = none) (hst : nst a = true) (hn : n ≤ 1) (ha : PE X a (TEv g W 0 va fa)) :
    PE X (.Call (.Name "list" p) [.Call (.Name "range" p2) [a] [] pos2] [] pos) (TEv g W n va fun e => (fa e).bnd (blt1 P cl .rangeL)) := by
  refine PE.imp (pe_listRg hc hg hm (prg_1 hg2 hm2 ha (star_cons hst))) fun σ H Q ⟨e, Fs, hE, h⟩ => ?_
  refine te1 (A := fun b => ∃ i ∈ va, b ∈ Fs i) hE (.refl H) (fun i hi b hb => ⟨i, hi, hb⟩) h fun t v F H1 _ _ e1 _ r _ pf h => ?_
  cases t with
  | int i =>
    obtain ⟨hc, h⟩ := Out.chk (b := decide (-1000000 ≤ i) && decide (i ≤ 1000000)) h
    obtain ⟨c1, c2⟩ := and2 hc
    have c1 := of_decide_eq_true c1
    have c2 := of_decide_eq_true c2
    rw [rep_i] at r
    refine ⟨i, r.1, ⟨by omega, by omega, by omega, by omega, by omega⟩, fun q hq => ?_⟩
    rw [rgV_eq]
    exact ok_lst e1 hq (RepL.ints _) (fun _ z => by cases z) hn h
  | _ => exact (show False from h).elim
theorem ev_tupRg (hc : X.calm = true) (hg : Gl X "tuple") (hm : X.mg "tuple" = none) (hg2 : Gl X "range") (hm2 : X.mg "range" = none) (hst : nst a = true) (ha : PE X a (TEv g W 0 va fa)) :
    PE X (.Call (.Name "tuple" p) [.Call (.Name "range" p2) [a] [] pos2] [] pos) (TEv g W n va fun e => (fa e).bnd (blt1 P cl .rangeT)) := by
  refine PE.imp (pe_tupRg hc hg hm (prg_1 hg2 hm2 ha (star_cons hst))) fun σ H Q ⟨e, Fs, hE, h⟩ => ?_
  refine te1 (A := fun b => ∃ i ∈ va, b ∈ Fs i) hE (.refl H) (fun i hi b hb => ⟨i, hi, hb⟩) h fun t v F H1 _ _ e1 _ r _ pf h => ?_
  cases t with
  | int i =>
    obtain ⟨hc, h⟩ := Out.chk (b := decide (-1000000 ≤ i) && decide (i ≤ 1000000)) h
    obtain ⟨c1, c2⟩ := and2 hc
    have c1 := of_decide_eq_true c1
    have c2 := of_decide_eq_true c2
    rw [rep_i] at r
    refine ⟨i, r.1, ⟨by omega, by omega, by omega, by omega, by omega⟩, fun q hq => ?_⟩
    rw [rgV_eq]
    exact ok_tup e1 hq (RepL.ints _) (fun _ z => by cases z) h
  | _ => exact (show False from h).elim

/-! ### sum -/
theorem c1_sumL (hc : X.calm = true) : Call1 X g W n (.builtin "sum") fun t => match t with | .lst xs => (ofO (intsOf xs)).bnd fun ns => .ok (.int ns.sum) | _ => .bad := by
  intro pins s σ Hb H A Q x u t F I eb rx r pf h
  cases t with
  | lst xs =>
    have h : Out g W n A σ Hb Q ((ofO (intsOf xs)).bnd fun ns => .ok (.int ns.sum)) := h
    cases q : intsOf xs with
    | none => rw [q] at h; exact h.elim
    | some ns =>
      rw [q] at h
      rw [ints_ok q, rep_lst] at r
      obtain ⟨l, ws, G, ex, h1, h2, _⟩ := r
      obtain ⟨ew, _⟩ := RepL.ints_of h2
      exact cr_sum hc pins s σ H [x] [u] Q I (.cons rx .nil) ⟨l, ns, by rw [ex], SqL.of (by rw [← ew]; exact h1), ok_int eb h⟩
  | _ => exact (show False from h).elim
end
end Wt

namespace Wt
open PySem PySem.Spec PyProof.Rows L2
section
variable {X : Cx} {g : Cfg} {W : WX} {lv : Nat} {H0 : Hp} {A : Addr → Prop} {held : List Addr} {L L' Ln Lk : List Nat} {n : Nat} {vs : List Nat} {fa : Env → R T} {a : Expr} {x z : Nat} {y y2 : Str} {pos p ap cp p2 ap2 cp2 : Pos}
/-- a part of an owned list stays; the lists within are no more its own -/
theorem StR.part1 {H : Hp} {σ : L2.St} {e : Env} {Fs : Nat → List Addr} {xs ys : List T} {us : List V} {l : Addr} {G G' : List Addr} (S : StR g H0 A held L H σ e Fs) (her : g.er = none) (hx : e[x]? = some (some (.lst xs))) (h1 : 1 ≤ lvA L x) (hF : Fs x = l :: G)
    (ry : RepL g H ys us G') (sub : G'.Sublist G) (hL : ∀ i, lvA L' i ≤ lvA L i) (h2 : lvA L' x ≤ 1) : ∃ Fs', StR g H0 A held L' (upd H l (.lst us)) σ (putL e x ys) Fs' ∧ Kp H (upd H l (.lst us)) held := by
  obtain ⟨a, G1, e1, e2, e3, e4, e5⟩ := (S.own x _ hx).1 h1 xs rfl
  rw [hF] at e1
  obtain ⟨rfl, rfl⟩ := List.cons.inj e1
  exact StR.mut S her hx h1 hF ry (fun z => e3 (sub.subset z)) (fun b hb => S.pro x b (by rw [hF]; exact List.mem_cons_of_mem _ (sub.subset hb))) hL
    (fun b _ j hj _ _ hb => ⟨x, fun q => hj q.symm, by rw [hF]; exact List.mem_cons_of_mem _ (sub.subset hb)⟩) fun k2 _ => absurd k2 (by omega)
theorem intR_ok {f : R T} {e : Env} {k : Int → SR} {D : Ends} {H : Hp} (h : OutS g W lv H0 A held Ln Lk D H ((intR f).st e k)) : OutS g W lv H0 A held Ln Lk D H (f.st e fun t => match t with | .int i => k i | _ => .bad) := by
  revert h
  unfold intR
  cases f with
  | ok t => cases t <;> exact fun h => h
  | exc x => exact fun h => h
  | bad => exact fun h => h
theorem ofO_st {α : Type} {o : Option α} {e : Env} {k : α → SR} {D : Ends} {H : Hp} (h : OutS g W lv H0 A held Ln Lk D H ((ofO o).st e k)) : ∃ a, o = some a ∧ OutS g W lv H0 A held Ln Lk D H (k a) := by
  cases o with
  | none => exact h.elim
  | some a => exact ⟨a, rfl, h⟩
theorem set1_le {y : Nat} (h : 1 ≤ lvA L y) (i : Nat) : lvA (L.set y 1) i ≤ lvA L i := by
  rw [lvA_set]
  split
  · rename_i hi
    subst hi
    split <;> omega
  · exact Nat.le_refl _
theorem set1_at {y : Nat} : lvA (L.set y 1) y ≤ 1 := by
  rw [lvA_set, if_pos rfl]
  split <;> omega
/-- x.pop(a) -/
theorem sv_pop (her : g.er = none) (hN : X.N[x]? = some y) (hv : Vis X.env.scope y) (hd : (y == ("__debug__" : Str)) = false) (hcd : (y == ("__classdict__" : Str)) = false) (hl : (ap.endLine == cp.line) = true) (hst : nst a = true) (ha : PE X a (TEv g W n vs fa)) (h1 : 1 ≤ lvA L x) :
    PS X (.Expr (.Call (.Attribute (.Name y p) "pop" ap) [a] [] cp) pos) (TSv g W lv H0 A held L (L.set x 1) Lk fun e => (slotL e x).st e fun xs => (intR (fa e)).st e fun i => (ofO (ixI xs.length i)).st e fun j => chkS (Nat.ble xs.length LIM) (.nx (putL e x (xs.eraseIdx j)))) := by
  refine PS.imp (ps_expr (pe_bm PySem.F.plainAttrs_list PySem.F.slot_list_pop PySem.F.type_list_pop mt_popAt (pe_var hN hv hd hcd) (pa_cons ha pa_nil (star_cons hst)) rfl (few1 hst) hl (star_cons hst) rfl) rfl) fun D σ H ⟨e, Fs, S, h⟩ => ?_
  obtain ⟨xs, hx0, h⟩ := slotL_ok h
  obtain ⟨l, G, ws, s1, s2, s3, s4, s5, s6⟩ := S.list hx0 h1
  refine ⟨_, s1, .inl ⟨rfl, ws, SqL.of s3⟩, ?_⟩
  refine st1 (vs := vs) (k := fun t => match t with | .int i => (ofO (ixI xs.length i)).st e fun j => chkS (Nat.ble xs.length LIM) (.nx (putL e x (xs.eraseIdx j))) | _ => .bad) S (intR_ok h) fun t v F H1 e1 S1 r lt pf h => ?_
  cases t with
  | int i =>
    obtain ⟨j, hj, h⟩ := ofO_st h
    obtain ⟨c1, h⟩ := out_chkS h
    rw [rep_i] at r
    have hw1 : H1 l = some (.lst ws) := e1 l _ s3
    have hlen : ws.length = xs.length := s4.len
    have c1 := Nat.le_of_ble_eq_true c1
    obtain ⟨q1, q2, q3, q4⟩ := ixN_seq (n := ws.length) (i := i) (j := j) (by rw [hlen]; exact hj)
    obtain ⟨G', rG, sub⟩ := (s4.ext e1).eraseAt (j := j)
    obtain ⟨Fs', S2, kp⟩ := StR.part1 (L' := L.set x 1) S1 her hx0 h1 s2 rG sub (set1_le h1) set1_at
    have hget : ∃ w, ws[j]? = some w := ⟨ws[j], by simp [q2]⟩
    obtain ⟨w, hw⟩ := hget
    have hLIM : LIM = 16777216 := rfl
    exact ⟨l, ws, i, j, w, rfl, by rw [r.1], hw1, by omega, by omega, q1, hw, h σ _ Fs' S2 kp⟩
  | _ => exact (show False from h).elim
/-- x[i] = a -/
theorem sv_setIx {b : Expr} {vb : List Nat} {fb : Env → R T} {gd : Bool} {m : Nat} (her : g.er = none) (hN : X.N[x]? = some y) (hv : Vis X.env.scope y) (hd : (y == ("__debug__" : Str)) = false) (hcd : (y == ("__classdict__" : Str)) = false) (ha : PE X a (TEv g W n vs fa)) (hb : PE X b (TEv g W m vb fb)) (h1 : 1 ≤ lvA L x)
    (hx : x ∉ vs ∨ gd = true) (hs : swapsWithSole [.Subscript (.Name y p) b p2] a pos.line X.env = pure false) (hw : swappedStores [.Subscript (.Name y p) b p2] a X.env = pure none) (hns : notSlice b = true)
    (hL' : ∀ i, lvA L' i ≤ lvA (dropG gd (vs.filter (· ≠ x)) L) i) (h2 : lvA L' x ≤ 1) :
    PS X (.Assign [.Subscript (.Name y p) b p2] a pos) (TSv g W lv H0 A held L L' Lk fun e => (fa e).st e fun t => (slotL e x).st e fun xs => (intR (fb e)).st e fun k => (ofO (ixI xs.length k)).st e fun j => grd gd t (.nx (putL e x (xs.set j t)))) := by
  have hg : PG X (.Subscript (.Name y p) b p2) (gSub (tVar x) (TEv g W m vb fb) rSetL) := pg_sub (pe_var hN hv hd hcd) hb set_list (by intro v; cases b <;> first | rfl | cases hns)
  refine PS.imp (ps_asg ha hg hs hw (asg_one rfl)) fun D σ H ⟨e, Fs, S, h⟩ => ?_
  refine st1 (vs := vs) (k := fun t => (slotL e x).st e fun xs => (intR (fb e)).st e fun k => (ofO (ixI xs.length k)).st e fun j => grd gd t (.nx (putL e x (xs.set j t)))) S h fun t v F H1 e1 S1 r lt pf h => ?_
  obtain ⟨xs, hx0, h⟩ := slotL_ok h
  obtain ⟨l, G, ws, s1, s2, s3, s4, s5, s6⟩ := S1.list hx0 h1
  refine ⟨_, s1, ?_⟩
  refine st1 (vs := vb) (k := fun u => match u with | .int k => (ofO (ixI xs.length k)).st e fun j => grd gd t (.nx (putL e x (xs.set j t))) | _ => .bad) S1 (intR_ok h) fun u v2 F2 H2 e2 S2 r2 _ _ h => ?_
  cases u with
  | int k =>
    obtain ⟨j, hj, h⟩ := ofO_st h
    obtain ⟨hg, h⟩ := out_grd h
    rw [rep_i] at r2
    have hw1 : H2 l = some (.lst ws) := e2 l _ s3
    have hw0 : H l = some (.lst ws) ∨ True := .inr trivial
    have hlen : ws.length = xs.length := s4.len
    have hj' : ixN ws.length k = some j := by rw [hlen]; exact hj
    obtain ⟨_, q2, _, _⟩ := ixN_seq hj'
    have rF := r.ext e2
    obtain ⟨G1, Gm, G2, eG, rG⟩ := (s4.ext e2).setAt (j := j) (by omega) rF
    have e12 : Ext H H2 := e1.trans e2
    have nF : l ∉ F := fun z => by
      rcases pf l z with q | ⟨m, hm, q⟩
      · exact S.dom x l (by rw [s2]; exact List.mem_cons_self) q
      · by_cases hmx : m = x
        · rcases hx with hx | hx
          · exact hx (hmx ▸ hm)
          · obtain ⟨C, dx, fs, w⟩ := noList_F rF (hg hx) l z
            rw [w] at hw1; cases hw1
        · exact s6 m hmx q
    have inG : ∀ b, b ∈ G1 ++ (F ++ G2) → b ∈ G ∨ b ∈ F := fun b hb => by
      rw [eG]
      rcases List.mem_append.mp hb with z | z
      · exact .inl (List.mem_append_left _ z)
      · rcases List.mem_append.mp z with z | z
        · exact .inr z
        · exact .inl (List.mem_append_right _ (List.mem_append_right _ z))
    obtain ⟨Fs', S3, kp⟩ := StR.mut (x := x) (L' := L') S2 her hx0 h1 s2 rG (fun z => (inG l z).elim s5 nF) (fun b hb => (inG b hb).elim (fun z => S2.pro x b (by rw [s2]; exact List.mem_cons_of_mem _ z)) fun z => (pf b z).elim (fun q => .inl (S.ext.none q)) fun ⟨i, _, q⟩ => S.pro i b q)
      (fun i => Nat.le_trans (hL' i) dropG_le)
      (fun b ⟨bs, hbs⟩ i hi hz hbi hbG => by
        rcases inG b hbG with z | z
        · exact ⟨x, fun q => hi q.symm, by rw [s2]; exact List.mem_cons_of_mem _ z⟩
        · rcases pf b z with q | ⟨m, hm, q⟩
          · exact absurd q (S.dom i b hbi)
          · by_cases hmi : m = i
            · subst hmi
              have hmem : m ∈ vs.filter (· ≠ x) := List.mem_filter.mpr ⟨hm, by simpa using hi⟩
              rcases dropG_zero (gd := gd) (L := L) hmem with w | w
              · obtain ⟨C, dx, fs, w⟩ := noList_F rF (hg w) b z
                rw [w] at hbs; cases hbs
              · exact absurd (Nat.le_antisymm (by have := hL' m; omega) (Nat.zero_le _)) hz
            · exact ⟨m, hmi, q⟩)
      (fun k2 _ => absurd k2 (by omega))
    exact ⟨l, ws, k, j, rfl, r2.1, hw1, hj', h σ _ Fs' S3 kp⟩
  | _ => exact (show False from h).elim
end
end Wt

/-! Snd23: sorted of a list of ints. -/
namespace Wt
open PySem PySem.Spec PyProof.Rows L2
theorem insI_perm (x : Int) : ∀ ys : List Int, (insI x ys).Perm (x :: ys)
  | [] => .refl _
  | y :: ys => by
    unfold insI
    split
    · exact .refl _
    · exact ((insI_perm x ys).cons y).trans (.swap x y ys)
theorem sortI_perm : ∀ xs : List Int, (sortI xs).Perm xs
  | [] => .refl _
  | x :: xs => (insI_perm x (sortI xs)).trans ((sortI_perm xs).cons x)
theorem insI_sorted (x : Int) : ∀ {ys : List Int}, ys.Pairwise (· ≤ ·) → (insI x ys).Pairwise (· ≤ ·)
  | [], _ => by unfold insI; exact List.pairwise_singleton _ _
  | y :: ys, h => by
    unfold insI
    rw [List.pairwise_cons] at h
    split
    · rename_i hx
      rw [List.pairwise_cons]
      refine ⟨fun z hz => ?_, List.pairwise_cons.mpr h⟩
      rcases List.mem_cons.mp hz with rfl | hz
      · exact hx
      · exact Int.le_trans hx (h.1 z hz)
    · rename_i hx
      rw [List.pairwise_cons]
      refine ⟨fun z hz => ?_, insI_sorted x h.2⟩
      rcases List.mem_cons.mp ((insI_perm x ys).mem_iff.mp hz) with rfl | hz
      · omega
      · exact h.1 z hz
theorem sortI_sorted : ∀ xs : List Int, (sortI xs).Pairwise (· ≤ ·)
  | [] => .nil
  | x :: xs => insI_sorted x (sortI_sorted xs)
theorem sorted_eq : ∀ {xs ys : List Int}, xs.Perm ys → xs.Pairwise (· ≤ ·) → ys.Pairwise (· ≤ ·) → xs = ys
  | [], ys, p, _, _ => by
    have := p.length_eq
    cases ys with
    | nil => rfl
    | cons y ys => simp at this
  | x :: xs, [], p, _, _ => by
    have := p.length_eq
    simp at this
  | x :: xs, y :: ys, p, h1, h2 => by
    rw [List.pairwise_cons] at h1 h2
    have hxy : x = y := by
      have a : x ∈ y :: ys := p.mem_iff.mp List.mem_cons_self
      have b : y ∈ x :: xs := p.mem_iff.mpr List.mem_cons_self
      have a' : y ≤ x := by
        rcases List.mem_cons.mp a with rfl | a
        · exact Int.le_refl _
        · exact h2.1 x a
      have b' : x ≤ y := by
        rcases List.mem_cons.mp b with rfl | b
        · exact Int.le_refl _
        · exact h1.1 y b
      omega
    subst hxy
    rw [sorted_eq p.cons_inv h1.2 h2.2]
section
variable {X : Cx} {g : Cfg} {W : WX} {P : Prog} {cl : Nat → List T → R T} {n : Nat}
theorem c1_sortedL (hn : n ≤ 1) : Call1 X g W n (.builtin "sorted") fun t => match t with | .lst xs => (ofO (intsOf xs)).bnd fun ns => .ok (.lst ((sortI ns).map T.int)) | _ => .bad := by
  intro pins s σ Hb H A Q x u t F I eb rx r pf h
  cases t with
  | lst xs =>
    have h : Out g W n A σ Hb Q ((ofO (intsOf xs)).bnd fun ns => .ok (.lst ((sortI ns).map T.int))) := h
    cases q : intsOf xs with
    | none => rw [q] at h; exact h.elim
    | some ns =>
      rw [q] at h
      rw [ints_ok q, rep_lst] at r
      obtain ⟨l, ws, G, ex, h1, h2, _⟩ := r
      obtain ⟨ew, _⟩ := RepL.ints_of h2
      refine cr_sortedI pins s σ H [x] [u] Q I (.cons rx .nil) ⟨l, ns, by rw [ex], SqL.of (by rw [← ew]; exact h1), fun ns' p hp hs hpn => ?_⟩
      have e := sorted_eq (hp.trans (sortI_perm ns).symm) hs (sortI_sorted ns)
      rw [e]
      exact ok_lst eb hpn (RepL.ints _) (fun _ z => by cases z) hn h
  | _ => exact (show False from h).elim
end
end Wt
namespace Wt
open PySem PySem.Spec PyProof.Rows L2
theorem bools_ok : ∀ {xs : List T} {bs : List Bool}, bools xs = some bs → xs = bs.map T.bl
  | [], bs, h => by cases h; rfl
  | .bl i :: r, bs, h => by
    unfold bools at h
    cases q : bools r with
    | none => rw [q] at h; cases h
    | some ms => rw [q] at h; cases h; rw [bools_ok q]; rfl
  | .non :: r, bs, h => by cases h
  | .int _ :: r, bs, h => by cases h
  | .str _ :: r, bs, h => by cases h
  | .tup _ :: r, bs, h => by cases h
  | .lst _ :: r, bs, h => by cases h
  | .ins _ _ _ :: r, bs, h => by cases h
  | .cls _ :: r, bs, h => by cases h
  | .scr _ :: r, bs, h => by cases h
theorem RepL.bools_of {g : Cfg} {H : Hp} : ∀ {bs : List Bool} {vs : List V} {F : List Addr}, RepL g H (bs.map T.bl) vs F → vs = bs.map V.bl
  | [], vs, F, h => by
    have h : RepL g H [] vs F := h
    rw [RepL] at h
    exact h.1
  | b :: bs, vs, F, h => by
    have h : RepL g H (.bl b :: bs.map T.bl) vs F := h
    rw [RepL] at h
    obtain ⟨v, vr, F1, F2, rfl, h1, h2, rfl⟩ := h
    rw [rep_b] at h1
    rw [h1.1, RepL.bools_of h2]
    rfl
section
variable {X : Cx} {g : Cfg} {W : WX} {P : Prog} {cl : Nat → List T → R T} {n : Nat}
theorem c1_any (hc : X.calm = true) : Call1 X g W n (.builtin "any") (blt1 P cl .any) := by
  intro pins s σ Hb H A Q x u t F I eb rx r pf h
  cases t with
  | lst xs =>
    have h : Out g W n A σ Hb Q ((ofO (bools xs)).bnd fun bs => .ok (.bl (bs.any id))) := h
    cases q : bools xs with
    | none => rw [q] at h; exact h.elim
    | some bs =>
      rw [q] at h
      rw [bools_ok q, rep_lst] at r
      obtain ⟨l, ws, G, ex, h1, h2, _⟩ := r
      exact cr_any hc pins s σ H [x] [u] Q I (.cons rx .nil) ⟨l, bs, by rw [ex], SqL.of (by rw [← RepL.bools_of h2]; exact h1), ok_bl eb h⟩
  | _ => exact (show False from h).elim
theorem c1_all (hc : X.calm = true) : Call1 X g W n (.builtin "all") (blt1 P cl .all) := by
  intro pins s σ Hb H A Q x u t F I eb rx r pf h
  cases t with
  | lst xs =>
    have h : Out g W n A σ Hb Q ((ofO (bools xs)).bnd fun bs => .ok (.bl (bs.all id))) := h
    cases q : bools xs with
    | none => rw [q] at h; exact h.elim
    | some bs =>
      rw [q] at h
      rw [bools_ok q, rep_lst] at r
      obtain ⟨l, ws, G, ex, h1, h2, _⟩ := r
      exact cr_all hc pins s σ H [x] [u] Q I (.cons rx .nil) ⟨l, bs, by rw [ex], SqL.of (by rw [← RepL.bools_of h2]; exact h1), ok_bl eb h⟩
  | _ => exact (show False from h).elim
end
end Wt
namespace Wt
open PySem PySem.Spec PyProof.Rows L2
section
variable {X : Cx} {g : Cfg} {W : WX} {P : Prog} {cl : Nat → List T → R T} {a : Expr} {fa : Env → R T} {va : List Nat} {p pos tpos : Pos} {elts : List Expr} {kk : Nat}
theorem isIt_enum {K : PySem.W.Frag} {H : Hp} {l : Addr} {xs : List T} {ws : List V} {G : List Addr} (h : H l = some (.lst ws)) (r : RepL g H xs ws G) : IsIt g (Ite K l) (enumL 0 xs) H (l :: G) := by
  intro H2 k
  have h2 : SqL K H2 l ws := SqL.of (k.lst l List.mem_cons_self _ h)
  have r2 := r.kp (k.sub fun b hb => List.mem_cons_of_mem _ hb)
  refine ⟨⟨ws, h2, by rw [enumL_len, r.len]; exact Nat.le_refl _⟩, fun i t q => ?_⟩
  obtain ⟨x, q1, rfl⟩ := enumL_get q
  obtain ⟨v, G', e1, e2, e3⟩ := r2.get q1
  refine ⟨⟨ws, v, h2, e1⟩, fun v' H3 ⟨T1, y, ev, hT, eH, hy⟩ => ?_⟩
  subst ev eH
  have := hy ws h2
  rw [e1] at this
  cases this
  refine ⟨.new hT, G', ?_, fun b hb => List.mem_cons_of_mem _ (e3 b hb)⟩
  rw [rep_tup]
  refine ⟨T1, _, rfl, upd_same, ?_⟩
  have r3 := RepL.cons (g := g) (H := H2) (t := .int ((0 + i : Nat) : Int)) (v := .int (i : Nat)) (F1 := []) (by rw [rep_i, Nat.zero_add]; exact ⟨rfl, rfl⟩) (RepL.cons e2 RepL.nil)
  rw [List.nil_append, List.append_nil] at r3
  exact r3.ext (.new hT)
/-- enumerate of a list -/
theorem it_enumL (hg : Gl X "enumerate") (hm : X.mg "enumerate" = none) (hst : nst a = true) (ha : PE X a (TEv g W 0 va fa)) :
    PI X (.Tuple elts kk tpos) (.Call (.Name "enumerate" p) [a] [] pos) (TIv g W va fun e => (fa e).bnd fun t => match t with | .lst xs => .ok (enumL 0 xs) | _ => .bad) := by
  refine PI.imp (pi_enum hg hm (pa_cons ha pa_nil (star_cons hst)) (by rw [star_cons hst]; rfl)) fun σ H R' ⟨e, Fs, he, h⟩ => ?_
  refine ti1 (A := fun b => ∃ i ∈ va, b ∈ Fs i) he (.refl H) (fun i hi b hb => ⟨i, hi, hb⟩) h fun t v F H1 he1 _ e1 r pf h => ?_
  cases t with
  | lst xs =>
    have dm := r.dom
    rw [rep_lst] at r
    obtain ⟨l, ws, G, rfl, h1, h2, rfl⟩ := r
    exact ⟨l, ws, rfl, SqL.of h1, h _ H1 _ e1 (isIt_enum h1 h2) fun b hb => ⟨pf b hb, dm b hb⟩⟩
  | _ => exact (show False from h).elim
end
end Wt
namespace Wt
open PySem PySem.Spec PyProof.Rows L2
theorem zipT_get : ∀ {xs ys : List T} {i : Nat} {t : T}, (zipT xs ys)[i]? = some t → ∃ x y, xs[i]? = some x ∧ ys[i]? = some y ∧ t = .tup [x, y]
  | [], _, _, _, h => by simp [zipT] at h
  | _ :: _, [], _, _, h => by simp [zipT] at h
  | x :: xs, y :: ys, 0, t, h => by
    simp [zipT] at h
    exact ⟨x, y, rfl, rfl, h.symm⟩
  | x :: xs, y :: ys, i + 1, t, h => by
    obtain ⟨a, b, h1, h2, h3⟩ := zipT_get (xs := xs) (ys := ys) (i := i) (by simpa [zipT] using h)
    exact ⟨a, b, by simpa using h1, by simpa using h2, h3⟩
theorem zipT_len : ∀ {xs ys : List T}, xs.length ≤ (zipT xs ys).length ∨ ys.length ≤ (zipT xs ys).length
  | [], ys => .inl (Nat.zero_le _)
  | _ :: _, [] => .inr (Nat.zero_le _)
  | x :: xs, y :: ys => by
    rcases zipT_len (xs := xs) (ys := ys) with h | h
    · exact .inl (by simp [zipT]; exact h)
    · exact .inr (by simp [zipT]; exact h)
section
variable {X : Cx} {g : Cfg} {W : WX} {a b : Expr} {fa fb : Env → R T} {va vb : List Nat} {p pos tpos : Pos} {elts : List Expr} {kk : Nat}
theorem isIt_zip {K : PySem.W.Frag} {H : Hp} {l l2 : Addr} {xs ys : List T} {ws ws2 : List V} {G G2 : List Addr} (h : H l = some (.lst ws)) (r : RepL g H xs ws G) (h' : H l2 = some (.lst ws2)) (r' : RepL g H ys ws2 G2) :
    IsIt g (Itz K l l2) (zipT xs ys) H ((l :: G) ++ (l2 :: G2)) := by
  intro H2 k
  have k1 : Kp H H2 (l :: G) := k.sub fun b hb => List.mem_append_left _ hb
  have k2 : Kp H H2 (l2 :: G2) := k.sub fun b hb => List.mem_append_right _ hb
  have s1 : SqL K H2 l ws := SqL.of (k1.lst l List.mem_cons_self _ h)
  have s2 : SqL K H2 l2 ws2 := SqL.of (k2.lst l2 List.mem_cons_self _ h')
  have r1 := r.kp (k1.sub fun b hb => List.mem_cons_of_mem _ hb)
  have r2 := r'.kp (k2.sub fun b hb => List.mem_cons_of_mem _ hb)
  refine ⟨⟨ws, ws2, s1, s2, by rw [r.len, r'.len]; exact zipT_len⟩, fun i t q => ?_⟩
  obtain ⟨x, y, q1, q2, rfl⟩ := zipT_get q
  obtain ⟨v, G', e1, e2, e3⟩ := r1.get q1
  obtain ⟨v2, G2', f1, f2, f3⟩ := r2.get q2
  refine ⟨⟨ws, ws2, v, v2, s1, s2, e1, f1⟩, fun v' H3 ⟨T1, y1, y2, ev, hT, eH, hy, hy2⟩ => ?_⟩
  subst ev eH
  have z1 := hy ws s1
  have z2 := hy2 ws2 s2
  rw [e1] at z1
  rw [f1] at z2
  cases z1
  cases z2
  refine ⟨.new hT, G' ++ (G2' ++ []), ?_, fun b hb => ?_⟩
  · rw [rep_tup]
    exact ⟨T1, _, rfl, upd_same, (RepL.cons e2 (RepL.cons f2 RepL.nil)).ext (.new hT)⟩
  · rcases List.mem_append.mp hb with z | z
    · exact List.mem_append_left _ (List.mem_cons_of_mem _ (e3 b z))
    · exact List.mem_append_right _ (List.mem_cons_of_mem _ (f3 b (by simpa using z)))
end
end Wt

/-! Snd32: enumerate and zip over lists and tuples, in any mixture. -/
namespace Wt
open PySem PySem.Spec PyProof.Rows L2
/-- pairs, one at a turn, while G stands -/
def Jp (n : Nat) (G : Hp → Prop) (p q : Nat → Option V) : It :=
  ⟨fun i H => i < n ∧ G H, fun i H v H' => ∃ T x y, v = .ref T ∧ H T = none ∧ H' = upd H T (.tup [x, y]) ∧ p i = some x ∧ q i = some y, fun i H => i = n ∧ G H⟩
/-- what a walk over pairs is made of -/
structure PairW (P : Program) (w : World) (K : PySem.W.Frag) (n : Nat) (G : Hp → Prop) (p q : Nat → Option V) (I : Addr) (cs wr : List Addr) (tn : Nat → Heap → Prop) : Prop where
  mem : I ∈ cs
  sub : ∀ b ∈ wr, b ∈ cs
  obj : ∀ i h, tn i h → ∀ b ∈ cs, ∃ o, h.get? b = some o ∧ ∀ v, o.data ≠ .cell v
  keep : ∀ i h h', tn i h → (∀ b ∈ cs, ∀ o, h.get? b = some o → h'.get? b = some o) → tn i h'
  self : ∀ (A : Around) (i : Nat) (s : Shared) (Q : Value → Shared → Prop) (E : Value → Shared → Prop), tn i s.heap → Q (.ref I) s → wpAny (model P w) A (pyIter (.ref I)) Q E s
  wk : ∀ (X : Cx), X.prog = P → X.w = w → X.K = K → X.calm = true → ∀ (i : Nat) (pins : List (Addr × Obj)) (s : Shared) (σ : L2.St) (H : Hp), Inv X pins σ H s → tn i s.heap → G H →
    ∃ (Pt : Nat → Array Value → Prop) (Sd : Nat → Heap → Prop) (Mid : Nat → Addr → Heap → Prop) (fpw : List Addr), WalksT P w X.A I fpw wr n Pt Sd Mid ∧ Sd i s.heap ∧ (∀ h', Sd (i + 1) h' → tn (i + 1) h') ∧
      ∀ vals, i < n → Pt i vals → ∃ x y u v, vals = #[u, v] ∧ RelV x u ∧ RelV y v ∧ p i = some x ∧ q i = some y
theorem turn_pairs {P : Program} {w : World} {K : PySem.W.Frag} {elts : List Expr} {kk : Nat} {tpos : Pos} {n : Nat} {G : Hp → Prop} {p q : Nat → Option V} {I : Addr} {cs wr : List Addr} {tn : Nat → Heap → Prop} (B : PairW P w K n G p q I cs wr tn) :
    Turn P w K (.Tuple elts kk tpos) (Jp n G p q) cs I tn where
  mem := B.mem
  obj := B.obj
  keep := B.keep
  self := B.self
  item := by
    intro X h1 h2 h3 hc i pins s σ H E Iv hf st hg
    obtain ⟨Pt, Sd, Mid, fpw, Wk, sd, nxt, pr⟩ := B.wk X h1 h2 h3 hc i pins s σ H Iv st hg.2
    subst h1 h2 h3
    refine Wk.item i s _ E hg.1 sd fun T vals hA tk hP hsz hTu hM hk => ⟨_, rfl, Wk.go elts kk tpos i T _ _ _ hM fun hB hS hk2 => ?_⟩
    obtain ⟨x, y, u, v, ev, rx, ry, px, py⟩ := pr vals hg.1 hP
    subst ev
    have hT2 : hB.IsTuple T #[u, v] := hTu.at fun o e => hk2 T o (Wk.apart i T hA hM) e
    have nw : ObjOk X.prog X.w (upd H T (.tup [x, y])) hB T (.tup [x, y]) := ⟨by show 2 ≤ sizeLine; decide, [u, v], .cons rx (.cons ry .nil), hT2⟩
    have kp : ∀ b o, b ∉ cs → s.heap.get? b = some o → hB.get? b = some o := fun b o hb e => hk2 b o (fun z => hb (B.sub b z)) (hk b o (fun z => hb (B.sub b z)) e)
    refine ⟨.ref T, _, Iv.turnedNew (t' := tk) kp hf hsz nw, rfl, ⟨T, x, y, rfl, Iv.hok.fresh hsz, rfl, px, py⟩, nxt _ hS, fun b hb => ?_⟩
    obtain ⟨o, e, _⟩ := B.obj i s.heap st b hb
    rw [upd_ne (Nat.ne_of_lt (Nat.lt_of_lt_of_le (Heap.lt_size e) hsz))]
    exact (hf b hb).1
  done := by
    intro X h1 h2 h3 hc i pins s σ H E Iv hf st hg
    obtain ⟨Pt, Sd, Mid, fpw, Wk, sd, _, _⟩ := B.wk X h1 h2 h3 hc i pins s σ H Iv st hg.2
    subst h1 h2 h3
    rw [hg.1] at sd
    exact Wk.done s _ E sd fun hA tk hk => ⟨rfl, Iv.turnedL (t' := tk) (fun b o hb e => hk b o (fun z => hb (B.sub b z)) e) hf⟩

/-! ### lists and tuples alike -/
def SqK (K : PySem.W.Frag) (H : Hp) (b : Bool) (a : Addr) (xs : List V) : Prop := if b then SqL K H a xs else SqT K H a xs
def IsK (h : Heap) (b : Bool) (a : Addr) (its : Array Value) : Prop := if b then h.IsList a its else h.IsTuple a its
def ItK (h : Heap) (b : Bool) (it a : Addr) (i : Nat) : Prop := if b then h.IsListIter it a i else h.IsTupleIter it a i
def itO (b : Bool) (a : Addr) : Obj := if b then { cls := .type "list_iterator", data := .fields #[.ref a, .int 0 0] } else { cls := .type "tuple_iterator", data := .fields #[.ref a, .int 0 0] }
theorem drawsK {prog : Program} {w : World} {A : Around} (hh : A.handled = none) (b : Bool) (it a : Addr) (hne : a ≠ it) (its : Array Value) :
    Draws prog w A it [it, a] its.size (fun i v => its[i]? = some v) (fun i h => ItK h b it a i ∧ IsK h b a its) := by
  cases b
  · exact Draws.tuple hh it a hne its
  · exact Draws.list hh it a hne its
theorem beginsK (b : Bool) (a : Addr) (its : Array Value) : Begins (.ref a) (itO b a) fun h => IsK h b a its := by
  cases b
  · exact begins_tuple a its
  · exact begins_list a its
theorem itK_obj {h : Heap} {b : Bool} {it a : Addr} {i : Nat} (q : ItK h b it a i) : ∃ o, h.get? it = some o ∧ ∀ v, o.data ≠ .cell v := by
  cases b
  · obtain ⟨o, ho, _, hd⟩ := (show h.IsTupleIter it a i from q)
    exact ⟨o, ho, fun v z => by rw [hd] at z; cases z⟩
  · obtain ⟨o, ho, _, hd⟩ := (show h.IsListIter it a i from q)
    exact ⟨o, ho, fun v z => by rw [hd] at z; cases z⟩
theorem itK_at {h h' : Heap} {b : Bool} {it a : Addr} {i : Nat} (q : ItK h b it a i) (k : ∀ o, h.get? it = some o → h'.get? it = some o) : ItK h' b it a i := by
  cases b
  · exact (show h.IsTupleIter it a i from q).at k
  · exact (show h.IsListIter it a i from q).at k
theorem itK_new {h : Heap} {b : Bool} {it a : Addr} (e : h.get? it = some (itO b a)) : ItK h b it a 0 := by
  cases b
  · exact ⟨_, e, rfl, rfl⟩
  · exact ⟨_, e, rfl, rfl⟩
theorem sqK_inv {X : Cx} {pins : List (Addr × Obj)} {s : Shared} {σ : L2.St} {H : Hp} {b : Bool} {a : Addr} {xs : List V} (I : Inv X pins σ H s) (h : SqK X.K H b a xs) : ∃ its : List Value, Vals xs its ∧ IsK s.heap b a its.toArray ∧ a < s.heap.objs.size := by
  cases b
  · obtain ⟨its, r, p, _⟩ := I.tuple (show SqT X.K H a xs from h)
    obtain ⟨o, ho, z⟩ := id p
    exact ⟨its, r, p, Heap.lt_size ho⟩
  · obtain ⟨its, r, p, _⟩ := I.list (show SqL X.K H a xs from h)
    exact ⟨its, r, p.isList, p.lt⟩
theorem vals_at {xs : List V} {its : List Value} (r : Vals xs its) {i : Nat} {v : Value} (h : its.toArray[i]? = some v) : ∃ x, xs[i]? = some x ∧ RelV x v := by
  have h : its[i]? = some v := by simpa using h
  have hl : i < xs.length := by rw [r.length]; exact (List.getElem?_eq_some_iff.mp h).1
  obtain ⟨u, e, ru⟩ := r.get (List.getElem?_eq_getElem hl)
  rw [h] at e
  cases e
  exact ⟨_, List.getElem?_eq_getElem hl, ru⟩
/-- enumerate's walk -/
theorem pairs_enum {P : Program} {w : World} {K : PySem.W.Frag} (b : Bool) (a e it : Addr) (xs : List V) (hne : e ≠ it) (h1 : a ≠ e) (h2 : a ≠ it) :
    PairW P w K xs.length (fun H => SqK K H b a xs) (fun i => some (.int (i : Nat))) (fun i => xs[i]?) e [e, it] [e, it] (fun i h => (∃ old, IsEnum h e it ((i : Nat) : Int) old) ∧ ItK h b it a i) where
  mem := by simp
  sub := fun _ h => h
  obj := fun i h st c hc => by
    obtain ⟨⟨old, he⟩, hi⟩ := st
    have e' : c = e ∨ c = it := by simpa using hc
    rcases e' with z | z
    · subst z; exact ⟨_, he, fun v q => nomatch q⟩
    · subst z; exact itK_obj hi
  keep := fun i h h' ⟨⟨old, he⟩, hi⟩ k => ⟨⟨old, k e (by simp) _ he⟩, itK_at hi fun o q => k it (by simp) o q⟩
  self := fun A i s Q E ⟨⟨old, he⟩, _⟩ hq => wpAny_pyIter_enum he hq
  wk := fun X hp hw hK hc i pins s σ H I ⟨ho, hi⟩ hG => by
    subst hp hw hK
    obtain ⟨its, r, hs, _⟩ := sqK_inv I hG
    have hl : its.toArray.size = xs.length := by rw [List.size_toArray, r.length]
    have Wk := WalksT.enumerateD (drawsK (prog := X.prog) (w := X.w) (A := X.A.in1) (I.ok.hd hc) b it a h2 its.toArray) e hne (by simp [hne, Ne.symm h1]) (by simp)
    rw [hl] at Wk
    refine ⟨_, _, _, _, Wk, ⟨ho, hi, hs⟩, fun h' ⟨z1, z2, _⟩ => ⟨z1, z2⟩, fun vals hlt hv => ?_⟩
    obtain ⟨t, v, hv, rfl⟩ := hv
    obtain ⟨x, hx, rx⟩ := vals_at r hv
    exact ⟨.int (i : Nat), x, _, v, rfl, ⟨_, rfl⟩, rx, rfl, hx⟩
section
variable {prog : Program} {w : World} {A : Around} {E : Value → Shared → Prop} {s : Shared}
theorem meets_enum1 {v : Value} {ob : Obj} {J : Heap → Prop} (B : Begins v ob J) :
    Meets (Builtin.«enumerate.__new__» ⟨[.type "enumerate", v], []⟩) (fun _ R s => J s.heap ∧ R (.ok (.ret (.ref (s.heap.push ob).objs.size)))
      { s with heap := (s.heap.push ob).push { cls := .type "enumerate", data := .fields #[.none, .bool false, .ref s.heap.objs.size, rawInt 0, .none, .none] } }) :=
  .of_wp fun pr ww Ar Rr st hyp => by
    obtain ⟨hp, gs, dr, tks, out⟩ := st
    obtain ⟨j1, fin⟩ := hyp
    have hsub := sub_enumerate
    have it1 : ∀ {A' : Around} {E : Value → Shared → Prop} {Q : Value → Shared → Prop}, Q (.ref hp.objs.size) ⟨hp.push ob, gs, dr, tks, out⟩ → wpAny (model pr ww) A' (pyIter v) Q E ⟨hp, gs, dr, tks, out⟩ :=
      fun hq => B.iter pr ww _ _ ⟨hp, gs, dr, tks, out⟩ _ j1 hq
    wp_walk using it1
    refine wpAny_stack_any fun frames => wpAny_pure ?_
    split
    · rename_i c _ _ _ _ _
      cases (c == Value.type "enumerate")
      all_goals
        wp_walk using it1
        exact ⟨_, rfl, fin⟩
    · wp_walk using it1
      exact ⟨_, rfl, fin⟩
theorem call_enum1 {v : Value} {ob : Obj} {J : Heap → Prop} {Q : Value → Shared → Prop} (B : Begins v ob J) (j1 : J s.heap)
    (h : ∀ h', IsEnum h' (s.heap.objs.size + 1) s.heap.objs.size 0 .none → h'.get? s.heap.objs.size = some ob → h'.objs.size = s.heap.objs.size + 2 → (∀ c o, s.heap.get? c = some o → h'.get? c = some o) → Q (.ref (s.heap.objs.size + 1)) { s with heap := h' }) :
    wpAny (model prog w) A (call (.type "enumerate") [v]) Q E s := by
  refine callType_new F.called_enumerate (by decide) (F.typeCall_enumerate_1 _) (F.newCall_enumerate_1 _) (fun obj => F.args_object_init_2 obj _) F.entry_enumerate_new (meets_enum1 B) ⟨j1, ?_⟩
  have z1 : (s.heap.push ob).objs.size = s.heap.objs.size + 1 := Heap.size_push ..
  have g1 := Heap.get?_push_size (s.heap.push ob) (o := { cls := .type "enumerate", data := .fields #[.none, .bool false, .ref s.heap.objs.size, rawInt 0, .none, .none] }) rfl
  show _ ∧ _
  rw [z1] at g1 ⊢
  exact ⟨⟨_, g1, rfl⟩, h _ g1 (Heap.get?_push_of_some _ (Heap.get?_push_size _ B.free)) (by rw [Heap.size_push, z1]) fun c o q => Heap.get?_push_of_some _ (Heap.get?_push_of_some _ q)⟩
end
/-- enumerate of a list or a tuple -/
def iEnK (K : PySem.W.Frag) (ta : TA) : TI := fun σ H R => ta σ H fun vs H1 => ∃ b a xs, vs = [.ref a] ∧ SqK K H1 b a xs ∧ R (Jp xs.length (fun H => SqK K H b a xs) (fun i => some (.int (i : Nat))) fun i => xs[i]?) H1
theorem pi_enK {X : Cx} {e : Expr} {ta : TA} {p pos tpos : Pos} {elts : List Expr} {kk : Nat} (hg : Gl X "enumerate") (hm : X.mg "enumerate" = none) (ha : PA X [e] ta) (hs : starEach [e] X.env = [(false, eval e X.env)]) :
    PI X (.Tuple elts kk tpos) (.Call (.Name "enumerate" p) [e] [] pos) (iEnK X.K ta) := by
  refine ⟨fun pins s σ H R I h => ?_⟩
  refine Call_ (ld_blt I hg hm boot_enumerate (PyProof.Rows.callWith_type1 (thn (ha.run pos pins s σ H _ I h) fun us s1 ⟨vs, H1, I1, r1, b, a, xs, ev, hq, q⟩ => ?_) hs rfl))
  subst ev
  cases r1 with
  | cons r rr =>
    cases rr
    cases r
    obtain ⟨its, rv, hk, hlt⟩ := sqK_inv I1 hq
    refine call_enum1 (beginsK b a its.toArray) hk fun h' he hi hsz kp => wpAny_pyIter_enum he ?_
    have I2 : Inv X pins σ H1 { s1 with heap := h' } := I1.kept (t' := s1.toks) kp
    have hlt : a < s1.heap.objs.size := hlt
    refine ⟨s1.heap.objs.size + 1, [s1.heap.objs.size + 1, s1.heap.objs.size], _, _, H1, rfl, I2, turn_pairs (pairs_enum b a (s1.heap.objs.size + 1) s1.heap.objs.size xs (Nat.succ_ne_self _) (Nat.ne_of_lt (Nat.lt_succ_of_lt hlt)) (Nat.ne_of_lt hlt)), ⟨⟨.none, he⟩, itK_new hi⟩, fun c hc => ?_, q⟩
    have hle : s1.heap.objs.size ≤ c := by
      have e' : c = s1.heap.objs.size + 1 ∨ c = s1.heap.objs.size := by simpa using hc
      rcases e' with z | z
      · rw [z]; exact Nat.le_add_right _ _
      · rw [z]; exact Nat.le_refl _
    exact I1.fpOk hle (I1.hok.fresh hle)

theorem pairs_zip {P : Program} {w : World} {K : PySem.W.Frag} (b c : Bool) (N a d : Addr) (xs ys : List V) (h1 : a < N) (h2 : d < N) :
    PairW P w K (min xs.length ys.length) (fun H => SqK K H b a xs ∧ SqK K H c d ys) (fun i => xs[i]?) (fun i => ys[i]?) (N + 4) [N + 4, N + 2, N + 3, N, N + 1] [N + 4, N + 3, N, N + 1]
      (fun i h => IsZip h (N + 4) (N + 2) (N + 3) .none ∧ IsTupOf2 h (N + 2) (.ref N) (.ref (N + 1)) ∧ (∃ u v, IsTupOf2 h (N + 3) u v) ∧ ItK h b N a i ∧ ItK h c (N + 1) d i) where
  mem := by simp
  sub := fun z hz => by
    have hz : z = N + 4 ∨ z = N + 3 ∨ z = N ∨ z = N + 1 := by simpa using hz
    rcases hz with q | q | q | q <;> (rw [q]; simp)
  obj := fun i h st z hz => by
    obtain ⟨s1, s2, ⟨u, v, s3⟩, s4, s5⟩ := st
    have hz : z = N + 4 ∨ z = N + 2 ∨ z = N + 3 ∨ z = N ∨ z = N + 1 := by simpa using hz
    rcases hz with q | q | q | q | q
    · rw [q]; exact ⟨_, s1, fun v z => nomatch z⟩
    · rw [q]; exact ⟨_, s2, fun v z => nomatch z⟩
    · rw [q]; exact ⟨_, s3, fun v z => nomatch z⟩
    · rw [q]; exact itK_obj s4
    · rw [q]; exact itK_obj s5
  keep := fun i h h' ⟨s1, s2, ⟨u, v, s3⟩, s4, s5⟩ k => ⟨k (N + 4) (by simp) _ s1, k (N + 2) (by simp) _ s2, ⟨u, v, k (N + 3) (by simp) _ s3⟩, itK_at s4 fun o q => k N (by simp) o q, itK_at s5 fun o q => k (N + 1) (by simp) o q⟩
  self := fun A i s Q E st hq => wpAny_pyIter_zip st.1 hq
  wk := fun X hp hw hK hc i pins s σ H I ⟨s1, s2, s3, s4, s5⟩ ⟨g1, g2⟩ => by
    subst hp hw hK
    obtain ⟨its, r, hs, _⟩ := sqK_inv I g1
    obtain ⟨its2, r2, hs2, _⟩ := sqK_inv I g2
    have hl : its.toArray.size = xs.length := by rw [List.size_toArray, r.length]
    have hl2 : its2.toArray.size = ys.length := by rw [List.size_toArray, r2.length]
    have Sp : ZipSep2 (N + 4) (N + 2) (N + 3) N (N + 1) (N :: [a]) ((N + 1) :: [d]) := zip_sep2 (fun z hz => by rw [List.mem_singleton.mp hz]; exact h1) (fun z hz => by rw [List.mem_singleton.mp hz]; exact h2)
    have Wk := WalksT.zipD2 Sp (drawsK (prog := X.prog) (w := X.w) (A := X.A.in1) (I.ok.hd hc) b N a (Nat.ne_of_lt h1) its.toArray) (drawsK (prog := X.prog) (w := X.w) (A := X.A.in1) (I.ok.hd hc) c (N + 1) d (Nat.ne_of_lt (Nat.lt_succ_of_lt h2)) its2.toArray)
    rw [hl, hl2] at Wk
    refine ⟨_, _, _, _, Wk, ⟨s1, s2, s3, ⟨s4, hs⟩, ⟨s5, hs2⟩⟩, fun h' ⟨z1, z2, z3, z4, z5⟩ => ⟨z1, z2, z3, z4.1, z5.1⟩, fun vals hlt hv => ?_⟩
    obtain ⟨u, v, hu, hv, rfl⟩ := hv
    obtain ⟨x, hx, rx⟩ := vals_at r hu
    obtain ⟨y, hy, ry⟩ := vals_at r2 hv
    exact ⟨x, y, u, v, rfl, rx, ry, hx, hy⟩
/-- zip of two, each a list or a tuple -/
def iZpK (K : PySem.W.Frag) (ta : TA) : TI := fun σ H R => ta σ H fun vs H1 => ∃ b c a d xs ys, vs = [.ref a, .ref d] ∧ SqK K H1 b a xs ∧ SqK K H1 c d ys ∧ R (Jp (min xs.length ys.length) (fun H => SqK K H b a xs ∧ SqK K H c d ys) (fun i => xs[i]?) fun i => ys[i]?) H1
theorem pi_zpK {X : Cx} {e e2 : Expr} {ta : TA} {p pos tpos : Pos} {elts : List Expr} {kk : Nat} (hg : Gl X "zip") (hm : X.mg "zip" = none) (ha : PA X [e, e2] ta)
    (hs : starEach [e, e2] X.env = (false, eval e X.env) :: starEach [e2] X.env) (hpl : (backTo pos (starEach [e2] X.env)).any (·.1) = false) :
    PI X (.Tuple elts kk tpos) (.Call (.Name "zip" p) [e, e2] [] pos) (iZpK X.K ta) := by
  refine ⟨fun pins s σ H R I h => ?_⟩
  refine Call_ (ld_blt I hg hm PyProof.Rows.boot_zip (PyProof.Rows.callWith_type1 (thn (ha.run pos pins s σ H _ I h) fun us s1 ⟨vs, H1, I1, r1, b, c, a, d, xs, ys, ev, hq, hq2, q⟩ => ?_) hs hpl))
  subst ev
  cases r1 with
  | cons r rr =>
    cases rr with
    | cons r' rr =>
      cases rr
      cases r
      cases r'
      obtain ⟨its, rv, hk, hlt⟩ := sqK_inv I1 hq
      obtain ⟨its2, rv2, hk2, hlt2⟩ := sqK_inv I1 hq2
      refine zip_begins2 (beginsK b a its.toArray) (beginsK c d its2.toArray) hk hk2 fun h' z1 z2 z3 z4 z5 hsz kp => wpAny_pyIter_zip z1 ?_
      have I2 : Inv X pins σ H1 { s1 with heap := h' } := I1.kept (t' := s1.toks) kp
      refine ⟨s1.heap.objs.size + 4, [s1.heap.objs.size + 4, s1.heap.objs.size + 2, s1.heap.objs.size + 3, s1.heap.objs.size, s1.heap.objs.size + 1], _, _, H1, rfl, I2, turn_pairs (pairs_zip b c s1.heap.objs.size a d xs ys hlt hlt2), ⟨z1, z2, ⟨_, _, z3⟩, itK_new z4, itK_new z5⟩, fun y hy => ?_, q⟩
      have hle : s1.heap.objs.size ≤ y := by
        have hy : y = s1.heap.objs.size + 4 ∨ y = s1.heap.objs.size + 2 ∨ y = s1.heap.objs.size + 3 ∨ y = s1.heap.objs.size ∨ y = s1.heap.objs.size + 1 := by simpa using hy
        rcases hy with q | q | q | q | q
        · rw [q]; exact Nat.le_add_right _ _
        · rw [q]; exact Nat.le_add_right _ _
        · rw [q]; exact Nat.le_add_right _ _
        · rw [q]; exact Nat.le_refl _
        · rw [q]; exact Nat.le_add_right _ _
      exact I1.fpOk hle (I1.hok.fresh hle)
/-! ### what they walk -/
theorem zipT_len2 : ∀ {xs ys : List T}, (zipT xs ys).length = min xs.length ys.length
  | [], ys => by simp [zipT]
  | _ :: _, [] => by simp [zipT]
  | x :: xs, y :: ys => by simp [zipT, zipT_len2 (xs := xs) (ys := ys)]
theorem sqK_seq {g : Cfg} {K : PySem.W.Frag} {H : Hp} {t : T} {x : V} {F : List Addr} {xs : List T} (r : Rep g H t x F) (h : items t = some xs) :
    ∃ b a ws G, x = .ref a ∧ SqK K H b a ws ∧ RepL g H xs ws G ∧ (∀ z ∈ G, z ∈ F) ∧ ∃ L : List Addr, (∀ z ∈ L, z ∈ F) ∧ ∀ H2, Kp H H2 L → SqK K H2 b a ws := by
  cases t with
  | lst l =>
    cases h
    rw [rep_lst] at r
    obtain ⟨l, ws, G, rfl, h1, h2, rfl⟩ := r
    exact ⟨true, l, ws, G, rfl, SqL.of h1, h2, fun z hz => List.mem_cons_of_mem _ hz, [l], fun z hz => by rw [List.mem_singleton.mp hz]; exact List.mem_cons_self, fun H2 k => SqL.of (k.lst l List.mem_cons_self _ h1)⟩
  | tup l =>
    cases h
    rw [rep_tup] at r
    obtain ⟨l, ws, rfl, h1, h2⟩ := r
    exact ⟨false, l, ws, F, rfl, SqT.of h1, h2, fun z hz => hz, [], (fun z hz => by cases hz), fun H2 k => SqT.of (k.tup l _ h1)⟩
  | _ => cases h
section
variable {X : Cx} {g : Cfg} {W : WX} {P : Prog} {cl : Nat → List T → R T} {a b : Expr} {fa fb : Env → R T} {va vb : List Nat} {p pos tpos : Pos} {elts : List Expr} {kk : Nat}
theorem it_enK (hg : Gl X "enumerate") (hm : X.mg "enumerate" = none) (hst : nst a = true) (ha : PE X a (TEv g W 0 va fa)) :
    PI X (.Tuple elts kk tpos) (.Call (.Name "enumerate" p) [a] [] pos) (TIv g W va fun e => (fa e).bnd fun t => walk P cl .enum [t]) := by
  refine PI.imp (pi_enK hg hm (pa_cons ha pa_nil (star_cons hst)) (by rw [star_cons hst]; rfl)) fun σ H R' ⟨e, Fs, he, h⟩ => ?_
  refine ti1 (A := fun b => ∃ i ∈ va, b ∈ Fs i) he (.refl H) (fun i hi b hb => ⟨i, hi, hb⟩) h fun t v F H1 he1 _ e1 r pf h => ?_
  have h : OutI g W (fun b => ∃ i ∈ va, b ∈ Fs i) σ H R' ((ofO (items t)).bnd fun xs => .ok (enumL 0 xs)) := h
  cases q : items t with
  | none => rw [q] at h; exact h.elim
  | some xs =>
    rw [q] at h
    have dm := r.dom
    obtain ⟨k, l, ws, G, rfl, h1, h2, h3, L, h4, h5⟩ := sqK_seq (K := X.K) r q
    refine ⟨k, l, ws, rfl, h1, h _ H1 (L ++ G) e1 (fun H2 kp => ?_) fun b hb => ?_⟩
    · have k1 : Kp H1 H2 L := kp.sub fun b hb => List.mem_append_left _ hb
      have k2 : Kp H1 H2 G := kp.sub fun b hb => List.mem_append_right _ hb
      have s2 := h5 H2 k1
      have r2 := h2.kp k2
      refine ⟨⟨by rw [enumL_len, r2.len], s2⟩, fun i t q => ?_⟩
      obtain ⟨x, q1, rfl⟩ := enumL_get q
      obtain ⟨v, G', e1, e2, e3⟩ := r2.get q1
      refine ⟨⟨(List.getElem?_eq_some_iff.mp e1).1, s2⟩, fun v' H3 ⟨T1, x1, y1, ev, hT, eH, px, py⟩ => ?_⟩
      subst ev eH
      have py : ws[i]? = some y1 := py
      rw [e1] at py
      cases py
      cases px
      refine ⟨.new hT, G', ?_, fun b hb => List.mem_append_right _ (e3 b hb)⟩
      rw [rep_tup]
      refine ⟨T1, _, rfl, upd_same, ?_⟩
      have r3 := RepL.cons (g := g) (H := H2) (t := .int ((0 + i : Nat) : Int)) (v := .int (i : Nat)) (F1 := []) (by rw [rep_i, Nat.zero_add]; exact ⟨rfl, rfl⟩) (RepL.cons e2 RepL.nil)
      rw [List.nil_append, List.append_nil] at r3
      exact r3.ext (.new hT)
    · rcases List.mem_append.mp hb with z | z
      · exact ⟨pf b (h4 b z), dm b (h4 b z)⟩
      · exact ⟨pf b (h3 b z), dm b (h3 b z)⟩
theorem it_zpK (hg : Gl X "zip") (hm : X.mg "zip" = none) (hst : nst a = true) (hst2 : nst b = true) (ha : PE X a (TEv g W 0 va fa)) (hb : PE X b (TEv g W 0 vb fb)) :
    PI X (.Tuple elts kk tpos) (.Call (.Name "zip" p) [a, b] [] pos) (TIv g W (va ++ vb) fun e => (fa e).bnd fun t => (fb e).bnd fun u => walk P cl .zip [t, u]) := by
  refine PI.imp (pi_zpK hg hm (pa_cons ha (pa_cons hb pa_nil (star_cons hst2)) (star_cons hst)) (star_cons hst) (back_none (by simp [hst2]))) fun σ H R' ⟨e, Fs, he, h⟩ => ?_
  refine ti1 (A := fun b => ∃ i ∈ va ++ vb, b ∈ Fs i) he (.refl H) (fun i hi b hb => ⟨i, List.mem_append_left _ hi, hb⟩) h fun t v F H1 he1 eb1 e1 r pf h => ?_
  refine ti1 (A := fun b => ∃ i ∈ va ++ vb, b ∈ Fs i) he1 eb1 (fun i hi b hb => ⟨i, List.mem_append_right _ hi, hb⟩) h fun t2 v2 F2 H2 he2 eb2 e2 r2 pf2 h => ?_
  have h : OutI g W (fun b => ∃ i ∈ va ++ vb, b ∈ Fs i) σ H R' ((ofO (items t)).bnd fun xs => (ofO (items t2)).bnd fun ys => .ok (zipT xs ys)) := h
  cases q : items t with
  | none => rw [q] at h; exact h.elim
  | some xs =>
    rw [q] at h
    cases q2 : items t2 with
    | none => rw [q2] at h; exact h.elim
    | some ys =>
      rw [q2] at h
      have r := r.ext e2
      have dm := r.dom
      have dm2 := r2.dom
      obtain ⟨k, l, ws, G, rfl, h1, h2, h3, L, h4, h5⟩ := sqK_seq (K := X.K) r q
      obtain ⟨k', l', ws', G2, rfl, h1', h2', h3', L2, h4', h5'⟩ := sqK_seq (K := X.K) r2 q2
      refine ⟨k, k', l, l', ws, ws', rfl, h1, h1', h _ H2 ((L ++ G) ++ (L2 ++ G2)) eb2 (fun H3 kp => ?_) fun b hb => ?_⟩
      · have s1 := h5 H3 (kp.sub fun b hb => List.mem_append_left _ (List.mem_append_left _ hb))
        have s2 := h5' H3 (kp.sub fun b hb => List.mem_append_right _ (List.mem_append_left _ hb))
        have r1 := h2.kp (kp.sub fun b hb => List.mem_append_left _ (List.mem_append_right _ hb))
        have r2 := h2'.kp (kp.sub fun b hb => List.mem_append_right _ (List.mem_append_right _ hb))
        refine ⟨⟨by rw [zipT_len2, r1.len, r2.len], s1, s2⟩, fun i t q => ?_⟩
        obtain ⟨x, y, q1, q2, rfl⟩ := zipT_get q
        obtain ⟨v, G', e1, e2, e3⟩ := r1.get q1
        obtain ⟨v2, G2', f1, f2, f3⟩ := r2.get q2
        have b1 := (List.getElem?_eq_some_iff.mp e1).1
        have b2 := (List.getElem?_eq_some_iff.mp f1).1
        refine ⟨⟨by omega, s1, s2⟩, fun v' H3 ⟨T1, x1, y1, ev, hT, eH, px, py⟩ => ?_⟩
        subst ev eH
        have px : ws[i]? = some x1 := px
        have py : ws'[i]? = some y1 := py
        rw [e1] at px
        rw [f1] at py
        cases px
        cases py
        refine ⟨.new hT, G' ++ (G2' ++ []), ?_, fun b hb => ?_⟩
        · rw [rep_tup]
          exact ⟨T1, _, rfl, upd_same, (RepL.cons e2 (RepL.cons f2 RepL.nil)).ext (.new hT)⟩
        · rcases List.mem_append.mp hb with z | z
          · exact List.mem_append_left _ (List.mem_append_right _ (e3 b z))
          · exact List.mem_append_right _ (List.mem_append_right _ (f3 b (by simpa using z)))
      · rcases List.mem_append.mp hb with z | z
        · rcases List.mem_append.mp z with z | z
          · exact ⟨pf b (h4 b z), dm b (h4 b z)⟩
          · exact ⟨pf b (h3 b z), dm b (h3 b z)⟩
        · rcases List.mem_append.mp z with z | z
          · exact ⟨pf2 b (h4' b z), dm2 b (h4' b z)⟩
          · exact ⟨pf2 b (h3' b z), dm2 b (h3' b z)⟩
end
end Wt

/-! Snd33: sorted, sum, max, min, any, all of a list or a tuple. -/
namespace Wt
open PySem PySem.Spec PyProof.Rows L2
section
variable {prog : Program} {w : World} {A : Around} {E : Value → Shared → Prop} {s : Shared}
theorem collect_tp {t : Addr} {vs : List Value} {Q : List Value → Shared → Prop} (hl : s.heap.IsTuple t vs.toArray) (hsz : vs.length ≤ sizeLine)
    (h : Q vs { s with heap := (s.heap.push (seqObj "list" #[] 0)).update s.heap.objs.size (Obj.mapSeq (· ++ vs.toArray)) }) : wpAny (model prog w) A (collect (.ref t)) Q E s := by
  obtain ⟨o, ho, hc, n, hd⟩ := hl
  have hp : (s.heap.push (seqObj "list" #[] 0)).get? t = some o := Heap.get?_push_of_some _ ho
  have hn : (s.heap.push (seqObj "list" #[] 0)).get? s.heap.objs.size = some (seqObj "list" #[] 0) := Heap.get?_push_size _ rfl
  have hty : (Value.type "tuple" == Value.type "list") = false := by rfl
  have hty2 : (Value.type "tuple" == Value.type "tuple") = true := by rfl
  have big : ((#[] : Array Value) ++ vs.toArray).size ≤ sizeLine + 1 := by simp only [Array.size_append, List.size_toArray, List.length_nil]; omega
  unfold collect
  refine wpAny_bind (wpAny_runValue (codeAny_builtin PyProof.Rows.entry_proto_collect' (wpAny_bind (m := newList []) (wpAny_newList (wpAny_pure ⟨Code.quiet_builtin _ (by decide +kernel), codeAny_builtin PyProof.Rows.entry_list_iadd' ?_⟩)))))
  show wpAny _ _ (Builtin.List.listExtendWith (.ref s.heap.objs.size) (.ref t) (.ref s.heap.objs.size)) _ _ { s with heap := s.heap.push (seqObj "list" #[] 0) }
  unfold Builtin.List.listExtendWith; refine wpAny_bind (wpAny_typeOf (T := "tuple") ⟨o, hp, hc⟩ ?_)
  rw [if_pos (by rw [hty, hty2]; simp)]; refine wpAny_bind (PyProof.Rows.listItems_at hp hd (wpAny_bind (PyProof.Rows.listItems_at (xs := #[]) (n := 0) hn rfl ?_)))
  rw [if_neg (by simp)]; refine wpAny_bind (PyProof.Rows.listUpdate_at (xs := #[]) (n := 0) hn rfl (wpAny_pure ?_) (Nat.zero_le _) big)
  show wpAny (model prog w) A (do
      let ob ← load s.heap.objs.size
      match ob.data with
      | .seq ys _ => pure ys.toList
      | _ => unsupported "internal:collect") Q E { s with heap := (s.heap.push (seqObj "list" #[] 0)).update s.heap.objs.size (Obj.mapSeq (· ++ vs.toArray)) }
  refine wpAny_bind (wpAny_load (PyProof.Rows.get?_update_seq hn _) ?_)
  show wpAny _ _ (pure ((#[] : Array Value) ++ vs.toArray).toList) Q E _
  have e : ((#[] : Array Value) ++ vs.toArray).toList = vs := by simp
  rw [e]
  exact wpAny_pure h
end
end Wt
namespace SrtO
open PySem PySem.Spec PyProof.Rows
section
variable {prog : Program} {w : World} {A : Around} {E : Value → Shared → Prop} {s : Shared}
theorem sorted_ordT {t : Addr} {vs : List Value} {ltv : Value → Value → Bool} {Q : Value → Shared → Prop} (O : Swo ltv) (hl : s.heap.IsTuple t vs.toArray) (hz : vs.length ≤ sizeLine)
    (hS : 2 ≤ vs.length → ∀ (h₁ : Heap) (a : Addr), SortableO prog w A.in1.in1 { s with heap := h₁ } a vs ltv)
    (h : ∀ out : List Value, Srtd ltv out → Stb ltv out vs → Q (.ref (s.heap.objs.size + 1)) { s with heap := sortedAll s.heap vs out.toArray }) :
    wpAny (model prog w) A (call (.builtin "sorted") [.ref t]) Q E s := by
  refine Calls.call_function_entry kind_sorted plain_sorted entry_sorted (args_sorted1 _) ?_
  unfold Builtin.«sorted»
  refine wpAny_bind (m := checkCount "sorted" 1 1 _) (wpAny_pure (wpAny_bind (Wt.collect_tp hl hz (wpAny_bind (wpAny_newList ?_ hz)))))
  have z : ((s.heap.push (seqObj "list" #[] 0)).update s.heap.objs.size (Obj.mapSeq (· ++ vs.toArray))).objs.size = s.heap.objs.size + 1 := by rw [Heap.size_update, size_push']
  have ho : (((s.heap.push (seqObj "list" #[] 0)).update s.heap.objs.size (Obj.mapSeq (· ++ vs.toArray))).push (seqObj "list" vs.toArray 0)).get? (s.heap.objs.size + 1) = some (seqObj "list" vs.toArray 0) := by rw [← z]; exact Heap.get?_push_size _ rfl
  show wpAny _ _ _ _ _ { s with heap := ((s.heap.push (seqObj "list" #[] 0)).update s.heap.objs.size (Obj.mapSeq (· ++ vs.toArray))).push (seqObj "list" vs.toArray 0) }
  rw [z]; refine wpAny_bind (wpAny_holding (wpAny_call_entry slot_list_sort ⟨_, ho, rfl⟩ entry_list_sort (list_sort_ord O ho hz (fun h2 => hS h2 _ _) fun out q1 q2 => ⟨_, rfl, wpAny_pure ⟨_, rfl, h out q1 q2⟩⟩) (args_list_sort _)))
end
end SrtO
namespace Wt
open PySem PySem.Spec PyProof.Rows L2
/-- sorted of a tuple of ints -/
def rSortT (K : PySem.W.Frag) : List V → Hp → VK → Prop := fun vs H Q => ∃ (a : Addr) (ns : List Int), vs = [V.ref a] ∧ SqT K H a (ns.map V.int) ∧
  ∀ (ns' : List Int) (p : Addr), ns'.Perm ns → ns'.Pairwise (· ≤ ·) → H p = none → Q (.ref p) (upd H p (.lst (ns'.map V.int)))
def rSumTp (K : PySem.W.Frag) : List V → Hp → VK → Prop := fun vs H Q => ∃ (a : Addr) (ns : List Int), vs = [V.ref a] ∧ SqT K H a (ns.map V.int) ∧ Q (.int ns.sum) H
section
variable {X : Cx}
theorem cr_sortTp : CallR X (.builtin "sorted") (rSortT X.K) := by
  intro pins s σ H vs us Q I r ⟨a, ns, ev, hs, q⟩
  subst ev
  obtain ⟨its, rv, hl, hz⟩ := I.tuple hs
  rw [Vals.ref1 r]
  have hi := rv.ints
  refine SrtO.sorted_ordT SrtO.swo_int hl (by rw [← rv.length]; exact hz) (fun h2 hA a' => SrtO.ints_sortable hi h2) fun out q1 q2 => ?_
  obtain ⟨k1, k2, k3⟩ := SrtO.ints_out hi q1 q2
  obtain ⟨ep, he'⟩ := PyProof.Rows.sortedAll_at s.heap its out.toArray
  have hl2 : ((out.map SrtO.iv).map V.int).length ≤ sizeLine := by
    rw [List.length_map, k2.length_eq, ← List.length_map (f := V.int)]
    exact hz
  exact ⟨.ref _, upd H (s.heap.objs.size + 1) (.lst ((out.map SrtO.iv).map V.int)), I.laid (t' := s.toks) (fun _ _ => PyProof.Rows.sortedAll_old) (Nat.le_succ _) ⟨hl2, out, ep, vals_of_ints k1, he'⟩, rfl, q _ _ k2 k3 (I.hok.fresh (Nat.le_succ _))⟩
theorem cr_sumTp (hc : X.calm = true) : CallR X (.builtin "sum") (rSumTp X.K) := by
  intro pins s σ H vs us Q I r ⟨a, ns, ev, hs, q⟩
  subst ev
  obtain ⟨its, rv, hl, hz⟩ := I.tuple hs
  rw [Vals.ref1 r]
  have hi := rv.ints
  obtain ⟨xs, e⟩ := hi.allInts.items
  have hn : numsOf (intItems xs).toList = ns := by rw [← e]; exact hi.numsOf
  rw [nums_intItems] at hn
  have hl : s.heap.IsTuple a its.toArray := hl
  rw [e] at hl
  refine PySem.W.ktm_sumG (I.ok.hd hc) hl fun hA tk t' hk => ⟨.int ns.sum, H, I.kept hk, ⟨t', ?_⟩, q⟩
  rw [preSum_eq, List.take_of_length_le (by simp), hn]
end
section
variable {X : Cx} {g : Cfg} {W : WX} {P : Prog} {cl : Nat → List T → R T} {n : Nat}
theorem c1_sorted (hn : n ≤ 1) : Call1 X g W n (.builtin "sorted") (blt1 P cl .sorted) := by
  intro pins s σ Hb H A Q x u t F I eb rx r pf h
  have h : Out g W n A σ Hb Q ((intsR t).bnd fun ns => .ok (.lst ((sortI ns).map T.int))) := h
  cases t with
  | lst xs => exact c1_sortedL hn pins s σ Hb H A Q x u (.lst xs) F I eb rx r pf (by cases q : intsOf xs <;> (simp only [intsR, items, ofO, R.bnd, q] at h ⊢; exact h))
  | tup xs =>
    have h : Out g W n A σ Hb Q ((ofO (intsOf xs)).bnd fun ns => .ok (.lst ((sortI ns).map T.int))) := h
    cases q : intsOf xs with
    | none => rw [q] at h; exact h.elim
    | some ns =>
      rw [q] at h
      rw [ints_ok q, rep_tup] at r
      obtain ⟨l, ws, ex, h1, h2⟩ := r
      obtain ⟨ew, _⟩ := RepL.ints_of h2
      refine cr_sortTp pins s σ H [x] [u] Q I (.cons rx .nil) ⟨l, ns, by rw [ex], SqT.of (by rw [← ew]; exact h1), fun ns' p hp hs hpn => ?_⟩
      rw [sorted_eq (hp.trans (sortI_perm ns).symm) hs (sortI_sorted ns)]
      exact ok_lst eb hpn (RepL.ints _) (fun _ z => by cases z) hn h
  | _ => exact (show False from h).elim
theorem c1_sumA (hc : X.calm = true) : Call1 X g W n (.builtin "sum") (blt1 P cl .sum) := by
  intro pins s σ Hb H A Q x u t F I eb rx r pf h
  have h : Out g W n A σ Hb Q ((intsR t).bnd fun ns => .ok (.int ns.sum)) := h
  cases t with
  | lst xs => exact c1_sumL hc pins s σ Hb H A Q x u (.lst xs) F I eb rx r pf (by cases q : intsOf xs <;> (simp only [intsR, items, ofO, R.bnd, q] at h ⊢; exact h))
  | tup xs =>
    have h : Out g W n A σ Hb Q ((ofO (intsOf xs)).bnd fun ns => .ok (.int ns.sum)) := h
    cases q : intsOf xs with
    | none => rw [q] at h; exact h.elim
    | some ns =>
      rw [q] at h
      rw [ints_ok q, rep_tup] at r
      obtain ⟨l, ws, ex, h1, h2⟩ := r
      obtain ⟨ew, _⟩ := RepL.ints_of h2
      exact cr_sumTp hc pins s σ H [x] [u] Q I (.cons rx .nil) ⟨l, ns, by rw [ex], SqT.of (by rw [← ew]; exact h1), ok_int eb h⟩
  | _ => exact (show False from h).elim
theorem topI_ok : ∀ {ns : List Int} {m : Int}, topI ns = some m → m ∈ ns ∧ ∀ y ∈ ns, y ≤ m
  | [], m, h => by cases h
  | x :: xs, m, h => by
    unfold topI at h
    cases q : topI xs with
    | none =>
      rw [q] at h
      cases h
      cases xs with
      | nil => exact ⟨List.mem_cons_self, fun y hy => by rw [List.mem_singleton.mp hy]; exact Int.le_refl _⟩
      | cons z zs => unfold topI at q; split at q <;> cases q
    | some k =>
      rw [q] at h
      obtain ⟨a, b⟩ := topI_ok q
      have h : (if k ≤ x then x else k) = m := by injection h
      subst h
      split
      · rename_i hk
        exact ⟨List.mem_cons_self, fun y hy => by rcases List.mem_cons.mp hy with rfl | hy; exact Int.le_refl _; exact Int.le_trans (b y hy) hk⟩
      · rename_i hk
        exact ⟨List.mem_cons_of_mem _ a, fun y hy => by rcases List.mem_cons.mp hy with rfl | hy; omega; exact b y hy⟩
theorem botI_ok : ∀ {ns : List Int} {m : Int}, botI ns = some m → m ∈ ns ∧ ∀ y ∈ ns, m ≤ y
  | [], m, h => by cases h
  | x :: xs, m, h => by
    unfold botI at h
    cases q : botI xs with
    | none =>
      rw [q] at h
      cases h
      cases xs with
      | nil => exact ⟨List.mem_cons_self, fun y hy => by rw [List.mem_singleton.mp hy]; exact Int.le_refl _⟩
      | cons z zs => unfold botI at q; split at q <;> cases q
    | some k =>
      rw [q] at h
      obtain ⟨a, b⟩ := botI_ok q
      have h : (if x ≤ k then x else k) = m := by injection h
      subst h
      split
      · rename_i hk
        exact ⟨List.mem_cons_self, fun y hy => by rcases List.mem_cons.mp hy with rfl | hy; exact Int.le_refl _; exact Int.le_trans hk (b y hy)⟩
      · rename_i hk
        exact ⟨List.mem_cons_of_mem _ a, fun y hy => by rcases List.mem_cons.mp hy with rfl | hy; omega; exact b y hy⟩
theorem c1_maxL (hc : X.calm = true) : Call1 X g W n (.builtin "max") (blt1 P cl .maxL) := by
  intro pins s σ Hb H A Q x u t F I eb rx r pf h
  cases t with
  | lst xs =>
    have h : Out g W n A σ Hb Q ((ofO (intsOf xs)).bnd fun ns => (ofO (topI ns)).bnd fun m => .ok (.int m)) := h
    cases q : intsOf xs with
    | none => rw [q] at h; exact h.elim
    | some ns =>
      rw [q] at h
      have h : Out g W n A σ Hb Q ((ofO (topI ns)).bnd fun m => .ok (.int m)) := h
      cases q2 : topI ns with
      | none => rw [q2] at h; exact h.elim
      | some m =>
        rw [q2] at h
        obtain ⟨k1, k2⟩ := topI_ok q2
        rw [ints_ok q, rep_lst] at r
        obtain ⟨l, ws, G, ex, h1, h2, _⟩ := r
        obtain ⟨ew, _⟩ := RepL.ints_of h2
        refine cr_max hc pins s σ H [x] [u] Q I (.cons rx .nil) ⟨l, ns, by rw [ex], SqL.of (by rw [← ew]; exact h1), List.length_pos_of_mem k1, fun m' z1 z2 => ?_⟩
        have e : m' = m := by have := z2 m k1; have := k2 m' z1; omega
        subst e
        exact ok_int eb h
  | _ => exact (show False from h).elim
theorem c1_minL (hc : X.calm = true) : Call1 X g W n (.builtin "min") (blt1 P cl .minL) := by
  intro pins s σ Hb H A Q x u t F I eb rx r pf h
  cases t with
  | lst xs =>
    have h : Out g W n A σ Hb Q ((ofO (intsOf xs)).bnd fun ns => (ofO (botI ns)).bnd fun m => .ok (.int m)) := h
    cases q : intsOf xs with
    | none => rw [q] at h; exact h.elim
    | some ns =>
      rw [q] at h
      have h : Out g W n A σ Hb Q ((ofO (botI ns)).bnd fun m => .ok (.int m)) := h
      cases q2 : botI ns with
      | none => rw [q2] at h; exact h.elim
      | some m =>
        rw [q2] at h
        obtain ⟨k1, k2⟩ := botI_ok q2
        rw [ints_ok q, rep_lst] at r
        obtain ⟨l, ws, G, ex, h1, h2, _⟩ := r
        obtain ⟨ew, _⟩ := RepL.ints_of h2
        refine cr_min hc pins s σ H [x] [u] Q I (.cons rx .nil) ⟨l, ns, by rw [ex], SqL.of (by rw [← ew]; exact h1), List.length_pos_of_mem k1, fun m' z1 z2 => ?_⟩
        have e : m' = m := by have := z2 m k1; have := k2 m' z1; omega
        subst e
        exact ok_int eb h
  | _ => exact (show False from h).elim
end
end Wt

/-! Snd24: an error's __init__. -/
namespace Wt
open PySem PySem.Spec PyProof.Rows L2

section
variable {prog : Program} {w : World} {A : Around} {E : Value → Shared → Prop} {h : Heap} {g : Array GenState} {d : Drawn} {t : Nat} {os : OsState}
variable {nm q : Str} {C N : Addr} {bs bm : List Value} {hdct : Bool} {sn : List Str} {sub : List Value} {ab : Bool} {col : Option Bool} {dd : Option Addr} {k0 k1 k2 k3 k5 : Option Value}
/-- super().__init__(..) called: the wrapper of ValueError.__init__ -/
theorem call_bwV {u e t0 : Addr} {rest : List Value} {Q : Value → Shared → Prop}
    (hC : h.get? C = some (excClassObj nm q C N bs bm hdct sn sub ab col dd k0 k1 k2 k3 k5 "ValueError.__new__")) (he : h.get? e = some (HandSPX.excO C t0)) (hu : h.get? u = some (PySem.W.kxs_mw "ValueError.__init__" e)) (hrest : rest.length ≤ sizeLine)
    (hq : ∀ h' t1, (∀ b o, b ≠ e → h.get? b = some o → h'.get? b = some o) → h'.get? e = some (HandSPX.excO C t1) → Q .none ⟨h', g, d, t, os⟩) :
    wpAny (model prog w) A (call (.ref u) rest) Q E ⟨h, g, d, t, os⟩ := by
  have FB := F.excBase_ValueError
  apply wpAny_call
  apply codeAny_of_tree
  change wpAny _ A.in1 (callAny (.ref u) ⟨rest, []⟩) _ _ _
  rw [callAny]
  apply wpAny_bind
  apply wpAny_load hu
  dsimp only [PySem.W.kxs_mw]
  refine PySem.W.KFB.if_so (by decide) ?_
  refine wpAny_bind (PySem.W.check_bound_init FB.toExcCallFacts hC he rfl ?_)
  apply wpAny_pure
  constructor
  · exact plainId_quiet FB.init.plain _
  apply codeAny_builtin FB.initEntry
  rw [Around.under_plainId FB.init.plain]
  wp_walk
  have hlt : e ≠ h.objs.size := Nat.ne_of_lt (Heap.lt_size he)
  apply hq _ h.objs.size
  · intro b o hb ho
    rw [Heap.get?_update_other _ _ hb.symm, Heap.get?_push_of_some _ ho]
  · rw [Heap.get?_update_self _ (Heap.get?_push_of_some _ he) rfl] <;> rfl
end

/-- an error's __init__: its names -/
structure ScX (N ps : List Str) (sc : Scope) : Prop where
  kind : sc.kind = .function
  co : sc.isCoroutine = false
  gen : sc.isGenerator = false
  nd : N.Nodup
  pre : N.take ps.length = ps
  par : ∀ x ∈ ps, sc.names.lookup x = some .local
  free : ∀ y ∈ sc.names, y.2 = .free → y.1 = "__class__"
  nocell : ∀ y ∈ sc.names, y.2 ≠ .cell
  cls : sc.names.lookup ("__class__" : Str) = some .free
  sup : sc.names.lookup ("super" : Str) = some .globalImplicit
/-- the context of such a body -/
def cxX (CX : CXT) (P : Program) (w : World) (K : PySem.W.Frag) (mg : Str → Option Value) (base : Heap) (N : List Str) (fd : FuncData) (f : Addr) (A : Around) (outer : List PySem.Env) (s : Shared) (H : Hp) (E : XK) : Cx where
  prog := P
  w := w
  K := K
  mg := mg
  base := base
  A := A.deeper (callEnv fd s.heap.objs.size f)
  N := N
  s_0 := s
  H_0 := H
  env := callEnv fd s.heap.objs.size f
  outer := outer
  stack := callEnv fd s.heap.objs.size f :: outer
  ex := []
  calm := true
  fn := fun x => !(x == "__class__")
  pn := []
  xe := fun e s' => wpAny (model P w) (A.deeper (callEnv fd s.heap.objs.size f)) (leaving (callEnv fd s.heap.objs.size f) e) (fun _ s'' => CX outer H s E e s'') (fun e' s'' => CX outer H s E e' s'') s'
theorem zip_rev {P : List Str} {vs : List Value} {x : Str} {v : Value} {i : Nat} (nd : P.Nodup) (h1 : P[i]? = some x) (h2 : vs[i]? = some v) : (P.zip vs).reverse.lookup x = some v := by
  have hm : (x, v) ∈ P.zip vs := by
    refine List.mem_iff_getElem?.mpr ⟨i, ?_⟩
    rw [List.getElem?_zip_eq_some]
    exact ⟨h1, h2⟩
  have key : ∀ {l : List (Str × Value)}, (l.map (·.1)).Nodup → (x, v) ∈ l → l.lookup x = some v := by
    intro l
    induction l with
    | nil => intro _ h; cases h
    | cons p l ih =>
      intro nd h
      obtain ⟨y, u⟩ := p
      rw [List.map_cons, List.nodup_cons] at nd
      rcases List.mem_cons.mp h with h | h
      · cases h
        rw [List.lookup_cons]
        simp
      · have ne : x ≠ y := fun z => nd.1 (by rw [← z]; exact List.mem_map.mpr ⟨_, h, rfl⟩)
        rw [List.lookup_cons]
        have : (x == y) = false := by simpa using ne
        rw [this]
        exact ih nd.2 h
  refine key ?_ (List.mem_reverse.mpr hm)
  rw [List.map_reverse]
  refine List.pairwise_reverse.mpr (List.Pairwise.imp (R := fun a b => a ≠ b) (S := fun a b => b ≠ a) (fun h => Ne.symm h) ?_)
  show ((P.zip vs).map (·.1)).Nodup
  have : (P.zip vs).map (·.1) = P.take vs.length := by
    clear key hm h1 h2 nd
    induction P generalizing vs with
    | nil => simp
    | cons p P ih =>
      cases vs with
      | nil => rfl
      | cons v vs =>
        show p :: (P.zip vs).map (·.1) = p :: P.take vs.length
        rw [ih]
  rw [this]
  exact nd.sublist (List.take_sublist _ _)
section
variable {CX : CXT} {P : Program} {w : World} {K : PySem.W.Frag} {mg : Str → Option Value} {base : Heap} {N ps : List Str} {name qual : Str} {params : Arguments} {body : List Stmt} {scope : Scope} {dV kV doc pm cdv ct oc : Value} {an od : Option Addr} {osl : Array (Option Value)} {f cc D : Addr}
  {A : Around} {outer : List PySem.Env} {s : Shared} {H : Hp} {E : XK} {us : List Value} {vs : List V} {ccl : Value} {ccd : Option Addr} {ccs : Array (Option Value)}
theorem inv_startX (S : ScX N ps scope) (hd : A.handled = none) (e0 : Env0 P w K mg base A outer s H) (hl : vs.length = ps.length) (r : Vals vs us) (hcell : K.lookup cc = some ⟨ccl, ccd, .cell (some (.ref D)), ccs⟩) {h0 : Heap} (hns : h0.Ns s.heap.objs.size (fun x => (ps.zip us).reverse.lookup x)) (hk : ∀ b o, s.heap.get? b = some o → h0.get? b = some o) {tk : Nat} :
    Inv (cxX CX P w K mg base N (PySem.W.fnX name qual params body scope [("__class__", cc)] dV kV doc pm an cdv ct) f A outer s H E) [] (L2.start N vs) H { s with heap := h0, toks := tk } := by
  have hpl : ps.length ≤ N.length := by have := congrArg List.length S.pre; rw [List.length_take] at this; omega
  have bcc := e0.mod.kin _ _ hcell
  have cells : ∀ (y : Str) (c : Addr), ([("__class__", cc)] : List (Str × Addr)).lookup y = some c → y = "__class__" ∧ c = cc := fun y c h => by
    rw [List.lookup_cons] at h
    cases q : (y == ("__class__" : Str)) with
    | true => rw [q] at h; cases h; exact ⟨eq_of_beq q, rfl⟩
    | false => rw [q] at h; cases h
  have kinds : ∀ y, scope.names.lookup y ≠ some .cell := fun y h => S.nocell _ (PySem.mem_of_lookup h) rfl
  have noA : ∀ b : Addr, b ∉ (cxX CX P w K mg base N (PySem.W.fnX name qual params body scope [("__class__", cc)] dV kV doc pm an cdv ct) f A outer s H E).ex := fun b z => absurd (show b ∈ ([] : List Addr) from z) (by simp)
  refine ⟨⟨e0.mod, S.kind, rfl, rfl, Nat.le_refl _, fun y z c h1 h2 => ?_, fun y hy => ?_, fun y c hf h => ?_, fun _ => hd, Around.frames_deeper e0.frames, .inr ⟨rfl, rfl⟩, fun b z => absurd z (noA b), e0.bs, e0.bsz, fun b _ _ => noA b, fun b z => absurd z (noA b), e0.funs, e0.frf⟩,
    rfl, e0.bare, Un.kept hk, ⟨_, hns, fun i y v h1 h2 h3 => ?_⟩, fun y c h => ?_, e0.hok.fresh (Nat.le_refl _), fun y c h => ?_, fun p hp => absurd (show p ∈ ([] : List (Addr × Obj)) from hp) (by simp), e0.hok.kept hk, ?_⟩
  · exact (cells y c h1).1.trans (cells z c h2).1.symm
  · rcases hy with hy | hy
    · exact absurd hy (kinds y)
    · have e := S.free _ (PySem.mem_of_lookup hy) rfl
      refine ⟨cc, ?_⟩
      have e : y = "__class__" := e
      rw [e]
      rfl
  · obtain ⟨e, _⟩ := cells y c h
    rw [e] at hf
    cases hf
  · have hi : i < vs.length := by
      unfold L2.start at h2
      by_cases hi : i < vs.length
      · exact hi
      · rw [List.getElem?_append_right (by simpa using hi)] at h2
        rw [List.getElem?_replicate] at h2
        split at h2 <;> cases h2
    have ha : vs[i]? = some v := by
      unfold L2.start at h2
      rw [List.getElem?_append_left (by simpa using hi), List.getElem?_map] at h2
      cases e : vs[i]? with
      | none => rw [e] at h2; cases h2
      | some a => rw [e] at h2; cases h2; rfl
    obtain ⟨u, hu, rv⟩ := r.get ha
    have hp : ps[i]? = some y := by
      rw [← S.pre, List.getElem?_take_of_lt (by omega)]; exact h1
    have ndP : ps.Nodup := by rw [← S.pre]; exact S.nd.sublist (List.take_sublist _ _)
    exact ⟨u, rv, .inl ⟨S.par y (List.mem_of_getElem? hp), zip_rev ndP hp hu⟩⟩
  · obtain ⟨_, e⟩ := cells y c h
    rw [e]
    exact ⟨_, _, hk _ _ (e0.bs _ _ bcc).1, rfl⟩
  · obtain ⟨_, e⟩ := cells y c h
    rw [e]
    exact (e0.bs _ _ bcc).2
  · unfold L2.start
    show _ = N.length
    rw [List.length_append, List.length_map, List.length_replicate]
    omega

/-- what the class says of the super() of its errors -/
structure SupC (K : PySem.W.Frag) (D C : Addr) : Prop where
  oex : OexC K C
  clsD : ∃ cd, PySem.W.clsIn K D = some cd
  sub : PySem.W.mroIn K C (.ref D) = some true
  ve : PySem.W.subIn K (.ref C) (.type "ValueError") = some true
  nt : PySem.W.nsIn K PySem.cStatics "thirdparty.any" = some none
  ini : PySem.W.ks_superIn K C D "__init__" = some (some (.builtin "ValueError.__init__"))

theorem mcall_eq {o : Expr} {name : Str} {apos pos p3 : Pos} {env : PySem.Env} {tx : Str} {j : Nat} (hl : (apos.endLine == pos.line) = true) : eval (.Call (.Attribute o name apos) [.Constant (.str tx) j p3] [] pos) env = (do
    let ov ← attributeBase o name env (eval o env)
    standAt apos.atName
    let (f, first) ← holding [ov] (getMethod ov name (do return (← importBound o env).getD true))
    callWith pos f first (backTo pos (starEach [.Constant (.str tx) j p3] env)) []) := by
  show (do
    let ov ← attributeBase o name env (eval o env)
    standAt apos.atName
    methodCall o name apos pos env ov 1 (backTo pos (starEach [.Constant (.str tx) j p3] env)) (backToKw pos (keywordEach [] env))) = _
  have few : methodCallForm 1 (backTo pos (starEach [.Constant (.str tx) j p3] env)) (backToKw pos (keywordEach [] env)) = true := rfl
  have p1 : ∀ b : Bool, methodCallPos b o env apos pos = pure pos ∨ b = true := fun b => by
    cases b with
    | true => exact .inr rfl
    | false => exact .inl rfl
  have p2 : methodCallPos true o env apos pos = pure pos := by
    unfold methodCallPos
    rw [hl]
    rfl
  unfold methodCall calleeOf
  simp only [few, p2, if_true, pure_bind]
  rfl
/-- super().__init__(text) -/
theorem super_line {X : Cx} {ar : Arg} {fd : FuncData} {cda D C a : Addr} {vsC : Array Value} {file : Str} {tf : Tok} {lc : Value} {ld : Option Addr} {ls : Array (Option Value)} {m : Str → Option Value} {σ : L2.St} {H : Hp} {s : Shared} {tx : Str} {j : Nat} {p0 p1 p2 p3 p4 p5 : Pos} {body : List Stmt}
    (I : Inv X [] σ H s) (hks : X.env.kindOf "super" = some .globalImplicit) (hkc : X.env.kindOf "__class__" = some .free) (hcl : X.env.cells.lookup ("__class__" : Str) = some cc) (hka : X.env.kindOf ar.arg = some .local)
    (hfu : X.env.func = some f) (lk : X.K.lookup f = some ⟨oc, od, .func fd, osl⟩) (hp : (fd.params.posonlyargs ++ fd.params.args).head? = some ar) (hco : X.env.code = .ref cda)
    (hcd : X.K.lookup cda = some ⟨lc, ld, .fields vsC, ls⟩) (hvs : vsC[2]? = some (.str file tf)) (hfile : ((X.prog.main.file : Str) == file) = true) (htop : (X.prog.main.scope.names.lookup ("super" : Str)).isSome = false)
    (hcell : X.K.lookup cc = some ⟨ccl, ccd, .cell (some (.ref D)), ccs⟩) (hm : X.mg "super" = none) (T : SupC X.K D C)
    (hns : s.heap.Ns X.env.locals m) (hv : m ar.arg = some (.ref a)) (ha : H a = some (exo a C none)) (hin : interactive X.env = false) (hl : (p2.endLine == p4.line) = true) :
    _root_.PySem.wpAt (model X.prog X.w) X.A (.func body X.env) (exec (.Expr (.Call (.Attribute (.Call (.Name "super" p0) [] [] p1) "__init__" p2) [.Constant (.str tx) j p3] [] p4) p5) X.env) (fun fl s' => fl = .next ∧ Inv X [] σ H s') X.xe s := by
  have KX := I.kIn
  obtain ⟨cdD, hD⟩ := T.clsD
  obtain ⟨oD, hD1, hD2⟩ : ∃ oD, s.heap.get? D = some oD ∧ oD.data = .cls cdD := by
    unfold PySem.W.clsIn at hD
    split at hD
    · rename_i c d cd' sl ho
      cases hD
      exact ⟨_, KX _ _ ho, rfl⟩
    · cases hD
  obtain ⟨t1, hoe⟩ := exo_at I.hok ha
  obtain ⟨mb, hb1, hb2⟩ := I.mod.blt
  obtain ⟨nm, q, N', bs, bm, sn, sub, ab, col, dd, k0, k1, k2, k3, k5, hC, hbm⟩ := T.oex.cls
  have hclC : PySem.W.clsIn X.K C = some { name := nm, bases := bs, mro := .ref C :: bm, ns := N', qualname := q, hasDict := true, slotNames := sn, subclasses := sub, abstract := ab, collection := col, hasDel := false } := by unfold PySem.W.clsIn; rw [hC] <;> rfl
  have Ia : PySem.W.InstAt s.heap a { cls := .ref C, dict := none, data := .fields #[.ref t1, .none, .none, .none, .bool false, .none] } C none := ⟨hoe, rfl, rfl, trivial⟩
  refine ks_wpAt_Expr_any (ks_wpAt_MethodCall (ks_wpAt_super_base hks hkc (by decide) hfu (KX _ _ lk) rfl hp hco (KX _ _ hcd) rfl hvs hfile htop ?_) (mcall_eq hl)) hin
  refine PySem.W.ks_loadName_global I.ok.kind hks (Calls.loadGlobal_builtin (by rw [I.ok.glob]; exact I.mod.glob.keeps I.bk) hm (by rw [I.ok.blt]; exact hb1.keeps I.bk) ((hb2 _ (by decide +kernel)).trans (by decide +kernel)) ⟨rfl, ?_⟩)
  refine wpAny_loadName_free I.ok.kind hkc hcl ⟨_, KX _ _ hcell, rfl⟩ ?_
  refine wpAny_loadName_local I.ok.kind hka hns hv ?_
  refine ks_wpAny_isType_cls hD1 hD2 ⟨rfl, ?_⟩
  obtain ⟨hh, g, d, t, os⟩ := s
  refine ks_wpAny_call_super hD1 hD2 hoe rfl (fun c e => by cases e) (PySem.W.looks_mroIn KX T.sub) (fun h' e k => ?_)
  have I1 : Inv X [] σ H ⟨h', g, d, t, os⟩ := I.kept (t' := t) k
  have hI : PySem.W.Looks (model X.prog X.w) h' (isInstance (.ref a) (.type "ValueError")) true := by
    have Ib : PySem.W.InstAt h' a { cls := .ref C, dict := none, data := .fields #[.ref t1, .none, .none, .none, .bool false, .none] } C none := ⟨k _ _ hoe, rfl, rfl, trivial⟩
    exact Ib.type.andThen (PySem.W.looks_subIn I1.kIn T.ve)
  have hini : PySem.W.alongIn X.K "__init__" (((Value.ref C :: bm).dropWhile (· != .ref D)).drop 1) = some (some (.builtin "ValueError.__init__")) := by
    have z := T.ini
    unfold PySem.W.ks_superIn at z
    rw [hclC] at z
    exact z
  refine PySem.W.kxs_getMethod PySem.W.kxs_ValueError e (PySem.W.looks_opaque I1.kIn T.nt) (l₀ := .ref C :: bm) ?_ rfl I1.kIn hini hI (PySem.W.ks_ne KX Ia hclC) (by decide) ?_
  · exact fun A Q E s k q => wpAny_bind ((PySem.W.looks_clsIn I1.kIn hclC) A _ E s k (wpAny_pure q))
  have hu : (h'.push (PySem.W.kxs_mw "ValueError.__init__" a)).get? h'.objs.size = some (PySem.W.kxs_mw "ValueError.__init__" a) := Heap.get?_push_at rfl rfl
  have I2 : Inv X [] σ H ⟨h'.push (PySem.W.kxs_mw "ValueError.__init__" a), g, d, t + 1, os⟩ := I1.kept (t' := t + 1) fun b o z => Heap.get?_push_of_some _ z
  have hun : H h'.objs.size = none := I1.hok.fresh (Nat.le_refl _)
  have I2' : Inv X [(h'.objs.size, PySem.W.kxs_mw "ValueError.__init__" a)] σ H ⟨h'.push (PySem.W.kxs_mw "ValueError.__init__" a), g, d, t + 1, os⟩ := by
    refine ⟨I2.ok, I2.os, I2.bare, I2.base, I2.loc, I2.cell, I2.free, I2.freeC, fun p hp => ?_, I2.hok, I2.len⟩
    rcases List.mem_append.mp hp with hp | hp
    · exact I2.pin p (List.mem_append_left _ hp)
    · have e1 := List.mem_singleton.mp hp
      subst e1
      exact ⟨hu, hun, fun z => absurd I1.lt (by rw [← z]; exact Nat.lt_irrefl _), I1.nofs (Nat.le_refl _), fun v z => by cases z⟩
  refine PySem.W.kxs_callWith (i := "ValueError.__init__") (x := a) rfl (Calls.evalArgs_plain ?_)
  refine thn ((pa_cons (X := X) (pe_str (X := X) (x := tx)) pa_nil rfl).run p4 _ _ σ H (fun vs H1 => H1 = H ∧ vs.length = 1) I2' ⟨rfl, rfl⟩) fun us s3 ⟨vs, H1, I3, r3, e3, l3⟩ => ?_
  subst e3
  have hu3 := (I3.pin _ (List.mem_append_right _ (List.mem_singleton.mpr rfl))).1
  refine ⟨hu3, ?_⟩
  obtain ⟨t3, hoe3⟩ := exo_at I3.hok ha
  have hC3 := I3.kIn _ _ hC
  have hus : us.length ≤ sizeLine := by rw [← Paired.length r3, l3, sizeLine_eq]; omega
  obtain ⟨h3, g3, d3, tk3, os3⟩ := s3
  refine call_bwV hC3 hoe3 hu3 hus fun h4 t4 k4 e4 => ⟨rfl, ?_⟩
  have J := I3.write (t' := tk3) (x := a) (e := a) (o := exo a C none) (by rw [ha]; exact True.intro) (.inl rfl) k4 ⟨_, e4⟩ (exo_ok e4)
  have eu : upd H1 a (exo a C none) = H1 := by
    funext b
    by_cases hb : b = a
    · rw [hb, upd_same, ha]
    · rw [upd_ne hb]
  rw [eu] at J
  exact ⟨J.ok, J.os, J.bare, J.base, J.loc, J.cell, J.free, J.freeC, fun p hp => J.pin p (by rw [List.append_nil] at hp; exact List.mem_append_left _ hp), J.hok, J.len⟩

/-- THE RULE: such an __init__ by what follows the first line -/
theorem ex_of {k : Nat} {sp : Sp} {rest : List Stmt} {ar : Arg} {cda : Addr} {vsC : Array Value} {file : Str} {tf : Tok} {lc : Value} {ld : Option Addr} {ls : Array (Option Value)} {tx : Str} {j : Nat} {p0 p1 p2 p3 p4 p5 : Pos}
    (lk : K.lookup f = some ⟨oc, od, .func (PySem.W.fnX name qual params (.Expr (.Call (.Attribute (.Call (.Name "super" p0) [] [] p1) "__init__" p2) [.Constant (.str tx) j p3] [] p4) p5 :: rest) scope [("__class__", cc)] dV kV doc pm an (.ref cda) ct), osl⟩)
    (hcq : PySem.W.codeIn K (.ref cda) qual = true) (S : ScX N ps scope) (hp : (params.posonlyargs ++ params.args).head? = some ar) (hp0 : ps.head? = some ar.arg)
    (hcd : K.lookup cda = some ⟨lc, ld, .fields vsC, ls⟩) (hvs : vsC[2]? = some (.str file tf)) (hfile : ((P.main.file : Str) == file) = true) (htop : (P.main.scope.names.lookup ("super" : Str)).isSome = false)
    (hcell : K.lookup cc = some ⟨ccl, ccd, .cell (some (.ref D)), ccs⟩) (hm : mg "super" = none) (hl : (p2.endLine == p4.line) = true)
    (len : ∀ vs H Q E, sp vs H Q E → vs.length = ps.length)
    (hbody : ∀ (A : Around) (outer : List PySem.Env) (s : Shared) (H : Hp) (vs : List V) (Q : VK) (E : XK), A.handled = none → sp vs H Q E → ∃ (a C : Addr) (vr : List V), vs = .ref a :: vr ∧ H a = some (exo a C none) ∧ SupC K D C ∧
      ∃ t, PSs (cxX CX P w K mg base N (PySem.W.fnX name qual params (.Expr (.Call (.Attribute (.Call (.Name "super" p0) [] [] p1) "__init__" p2) [.Constant (.str tx) j p3] [] p4) p5 :: rest) scope [("__class__", cc)] dV kV doc pm an (.ref cda) ct) f A outer s H E) rest t ∧ t { nx := fun _ H' => Q .non H', rt := Q } (L2.start N vs) H) :
    FnOk P w K mg base CX (k + 1) f (PySem.W.fnX name qual params (.Expr (.Call (.Attribute (.Call (.Name "super" p0) [] [] p1) "__init__" p2) [.Constant (.str tx) j p3] [] p4) p5 :: rest) scope [("__class__", cc)] dV kV doc pm an (.ref cda) ct) ps sp := by
  refine ⟨len, fun A outer s H args us vs Q E hr e0 hb r hsp => ?_⟩
  have hlen := len _ _ _ _ hsp
  have KX : K.In s.heap := e0.mod.kin.keeps fun b o e => (e0.bs b o e).1
  have lim : s.heap.NoLimit := e0.mod.nolimit.keeps fun b o e => (e0.bs b o e).1
  obtain ⟨a, C, vr, ev, ha, T, t, ht, hq⟩ := hbody A outer s H vs Q E hr.hd hsp
  refine ks_codeAny_call_defAt hr.depth (KX _ _ lk) rfl lim (PySem.W.codeRec_of KX hcq) rfl hb (fun y hy => S.nocell y hy) (fun y hy => S.par y.1 (List.of_mem_zip (a := y.1) (b := y.2) hy).1) (fun h0 hns hk => ?_) S.co S.gen S.kind
  have I := inv_startX (CX := CX) (E := E) (P := P) (w := w) (name := name) (qual := qual) (params := params) (body := .Expr (.Call (.Attribute (.Call (.Name "super" p0) [] [] p1) "__init__" p2) [.Constant (.str tx) j p3] [] p4) p5 :: rest) (dV := dV) (kV := kV) (doc := doc) (pm := pm) (an := an) (cdv := .ref cda) (ct := ct) (f := f) (tk := s.toks + (ps.zip us).length) S hr.hd e0 hlen r hcell hns hk
  have hr0 : us.head? = some (.ref a) := by
    subst ev
    cases r with
    | cons ra _ => cases ra; rfl
  have hv : (ps.zip us).reverse.lookup ar.arg = some (.ref a) := by
    have ndP : ps.Nodup := by rw [← S.pre]; exact S.nd.sublist (List.take_sublist _ _)
    refine zip_rev (i := 0) ndP ?_ ?_
    · rw [← List.head?_eq_getElem?]; exact hp0
    · rw [← List.head?_eq_getElem?]; exact hr0
  have hka : scope.names.lookup ar.arg = some .local := by
    refine S.par ar.arg ?_
    cases ps with
    | nil => cases hp0
    | cons x r => cases hp0; exact List.mem_cons_self
  refine ks_wpAt_execs_cons (ks_wpAt_mono (super_line I S.sup S.cls rfl hka rfl lk hp rfl hcd hvs hfile htop hcell hm T hns hv ha I.quiet hl) (fun fl s' hs => ?_) fun _ _ z => z)
  obtain ⟨rfl, I'⟩ := hs
  refine wpAt_of_wpAny (wpAny_mono (ht.run [] s' _ H _ I' hq) (fun fl s2 hs => ?_) fun _ _ z => z)
  have fin : ∀ {σ' : L2.St} {H' : Hp} {v : V} {u : Value}, L2.Inv (cxX CX P w K mg base N (PySem.W.fnX name qual params (.Expr (.Call (.Attribute (.Call (.Name "super" p0) [] [] p1) "__init__" p2) [.Constant (.str tx) j p3] [] p4) p5 :: rest) scope [("__class__", cc)] dV kV doc pm an (.ref cda) ct) f A outer s H E) [] σ' H' s2 → RelV v u → Q v H' → CE outer P w H s Q u s2 :=
    fun {σ' H' v u} J rv q => ⟨v, H', J.os, J.bare, J.base, J.hok, rv, q⟩
  cases fl with
  | ret u =>
    obtain ⟨v, σ', H', J, rv, q⟩ := hs
    exact fin J rv q
  | next =>
    obtain ⟨σ', H', J, q⟩ := hs
    exact fin (v := V.non) (u := Value.none) J rfl q
  | brk =>
    obtain ⟨_, _, _, q⟩ := hs
    exact False.elim q
  | cont =>
    obtain ⟨_, _, _, q⟩ := hs
    exact False.elim q
end
end Wt

/-! Snd35: instances are made; methods are called. -/
namespace Wt
open PySem PySem.Spec PyProof.Rows L2
section
variable {X : Cx} {g : Cfg} {W : WX} {n : Nat} {vs vk : List Nat} {es : List Expr} {kws : List Keyword} {f fk : Env → R (List T)} {pos p : Pos} {x : Str} {ks : List Str}
/-- a class that a scope can make -/
structure MakeOk (X : Cx) (g : Cfg) (x : Str) (c : Nat) (cf : List T → R T) (np : Nat) (ks : List Str) (pm : List Pa) : Prop where
  ex : ∃ (fa : Addr) (fd : FuncData) (ps : List Str) (kl q : Nat), Mk X.K (g.C c) fa ∧ FnOk X.prog X.w X.K X.mg X.base (L2.CX X.prog X.w) kl fa fd ps (spInit g q c cf) ∧ Room (kl + 1) X.A ∧ X.mg x = some (.ref (g.C c)) ∧
    BndOk X.K fd ps (np + 1) ks (selfPm pm) ∧ q = (match pm with | [] => np + ks.length | _ => pm.length) + 1
theorem ev_make {c np : Nat} {pm : List Pa} {cf : List T → R T} (M : MakeOk X g x c cf np ks pm) (tk : Takes X W) (hg : Gl X x) (hdb : (x == ("__debug__" : Str)) = false) (O : ArgsOk X pos es kws ks) (ha : PA X es (TAv g W 0 vs f)) (hk : PKv X g W vk kws fk)
    (hl : ∀ e ts, f e = .ok ts → ts.length = es.length) (hnil : es = [] → ∀ e, f e = .ok []) (lk : ∀ e us, fk e = .ok us → us.length = ks.length) (hnp : es.length = np) (ok : pmOk (np + ks.length) pm = true) :
    PE X (.Call (.Name x p) es kws pos) (TEv g W 0 (vs ++ vk) fun e => (f e).bnd fun ts => (fk e).bnd fun us => cf (args pm (ts ++ us))) := by
  obtain ⟨fa, fd, ps, kl, q, mk, F, hr, hm, hb, hq⟩ := M.ex
  refine ⟨fun pins s σ H Q I ⟨e, Fs, he, h⟩ => wpAny_Call_Name_kw (ld_glob I hg hm ?_ hdb)⟩
  refine call_args (A := fun b => ∃ i ∈ vs ++ vk, b ∈ Fs i) (k := fun ts => cf (args pm ts)) O mk.kp ha hk I he (.refl H) (fun i hi b hb => ⟨i, hi, hb⟩) h (hl e) (fun z => hnil z e) (fun ts xs us ws F1 H1 s1 I1 eb1 e1 r lu lw rt pf h1 => ?_) (lk e)
  have lx : xs.length = np + ks.length := by rw [r.length, List.length_append, lu, lw, hnp]
  rw [List.nil_append]
  exact make_run mk F hr hb (by rw [argsV_len lx, hq] <;> (cases pm <;> rfl)) tk I1 eb1 r (by rw [lu, hnp]) lw rt (by rw [← rt.len, lx]; exact ok) pf rfl h1

/-! ### methods -/
theorem few_ok {pos : Pos} {env : PySem.Env} (h1 : es.all nst = true) (h2 : kwNames kws = some ks) (hc : es.length + kws.length < 28) : methodCallForm (es.length + kws.length) (backTo pos (starEach es env)) (backToKw pos (keywordEach kws env)) = true := by
  have a1 : (backTo pos (starEach es env)).all (!·.1) = true := by
    have := back_none (pos := pos) (env := env) h1
    rw [List.all_eq_not_any_not]
    simp only [Bool.not_not]
    rw [this]
    rfl
  have a2 := (kw_ok (pos := pos) (env := env) h2).1
  unfold methodCallForm
  rw [a1, a2]
  simp only [Bool.and_self, Bool.true_and, decide_eq_true_eq]
  split <;> omega
theorem mcall_gen {o : Expr} {name : Str} {apos : Pos} {env : PySem.Env} (hb : plainBase o = true) (h1 : es.all nst = true) (h2 : kwNames kws = some ks) (hc : es.length + kws.length < 28) (hl : (apos.endLine == pos.line) = true) :
    eval (.Call (.Attribute o name apos) es kws pos) env = (do
      let ov ← eval o env
      standAt apos.atName
      let (f, first) ← holding [ov] (getMethod ov name (do return (← importBound o env).getD true))
      callWith pos f first (backTo pos (starEach es env)) (backToKw pos (keywordEach kws env))) := by
  show (do
    let ov ← attributeBase o name env (eval o env)
    standAt apos.atName
    methodCall o name apos pos env ov (es.length + kws.length) (backTo pos (starEach es env)) (backToKw pos (keywordEach kws env))) = _
  have few := few_ok (pos := pos) (env := env) h1 h2 hc
  have p2 : methodCallPos true o env apos pos = pure pos := by
    unfold methodCallPos
    rw [hl]
    rfl
  rw [base_of hb]
  unfold methodCall calleeOf
  simp only [few, p2, if_true, pure_bind]
/-- a method that a scope can call -/
structure MethOk (X : Cx) (g : Cfg) (P : Prog) (cl : Nat → List T → R T) (x : Str) (m lv np : Nat) (ks : List Str) (pm : List Pa) : Prop where
  nf : ∀ k, g.an k ≠ x
  ex : ∀ c f, P.meth c m = some f → ∃ (fa : Addr) (fd : FuncData) (ps : List Str) (kl q lv' : Nat), Cls X.K (g.C c) ∧ Meth X.K (g.C c) x fa ∧ FnOk X.prog X.w X.K X.mg X.base (L2.CX X.prog X.w) kl fa fd ps (spOf g q lv' (cl f)) ∧ lv ≤ lv' ∧ Room kl X.A ∧
    BndOk X.K fd ps (np + 1) ks pm ∧ q = (match pm with | [] => np + 1 + ks.length | _ => pm.length)
theorem lookup_fields {k : Str} : ∀ {fv : List (Str × V)} {ks : List Nat}, fv.map (·.1) = ks.map g.an → (∀ j, g.an j ≠ k) → fv.lookup k = none
  | [], _, _, _ => rfl
  | (y, v) :: r, [], h, _ => by cases h
  | (y, v) :: r, j :: js, h, hn => by
    rw [List.map_cons, List.map_cons] at h
    obtain ⟨e1, e2⟩ := List.cons.inj h
    have e1 : y = g.an j := e1
    rw [List.lookup_cons]
    have : (k == y) = false := by
      rw [beq_eq_false_iff_ne, e1]
      exact fun z => hn j z.symm
    rw [this]
    exact lookup_fields e2 hn
theorem ev_meth {P : Prog} {cl : Nat → List T → R T} {m lv np : Nat} {pm : List Pa} {o : Expr} {apos : Pos} {fo : Env → R T} {vo : List Nat} (M : MethOk X g P cl x m lv np ks pm) (tk : Takes X W) (hb : plainBase o = true) (h1 : es.all nst = true) (h2 : kwNames kws = some ks) (hc : es.length + kws.length < 28) (hln : (apos.endLine == pos.line) = true)
    (ho : PE X o (TEv g W 0 vo fo)) (ha : PA X es (TAv g W 0 vs f)) (hk : PKv X g W vk kws fk)
    (hl : ∀ e ts, f e = .ok ts → ts.length = es.length) (hnil : es = [] → ∀ e, f e = .ok []) (lk : ∀ e us, fk e = .ok us → us.length = ks.length) (hnp : es.length = np) (ok : pmOk (np + 1 + ks.length) pm = true) (hn : n ≤ lv) :
    PE X (.Call (.Attribute o x apos) es kws pos) (TEv g W n (vo ++ (vs ++ vk)) fun e => (fo e).bnd fun t => (ofO (methOf P m t)).bnd fun d => (f e).bnd fun ts => (fk e).bnd fun us => cl d (args pm (t :: (ts ++ us)))) := by
  refine ⟨fun pins s σ H Q I ⟨e, Fs, he, h⟩ => ?_⟩
  refine PySem.W.methodCall_KW (pl := do return (← importBound o X.env).getD true) ?_ (mcall_gen hb h1 h2 hc hln)
  refine thn (ho.run pins s σ H (fun v H1 => ∃ t F, Ext H H1 ∧ EnvR g H1 σ e Fs ∧ Rep g H1 t v F ∧ (∀ b ∈ F, H b = none ∨ ∃ i ∈ vo ++ (vs ++ vk), b ∈ Fs i) ∧ Out g W n (fun b => ∃ i ∈ vo ++ (vs ++ vk), b ∈ Fs i) σ H Q ((ofO (methOf P m t)).bnd fun d => (f e).bnd fun ts => (fk e).bnd fun us => cl d (args pm (t :: (ts ++ us))))) I ?_) fun u s1 ⟨xv, H1, I1, rx, t, F0, e1, he1, rt, pf, h⟩ => ?_
  · exact te1 (A := fun b => ∃ i ∈ vo ++ (vs ++ vk), b ∈ Fs i) he (.refl H) (fun i hi b hb => ⟨i, List.mem_append_left _ hi, hb⟩) h fun t v F H1 et he1 _ e1 r _ pf h => ⟨t, F, e1, he1, r, pf, h⟩
  · cases t with
    | ins c kk ts =>
      cases qm : P.meth c m with
      | none =>
        have : methOf P m (.ins c kk ts) = none := qm
        rw [this] at h
        exact h.elim
      | some d =>
        have : methOf P m (.ins c kk ts) = some d := qm
        rw [this] at h
        obtain ⟨fa, fd, ps, kl, q, lv', hcl, hme, F, hlv, hr, hbn, hq⟩ := M.ex c d qm
        have rt0 := rt
        rw [rep_ins] at rt
        obtain ⟨a, dx, fv, G, ev, hx1, hk1, hv1, eF⟩ := rt
        subst ev
        obtain rfl : u = Value.ref a := rx
        refine getmeth_ok I1 hx1 hcl hme (lookup_fields hk1 M.nf) ?_
        refine call_args (first := [Value.ref a]) (A := fun b => ∃ i ∈ vo ++ (vs ++ vk), b ∈ Fs i) (k := fun us => cl d (args pm (.ins c kk ts :: us))) (argsOk_of h1 h2) hme.kp ha hk I1 he1 e1 (fun i hi b hb => ⟨i, List.mem_append_right _ hi, hb⟩) h (hl e) (fun z => hnil z e) (fun ts2 xs us ws F1 H2 s2 I2 eb2 e2 r lu lw rt2 pf2 h1' => ?_) (lk e)
        have lx : xs.length = np + ks.length := by rw [r.length, List.length_append, lu, lw, hnp]
        have lt : ts2.length = np + ks.length := by rw [← rt2.len, lx]
        refine call_run (xs := .ref a :: xs) (ts := .ins c kk ts :: ts2) (F := F0 ++ F1) F hr hbn ?_ tk I2 eb2 (.cons rfl r) (by simp; rw [lu, hnp]) lw (RepL.cons (rt0.ext e2) rt2) (by rw [List.length_cons, lt, show np + ks.length + 1 = np + 1 + ks.length by omega]; exact ok) (fun b hb => (List.mem_append.mp hb).elim (pf b) (pf2 b)) (Nat.le_trans hn hlv) h1'
        have : (V.ref a :: xs).length = np + 1 + ks.length := by rw [List.length_cons, lx]; omega
        rw [argsV_len this, hq] <;> (cases pm <;> rfl)
    | _ => exact h.elim
end
end Wt

/-! Snd25: errors are made and raised. -/
namespace Wt
open PySem PySem.Spec PyProof.Rows L2

/-- what a tree reaches: lists and instances -/
def LI (H : Hp) (b : Addr) : Prop := (∃ ws, H b = some (.lst ws)) ∨ ∃ C dx fs, H b = some (.ins C dx fs)
theorem Rep.li {g : Cfg} {H : Hp} : ∀ {t : T} {v : V} {F : List Addr}, Rep g H t v F → ∀ b ∈ F, LI H b := by
  intro t
  refine T.rec (motive_1 := fun t => ∀ {v : V} {F : List Addr}, Rep g H t v F → ∀ b ∈ F, LI H b) (motive_2 := fun ts => ∀ {v : List V} {F : List Addr}, RepL g H ts v F → ∀ b ∈ F, LI H b) ?_ ?_ ?_ ?_ ?_ ?_ ?_ ?_ ?_ ?_ ?_ t
  · intro v F h b hb; rw [Rep] at h; rw [h.2] at hb; cases hb
  · intro b v F h b hb; rw [Rep] at h; rw [h.2] at hb; cases hb
  · intro b v F h b hb; rw [Rep] at h; rw [h.2] at hb; cases hb
  · intro b v F h b hb; rw [Rep] at h; rw [h.2] at hb; cases hb
  · intro xs ih v F h b hb; rw [Rep] at h; obtain ⟨a, vs, e, h1, h2⟩ := h; exact ih h2 b hb
  · intro xs ih v F h b hb
    rw [Rep] at h
    obtain ⟨a, vs, G, e, h1, h2, rfl⟩ := h
    rcases List.mem_cons.mp hb with rfl | hb
    · exact .inl ⟨_, h1⟩
    · exact ih h2 b hb
  · intro c ks vs ih v F h b hb
    rw [Rep] at h
    obtain ⟨a, dx, fv, G, ev, h1, h2, h3, rfl⟩ := h
    rcases List.mem_cons.mp hb with rfl | hb
    · exact .inr ⟨_, _, _, h1⟩
    · exact ih h3 b hb
  · intro b v F h b hb; rw [Rep] at h; rw [h.2] at hb; cases hb
  · intro b v F h b hb; rw [Rep] at h; rw [h.2] at hb; cases hb
  · intro v F h b hb; rw [RepL] at h; rw [h.2] at hb; cases hb
  · intro t ts ih1 ih2 v F h b hb
    rw [RepL] at h
    obtain ⟨w, vr, F1, F2, rfl, h1, h2, rfl⟩ := h
    rcases List.mem_append.mp hb with hb | hb
    · exact ih1 h1 b hb
    · exact ih2 h2 b hb
theorem RepL.li {g : Cfg} {H : Hp} {ts : List T} {v : List V} {F : List Addr} (h : RepL g H ts v F) : ∀ b ∈ F, LI H b := by
  induction ts generalizing v F with
  | nil => intro b hb; rw [RepL] at h; rw [h.2] at hb; cases hb
  | cons t ts ih =>
    intro b hb
    rw [RepL] at h
    obtain ⟨w, vr, F1, F2, rfl, h1, h2, rfl⟩ := h
    rcases List.mem_append.mp hb with hb | hb
    · exact h1.li b hb
    · exact ih h2 b hb
/-- all but a and d is kept, which are no trees' -/
structure KpX (a d : Addr) (H H' : Hp) : Prop where
  a1 : ¬ LI H a
  a2 : ∀ xs, H a ≠ some (.tup xs)
  a3 : ∀ o u, H a ≠ some (.frz o u)
  d1 : ¬ LI H d
  d2 : ∀ xs, H d ≠ some (.tup xs)
  d3 : ∀ o u, H d ≠ some (.frz o u)
  k : ∀ b, b ≠ a → b ≠ d → H' b = H b
theorem KpX.kp {a d : Addr} {H H' : Hp} {F : List Addr} (k : KpX a d H H') (hF : ∀ b ∈ F, LI H b) : Kp H H' F :=
  ⟨fun b hb o q => by rw [k.k b (fun z => k.a1 (z ▸ hF b hb)) (fun z => k.d1 (z ▸ hF b hb))]; exact q,
   fun b xs q => by rw [k.k b (fun z => k.a2 xs (z ▸ q)) (fun z => k.d2 xs (z ▸ q))]; exact q,
   fun b o u q => by rw [k.k b (fun z => k.a3 o u (z ▸ q)) (fun z => k.d3 o u (z ▸ q))]; exact q⟩
theorem KpX.rep {g : Cfg} {a d : Addr} {H H' : Hp} {t : T} {v : V} {F : List Addr} (k : KpX a d H H') (r : Rep g H t v F) : Rep g H' t v F := r.kp (k.kp r.li)
theorem KpX.env {g : Cfg} {a d : Addr} {H H' : Hp} {σ : L2.St} {e : Env} {Fs : Nat → List Addr} (her : g.er = none) (k : KpX a d H H') (h : EnvR g H σ e Fs) : EnvR g H' σ e Fs :=
  ⟨h.len, fun i t q => let ⟨v, v1, v2⟩ := h.at_ i t q; ⟨v, v1, k.rep v2⟩, by unfold ErrCx; rw [her]; trivial⟩
theorem exo_LI {e C : Addr} {d : Option Addr} {H : Hp} {a : Addr} (h : H a = some (exo e C d)) : ¬ LI H a ∧ (∀ xs, H a ≠ some (.tup xs)) ∧ ∀ o u, H a ≠ some (.frz o u) := by
  have n1 : ∀ xs, exo e C d ≠ .lst xs := fun xs z => by have z' : HO.ext _ = HO.lst xs := z; cases z'
  have n2 : ∀ c x f, exo e C d ≠ .ins c x f := fun c x f z => by have z' : HO.ext _ = HO.ins c x f := z; cases z'
  refine ⟨fun z => ?_, fun xs z => ?_, fun o u z => ?_⟩
  · rcases z with ⟨ws, q⟩ | ⟨c, x, f, q⟩
    · rw [h] at q; exact n1 _ (Option.some.inj q)
    · rw [h] at q; exact n2 _ _ _ (Option.some.inj q)
  · rw [h] at z; exact exo_tup (Option.some.inj z)
  · rw [h] at z; exact exo_frz (Option.some.inj z)
theorem exd_LI {e : Addr} {fs : List (Str × V)} {H : Hp} {a : Addr} (h : H a = some (exd e fs)) : ¬ LI H a ∧ (∀ xs, H a ≠ some (.tup xs)) ∧ ∀ o u, H a ≠ some (.frz o u) := by
  have n1 : ∀ xs, exd e fs ≠ .lst xs := fun xs z => by have z' : HO.ext _ = HO.lst xs := z; cases z'
  have n2 : ∀ c x f, exd e fs ≠ .ins c x f := fun c x f z => by have z' : HO.ext _ = HO.ins c x f := z; cases z'
  have n3 : ∀ c x, exd e fs ≠ .frz c x := fun c x z => by have z' : HO.ext _ = HO.frz c x := z; cases z'
  refine ⟨fun z => ?_, fun xs z => ?_, fun o u z => ?_⟩
  · rcases z with ⟨ws, q⟩ | ⟨c, x, f, q⟩
    · rw [h] at q; exact n1 _ (Option.some.inj q)
    · rw [h] at q; exact n2 _ _ _ (Option.some.inj q)
  · rw [h] at z; exact exd_tup (Option.some.inj z)
  · rw [h] at z; exact n3 _ _ (Option.some.inj z)
theorem none_LI {H : Hp} {a : Addr} (h : H a = none) : ¬ LI H a ∧ (∀ xs, H a ≠ some (.tup xs)) ∧ ∀ o u, H a ≠ some (.frz o u) := by
  refine ⟨fun z => ?_, fun xs z => ?_, fun o u z => ?_⟩
  · rcases z with ⟨ws, q⟩ | ⟨c, x, f, q⟩ <;> rw [h] at q <;> cases q
  · rw [h] at z; cases z
  · rw [h] at z; cases z

/-- a field's value -/
def fldU (w : Bool) (t : T) : R T := if w then toTup t else .ok t
/-- what the fields hold -/
def errU : List (Nat × Bool) → List T → Option (List T)
  | [], [] => some []
  | (_, w) :: r, t :: ts => (match fldU w t with
    | .ok u => (errU r ts).map (u :: ·)
    | _ => none)
  | _, _ => none
theorem errT_ok {fs : List (Nat × Bool)} {c : Nat} {ts : List T} {x : T} (h : errT fs c ts = .ok x) : ∃ us, errU fs ts = some us ∧ x = .ins c (fs.map (·.1)) us := by
  have key : ∀ {fs : List (Nat × Bool)} {ts us : List T}, errT.go fs ts = .ok us → errU fs ts = some us := by
    intro fs
    induction fs with
    | nil =>
      intro ts us h
      cases ts with
      | nil => unfold errT.go at h; cases h; rfl
      | cons t ts => unfold errT.go at h; cases h
    | cons p r ih =>
      intro ts us h
      obtain ⟨k, w⟩ := p
      cases ts with
      | nil => unfold errT.go at h; cases h
      | cons t ts =>
        unfold errT.go at h
        unfold errU fldU
        cases q : (if w = true then toTup t else .ok t) with
        | ok u =>
          rw [q] at h
          dsimp only
          cases q2 : errT.go r ts with
          | ok vs =>
            rw [q2] at h
            rw [ih q2]
            cases h
            rfl
          | exc z => rw [q2] at h; cases h
          | bad => rw [q2] at h; cases h
        | exc z => rw [q] at h; cases h
        | bad => rw [q] at h; cases h
  unfold errT at h
  cases q : errT.go fs ts with
  | ok us =>
    rw [q] at h
    cases h
    exact ⟨us, key q, rfl⟩
  | exc z => rw [q] at h; cases h
  | bad => rw [q] at h; cases h
theorem errT_noexc {fs : List (Nat × Bool)} {c : Nat} {ts : List T} {x : T} : errT fs c ts ≠ .exc x := by
  have key : ∀ {fs : List (Nat × Bool)} {ts : List T} {x : T}, errT.go fs ts ≠ .exc x := by
    intro fs
    induction fs with
    | nil => intro ts x h; cases ts <;> (unfold errT.go at h; cases h)
    | cons p r ih =>
      intro ts x h
      obtain ⟨k, w⟩ := p
      cases ts with
      | nil => unfold errT.go at h; cases h
      | cons t ts =>
        unfold errT.go at h
        have n : ∀ z, (if w = true then toTup t else .ok t) ≠ .exc z := by
          intro z
          cases w with
          | true => cases t <;> (intro h; cases h)
          | false => intro h; cases h
        cases q : (if w = true then toTup t else .ok t) with
        | ok u =>
          rw [q] at h
          cases q2 : errT.go r ts with
          | ok vs => rw [q2] at h; cases h
          | exc z => exact ih q2
          | bad => rw [q2] at h; cases h
        | exc z => exact n z q
        | bad => rw [q] at h; cases h
  unfold errT
  cases q : errT.go fs ts with
  | ok us => exact fun h => by cases h
  | exc z => exact absurd q key
  | bad => exact fun h => by cases h
/-- what an error's __init__ promises -/
def spE (g : Cfg) (K : PySem.W.Frag) (D : Addr) (fs : List (Nat × Bool)) : Sp := fun vs H Q _ => vs.length = fs.length + 1 ∧ ∃ (a C : Addr) (ws : List V) (ts us : List T) (F : List Addr), vs = .ref a :: ws ∧ H a = some (exo a C none) ∧ SupC K D C ∧
  (∀ p ∈ fs, PySem.W.findIn K (.ref C) (g.an p.1) = some none) ∧ RepL g H ts ws F ∧ errU fs ts = some us ∧
  ∀ (d : Addr) (fl : List (Str × V)) (H' : Hp), (∀ b o, b ≠ a → H b = some o → H' b = some o) → H' a = some (exo a C (some d)) → H' d = some (exd d fl) → H d = none →
    (∀ (i k : Nat) (t : T), (fs.map (·.1))[i]? = some k → us[i]? = some t → ∃ v G, fl.lookup (g.an k) = some v ∧ Rep g H' t v G ∧ ∀ b ∈ G, H b = none ∨ b ∈ F) → Q .non H'
def kdB (o : Option NameKind) (k : NameKind) : Bool := match o with
  | some j => decide (j = k)
  | none => false
theorem kdB_ok {o : Option NameKind} {k : NameKind} (h : kdB o k = true) : o = some k := by
  cases o with
  | none => cases h
  | some j => rw [of_decide_eq_true h]
def ndb (x : Str) : Bool := !(x == ("__debug__" : Str))
theorem ndb_of {x : Str} (h : ndb x = true) : (x == ("__debug__" : Str)) = false := by
  unfold ndb at h
  cases q : (x == ("__debug__" : Str)) with
  | false => rfl
  | true => rw [q] at h; cases h
/-- a field's written value: the parameter, or its tuple -/
def argB (N : List Str) (sc : Scope) (w : Bool) (i : Nat) (e : Expr) : Bool := match e with
  | .Name x _ => !w && (decide (N[i]? = some x) && (kdB (sc.names.lookup x) .local && (ndb x && !(x == ("__classdict__" : Str)))))
  | .Call (.Name t _) [.Name x _] [] _ => w && (decide (t = "tuple") && (kdB (sc.names.lookup t) .globalImplicit && (decide (N[i]? = some x) && (kdB (sc.names.lookup x) .local && (ndb x && !(x == ("__classdict__" : Str)))))))
  | _ => false
/-- self.f = .. -/
def fldB (N : List Str) (sc : Scope) (fn : Str) (w : Bool) (i : Nat) (st : Stmt) : Bool := match st with
  | .Assign [.Attribute (.Name s _) f _] e _ => decide (f = fn) && ((decide (N[0]? = some s) && (kdB (sc.names.lookup s) .local && (ndb s && !(s == ("__classdict__" : Str))))) && argB N sc w i e)
  | _ => false
section
variable {X : Cx} {g : Cfg} {W : WX}
theorem nm_ok {N : List Str} {x : Str} {i : Nat} (hN : X.N = N) (h : (decide (N[i]? = some x) && (kdB (X.env.scope.names.lookup x) .local && (ndb x && !(x == ("__classdict__" : Str))))) = true) :
    X.N[i]? = some x ∧ Vis X.env.scope x ∧ (x == ("__debug__" : Str)) = false ∧ (x == ("__classdict__" : Str)) = false := by
  obtain ⟨h1, h⟩ := and2 h
  obtain ⟨h2, h⟩ := and2 h
  obtain ⟨h3, h4⟩ := and2 h
  refine ⟨by rw [hN]; exact of_decide_eq_true h1, .inl (kdB_ok h2), ndb_of h3, ?_⟩
  cases q : (x == ("__classdict__" : Str)) with
  | false => rfl
  | true => rw [q] at h4; cases h4
theorem arg_ok {w : Bool} {i : Nat} {e : Expr} (hm : X.mg "tuple" = none) (h : argB X.N X.env.scope w i e = true) : PE X e (TEv g W 0 [i] fun e => (ofO (e.getD i none)).bnd (fldU w)) ∧ notComp e = true := by
  unfold argB at h
  split at h
  · obtain ⟨h1, h2⟩ := and2 h
    obtain ⟨a, b, c, d⟩ := nm_ok rfl h2
    have hw : w = false := by cases w with | false => rfl | true => cases h1
    subst hw
    refine ⟨PE.imp (ev_var (g := g) (W := W) a b c d) fun σ H Q ⟨e, Fs, he, h⟩ => ⟨e, Fs, he, ?_⟩, rfl⟩
    have e1 : (ofO (e.getD i none)).bnd (fldU false) = ofO (e.getD i none) := by
      cases e.getD i none <;> rfl
    dsimp only at h ⊢
    rw [e1] at h
    exact h
  · obtain ⟨h1, h2⟩ := and2 h
    obtain ⟨h2, h3⟩ := and2 h2
    obtain ⟨h3, h4⟩ := and2 h3
    obtain ⟨a, b, c, d⟩ := nm_ok rfl h4
    have ht := of_decide_eq_true h2
    subst ht
    subst h1
    refine ⟨PE.imp (ev_t1 (n := 0) (c1_tuple (P := ⟨fun _ => none, fun _ _ => none, fun _ => none, fun _ => [], fun _ => none⟩) (cl := fun _ _ => .bad)) (kdB_ok h3) hm (by decide +kernel) rfl (ev_var (g := g) (W := W) a b c d) (by decide) (by decide)) fun σ H Q ⟨e, Fs, he, h⟩ => ⟨e, Fs, he, ?_⟩, rfl⟩
    have e1 : (ofO (e.getD i none)).bnd (fldU true) = (ofO (e.getD i none)).bnd (blt1 ⟨fun _ => none, fun _ _ => none, fun _ => none, fun _ => [], fun _ => none⟩ (fun _ _ => .bad) .tuple) := by
      cases e.getD i none with
      | none => rfl
      | some t => cases t <;> rfl
    dsimp only at h ⊢
    rw [e1] at h
    exact h
  · cases h
theorem fld_ok {w : Bool} {i : Nat} {fn : Str} {st : Stmt} (hm : X.mg "tuple" = none) (h : fldB X.N X.env.scope fn w i st = true) : PS X st (tOst X.K fn (tVar 0) (TEv g W 0 [i] fun e => (ofO (e.getD i none)).bnd (fldU w))) := by
  unfold fldB at h
  split at h
  · obtain ⟨h1, h2⟩ := and2 h
    obtain ⟨h2, h3⟩ := and2 h2
    obtain ⟨a, b, c, d⟩ := nm_ok rfl h2
    obtain ⟨k1, k2⟩ := arg_ok (g := g) (W := W) hm h3
    have := of_decide_eq_true h1
    subst this
    exact ps_ost (pe_var a b c d) k1 (swaps_no k2)
  · cases h
end

/-- the fields' statements -/
def fldsB (N : List Str) (sc : Scope) (an : Nat → Str) : List (Nat × Bool) → Nat → List Stmt → Bool
  | [], _, [] => true
  | (k, w) :: r, i, st :: sts => fldB N sc (an k) w i st && fldsB N sc an r (i + 1) sts
  | _, _, _ => false
/-- one field is stored -/
theorem tev_fld {g : Cfg} {W : WX} {σ : L2.St} {H : Hp} {e : Env} {Fs : Nat → List Addr} {i : Nat} {w : Bool} {t u : T} {Q : VK} (he : EnvR g H σ e Fs) (h1 : e[i]? = some (some t)) (h2 : fldU w t = .ok u)
    (hk : ∀ v H1 F, Ext H H1 → Rep g H1 u v F → (∀ b ∈ F, H b = none ∨ b ∈ Fs i) → Q v H1) : TEv g W 0 [i] (fun e => (ofO (e.getD i none)).bnd (fldU w)) σ H Q := by
  refine ⟨e, Fs, he, ?_⟩
  have e1 : (ofO (e.getD i none)).bnd (fldU w) = .ok u := by
    rw [List.getD_eq_getElem?_getD, h1]
    exact h2
  dsimp only
  rw [e1]
  exact fun v H1 F a b _ d => hk v H1 F a b fun x hx => (d x hx).imp id fun ⟨j, hj, q⟩ => by rw [List.mem_singleton.mp hj] at q; exact q
section
variable {X : Cx} {g : Cfg}
theorem rel_put2 {f k : Str} {y v : V} {fl : List (Str × V)} (h : fl.lookup k = some v) (hn : k ≠ f) : ((f, y) :: fl).lookup k = some v := by rw [lookup_put, if_neg hn]; exact h
theorem kp_but {a d : Addr} {H H' : Hp} {F : List Addr} (a1 : ¬ LI H a ∧ (∀ xs, H a ≠ some (.tup xs)) ∧ ∀ o u, H a ≠ some (.frz o u)) (d1 : ¬ LI H d ∧ (∀ xs, H d ≠ some (.tup xs)) ∧ ∀ o u, H d ≠ some (.frz o u)) (k : ∀ b o, b ≠ a → some b ≠ some d → H b = some o → H' b = some o) (hF : ∀ b ∈ F, LI H b) : Kp H H' F :=
  ⟨fun b hb o q => k b o (fun z => a1.1 (z ▸ hF b hb)) (fun z => d1.1 (Option.some.inj z ▸ hF b hb)) q,
   fun b xs q => k b _ (fun z => a1.2.1 xs (z ▸ q)) (fun z => d1.2.1 xs (Option.some.inj z ▸ q)) q,
   fun b o u q => k b _ (fun z => a1.2.2 o u (z ▸ q)) (fun z => d1.2.2 o u (Option.some.inj z ▸ q)) q⟩
theorem flds_ok (her : g.er = none) (inj : ∀ j k, g.an j = g.an k → j = k) (hm : X.mg "tuple" = none) (C a : Addr) (hoc : OexC X.K C) (W : WX) : ∀ {fs : List (Nat × Bool)} {i : Nat} {sts : List Stmt} {us : List T}, fldsB X.N X.env.scope g.an fs i sts = true → (fs.map (·.1)).Nodup →
    (∀ p ∈ fs, PySem.W.findIn X.K (.ref C) (g.an p.1) = some none) →
    ∃ t, PSs X sts t ∧ ∀ (En : Ends) (σ : L2.St) (H : Hp) (e : Env) (Fs : Nat → List Addr) (d : Option Addr) (fl : List (Str × V)), σ[0]? = some (some (.ref a)) → EnvR g H σ e Fs → (∀ (j : Nat) (p : Nat × Bool), fs[j]? = some p → ∃ t u, e[i + j]? = some (some t) ∧ fldU p.2 t = .ok u ∧ us[j]? = some u) →
      ((d = none ∧ fl = [] ∧ fs ≠ []) ∨ ∃ d', d = some d' ∧ H d' = some (exd d' fl) ∧ d' ≠ a) → H a = some (exo a C d) → fl.length + fs.length ≤ 900 →
      (∀ (d' : Addr) (fl' : List (Str × V)) (H' : Hp), (∀ b o, b ≠ a → some b ≠ d → H b = some o → H' b = some o) → H' a = some (exo a C (some d')) → H' d' = some (exd d' fl') → (d = none → H d' = none) → (∀ d0, d = some d0 → d' = d0) →
        (∀ (j : Nat) (p : Nat × Bool), fs[j]? = some p → ∀ u, us[j]? = some u → ∃ v G, fl'.lookup (g.an p.1) = some v ∧ Rep g H' u v G ∧ ∀ b ∈ G, H b = none ∨ ∃ m, b ∈ Fs m) → (∀ (k : Str) (v : V), (∀ p ∈ fs, k ≠ g.an p.1) → fl.lookup k = some v → fl'.lookup k = some v) → En.nx σ H') → t En σ H
  | [], i, sts, us, hb, _, _ => by
    cases sts with
    | cons s r => unfold fldsB at hb; cases hb
    | nil =>
      refine ⟨_, pss_nil, fun En σ H e Fs d fl h0 hE hv hd ha hl hk => ?_⟩
      rcases hd with ⟨_, _, z⟩ | ⟨d', rfl, hd, _⟩
      · exact absurd rfl z
      · exact hk d' fl H (fun b o _ _ q => q) ha hd (fun z => by cases z) (fun d0 z => by cases z; rfl) (fun j p z => by simp at z) fun k v _ q => q
  | (k, w) :: fs, i, sts, us, hb, nd, hno => by
    cases sts with
    | nil => unfold fldsB at hb; cases hb
    | cons st sts =>
      unfold fldsB at hb
      obtain ⟨b1, b2⟩ := and2 hb
      rw [List.map_cons, List.nodup_cons] at nd
      cases us with
      | nil =>
        obtain ⟨t, ht, hh⟩ := flds_ok her inj hm C a hoc W (fs := fs) (us := []) b2 nd.2 fun p hp => hno p (List.mem_cons_of_mem _ hp)
        refine ⟨_, pss_cons (fld_ok (g := g) (W := W) hm b1) ht, fun En σ H e Fs d fl h0 hE hv hd ha hl hk => ?_⟩
        obtain ⟨_, _, _, _, z⟩ := hv 0 _ rfl
        simp at z
      | cons u us =>
        obtain ⟨t, ht, hh⟩ := flds_ok her inj hm C a hoc W (fs := fs) (us := us) b2 nd.2 fun p hp => hno p (List.mem_cons_of_mem _ hp)
        refine ⟨_, pss_cons (fld_ok (g := g) (W := W) hm b1) ht, fun En σ H e Fs d fl h0 hE hv hd ha hl hk => ?_⟩
        obtain ⟨t0, u0, v1, v2, v3⟩ := hv 0 _ rfl
        have v3 : u = u0 := by simpa using v3
        subst v3
        refine tev_fld hE v1 v2 fun y H1 F e1 ry pf => ⟨.ref a, h0, a, C, rfl, hoc, hno _ List.mem_cons_self, ?_⟩
        have ha1 := e1 _ _ ha
        have hE1 := hE.ext e1
        -- what follows, once the field stands
        have go : ∀ (d' : Addr) (H2 : Hp), KpX a d' H1 H2 → d' ≠ a → H2 a = some (exo a C (some d')) → H2 d' = some (exd d' ((g.an k, y) :: fl)) → (d = none → H d' = none) → (∀ d0, d = some d0 → d' = d0) → t En σ H2 := by
          intro d' H2 kx hne q1 q2 q4 q5
          have q3 : ∀ b o, b ≠ a → some b ≠ d → H b = some o → H2 b = some o := fun b o n1 n2 q => by
            have n3 : b ≠ d' := fun z => by
              cases d with
              | none => rw [z, q4 rfl] at q; cases q
              | some d0 => exact n2 (by rw [z, q5 d0 rfl])
            rw [kx.k b n1 n3]
            exact e1 _ _ q
          have hn : ∀ b, H2 b = none → H b = none := fun b z => by
            cases q : H b with
            | none => rfl
            | some o =>
              by_cases n1 : b = a
              · rw [n1, q1] at z; cases z
              · by_cases n2 : some b = d
                · have := q5 b n2.symm
                  rw [← this, q2] at z; cases z
                · rw [q3 b o n1 n2 q] at z; cases z
          refine hh En σ H2 e Fs (some d') _ h0 (kx.env her hE1) (fun j p hj => ?_) (.inr ⟨d', rfl, q2, hne⟩) q1 ?_ fun d2 fl2 H3 r1 r2 r3 r4 r5 r6 r7 => ?_
          · obtain ⟨t', u', w1, w2, w3⟩ := hv (j + 1) p hj
            exact ⟨t', u', by rw [show i + 1 + j = i + (j + 1) by omega]; exact w1, w2, by simpa using w3⟩
          · simp only [List.length_cons] at hl ⊢; omega
          · have ed2 := r5 d' rfl
            refine hk d2 fl2 H3 (fun b o n1 n2 q => r1 b o n1 (fun z => ?_) (q3 b o n1 n2 q)) r2 r3 (fun z => by rw [ed2]; exact q4 z) (fun d0 z => by rw [ed2]; exact q5 d0 z) (fun j p hj u1 hu1 => ?_) fun k' v' hk' hv' => ?_
            · have z := Option.some.inj z
              cases d with
              | none => rw [z, q4 rfl] at q; cases q
              | some d0 => exact n2 (by rw [z, q5 d0 rfl])
            · cases j with
              | zero =>
                have hj : (k, w) = p := by simpa using hj
                subst hj
                have hu1 : u = u1 := by simpa using hu1
                subst hu1
                refine ⟨y, F, r7 _ _ (fun p hp z => nd.1 (List.mem_map.mpr ⟨p, hp, (inj _ _ z).symm⟩)) (by rw [lookup_put, if_pos rfl]), ?_, fun b hb => (pf b hb).imp id fun z => ⟨i, z⟩⟩
                exact (kx.rep ry).kp (kp_but (exo_LI q1) (exd_LI q2) r1 (kx.rep ry).li)
              | succ j =>
                obtain ⟨v2, G, g1, g2, g3⟩ := r6 j p (by simpa using hj) u1 (by simpa using hu1)
                exact ⟨v2, G, g1, g2, fun b hb => (g3 b hb).imp (hn b) id⟩
            · exact r7 k' v' (fun p hp => hk' p (List.mem_cons_of_mem _ hp)) (rel_put2 hv' (hk' (k, w) List.mem_cons_self))
        have x1 := exo_LI ha1
        rcases hd with ⟨rfl, rfl, _⟩ | ⟨d', rfl, hd, hne⟩
        · refine .inl ⟨ha1, fun dx hx hne => ?_⟩
          have x2 := none_LI hx
          exact go dx _ ⟨x1.1, x1.2.1, x1.2.2, x2.1, x2.2.1, x2.2.2, fun b n1 n2 => by rw [upd_ne n1, upd_ne n2]⟩ hne upd_same (by rw [upd_ne hne, upd_same]) (fun _ => e1.none hx) fun d0 z => by cases z
        · have hd1 := e1 _ _ hd
          have x2 := exd_LI hd1
          refine .inr ⟨d', fl, ha1, hd1, by simp only [List.length_cons] at hl; omega, ?_⟩
          exact go d' _ ⟨x1.1, x1.2.1, x1.2.2, x2.1, x2.2.1, x2.2.2, fun b n1 n2 => by rw [upd_ne n2]⟩ hne (by rw [upd_ne hne.symm]; exact ha1) upd_same (fun z => by cases z) fun d0 z => by cases z; rfl
end
/-- each value's place by itself -/
theorem RepL.slots {g : Cfg} {H : Hp} : ∀ {ts : List T} {vs : List V} {F : List Addr}, RepL g H ts vs F → ∃ Fs : Nat → List Addr, (∀ i t, ts[i]? = some t → ∃ v, vs[i]? = some v ∧ Rep g H t v (Fs i)) ∧ (∀ i, ∀ b ∈ Fs i, b ∈ F) ∧ ∀ i, ts.length ≤ i → Fs i = []
  | [], vs, F, h => ⟨fun _ => [], fun i t z => by simp at z, fun i b hb => (by cases hb), fun _ _ => rfl⟩
  | t :: ts, vs, F, h => by
    rw [RepL] at h
    obtain ⟨v, vr, F1, F2, rfl, h1, h2, rfl⟩ := h
    obtain ⟨Fs, a, b, c⟩ := RepL.slots h2
    refine ⟨fun i => match i with | 0 => F1 | i + 1 => Fs i, fun i u z => ?_, fun i x hx => ?_, fun i hi => ?_⟩
    · cases i with
      | zero => simp at z; subst z; exact ⟨v, rfl, h1⟩
      | succ i => exact a i u (by simpa using z)
    · cases i with
      | zero => exact List.mem_append_left _ hx
      | succ i => exact List.mem_append_right _ (b i x hx)
    · cases i with
      | zero => simp at hi
      | succ i => exact c i (by simpa using hi)
theorem start_get {α β : Type} {ts : List α} {n i : Nat} {t : α} (h : (ts.map some ++ List.replicate n none)[i]? = some (some t)) : ts[i]? = some t := by
  rw [List.getElem?_append] at h
  split at h
  · rw [List.getElem?_map] at h
    cases q : ts[i]? with
    | none => rw [q] at h; cases h
    | some u => rw [q] at h; cases h; rfl
  · rw [List.getElem?_replicate] at h
    split at h <;> cases h
theorem start_of {α : Type} {ts : List α} {n i : Nat} {t : α} (h : ts[i]? = some t) : (ts.map some ++ List.replicate n none)[i]? = some (some t) := by
  have hl : i < ts.length := (List.getElem?_eq_some_iff.mp h).1
  rw [List.getElem?_append_left (by rw [List.length_map]; exact hl), List.getElem?_map, h]
  rfl

theorem errU_get : ∀ {fs : List (Nat × Bool)} {ts us : List T}, errU fs ts = some us → us.length = fs.length ∧ ts.length = fs.length ∧ ∀ (j : Nat) (p : Nat × Bool), fs[j]? = some p → ∃ t u, ts[j]? = some t ∧ fldU p.2 t = .ok u ∧ us[j]? = some u
  | [], ts, us, h => by
    cases ts with
    | nil => unfold errU at h; cases h; exact ⟨rfl, rfl, fun j p z => by simp at z⟩
    | cons t ts => unfold errU at h; cases h
  | (k, w) :: fs, ts, us, h => by
    cases ts with
    | nil => unfold errU at h; cases h
    | cons t ts =>
      unfold errU at h
      cases q : fldU w t with
      | ok u =>
        rw [q] at h
        dsimp only at h
        cases q2 : errU fs ts with
        | none => rw [q2] at h; cases h
        | some vs =>
          rw [q2] at h
          cases h
          obtain ⟨l1, l2, z⟩ := errU_get q2
          refine ⟨by rw [List.length_cons, List.length_cons, l1], by rw [List.length_cons, List.length_cons, l2], fun j p hj => ?_⟩
          cases j with
          | zero =>
            have : (k, w) = p := by simpa using hj
            subst this
            exact ⟨t, u, rfl, q, rfl⟩
          | succ j =>
            obtain ⟨t', u', a, b, c⟩ := z j p (by simpa using hj)
            exact ⟨t', u', by simpa using a, b, by simpa using c⟩
      | exc z => rw [q] at h; cases h
      | bad => rw [q] at h; cases h
section
variable {P : Program} {w : World} {K : PySem.W.Frag} {mg : Str → Option Value} {base : Heap} {N ps : List Str} {name qual : Str} {params : Arguments} {scope : Scope} {dV kV doc pm ct oc : Value} {an od : Option Addr} {osl : Array (Option Value)} {f cc D : Addr} {ccl : Value} {ccd : Option Addr} {ccs : Array (Option Value)}
theorem ex_fn {CX : CXT} {g : Cfg} {fs : List (Nat × Bool)} {k : Nat} {rest : List Stmt} {ar : Arg} {cda : Addr} {vsC : Array Value} {file : Str} {tf : Tok} {lc : Value} {ld : Option Addr} {ls : Array (Option Value)} {tx : Str} {j : Nat} {p0 p1 p2 p3 p4 p5 : Pos}
    (lk : K.lookup f = some ⟨oc, od, .func (PySem.W.fnX name qual params (.Expr (.Call (.Attribute (.Call (.Name "super" p0) [] [] p1) "__init__" p2) [.Constant (.str tx) j p3] [] p4) p5 :: rest) scope [("__class__", cc)] dV kV doc pm an (.ref cda) ct), osl⟩)
    (hcq : PySem.W.codeIn K (.ref cda) qual = true) (S : ScX N ps scope) (hp : (params.posonlyargs ++ params.args).head? = some ar) (hp0 : ps.head? = some ar.arg)
    (hcd : K.lookup cda = some ⟨lc, ld, .fields vsC, ls⟩) (hvs : vsC[2]? = some (.str file tf)) (hfile : ((P.main.file : Str) == file) = true) (htop : (P.main.scope.names.lookup ("super" : Str)).isSome = false)
    (hcell : K.lookup cc = some ⟨ccl, ccd, .cell (some (.ref D)), ccs⟩) (hm : mg "super" = none) (hm2 : mg "tuple" = none) (hl : (p2.endLine == p4.line) = true)
    (her : g.er = none) (inj : ∀ j k, g.an j = g.an k → j = k) (hfl : fldsB N scope g.an fs 1 rest = true) (nd : (fs.map (·.1)).Nodup) (hps : ps.length = fs.length + 1) (hne : fs ≠ []) (hle : fs.length ≤ 900) :
    FnOk P w K mg base CX (k + 1) f (PySem.W.fnX name qual params (.Expr (.Call (.Attribute (.Call (.Name "super" p0) [] [] p1) "__init__" p2) [.Constant (.str tx) j p3] [] p4) p5 :: rest) scope [("__class__", cc)] dV kV doc pm an (.ref cda) ct) ps (spE g K D fs) := by
  refine ex_of lk hcq S hp hp0 hcd hvs hfile htop hcell hm hl (fun vs H Q E h => by rw [h.1, hps]) fun A outer s H vs Q E hd h => ?_
  obtain ⟨h0, a, C, ws, ts, us, F, ev, ha, T, hno, rL, hu, hk⟩ := h
  obtain ⟨l1, l2, hg⟩ := errU_get hu
  obtain ⟨t, ht, hh⟩ := flds_ok (X := cxX CX P w K mg base N (PySem.W.fnX name qual params (.Expr (.Call (.Attribute (.Call (.Name "super" p0) [] [] p1) "__init__" p2) [.Constant (.str tx) j p3] [] p4) p5 :: rest) scope [("__class__", cc)] dV kV doc pm an (.ref cda) ct) f A outer s H E) (us := us) her inj hm2 C a T.oex WF (fs := fs) (i := 1) (sts := rest) hfl nd hno
  refine ⟨a, C, ws, ev, ha, T, t, ht, ?_⟩
  obtain ⟨Fs, f1, f2, f3⟩ := rL.slots
  have hw : ws.length = ts.length := rL.len
  have hpl : ps.length ≤ N.length := by have := congrArg List.length S.pre; rw [List.length_take] at this; omega
  subst ev
  refine hh _ _ H (none :: (ts.map some ++ List.replicate (N.length - (ws.length + 1)) none)) (fun i => match i with | 0 => [] | i + 1 => Fs i) none [] rfl ⟨?_, fun i t q => ?_, by unfold ErrCx; rw [her]; trivial⟩ (fun i p hi => ?_) (.inl ⟨rfl, rfl, hne⟩) ha (by simpa using hle) fun d fl H' r1 r2 r3 r4 _ r6 _ => ?_
  · unfold L2.start
    simp only [List.length_append, List.length_map, List.length_replicate, List.length_cons, hw]
    omega
  · cases i with
    | zero => cases q
    | succ i =>
      have q : (ts.map some ++ List.replicate (N.length - (ws.length + 1)) none)[i]? = some (some t) := by simpa using q
      obtain ⟨v, v1, v2⟩ := f1 i t (start_get (β := Nat) q)
      refine ⟨v, ?_, v2⟩
      unfold L2.start
      show ((ws.map some) ++ List.replicate (N.length - (ws.length + 1)) none)[i]? = some (some v)
      exact start_of v1
  · obtain ⟨t', u', a1, a2, a3⟩ := hg i p hi
    refine ⟨t', u', ?_, a2, a3⟩
    rw [show 1 + i = i + 1 from Nat.add_comm 1 i]
    show (ts.map some ++ List.replicate (N.length - (ws.length + 1)) none)[i]? = some (some t')
    exact start_of a1
  · refine hk d fl H' (fun b o n q => r1 b o n (fun z => by cases z) q) r2 r3 (r4 rfl) fun i k' t' h1 h2 => ?_
    rw [List.getElem?_map] at h1
    cases q : fs[i]? with
    | none => rw [q] at h1; cases h1
    | some p =>
      rw [q] at h1
      cases h1
      obtain ⟨v, G, g1, g2, g3⟩ := r6 i p q t' h2
      refine ⟨v, G, g1, g2, fun b hb => (g3 b hb).imp id fun ⟨m, hm⟩ => ?_⟩
      cases m with
      | zero => cases hm
      | succ m => exact f2 m b hm
end
end Wt

/-! Snd26: raise; what an except suite may say. -/
namespace Wt
open PySem PySem.Spec PyProof.Rows L2

/-- an error class of the program, by its name -/
structure ErrOk (X : Cx) (g : Cfg) (x : Str) (c : Nat) (fs : List (Nat × Bool)) : Prop where
  ex : ∃ (D fI : Addr) (fd : FuncData) (ps : List Str) (k : Nat), SupC X.K D (g.C c) ∧ PySem.W.findIn X.K (.ref (g.C c)) "__init__" = some (some (.ref fI)) ∧ PySem.W.typeIn X.K (.ref fI) = some (.type "function") ∧
    FnOk X.prog X.w X.K X.mg X.base (L2.CX X.prog X.w) k fI fd ps (spE g X.K D fs) ∧ Room (k + 1) X.A ∧ Binds X.K fd ps [] ∧ X.mg x = some (.ref (g.C c)) ∧ ∀ p ∈ fs, PySem.W.findIn X.K (.ref (g.C c)) (g.an p.1) = some none
section
variable {X : Cx} {g : Cfg} {W : WX} {lv : Nat} {H0 : Hp} {A : Addr → Prop} {held : List Addr} {L Ln Lk : List Nat} {vs : List Nat} {es : List Expr} {a : Expr} {fl : Env → R (List T)} {x : Str} {p pos pos2 : Pos} {c : Nat} {fs : List (Nat × Bool)} {m : Nat}
/-- raise C(..) -/
theorem sv_raise (hc : X.calm = true) (tk : Takes X W) (O : ErrOk X g x c fs) (hg : Gl X x) (hdb : (x == ("__debug__" : Str)) = false) (hst : (a :: es).all nst = true) (ha : PA X (a :: es) (TAv g W m vs fl)) (hlen : ∀ e ts, fl e = .ok ts → ts.length ≤ 1000) :
    PS X (.Raise (some (.Call (.Name x p) (a :: es) [] pos)) none pos2) (TSv g W lv H0 A held L Ln Lk fun e => (fl e).st e fun ts => (errT fs c ts).st e fun x => .exc x e) := by
  obtain ⟨D, fI, fd, ps, k, S, h1, h2, F1, hr, hb, hm, hno⟩ := O.ex
  rw [List.all_cons, Bool.and_eq_true] at hst
  refine PS.imp (ps_raise hc tk (pmk_oex S.oex h1 h2 F1 hr hb .nil (passes_call tk fun _ _ _ _ z => z.elim) hg hm ha hdb (star_cons hst.1) (back_none hst.2))) fun En σ H ⟨e, Fs, Sb, h⟩ => ?_
  refine sl1 (vs := vs) (k := fun ts => (errT fs c ts).st e fun x => .exc x e) Sb h fun ts ws F H1 et e1 S1 rL _ pf h => ?_
  refine ⟨by rw [rL.len]; exact hlen e ts et, fun b hb => ?_⟩
  cases q : errT fs c ts with
  | exc z => exact absurd q errT_noexc
  | bad => rw [q] at h; exact h.elim
  | ok z =>
    rw [q] at h
    obtain ⟨us, hu, rfl⟩ := errT_ok q
    have h : ∀ cls d σ' H' Fs, StR g H0 A held lv0 H' σ' e Fs → RepX g H' (.ins c (fs.map (·.1)) us) cls d (fun b => H0 b = none ∨ A b) → Kp H1 H' held → W cls d σ' H' := h
    obtain ⟨l1, l2, _⟩ := errU_get hu
    have eB : Ext H1 (upd H1 b (exo b (g.C c) none)) := .new hb
    refine ⟨?_, b, g.C c, ws, ts, us, F, by rw [List.append_nil], upd_same, S, hno, rL.ext eB, hu, fun d fl' H2 k1 k2 k3 k4 k5 => ⟨rfl, d, fl', k2, k3, ?_, ?_⟩⟩
    · rw [List.append_nil, List.length_cons, rL.len, l2]
    · exact eB.none k4
    · have hne : d ≠ b := fun z => by
        rw [z, upd_same] at k4
        cases k4
      have up : Ext H1 (upd (del H2 b) d (.xd fl')) := fun y o qy => by
        have n1 : y ≠ b := ne_of_none qy hb
        have n2 : y ≠ d := fun z => by
          rw [z] at qy
          rw [eB.none k4] at qy
          cases qy
        rw [upd_ne n2, del_ne n1]
        exact k1 y o n1 (eB y o qy)
      refine h _ _ σ _ Fs ((S1.up up).weak fun i => lv0_le i) ⟨c, _, us, rfl, rfl, d, fl', rfl, upd_same, fun i k t q1 q2 => ?_⟩ (.ext up)
      obtain ⟨v, G, g1, g2, g3⟩ := k5 i k t q1 q2
      refine ⟨v, G, g1, g2.kp (kp_but (exo_LI k2) (exd_LI k3) (fun y o n1 n2 qy => ?_) g2.li), fun y hy => ?_⟩
      · rw [upd_ne (fun z => n2 (by rw [z])), del_ne n1]
        exact qy
      · rcases g3 y hy with z | z
        · exact .inl (S1.ext.none (eB.none z))
        · exact (pf y z).elim (fun z => .inl (Sb.ext.none z)) fun ⟨i, _, q⟩ => Sb.pro i y q
end

/-! ### in a suite -/
/-- what the classes of errors are to each other, how their fields are read -/
structure SuiOk (K : PySem.W.Frag) (g : Cfg) (P : Prog) (fls : List Nat) : Prop where
  cls : ∀ c, P.sup c ≠ [] → (PySem.W.clsIn K (g.C c)).isSome = true ∧ XfC K (g.C c) ∧ (∀ f ∈ fls, PySem.W.findIn K (.ref (g.C c)) (g.an f) = some none) ∧
    PySem.W.findIn K (.ref (g.C c)) "__class__" = some (some (.builtin "object.__class__")) ∧ PySem.W.specialIn K (.builtin "object.__class__") "__get__" = some (some (.builtin "getset_descriptor.__get__")) ∧
    PySem.W.takesIn K (.builtin "object.__class__") = some true ∧ PySem.W.mroIn K (g.C c) (.type "object") = some true
/-- a class as an except clause, an isinstance names it -/
def TyE (X : Cx) (g : Cfg) (P : Prog) (n : Str) (ty : Ty) : Prop :=
  (ty = .verr ∧ n = "ValueError" ∧ X.mg n = none ∧ ∀ c, P.sup c ≠ [] → PySem.W.kitOne X.K (.ref (g.C c)) (.type "ValueError") = some true) ∨
  ∃ d, ty = .own d ∧ X.mg n = some (.ref (g.C d)) ∧ ∀ c, P.sup c ≠ [] → PySem.W.kitOne X.K (.ref (g.C c)) (.ref (g.C d)) = some ((P.sup c).contains d)
section
variable {X : Cx} {g : Cfg} {W : WX} {P : Prog} {a : Addr} {oe : Obj} {c dd i : Nat} {ks : List Nat} {us : List T} {pn : List (Addr × Obj)} {fls : List Nat} {y n : Str} {p p2 p3 pos : Pos}
theorem lookF_get {f : Nat} : ∀ {ks : List Nat} {us : List T} {t : T}, lookF f ks us = some t → ∃ i : Nat, ks[i]? = some f ∧ us[i]? = some t
  | [], _, _, h => by unfold lookF at h; cases h
  | _ :: _, [], _, h => by unfold lookF at h; cases h
  | k :: ks, u :: us, t, h => by
    unfold lookF at h
    by_cases e : k = f
    · rw [if_pos e] at h
      exact ⟨0, by rw [e]; rfl, h⟩
    · rw [if_neg e] at h
      obtain ⟨i, h1, h2⟩ := lookF_get h
      exact ⟨i + 1, by simpa using h1, by simpa using h2⟩
/-- e.f -/
theorem ev_xf (her : g.er = some (i, a, c, ks, us, dd)) (S : SuiOk X.K g P fls) (hc : P.sup c ≠ []) (hz : Zc (.ref (g.C c)) (some dd) oe) (hf : ∃ vs, oe.data = .fields vs) {f : Nat} (hfl : f ∈ fls) (hN : X.N[i]? = some y) (hv : Vis X.env.scope y) (hd : (y == ("__debug__" : Str)) = false) (hcd : (y == ("__classdict__" : Str)) = false) :
    PE (X.suite a ((a, oe) :: pn)) (.Attribute (.Name y p) (g.an f) pos) (TEv g W 0 [erS] fun _ => xfldT (some (.ins c ks us)) f) := by
  obtain ⟨_, hT, hno, _⟩ := S.cls c hc
  have key := pe_xf (te := tVar i) (pos := pos) hT (hno f hfl) hz hf (pe_var (X := X.suite a ((a, oe) :: pn)) (pos := p) hN hv hd hcd) rfl
  refine ⟨fun pins s σ H Q I hh => key.run pins s σ H Q I ?_⟩
  obtain ⟨e, Fs, he, h⟩ := hh
  have z := he.cx
  unfold ErrCx at z
  rw [her] at z
  obtain ⟨z1, fs, z2, z3⟩ := z
  have hlt : i < σ.length := by
    have := I.len
    rw [this]
    exact (List.getElem?_eq_some_iff.mp hN).1
  have h : Out g W 0 (fun b => ∃ i ∈ [erS], b ∈ Fs i) σ H Q (ofO (lookF f ks us)) := h
  cases q : lookF f ks us with
  | none => rw [q] at h; exact h.elim
  | some t =>
    rw [q] at h
    obtain ⟨j, j1, j2⟩ := lookF_get q
    obtain ⟨v, F, v1, v2, v3⟩ := z3 j f t j1 j2
    exact ⟨_, z1 hlt, rfl, rfl, dd, fs, v, rfl, z2, v1, h v H F (.refl H) v2 trivial fun b hb => .inr ⟨erS, List.mem_singleton.mpr rfl, v3 b hb⟩⟩
/-- isinstance(e, c), e with its dict -/
theorem call_isX (S : SuiOk X.K g P fls) (hc : P.sup c ≠ []) (hz : Zc (.ref (g.C c)) (some dd) oe) (hf : ∃ vs, oe.data = .fields vs) {H : Hp} {s : Shared} {σ : L2.St} {pins : List (Addr × Obj)} {cv : Value} {b : Bool} {Q : Value → Shared → Prop} (I : L2.Inv (X.suite a ((a, oe) :: pn)) pins σ H s) (hd : ∃ fs, H dd = some (.xd fs)) (hk : PySem.W.kitOne X.K (.ref (g.C c)) cv = some b)
    (h : ∀ s', L2.Inv (X.suite a ((a, oe) :: pn)) pins σ H s' → Q (.bool b) s') : wpAny (model X.prog X.w) (X.A.mark (some (.ref a))) (call (.builtin "isinstance") [.ref a, cv]) Q (fun _ _ => False) s := by
  obtain ⟨h1, hT, _, h2, h3, h4, h5⟩ := S.cls c hc
  obtain ⟨hget, _⟩ := I.pin (a, oe) (List.mem_append.mpr (.inl List.mem_cons_self))
  obtain ⟨vs, hv⟩ := hf
  obtain ⟨fs, hx⟩ := hd
  have hx2 : ObjOk X.prog X.w H s.heap dd (.xd fs) := I.hok dd _ hx
  obtain ⟨mA, hns, _⟩ := hx2
  obtain ⟨od, ho, _⟩ := lookIn_ns hns
  have J : PySem.W.InstAt s.heap a oe (g.C c) (some od) := ⟨hget, hz.1, by unfold PySem.W.notCls; rw [hv] <;> rfl, by rw [hz.2]; exact ho⟩
  exact PySem.W.kia_one (PySem.W.kitx_exc (ox := oe) (od := some od) h1 hT.ga hT.gg hT.exC h2 h3 h4 h5) I.kIn J hk (fun z => nomatch z) fun tk => h _ (I.kept (t' := tk) fun _ _ z => z)
theorem isX_run (her : g.er = some (i, a, c, ks, us, dd)) (S : SuiOk X.K g P fls) (hc : P.sup c ≠ []) (hz : Zc (.ref (g.C c)) (some dd) oe) (hf : ∃ vs, oe.data = .fields vs) {cv : Value} {cn : V} {b : Bool} {ec : Expr} (hN : X.N[i]? = some y) (hv : Vis X.env.scope y) (hd : (y == ("__debug__" : Str)) = false) (hcd : (y == ("__classdict__" : Str)) = false)
    (hi : Gl X "isinstance") (hm : X.mg "isinstance" = none) (hcv : ∀ u, RelV cn u → u = cv) (he : PE (X.suite a ((a, oe) :: pn)) ec (tC cn)) (hst : nst ec = true) (hk : PySem.W.kitOne X.K (.ref (g.C c)) cv = some b) :
    PE (X.suite a ((a, oe) :: pn)) (.Call (.Name "isinstance" p) [.Name y p2, ec] [] pos) (TEv g W 2 [] fun _ => .ok (.bl b)) := by
  refine ⟨fun pins s σ H Q I h => ?_⟩
  obtain ⟨e, Fs, hE, h⟩ := h
  have z := hE.cx
  unfold ErrCx at z
  rw [her] at z
  obtain ⟨z1, fs, z2, z3⟩ := z
  have z1 := z1 (by
    have := I.len
    rw [this]
    exact (List.getElem?_eq_some_iff.mp hN).1)
  refine wpAny_Call_Name_kw (ld_blt I hi hm (show bootBuiltins ("isinstance" : Str) = some (.builtin "isinstance") by decide +kernel) ?_ (by decide) (by decide))
  refine PyProof.Rows.callWith_builtin1 ?_ rfl (back_none (by rw [List.all_cons, hst]; rfl))
  refine thn ((pa_cons (X := X.suite a ((a, oe) :: pn)) (pe_var (X := X.suite a ((a, oe) :: pn)) (pos := p2) hN hv hd hcd) (pa_cons he pa_nil (star_cons hst)) rfl).run pos pins s σ H (fun vs H1 => vs = [.ref a, cn] ∧ H1 = H) I ⟨_, z1, rfl, rfl⟩) fun vs s1 ⟨ws, H1, I1, r, ev, eH⟩ => ?_
  subst ev eH
  cases r with
  | cons ra r =>
    cases r with
    | cons rc r =>
      cases r
      cases ra
      have := hcv _ rc
      subst this
      exact call_isX S hc hz hf I1 ⟨fs, z2⟩ hk fun s' I2 => ⟨.bl b, H1, I2, rfl, ok_bl (.refl H1) h⟩
end
end Wt

/-! Snd16: a written expression is checked against its tree. -/
namespace Wt
open PySem PySem.Spec PyProof.Rows L2

structure CallSig where
  x : Str
  f : Nat
  lv : Nat
  np : Nat
  ks : List Str
  pm : List Pa
/-- what a program's scopes may name -/
structure Dat where
  calls : List CallSig
  blts : List Str
  tys : List (Str × Ty)
  lvF : Nat → Nat
  /-- the fields' names; the errors: name, class, fields; what except and isinstance(e, ..) name; the errors' fields -/
  an : Nat → Str
  errs : List (Str × Nat × List (Nat × Bool))
  xtys : List (Str × Ty)
  fls : List Nat
  /-- instances: their fields, what is made (class in f), what is called on them (method in f, pm with the instance ahead) -/
  ifl : List Nat := []
  makes : List CallSig := []
  meths : List CallSig := []
  lvM : Nat → Nat := fun _ => 0
structure Sc where
  N : List Str
  scope : Scope
  all : Bool
  fs : Scope
def kd (sc : Sc) (x : Str) : Option NameKind := sc.scope.names.lookup x
def visB (sc : Sc) (x : Str) : Bool := kdB (kd sc x) .local || (kdB (kd sc x) .cell || kdB (kd sc x) .free)
def glB (sc : Sc) (x : Str) : Bool := kdB (kd sc x) .globalImplicit
def varB (sc : Sc) (i : Nat) (x : Str) : Bool := decide (sc.N[i]? = some x) && (visB sc x && (ndb x && !(x == ("__classdict__" : Str))))
def stB (sc : Sc) (i : Nat) (x : Str) : Bool := decide (sc.N[i]? = some x) && ((kdB (kd sc x) .local || kdB (kd sc x) .cell) && (sc.all || (kdB (sc.fs.names.lookup x) .cell || kdB (kd sc x) .local)))
def blkSc (sc : Sc) (scope : Scope) : Sc := ⟨sc.N, relS scope sc.scope, false, scope⟩

structure SameB (X X' : Cx) : Prop where
  prog : X'.prog = X.prog
  w : X'.w = X.w
  K : X'.K = X.K
  mg : X'.mg = X.mg
  base : X'.base = X.base
  A : X'.A = X.A
/-- an own class, or a built-in type, as isinstance names it -/
def TyN (X : Cx) (g : Cfg) (P : Prog) (c : Str) (ty : Ty) : Prop :=
  (∃ cn, X.mg c = none ∧ bootBuiltins c = some (.type cn) ∧ c ≠ "__name__" ∧ IsaOk X g P ty (.type cn)) ∨ ∃ C, X.mg c = some (.ref C) ∧ IsaOk X g P ty (.ref C)
/-- what holds in a scope -/
structure Wd (D : Dat) (sc : Sc) (X : Cx) (g : Cfg) (W : WX) (P : Prog) (cl : Nat → List T → R T) (mk : Nat → List T → R T) : Prop where
  hK : g.K = X.K
  er : g.er = none
  tk : Takes X W
  calm : X.calm = true
  sN : X.N = sc.N
  nd : sc.N.Nodup
  sS : X.env.scope = sc.scope
  sF : ∀ x, sc.all = true ∨ sc.fs.names.lookup x = some .cell → X.fn x = true
  un : X.A.units + 65 < cLine
  calls : ∀ c ∈ D.calls, CallOk X g c.x (cl c.f) c.lv c.np c.ks c.pm
  blts : ∀ x ∈ D.blts, X.mg x = none
  tys : ∀ p ∈ D.tys, TyN X g P p.1 p.2
  m0 : ∀ c, P.meth c 0 = none
  an : g.an = D.an
  errs : ∀ e ∈ D.errs, ErrOk X g e.1 e.2.1 e.2.2 ∧ P.err e.2.1 = some e.2.2
  xt : ∀ p ∈ D.xtys, TyE X g P p.1 p.2
  sui : SuiOk X.K g P D.fls
  ifl : ∀ f ∈ D.ifl, FldOk X g P f
  makes : ∀ c ∈ D.makes, MakeOk X g c.x c.f (mk c.f) c.np c.ks c.pm
  meths : ∀ c ∈ D.meths, MethOk X g P cl c.x c.f c.lv c.np c.ks c.pm
  exm : ∀ n c0, (n, Ty.own c0) ∈ D.xtys → ∀ c, P.sup c ≠ [] → PySem.W.exmOne X.K (.ref (g.C c)) (.ref (g.C c0)) = some ((P.sup c).contains c0)
  dAdd : ∀ X' W', SameB X X' → Takes X' W' → Dun X' g W' 1 (binaryOp .Add) fun c x y => mcall P cl c 1 [x, y]
  dSub : ∀ X' W', SameB X X' → Takes X' W' → Dun X' g W' 1 (binaryOp .Sub) fun c x y => mcall P cl c 2 [x, y]
  dAnd : ∀ X' W', SameB X X' → Takes X' W' → Dun X' g W' 1 (binaryOp .BitAnd) fun c x y => mcall P cl c 3 [x, y]
  dEq : ∀ X' W', SameB X X' → Takes X' W' → Dun X' g W' 2 (compareOp .Eq) fun c x y => mcall P cl c 4 [x, y]
  dIn : ∀ X' W', SameB X X' → Takes X' W' → DunR X' g W' 2 (compareOp .In) fun c x y => mcall P cl c 5 [y, x]
  dNin : ∀ X' W', SameB X X' → Takes X' W' → DunR X' g W' 2 (compareOp .NotIn) fun c x y => notR (mcall P cl c 5 [y, x])
  dLen : ∀ X' W', SameB X X' → Takes X' W' → Call1 X' g W' 2 (.builtin "len") fun t => match t with | .ins c _ _ => mcall P cl c mLen [t] | _ => .bad
theorem SameB.refl (X : Cx) : SameB X X := ⟨rfl, rfl, rfl, rfl, rfl, rfl⟩
theorem Wd.blk {D : Dat} {sc : Sc} {X : Cx} {g : Cfg} {W : WX} {P : Prog} {cl mk : Nat → List T → R T} (h : Wd D sc X g W P cl mk) (scope : Scope) (s : Shared) (H : Hp) (C : Addr) (c' : List (Str × Addr)) (fp : List Addr) :
    Wd D (blkSc sc scope) (X.blk s H scope (compEnvC scope c' C X.env) fp) g WF P cl mk where
  hK := h.hK
  er := h.er
  tk := takes_blk
  calm := h.calm
  sN := h.sN
  nd := h.nd
  sS := by
    show relS scope X.env.scope = relS scope sc.scope
    rw [h.sS]
  sF := fun x q => by
    rcases q with q | q
    · cases q
    · show (scope.names.lookup x == some NameKind.cell) = true
      have q : scope.names.lookup x = some .cell := q
      rw [q]; rfl
  un := h.un
  calls := fun c hc => ⟨(h.calls c hc).ex⟩
  blts := h.blts
  tys := fun p hp => (h.tys p hp).imp (fun ⟨cn, a, b, c, d⟩ => ⟨cn, a, b, c, ⟨d.base, d.ins⟩⟩) fun ⟨C, a, d⟩ => ⟨C, a, ⟨d.base, d.ins⟩⟩
  m0 := h.m0
  an := h.an
  errs := fun e he => ⟨⟨(h.errs e he).1.ex⟩, (h.errs e he).2⟩
  xt := h.xt
  sui := h.sui
  exm := h.exm
  ifl := fun f hf => ⟨(h.ifl f hf).inj, (h.ifl f hf).cls⟩
  makes := fun c hc => ⟨(h.makes c hc).ex⟩
  meths := fun c hc => ⟨(h.meths c hc).nf, (h.meths c hc).ex⟩
  dAdd := fun X' W' q => h.dAdd X' W' ⟨q.prog, q.w, q.K, q.mg, q.base, q.A⟩
  dSub := fun X' W' q => h.dSub X' W' ⟨q.prog, q.w, q.K, q.mg, q.base, q.A⟩
  dAnd := fun X' W' q => h.dAnd X' W' ⟨q.prog, q.w, q.K, q.mg, q.base, q.A⟩
  dEq := fun X' W' q => h.dEq X' W' ⟨q.prog, q.w, q.K, q.mg, q.base, q.A⟩
  dIn := fun X' W' q => h.dIn X' W' ⟨q.prog, q.w, q.K, q.mg, q.base, q.A⟩
  dNin := fun X' W' q => h.dNin X' W' ⟨q.prog, q.w, q.K, q.mg, q.base, q.A⟩
  dLen := fun X' W' q => h.dLen X' W' ⟨q.prog, q.w, q.K, q.mg, q.base, q.A⟩

/-! ### the check -/
def opB : Bop → Operator → Bool
  | .add, .Add => true
  | .sub, .Sub => true
  | .mul, .Mult => true
  | .fdiv, .FloorDiv => true
  | .mod, .Mod => true
  | .band, .BitAnd => true
  | .shl, .LShift => true
  | _, _ => false
def copB : Cop → CmpOp → Bool
  | .eq, .Eq => true
  | .ne, .NotEq => true
  | .lt, .Lt => true
  | .le, .LtE => true
  | .gt, .Gt => true
  | .ge, .GtE => true
  | .isin, .In => true
  | .notin, .NotIn => true
  | .is, .Is => true
  | .isnot, .IsNot => true
  | _, _ => false
def lvOp : Bop → Nat
  | .add => 1
  | .sub => 1
  | .mul => 1
  | .band => 1
  | _ => 2
mutual
/-- how new an expression's list is -/
def lvE (D : Dat) : E → Nat
  | .var _ => 0
  | .bin op _ _ => lvOp op
  | .and _ _ => 0
  | .or _ _ => 0
  | .ite _ a b => min (lvE D a) (lvE D b)
  | .lst es => lvEs D es + 1
  | .fld _ _ => 0
  | .ix _ _ => 0
  | .slice _ _ _ => 1
  | .rev _ => 1
  | .call f _ _ => D.lvF f
  | .meth m _ _ _ => D.lvM m
  | .cmeth _ _ _ _ => 0
  | .make _ _ _ => 0
  | .blt b _ => (match b with | .rangeL => 1 | .rangeT => 2 | .sum => 2 | .list => 1 | .len => 2 | .int => 2 | .abs => 2 | .tuple => 2 | .isa _ => 2 | .max2 => 2 | .min2 => 2 | .any => 2 | .all => 2 | .sorted => 1 | .maxL => 2 | .minL => 2 | _ => 0)
  | .comp el _ _ _ _ => min (lvE D el) 1 + 1
  | .xfld _ => 0
  | _ => 2
def lvEs (D : Dat) : List E → Nat
  | [] => 1
  | a :: as => min (lvE D a) (lvEs D as)
end
mutual
/-- the slots that an expression reads -/
def varsE : E → List Nat
  | .var i => [i]
  | .bin _ a b => varsE a ++ varsE b
  | .neg a => varsE a
  | .not a => varsE a
  | .and a b => varsE a ++ varsE b
  | .or a b => varsE a ++ varsE b
  | .cmp _ a b => varsE a ++ varsE b
  | .cmp2 _ _ a b c => varsE a ++ (varsE b ++ varsE c)
  | .ite c a b => varsE c ++ (varsE a ++ varsE b)
  | .tup es => varsL es
  | .lst es => varsL es
  | .fld a _ => varsE a
  | .ix a b => varsE a ++ varsE b
  | .slice a b c => varsE a ++ (varsL b ++ varsL c)
  | .rev a => varsE a
  | .call _ es _ => varsL es
  | .meth _ o es _ => varsE o ++ varsL es
  | .cmeth _ _ es _ => varsL es
  | .make _ es _ => varsL es
  | .makeV i es _ => varsL es
  | .blt _ es => varsL es
  | .comp el _ k its cds => (match k with | .rng => [] | _ => varsL its) ++ varsE el
  | .xfld _ => [erS]
  | _ => []
def varsL : List E → List Nat
  | [] => []
  | a :: as => varsE a ++ varsL as
end
/-- what the walked thing reaches -/
def varsI (k : Ik) (its : List E) : List Nat := match k with
  | .rng => []
  | _ => varsL its
def callB (D : Dat) (x : Str) (f np : Nat) (ks : List Str) (pm : List Pa) : Bool := D.calls.any fun c => decide (c.x = x) && (decide (c.f = f) && (decide (c.np = np) && (decide (c.ks = ks) && (decide (c.pm = pm) && decide (D.lvF f ≤ c.lv)))))
def makeB (D : Dat) (x : Str) (f np : Nat) (ks : List Str) (pm : List Pa) : Bool := D.makes.any fun c => decide (c.x = x) && (decide (c.f = f) && (decide (c.np = np) && (decide (c.ks = ks) && decide (c.pm = pm))))
def methB (D : Dat) (x : Str) (f np : Nat) (ks : List Str) (pm : List Pa) : Bool := D.meths.any fun c => decide (c.x = x) && (decide (c.f = f) && (decide (c.np = np) && (decide (c.ks = ks) && (decide (c.pm = pm) && decide (D.lvM f ≤ c.lv)))))
/-- a built-in of one argument: its name, whether it is a type -/
def blt1N : Blt → Option (String × Bool)
  | .len => some ("len", false)
  | .abs => some ("abs", false)
  | .int => some ("int", true)
  | .list => some ("list", true)
  | .tuple => some ("tuple", true)
  | .sum => some ("sum", false)
  | .any => some ("any", false)
  | .all => some ("all", false)
  | .sorted => some ("sorted", false)
  | .maxL => some ("max", false)
  | .minL => some ("min", false)
  | _ => none
def blt2N : Blt → Option String
  | .max2 => some "max"
  | .min2 => some "min"
  | _ => none
def bltB (D : Dat) (sc : Sc) (x : Str) (s : String) : Bool := decide (x = Str.ofString s) && (glB sc x && decide (x ∈ D.blts))
def tgB (sc : Sc) : Tg → Expr → Bool
  | .one i, .Name x _ => stB sc i x
  | .many js, .Tuple es _ _ => es.all nst && namesB sc js es
  | _, _ => false
where namesB (sc : Sc) : List Nat → List Expr → Bool
  | [], [] => true
  | j :: js, .Name x _ :: es => stB sc j x && namesB sc js es
  | _, _ => false
/-- pairs go to a written tuple -/
def tgT : Ik → Expr → Bool
  | .enum, .Tuple _ _ _ => true
  | .zip, .Tuple _ _ _ => true
  | .enum, _ => false
  | .zip, _ => false
  | _, _ => true
mutual
def chkE (D : Dat) : E → Sc → Expr → Bool
  | .var i, sc, a => (match a with | .Name x _ => varB sc i x | _ => false)
  | .int i, _, a => (match a with | .Constant (.int j) _ _ => decide (i = j) | _ => false)
  | .bl i, _, a => (match a with | .Constant (.bool j) _ _ => decide (i = j) | _ => false)
  | .non, _, a => (match a with | .Constant .none _ _ => true | _ => false)
  | .str i, _, a => (match a with | .Constant (.str j) _ _ => decide (i = j) | _ => false)
  | .bin op x y, sc, a => (match a with | .BinOp l o r _ => opB op o && (chkE D x sc l && chkE D y sc r) | _ => false)
  | .neg x, sc, a => (match a with | .UnaryOp .USub r _ => chkE D x sc r | _ => false)
  | .not x, sc, a => (match a with | .UnaryOp .Not r _ => chkE D x sc r | _ => false)
  | .and x y, sc, a => (match a with
    | .BoolOp .And (l :: r :: rest) p => chkE D x sc l && (match rest with | [] => chkE D y sc r | _ :: _ => chkE D y sc (.BoolOp .And (r :: rest) p))
    | _ => false)
  | .or x y, sc, a => (match a with
    | .BoolOp .Or (l :: r :: rest) p => chkE D x sc l && (match rest with | [] => chkE D y sc r | _ :: _ => chkE D y sc (.BoolOp .Or (r :: rest) p))
    | _ => false)
  | .cmp op x y, sc, a => (match a with | .Compare l [o] [r] _ => copB op o && (notSet r && (chkE D x sc l && chkE D y sc r)) | _ => false)
  | .cmp2 o1 o2 x y z, sc, a => (match a with | .Compare l [p1, p2] [m, r] _ => (copB o1 p1 && copB o2 p2) && (notSet r && (chkE D x sc l && (chkE D y sc m && chkE D z sc r))) | _ => false)
  | .ite c x y, sc, a => (match a with | .IfExp t l r _ => chkE D c sc t && (chkE D x sc l && chkE D y sc r) | _ => false)
  | .tup es, sc, a => (match a with | .Tuple l _ _ => Nat.ble l.length 1000 && chkL D es sc l | _ => false)
  | .lst es, sc, a => (match a with | .List l _ => Nat.ble l.length 1000 && chkL D es sc l | _ => false)
  | .ix x y, sc, a => (match a with | .Subscript l r _ => notSlice r && (chkE D x sc l && chkE D y sc r) | _ => false)
  | .slice x lo hi, sc, a => (match a with | .Subscript l (.Slice u v none _) _ => chkE D x sc l && (chkO D lo sc u && chkO D hi sc v) | _ => false)
  | .rev x, sc, a => (match a with | .Subscript l (.Slice none none (some (.UnaryOp .USub (.Constant (.int 1) _ _) _)) _) _ => chkE D x sc l | _ => false)
  | .call f es pm, sc, a => (match a with
    | .Call (.Name x _) as kws _ => (match kwNames kws with
      | some ks => callB D x f as.length ks pm && (glB sc x && (ndb x && (pmOk (as.length + ks.length) pm && chkK D es sc as kws)))
      | none => false)
    | _ => false)
  | .fld x f, sc, a => (match a with
    | .Attribute l y _ => decide (y = D.an f) && (decide (f ∈ D.ifl) && (plainBase l && chkE D x sc l))
    | _ => false)
  | .make f es pm, sc, a => (match a with
    | .Call (.Name x _) as kws _ => (match kwNames kws with
      | some ks => makeB D x f as.length ks pm && (glB sc x && (ndb x && (pmOk (as.length + ks.length) pm && chkK D es sc as kws)))
      | none => false)
    | _ => false)
  | .meth m o es pm, sc, a => (match a with
    | .Call (.Attribute l y ap) as kws cp => (match kwNames kws with
      | some ks => methB D y m as.length ks pm && ((plainBase l && ((ap.endLine == cp.line) && Nat.blt (as.length + kws.length) 28)) && (pmOk (as.length + 1 + ks.length) pm && (chkE D o sc l && chkK D es sc as kws)))
      | none => false)
    | _ => false)
  | .blt b es, sc, a => (match a with
    | .Call (.Name x _) as [] _ => (match b with
      | .isa ty => (match as with
        | [l, .Name c _] => bltB D sc x "isinstance" && (glB sc c && (ndb c && (D.tys.any fun p => decide (p.1 = c) && decide (p.2 = ty)) && chkL D es sc [l]))
        | _ => false)
      | .rangeL => (match as with
        | [.Call (.Name r _) [l] [] _] => bltB D sc x "list" && (bltB D sc r "range" && chkL D es sc [l])
        | _ => false)
      | .rangeT => (match as with
        | [.Call (.Name r _) [l] [] _] => bltB D sc x "tuple" && (bltB D sc r "range" && chkL D es sc [l])
        | _ => false)
      | _ => (match blt1N b with
        | some (s, _) => bltB D sc x s && (decide (as.length = 1) && chkL D es sc as)
        | none => (match blt2N b with
          | some s => bltB D sc x s && (decide (as.length = 2) && chkL D es sc as)
          | none => false)))
    | _ => false)
  | .comp el tg k its cds, sc, a => (match a with
    | .ListComp e' [⟨t', i', c', 0⟩] scope _ => (blkC sc.N sc.scope scope ((tgI tg).map fun i => (sc.N.getD i Str.empty, i)) && (notSet i' && tgB (blkSc sc scope) tg t')) && ((tgT k t' && chkI D its k sc i') && (chkC D cds (blkSc sc scope) c' && chkE D el (blkSc sc scope) e'))
    | _ => false)
  | _, _, _ => false
def chkL (D : Dat) : List E → Sc → List Expr → Bool
  | [], _, l => l.isEmpty
  | x :: xs, sc, l => (match l with | a :: as => nst a && (chkE D x sc a && chkL D xs sc as) | [] => false)
def chkK (D : Dat) : List E → Sc → List Expr → List Keyword → Bool
  | [], _, l, k => l.isEmpty && k.isEmpty
  | x :: xs, sc, l, k => (match l with
    | a :: as => nst a && (chkE D x sc a && chkK D xs sc as k)
    | [] => (match k with
      | ⟨_, v, _⟩ :: ks => chkE D x sc v && chkK D xs sc [] ks
      | [] => false))
/-- a slice's end -/
def chkO (D : Dat) : List E → Sc → Option Expr → Bool
  | [], _, o => o.isNone
  | x :: _, sc, o => (match o with | some a => chkE D x sc a | none => false)
def chkC (D : Dat) : List E → Sc → List Expr → Bool
  | [], _, l => l.isEmpty
  | x :: xs, sc, l => (match l with | [a] => xs.isEmpty && chkE D x sc a | _ => false)
def chkI (D : Dat) : List E → Ik → Sc → Expr → Bool
  | [], _, _, _ => false
  | x :: xs, k, sc, a => (match k with
    | .seq => xs.isEmpty && chkE D x sc a
    | .rng => (match a with
      | .Call (.Name n _) as [] _ => bltB D sc n "range" && (Nat.ble as.length 3 && (match as with
        | b :: bs => nst b && (chkE D x sc b && chkL D xs sc bs)
        | [] => false))
      | _ => false)
    | .enum => (match a with
      | .Call (.Name n _) [b] [] _ => bltB D sc n "enumerate" && (xs.isEmpty && (nst b && chkE D x sc b))
      | _ => false)
    | .zip => (match a with
      | .Call (.Name n _) [b, c] [] _ => bltB D sc n "zip" && (nst b && (chkE D x sc b && chkL D xs sc [c]))
      | _ => false)
    | _ => false)
end
end Wt

/-! Snd17: what the check of an expression promises. -/
namespace Wt
open PySem PySem.Spec PyProof.Rows L2

def PTW (X : Cx) (a : Expr) (t : TT) : Prop := PT X a t ∧ ∀ op l p, a = .BoolOp op l p → PW X a t
def Jd (X : Cx) (g : Cfg) (W : WX) (n : Nat) (vs : List Nat) (f : Env → R T) (a : Expr) : Prop := PE X a (TEv g W n vs f) ∧ PTW X a (TTv g W vs fun e => truth (f e))
section
variable {D : Dat} {sc : Sc} {X : Cx} {g : Cfg} {W : WX} {P : Prog} {cl mk : Nat → List T → R T}
theorem jd {n : Nat} {vs : List Nat} {f : Env → R T} {a : Expr} (h : PE X a (TEv g W n vs f)) (hp : plainTest a = true) : Jd X g W n vs f a :=
  ⟨h, tt_val (TEv.low (Nat.zero_le _) (fun _ z => z) h) (test_plain hp), fun op l p e => by subst e; cases hp⟩
theorem vis_of (w : Wd D sc X g W P cl mk) {x : Str} (h : visB sc x = true) : Vis X.env.scope x := by
  rw [w.sS]
  unfold visB kd at h
  rw [Bool.or_eq_true, Bool.or_eq_true] at h
  exact h.imp kdB_ok fun z => z.imp kdB_ok kdB_ok
theorem gl_of (w : Wd D sc X g W P cl mk) {x : Str} (h : glB sc x = true) : Gl X x := by
  show X.env.scope.names.lookup x = _
  rw [w.sS]
  exact kdB_ok h
theorem loc_of (w : Wd D sc X g W P cl mk) {i : Nat} {x : Str} (h : stB sc i x = true) : X.N[i]? = some x ∧ Loc X.env.scope x ∧ (X.fn x = true ∨ X.env.scope.names.lookup x = some .local) := by
  unfold stB kd at h
  obtain ⟨h1, h2⟩ := and2 h
  obtain ⟨h2, h3⟩ := and2 h2
  rw [Bool.or_eq_true] at h2
  rw [Bool.or_eq_true, Bool.or_eq_true] at h3
  rw [w.sN, w.sS]
  refine ⟨of_decide_eq_true h1, h2.imp kdB_ok kdB_ok, ?_⟩
  rcases h3 with h | h | h
  · exact .inl (w.sF x (.inl h))
  · exact .inl (w.sF x (.inr (kdB_ok h)))
  · exact .inr (kdB_ok h)
theorem op_of (w : Wd D sc X g W P cl mk) {op : Bop} {o : Operator} (h : opB op o = true) : Op2 X g W (lvOp op) (binaryOp o) (binT P cl op) := by
  cases op with
  | add => cases o <;> first | exact op2_add (w.dAdd X W (.refl X) w.tk) | cases h
  | sub => cases o <;> first | exact op2_sub (w.dSub X W (.refl X) w.tk) | cases h
  | mul => cases o <;> first | exact op2_mul w.m0 | cases h
  | fdiv => cases o <;> first | exact op2_fdiv w.m0 | cases h
  | mod => cases o <;> first | exact op2_mod w.m0 | cases h
  | band => cases o <;> first | exact op2_band (w.dAnd X W (.refl X) w.tk) | cases h
  | shl => cases o <;> first | exact op2_shl w.m0 | cases h
theorem cop_of (w : Wd D sc X g W P cl mk) {op : Cop} {o : CmpOp} (h : copB op o = true) : Op2 X g W 2 (compareOp o) (cmpT P cl op) := by
  have u64 : X.A.units + 64 < cLine := Nat.lt_trans (Nat.lt_succ_self _) w.un
  cases op with
  | eq => cases o <;> first | exact op2_eq u64 (w.dEq X W (.refl X) w.tk) | cases h
  | ne => cases o <;> first | exact op2_ne u64 | cases h
  | lt => cases o <;> first | exact (op2_cmpI op_lt : Op2 X g W 2 (compareOp .Lt) (cmpI fun i j => decide (i < j))) | cases h
  | le => cases o <;> first | exact (op2_cmpI op_le : Op2 X g W 2 (compareOp .LtE) (cmpI fun i j => decide (i ≤ j))) | cases h
  | gt => cases o <;> first | exact (op2_cmpI op_gt : Op2 X g W 2 (compareOp .Gt) (cmpI fun i j => decide (j < i))) | cases h
  | ge => cases o <;> first | exact (op2_cmpI op_ge : Op2 X g W 2 (compareOp .GtE) (cmpI fun i j => decide (j ≤ i))) | cases h
  | isin => cases o <;> first | exact op2_in w.un (w.dIn X W (.refl X) w.tk) | cases h
  | notin => cases o <;> first | exact op2_notin w.un (w.dNin X W (.refl X) w.tk) | cases h
  | is => cases o <;> first | exact op2_is | cases h
  | isnot => cases o <;> first | exact op2_isnot | cases h
theorem ev_onlyI {a : Expr} {n : Nat} {vs : List Nat} {f : Env → R T} (h : PE X a (TEv g W n vs f)) : PE X a (TEv g W 0 vs fun e => onlyI (f e)) :=
  PE.imp (TEv.low (m := 0) (Nat.zero_le _) (fun _ z => z) h) fun σ H Q ⟨e, Fs, he, h⟩ => ⟨e, Fs, he, by
    dsimp only at h
    revert h
    unfold onlyI
    cases f e with
    | ok t =>
      cases t with
      | int i => exact fun h => h
      | _ => exact fun h => (show False from h).elim
    | exc x => exact fun h => h
    | bad => exact fun h => h⟩
def tgG (K : PySem.W.Frag) : Tg → TG
  | .one i => gName i
  | .many js => gTup K js.length (gNames js)
theorem names_ok (w : Wd D sc X g W P cl mk) : ∀ {js : List Nat} {es : List Expr}, tgB.namesB sc js es = true → PGs X es (gNames js) ∧ es.length = js.length
  | [], [], _ => ⟨pgs_nil, rfl⟩
  | [], _ :: _, h => by unfold tgB.namesB at h; cases h
  | j :: js, es, h => by
    unfold tgB.namesB at h
    split at h
    · rename_i hh; cases hh
    · rename_i j' js' x p es' hh
      cases hh
      obtain ⟨h1, h2⟩ := and2 h
      obtain ⟨l1, l2, l3⟩ := loc_of w h1
      obtain ⟨r1, r2⟩ := names_ok w h2
      exact ⟨pgs_cons (pg_name (by rw [w.sN]; exact w.nd) l1 l2 l3) r1 (by rw [asg_cons rfl]; rfl), by rw [List.length_cons, List.length_cons, r2]⟩
    · cases h
theorem tg_ok (w : Wd D sc X g W P cl mk) {tg : Tg} {t : Expr} (h : tgB sc tg t = true) : PG X t (tgG X.K tg) := by
  unfold tgB at h
  split at h
  · rename_i i x p
    obtain ⟨l1, l2, l3⟩ := loc_of w h
    exact pg_name (by rw [w.sN]; exact w.nd) l1 l2 l3
  · rename_i js es k p
    obtain ⟨h1, h2⟩ := and2 h
    obtain ⟨r1, r2⟩ := names_ok w h2
    exact pg_tup w.calm r1 (by rw [asg_len h1, r2]) (asg_find h1)
  · cases h
theorem tgC_ok {tg : Tg} : TgC g tg (tgG X.K tg) := by
  cases tg with
  | one i => exact tgc_one
  | many js => exact tgc_many
theorem tgO_ok {tg : Tg} : TgOk g tg (tgG X.K tg) X.K := by
  cases tg with
  | one i => exact tg_one
  | many js => exact tg_many
theorem blt_nm (w : Wd D sc X g W P cl mk) {x : Str} {s : String} (h : bltB D sc x s = true) : x = Str.ofString s ∧ Gl X x ∧ X.mg x = none := by
  unfold bltB at h
  obtain ⟨h1, h2⟩ := and2 h
  obtain ⟨h2, h3⟩ := and2 h2
  exact ⟨of_decide_eq_true h1, gl_of w h2, w.blts x (of_decide_eq_true h3)⟩
end

/-- a range raises nothing -/
theorem rng_nx {P : Prog} {cl : Nat → List T → R T} {ts : List T} : nxR (walk P cl .rng ts) = walk P cl .rng ts := by
  have n : ∀ x, walk P cl .rng ts ≠ .exc x := by
    intro x h
    unfold walk at h
    dsimp only at h
    split at h
    · rename_i n
      cases q : small n <;> (rw [q] at h; cases h)
    · rename_i a b
      cases q : (small a && small b) <;> (rw [q] at h; cases h)
    · rename_i a b c
      cases q : (small a && (small b && decide (c = -1))) <;> (rw [q] at h; cases h)
    · cases h
  cases q : walk P cl .rng ts with
  | ok t => rfl
  | exc x => exact absurd q (n x)
  | bad => rfl
theorem evL_len {P : Prog} {cl : Nat → List T → R T} {mk : Nat → List T → R T} {cx : Option T} : ∀ {es : List E} {e : Env} {ts : List T}, evL P cl mk cx es e = .ok ts → ts.length = es.length
  | [], e, ts, h => by cases h; rfl
  | a :: as, e, ts, h => by
    have h : ((evE P cl mk cx a e).bnd fun x => (evL P cl mk cx as e).bnd fun xs => .ok (x :: xs)) = .ok ts := h
    revert h
    cases evE P cl mk cx a e with
    | ok x =>
      cases q : evL P cl mk cx as e with
      | ok xs =>
        intro h
        cases h
        rw [List.length_cons, List.length_cons, evL_len q]
      | exc z => exact fun h => by cases h
      | bad => exact fun h => by cases h
    | exc z => exact fun h => by cases h
    | bad => exact fun h => by cases h

section
variable {D : Dat} {P : Prog} {cl : Nat → List T → R T} {mk : Nat → List T → R T} {cx : Option T}
/-- positional and keyword arguments -/
structure JK (D : Dat) (X : Cx) (g : Cfg) (W : WX) (as : List Expr) (kws : List Keyword) (vs : List Nat) (f : Env → R (List T)) : Prop where
  ex : ∃ (fa fk : Env → R (List T)) (va vk : List Nat), PA X as (TAv g W 0 va fa) ∧ PKv X g W vk kws fk ∧ vs = va ++ vk ∧ (∀ e, f e = (fa e).bnd fun ts => (fk e).bnd fun us => .ok (ts ++ us)) ∧ (∀ e ts, fa e = .ok ts → ts.length = as.length) ∧ (as = [] → ∀ e, fa e = .ok []) ∧ (∀ e us, fk e = .ok us → us.length = kws.length) ∧ as.all nst = true
theorem blt1_ok {sc : Sc} {X : Cx} {g : Cfg} {W : WX} (w : Wd D sc X g W P cl mk) {b : Blt} {s : String} {ty : Bool} {x : Str} {p pos : Pos} {a : Expr} {va : List Nat} {fa : Env → R T} (hb : blt1N b = some (s, ty)) (hx : x = Str.ofString s) (hg : Gl X x) (hm : X.mg x = none) (hst : nst a = true) (ha : PE X a (TEv g W 0 va fa)) :
    PE X (.Call (.Name x p) [a] [] pos) (TEv g W (lvE D (.blt b [])) va fun e => (fa e).bnd (blt1 P cl b)) := by
  subst hx
  cases b with
  | len => cases hb; exact ev_b1 (c1_len w.hK (w.dLen X W (.refl X) w.tk)) hg hm (by decide +kernel) hst ha (by decide) (by decide)
  | abs => cases hb; exact ev_b1 c1_abs hg hm (by decide +kernel) hst ha (by decide) (by decide)
  | int => cases hb; exact ev_t1 c1_int hg hm (by decide +kernel) hst ha (by decide) (by decide)
  | list => cases hb; exact ev_t1 (c1_list (Nat.le_refl _)) hg hm (by decide +kernel) hst ha (by decide) (by decide)
  | tuple => cases hb; exact ev_t1 c1_tuple hg hm (by decide +kernel) hst ha (by decide) (by decide)
  | sum => cases hb; exact ev_b1 (c1_sumA w.calm) hg hm (by decide +kernel) hst ha (by decide) (by decide)
  | any => cases hb; exact ev_b1 (c1_any w.calm) hg hm (by decide +kernel) hst ha (by decide) (by decide)
  | all => cases hb; exact ev_b1 (c1_all w.calm) hg hm (by decide +kernel) hst ha (by decide) (by decide)
  | sorted => cases hb; exact ev_b1 (c1_sorted (Nat.le_refl _)) hg hm (by decide +kernel) hst ha (by decide) (by decide)
  | maxL => cases hb; exact ev_b1 (c1_maxL w.calm) hg hm (by decide +kernel) hst ha (by decide) (by decide)
  | minL => cases hb; exact ev_b1 (c1_minL w.calm) hg hm (by decide +kernel) hst ha (by decide) (by decide)
  | _ => cases hb
theorem blt2_ok {sc : Sc} {X : Cx} {g : Cfg} {W : WX} (w : Wd D sc X g W P cl mk) {b : Blt} {s : String} {x : Str} {p pos : Pos} {a c : Expr} {va vc : List Nat} {fa fc : Env → R T} (hb : blt2N b = some s) (hx : x = Str.ofString s) (hg : Gl X x) (hm : X.mg x = none) (hst : nst a = true) (hst2 : nst c = true)
    (ha : PE X a (TEv g W 0 va fa)) (hc : PE X c (TEv g W 0 vc fc)) : PE X (.Call (.Name x p) [a, c] [] pos) (TEv g W (lvE D (.blt b [])) (va ++ vc) fun e => (fa e).bnd fun t => (fc e).bnd fun u => blt2 b t u) := by
  subst hx
  cases b with
  | max2 => cases hb; exact ev_b2 (c2_max w.calm) hg hm (by decide +kernel) hst hst2 ha hc (by decide) (by decide)
  | min2 => cases hb; exact ev_b2 (c2_min w.calm) hg hm (by decide +kernel) hst hst2 ha hc (by decide) (by decide)
  | _ => cases hb

theorem pkv_low {X : Cx} {g : Cfg} {W : WX} {vs vs' : List Nat} {kws : List Keyword} {f : Env → R (List T)} (h : PKv X g W vs kws f) (hs : ∀ i ∈ vs, i ∈ vs') : PKv X g W vs' kws f :=
  ⟨fun pos pins s σ Hb H Q e Fs A n k Post I he eb hA o hk => h.run pos pins s σ Hb H Q e Fs A n k Post I he eb (fun i hi => hA i (hs i hi)) o hk⟩
theorem kws_len : ∀ {kws : List Keyword} {ks : List Str}, kwNames kws = some ks → kws.length = ks.length
  | [], ks, q => by cases q; rfl
  | k :: r, ks, q => by
    unfold kwNames at q
    split at q
    · rename_i n ns q1 q2
      cases q
      rw [List.length_cons, List.length_cons, kws_len q2]
    · cases q
theorem lvEs_le : ∀ es : List E, lvEs D es ≤ 1
  | [] => Nat.le_refl _
  | a :: as => Nat.le_trans (Nat.min_le_right _ _) (lvEs_le as)
theorem tav_lowN {X : Cx} {g : Cfg} {W : WX} {as : List Expr} {n m : Nat} {vs : List Nat} {f : Env → R (List T)} (hn : n ≤ 1) (hm : m ≤ n) (h : PA X as (TAv g W n vs f)) : PA X as (TAv g W m vs f) :=
  PA.imp h fun σ H Q ⟨e, Fs, he, h⟩ => ⟨e, Fs, he, h.low (by omega) fun b hb => hb⟩
mutual
theorem chkE_ok : ∀ (x : E) {sc : Sc} {X : Cx} {g : Cfg} {W : WX} {a : Expr}, Wd D sc X g W P cl mk → chkE D x sc a = true → Jd X g W (lvE D x) (varsE x) (evE P cl mk cx x) a
  | .var i, sc, X, g, W, a, w, h => by
    unfold chkE at h
    split at h
    · rename_i x p
      unfold varB at h
      obtain ⟨h1, h2⟩ := and2 h
      obtain ⟨h2, h3⟩ := and2 h2
      obtain ⟨h3, h4⟩ := and2 h3
      refine jd (ev_var (by rw [w.sN]; exact of_decide_eq_true h1) (vis_of w h2) (ndb_of h3) ?_) rfl
      cases q : (x == ("__classdict__" : Str)) with
      | false => rfl
      | true => rw [q] at h4; cases h4
    · cases h
  | .int i, sc, X, g, W, a, w, h => by
    unfold chkE at h
    split at h
    · have := of_decide_eq_true h; subst this; exact jd ev_int rfl
    · cases h
  | .bl i, sc, X, g, W, a, w, h => by
    unfold chkE at h
    split at h
    · have := of_decide_eq_true h; subst this; exact jd ev_bl rfl
    · cases h
  | .non, sc, X, g, W, a, w, h => by
    unfold chkE at h
    split at h
    · exact jd ev_non rfl
    · cases h
  | .str i, sc, X, g, W, a, w, h => by
    unfold chkE at h
    split at h
    · have := of_decide_eq_true h; subst this; exact jd ev_str rfl
    · cases h
  | .bin op x y, sc, X, g, W, a, w, h => by
    unfold chkE at h
    split at h
    · obtain ⟨h1, h2⟩ := and2 h
      obtain ⟨h2, h3⟩ := and2 h2
      exact jd (ev_bin (op_of w h1) (TEv.low (Nat.zero_le _) (fun _ z => z) (chkE_ok x w h2).1) (TEv.low (Nat.zero_le _) (fun _ z => z) (chkE_ok y w h3).1)) rfl
    · cases h
  | .neg x, sc, X, g, W, a, w, h => by
    unfold chkE at h
    split at h
    · exact jd (ev_neg (TEv.low (Nat.zero_le _) (fun _ z => z) (chkE_ok x w h).1)) rfl
    · cases h
  | .not x, sc, X, g, W, a, w, h => by
    unfold chkE at h
    split at h
    · have ih := chkE_ok x w h
      exact ⟨ev_not (TEv.low (Nat.zero_le _) (fun _ z => z) ih.1), tt_not ih.2.1, fun _ _ _ z => by cases z⟩
    · cases h
  | .and x y, sc, X, g, W, a, w, h => by
    unfold chkE at h
    split at h
    · rename_i l r rest p
      obtain ⟨h1, h2⟩ := and2 h
      have ih := chkE_ok x w h1
      have ihl : PE X l (TEv g W 0 (varsE x) (evE P cl mk cx x)) := TEv.low (Nat.zero_le _) (fun _ z => z) ih.1
      have hb : PE X (.BoolOp .And (r :: rest) p) (TEv g W 0 (varsE y) (evE P cl mk cx y)) ∧ PW X (.BoolOp .And (r :: rest) p) (TTv g W (varsE y) fun e => truth (evE P cl mk cx y e)) := by
        split at h2
        · have j := chkE_ok y w h2
          exact ⟨pe_one (TEv.low (Nat.zero_le _) (fun _ z => z) j.1), pw_and1 j.2.1⟩
        · have j := chkE_ok y w h2
          exact ⟨TEv.low (Nat.zero_le _) (fun _ z => z) j.1, j.2.2 _ _ _ rfl⟩
      have pw := tw_and ih.2.1 hb.2 (pos := p)
      exact ⟨ev_and ihl hb.1, pw.pt, fun op l' p' e => pw⟩
    · cases h
  | .or x y, sc, X, g, W, a, w, h => by
    unfold chkE at h
    split at h
    · rename_i l r rest p
      obtain ⟨h1, h2⟩ := and2 h
      have ih := chkE_ok x w h1
      have ihl : PE X l (TEv g W 0 (varsE x) (evE P cl mk cx x)) := TEv.low (Nat.zero_le _) (fun _ z => z) ih.1
      have hb : PE X (.BoolOp .Or (r :: rest) p) (TEv g W 0 (varsE y) (evE P cl mk cx y)) ∧ PW X (.BoolOp .Or (r :: rest) p) (TTv g W (varsE y) fun e => truth (evE P cl mk cx y e)) := by
        split at h2
        · have j := chkE_ok y w h2
          exact ⟨pe_one (TEv.low (Nat.zero_le _) (fun _ z => z) j.1), pw_or1 j.2.1⟩
        · have j := chkE_ok y w h2
          exact ⟨TEv.low (Nat.zero_le _) (fun _ z => z) j.1, j.2.2 _ _ _ rfl⟩
      have pw := tw_or ih.2.1 hb.2 (pos := p)
      exact ⟨ev_or ihl hb.1, pw.pt, fun op l' p' e => pw⟩
    · cases h
  | .cmp op x y, sc, X, g, W, a, w, h => by
    unfold chkE at h
    split at h
    · obtain ⟨h1, h2⟩ := and2 h
      obtain ⟨h2, h3⟩ := and2 h2
      obtain ⟨h3, h4⟩ := and2 h3
      have hx := TEv.low (m := 0) (Nat.zero_le _) (fun _ z => z) (chkE_ok x w h3).1
      have hy := TEv.low (m := 0) (Nat.zero_le _) (fun _ z => z) (chkE_ok y w h4).1
      exact ⟨ev_cmp (cop_of w h1) hx hy (mark_no h2), tt_cmp (cop_of w h1) hx hy (mark_no h2), fun _ _ _ z => by cases z⟩
    · cases h
  | .cmp2 o1 o2 x y z, sc, X, g, W, a, w, h => by
    unfold chkE at h
    split at h
    · obtain ⟨h1, h2⟩ := and2 h
      obtain ⟨h1, h1'⟩ := and2 h1
      obtain ⟨h2, h3⟩ := and2 h2
      obtain ⟨h3, h4⟩ := and2 h3
      obtain ⟨h4, h5⟩ := and2 h4
      have hx := TEv.low (m := 0) (Nat.zero_le _) (fun _ z => z) (chkE_ok x w h3).1
      have hy := TEv.low (m := 0) (Nat.zero_le _) (fun _ z => z) (chkE_ok y w h4).1
      have hz := TEv.low (m := 0) (Nat.zero_le _) (fun _ z => z) (chkE_ok z w h5).1
      exact ⟨ev_cmp2 (cop_of w h1) (cop_of w h1') hx hy hz (mark_no h2), tt_cmp2 (cop_of w h1) (cop_of w h1') hx hy hz (mark_no h2), fun _ _ _ z => by cases z⟩
    · cases h
  | .ite c x y, sc, X, g, W, a, w, h => by
    unfold chkE at h
    split at h
    · obtain ⟨h1, h2⟩ := and2 h
      obtain ⟨h2, h3⟩ := and2 h2
      have jc := chkE_ok c w h1
      have jx := chkE_ok x w h2
      have jy := chkE_ok y w h3
      exact ⟨ev_ite jc.2.1 (TEv.low (Nat.min_le_left _ _) (fun _ z => z) jx.1) (TEv.low (Nat.min_le_right _ _) (fun _ z => z) jy.1), tt_ite jc.2.1 jx.2.1 jy.2.1, fun _ _ _ z => by cases z⟩
    · cases h
  | .tup es, sc, X, g, W, a, w, h => by
    unfold chkE at h
    split at h
    · obtain ⟨h1, h2⟩ := and2 h
      obtain ⟨j, jl⟩ := chkL_ok es w h2
      exact jd (ev_tup j fun e ts q => by rw [evL_len q, ← jl.1]; exact Nat.le_of_ble_eq_true h1) rfl
    · cases h
  | .lst es, sc, X, g, W, a, w, h => by
    unfold chkE at h
    split at h
    · obtain ⟨h1, h2⟩ := and2 h
      obtain ⟨j, jl⟩ := chkL_ok es w h2
      exact jd (ev_lst j (fun e ts q => by rw [evL_len q, ← jl.1]; exact Nat.le_of_ble_eq_true h1) (Nat.le_refl _) (lvEs_le es)) rfl
    · cases h
  | .ix x y, sc, X, g, W, a, w, h => by
    unfold chkE at h
    split at h
    · obtain ⟨h1, h2⟩ := and2 h
      obtain ⟨h2, h3⟩ := and2 h2
      exact jd (ev_ix w.hK (TEv.low (Nat.zero_le _) (fun _ z => z) (chkE_ok x w h2).1) (TEv.low (Nat.zero_le _) (fun _ z => z) (chkE_ok y w h3).1) (ix_plain h1)) rfl
    · cases h
  | .slice x lo hi, sc, X, g, W, a, w, h => by
    unfold chkE at h
    split at h
    · obtain ⟨h1, h2⟩ := and2 h
      obtain ⟨h2, h3⟩ := and2 h2
      obtain ⟨jl, nl⟩ := chkO_ok lo w h2
      obtain ⟨jh, nh⟩ := chkO_ok hi w h3
      exact jd (ev_slice (TEv.low (Nat.zero_le _) (fun _ z => z) (chkE_ok x w h1).1) jl jh nl nh) rfl
    · cases h
  | .rev x, sc, X, g, W, a, w, h => by
    unfold chkE at h
    split at h
    · exact jd (ev_rev (TEv.low (Nat.zero_le _) (fun _ z => z) (chkE_ok x w h).1)) rfl
    · cases h
  | .call f es pm, sc, X, g, W, a, w, h => by
    unfold chkE at h
    split at h
    · rename_i x p as kws pos
      split at h
      · rename_i ks hks
        obtain ⟨h1, h2⟩ := and2 h
        obtain ⟨h2, h3⟩ := and2 h2
        obtain ⟨h3, h4⟩ := and2 h3
        obtain ⟨h4, h5⟩ := and2 h4
        obtain ⟨fa, fk, va, vk, ja, jk, ev, ef, l1, l2, l3, l4⟩ := (chkK_ok es w h5).ex
        unfold callB at h1
        rw [List.any_eq_true] at h1
        obtain ⟨c, hc, h1⟩ := h1
        obtain ⟨c1, h1⟩ := and2 h1
        obtain ⟨c2, h1⟩ := and2 h1
        obtain ⟨c3, h1⟩ := and2 h1
        obtain ⟨c4, h1⟩ := and2 h1
        obtain ⟨c5, c6⟩ := and2 h1
        have C := w.calls c hc
        rw [of_decide_eq_true c1, of_decide_eq_true c2, of_decide_eq_true c3, of_decide_eq_true c4, of_decide_eq_true c5] at C
        have hlk : ∀ {kws : List Keyword} {ks : List Str}, kwNames kws = some ks → kws.length = ks.length := by
          intro kws
          induction kws with
          | nil => intro ks q; cases q; rfl
          | cons k r ih =>
            intro ks q
            unfold kwNames at q
            split at q
            · rename_i n ns q1 q2
              cases q
              rw [List.length_cons, List.length_cons, ih q2]
            · cases q
        have r := ev_call (pos := pos) (p := p) C w.tk (gl_of w h2) (ndb_of h3) (argsOk_of l4 hks) ja jk l1 l2 (fun e us q => by rw [l3 e us q, hlk hks]) rfl h4 (of_decide_eq_true c6)
        have r' : PE X (.Call (.Name x p) as kws pos) (TEv g W (lvE D (.call f es pm)) (varsL es) (evE P cl mk cx (.call f es pm))) := by
          have e1 : (fun e => (fa e).bnd fun ts => (fk e).bnd fun us => cl f (args pm (ts ++ us))) = evE P cl mk cx (.call f es pm) := funext fun e => by
            show _ = (evL P cl mk cx es e).bnd fun ts => cl f (args pm ts)
            rw [ef e]
            cases fa e with
            | ok ts => cases fk e <;> rfl
            | exc z => rfl
            | bad => rfl
          rw [ev, ← e1]
          exact r
        exact jd r' rfl
      · cases h
    · cases h
  | .fld x f, sc, X, g, W, a, w, h => by
    unfold chkE at h
    split at h
    · obtain ⟨h1, h2⟩ := and2 h
      obtain ⟨h2, h3⟩ := and2 h2
      obtain ⟨h3, h4⟩ := and2 h3
      exact jd (ev_fld (w.ifl f (of_decide_eq_true h2)) (by rw [w.an]; exact (of_decide_eq_true h1).symm) (TEv.low (Nat.zero_le _) (fun _ z => z) (chkE_ok x w h4).1) (base_of h3)) rfl
    · cases h
  | .make m es pm, sc, X, g, W, a, w, h => by
    unfold chkE at h
    split at h
    · rename_i x p as kws pos
      split at h
      · rename_i ks hks
        obtain ⟨h1, h2⟩ := and2 h
        obtain ⟨h2, h3⟩ := and2 h2
        obtain ⟨h3, h4⟩ := and2 h3
        obtain ⟨h4, h5⟩ := and2 h4
        obtain ⟨fa, fk, va, vk, ja, jk, ev, ef, l1, l2, l3, l4⟩ := (chkK_ok es w h5).ex
        unfold makeB at h1
        rw [List.any_eq_true] at h1
        obtain ⟨c, hc, h1⟩ := h1
        obtain ⟨c1, h1⟩ := and2 h1
        obtain ⟨c2, h1⟩ := and2 h1
        obtain ⟨c3, h1⟩ := and2 h1
        obtain ⟨c4, c5⟩ := and2 h1
        have C := w.makes c hc
        rw [of_decide_eq_true c1, of_decide_eq_true c2, of_decide_eq_true c3, of_decide_eq_true c4, of_decide_eq_true c5] at C
        have r := ev_make (pos := pos) (p := p) C w.tk (gl_of w h2) (ndb_of h3) (argsOk_of l4 hks) ja jk l1 l2 (fun e us q => by rw [l3 e us q, kws_len hks]) rfl h4
        have r' : PE X (.Call (.Name x p) as kws pos) (TEv g W (lvE D (.make m es pm)) (varsL es) (evE P cl mk cx (.make m es pm))) := by
          have e1 : (fun e => (fa e).bnd fun ts => (fk e).bnd fun us => mk m (args pm (ts ++ us))) = evE P cl mk cx (.make m es pm) := funext fun e => by
            show _ = (evL P cl mk cx es e).bnd fun ts => mk m (args pm ts)
            rw [ef e]
            cases fa e with
            | ok ts => cases fk e <;> rfl
            | exc z => rfl
            | bad => rfl
          rw [ev, ← e1]
          exact r
        exact jd r' rfl
      · cases h
    · cases h
  | .meth m o es pm, sc, X, g, W, a, w, h => by
    unfold chkE at h
    split at h
    · rename_i l y ap as kws cp
      split at h
      · rename_i ks hks
        obtain ⟨h1, h2⟩ := and2 h
        obtain ⟨h2, h3⟩ := and2 h2
        obtain ⟨b1, b2⟩ := and2 h2
        obtain ⟨b2, b3⟩ := and2 b2
        obtain ⟨h3, h4⟩ := and2 h3
        obtain ⟨h4, h5⟩ := and2 h4
        have jo := TEv.low (m := 0) (Nat.zero_le _) (fun _ z => z) (chkE_ok o w h4).1
        obtain ⟨fa, fk, va, vk, ja, jk, ev, ef, l1, l2, l3, l4⟩ := (chkK_ok es w h5).ex
        unfold methB at h1
        rw [List.any_eq_true] at h1
        obtain ⟨c, hc, h1⟩ := h1
        obtain ⟨c1, h1⟩ := and2 h1
        obtain ⟨c2, h1⟩ := and2 h1
        obtain ⟨c3, h1⟩ := and2 h1
        obtain ⟨c4, h1⟩ := and2 h1
        obtain ⟨c5, c6⟩ := and2 h1
        have C := w.meths c hc
        rw [of_decide_eq_true c1, of_decide_eq_true c2, of_decide_eq_true c3, of_decide_eq_true c4, of_decide_eq_true c5] at C
        have r := ev_meth (pos := cp) C w.tk b1 l4 hks (Nat.le_of_ble_eq_true b3) b2 jo ja jk l1 l2 (fun e us q => by rw [l3 e us q, kws_len hks]) rfl h3 (of_decide_eq_true c6)
        have r' : PE X (.Call (.Attribute l y ap) as kws cp) (TEv g W (lvE D (.meth m o es pm)) (varsE o ++ varsL es) (evE P cl mk cx (.meth m o es pm))) := by
          have e1 : (fun e => (evE P cl mk cx o e).bnd fun t => (ofO (methOf P m t)).bnd fun d => (fa e).bnd fun ts => (fk e).bnd fun us => cl d (args pm (t :: (ts ++ us)))) = evE P cl mk cx (.meth m o es pm) := funext fun e => by
            show _ = (evE P cl mk cx o e).bnd fun x => (ofO (methOf P m x)).bnd fun f => (evL P cl mk cx es e).bnd fun ts => cl f (args pm (x :: ts))
            rw [ef e]
            cases evE P cl mk cx o e with
            | ok t =>
              show (ofO (methOf P m t)).bnd _ = (ofO (methOf P m t)).bnd _
              cases methOf P m t with
              | none => rfl
              | some d =>
                show ((fa e).bnd fun ts => _) = ((fa e).bnd fun ts => (fk e).bnd fun us => R.ok (ts ++ us)).bnd _
                cases fa e with
                | ok ts => cases fk e <;> rfl
                | exc z => rfl
                | bad => rfl
            | exc z => rfl
            | bad => rfl
          rw [ev, ← e1]
          exact r
        exact jd r' rfl
      · cases h
    · cases h
  | .blt b es, sc, X, g, W, a, w, h => by
    unfold chkE at h
    split at h
    · rename_i x p as pos
      split at h
      · rename_i ty
        split at h
        · rename_i l c p2
          obtain ⟨h1, h2⟩ := and2 h
          obtain ⟨g2, h3⟩ := and2 h2
          obtain ⟨h3, h5⟩ := and2 h3
          obtain ⟨g3, h4⟩ := and2 h3
          have g2 := gl_of w g2
          have g3 := ndb_of g3
          obtain ⟨q1, q2, q3⟩ := blt_nm w h1
          subst q1
          rw [List.any_eq_true] at h4
          obtain ⟨pp, hpp, h4⟩ := h4
          obtain ⟨d1, d2⟩ := and2 h4
          have tn := w.tys pp hpp
          rw [of_decide_eq_true d1, of_decide_eq_true d2] at tn
          match es, h5 with
          | [], h5 => unfold chkL at h5; cases h5
          | y :: z :: r, h5 =>
            unfold chkL at h5
            obtain ⟨_, h5⟩ := and2 h5
            obtain ⟨_, h5⟩ := and2 h5
            unfold chkL at h5
            cases h5
          | [y], h5 =>
            unfold chkL at h5
            obtain ⟨n1, h5⟩ := and2 h5
            obtain ⟨h5, _⟩ := and2 h5
            have jy := TEv.low (m := 0) (Nat.zero_le _) (fun _ z => z) (chkE_ok y w h5).1
            have key : PE X (.Call (.Name "isinstance" p) [l, .Name c p2] [] pos) (TEv g W 2 (varsE y) fun e => (evE P cl mk cx y e).bnd fun t => isaT P ty t) := by
              rcases tn with ⟨cn, t1, t2, t3, t4⟩ | ⟨C, t1, t2⟩
              · exact ev_isa t4 (.ty cn) q2 q3 n1 rfl jy (pe_tyN g2 t1 t2 t3 g3)
              · exact ev_isa t2 (.own C) q2 q3 n1 rfl jy (pe_glob (v := .ref C) g2 t1 rfl g3)
            have e1 : (fun e => (evE P cl mk cx y e).bnd fun t => isaT P ty t) = evE P cl mk cx (.blt (.isa ty) [y]) := funext fun e => by
              show _ = ((evE P cl mk cx y e).bnd fun t => (R.ok []).bnd fun xs => R.ok (t :: xs)).bnd fun ts => bltT P cl (.isa ty) ts
              cases evE P cl mk cx y e <;> rfl
            have e2 : varsE (.blt (.isa ty) [y]) = varsE y := by show varsE y ++ [] = _; rw [List.append_nil]
            refine jd ?_ rfl
            rw [e2, ← e1]
            exact key
        · cases h
      · split at h
        · rename_i r p2 l pos2
          obtain ⟨h1, h2⟩ := and2 h
          obtain ⟨h2, h5⟩ := and2 h2
          obtain ⟨q1, q2, q3⟩ := blt_nm w h1
          obtain ⟨q4, q5, q6⟩ := blt_nm w h2
          subst q1 q4
          match es, h5 with
          | [], h5 => unfold chkL at h5; cases h5
          | y :: z :: r, h5 =>
            unfold chkL at h5
            obtain ⟨_, h5⟩ := and2 h5
            obtain ⟨_, h5⟩ := and2 h5
            unfold chkL at h5
            cases h5
          | [y], h5 =>
            unfold chkL at h5
            obtain ⟨n1, h5⟩ := and2 h5
            obtain ⟨h5, _⟩ := and2 h5
            have jy := TEv.low (m := 0) (Nat.zero_le _) (fun _ z => z) (chkE_ok y w h5).1
            have key := ev_listRg (P := P) (cl := cl) (n := 1) (p := p) (p2 := p2) (pos := pos) (pos2 := pos2) w.calm q2 q3 q5 q6 n1 (Nat.le_refl _) jy
            have e1 : (fun e => (evE P cl mk cx y e).bnd (blt1 P cl .rangeL)) = evE P cl mk cx (.blt .rangeL [y]) := funext fun e => by
              show _ = ((evE P cl mk cx y e).bnd fun t => (R.ok []).bnd fun xs => R.ok (t :: xs)).bnd fun ts => bltT P cl .rangeL ts
              cases evE P cl mk cx y e <;> rfl
            have e2 : varsE (.blt .rangeL [y]) = varsE y := by show varsE y ++ [] = _; rw [List.append_nil]
            refine jd ?_ rfl
            rw [e2, ← e1]
            exact key
        · cases h
      · split at h
        · rename_i r p2 l pos2
          obtain ⟨h1, h2⟩ := and2 h
          obtain ⟨h2, h5⟩ := and2 h2
          obtain ⟨q1, q2, q3⟩ := blt_nm w h1
          obtain ⟨q4, q5, q6⟩ := blt_nm w h2
          subst q1 q4
          match es, h5 with
          | [], h5 => unfold chkL at h5; cases h5
          | y :: z :: r, h5 =>
            unfold chkL at h5
            obtain ⟨_, h5⟩ := and2 h5
            obtain ⟨_, h5⟩ := and2 h5
            unfold chkL at h5
            cases h5
          | [y], h5 =>
            unfold chkL at h5
            obtain ⟨n1, h5⟩ := and2 h5
            obtain ⟨h5, _⟩ := and2 h5
            have jy := TEv.low (m := 0) (Nat.zero_le _) (fun _ z => z) (chkE_ok y w h5).1
            have key := ev_tupRg (P := P) (cl := cl) (n := 2) (p := p) (p2 := p2) (pos := pos) (pos2 := pos2) w.calm q2 q3 q5 q6 n1 jy
            have e1 : (fun e => (evE P cl mk cx y e).bnd (blt1 P cl .rangeT)) = evE P cl mk cx (.blt .rangeT [y]) := funext fun e => by
              show _ = ((evE P cl mk cx y e).bnd fun t => (R.ok []).bnd fun xs => R.ok (t :: xs)).bnd fun ts => bltT P cl .rangeT ts
              cases evE P cl mk cx y e <;> rfl
            have e2 : varsE (.blt .rangeT [y]) = varsE y := by show varsE y ++ [] = _; rw [List.append_nil]
            refine jd ?_ rfl
            rw [e2, ← e1]
            exact key
        · cases h
      · split at h
        · rename_i s ty hs
          obtain ⟨h1, h2⟩ := and2 h
          obtain ⟨h2, h3⟩ := and2 h2
          obtain ⟨q1, q2, q3⟩ := blt_nm w h1
          have hl := of_decide_eq_true h2
          match as, es, hl, h3 with
          | [l], [y], _, h5 =>
            unfold chkL at h5
            obtain ⟨n1, h5⟩ := and2 h5
            obtain ⟨h5, _⟩ := and2 h5
            have jy := TEv.low (m := 0) (Nat.zero_le _) (fun _ z => z) (chkE_ok y w h5).1
            have key := blt1_ok (pos := pos) (p := p) w hs q1 q2 q3 n1 jy
            have e1 : (fun e => (evE P cl mk cx y e).bnd (blt1 P cl b)) = evE P cl mk cx (.blt b [y]) := funext fun e => by
              show _ = ((evE P cl mk cx y e).bnd fun t => (R.ok []).bnd fun xs => R.ok (t :: xs)).bnd fun ts => bltT P cl b ts
              cases evE P cl mk cx y e <;> rfl
            have e2 : varsE (.blt b [y]) = varsE y := by show varsE y ++ [] = _; rw [List.append_nil]
            refine jd ?_ rfl
            rw [e2, ← e1]
            exact key
          | [l], [], _, h5 => unfold chkL at h5; cases h5
          | [l], y :: z :: r, _, h5 =>
            unfold chkL at h5
            obtain ⟨_, h5⟩ := and2 h5
            obtain ⟨_, h5⟩ := and2 h5
            unfold chkL at h5
            cases h5
        · split at h
          · rename_i s hs
            obtain ⟨h1, h2⟩ := and2 h
            obtain ⟨h2, h3⟩ := and2 h2
            obtain ⟨q1, q2, q3⟩ := blt_nm w h1
            have hl := of_decide_eq_true h2
            match as, es, hl, h3 with
            | [l, m], [y, z], _, h5 =>
              unfold chkL at h5
              obtain ⟨n1, h5⟩ := and2 h5
              obtain ⟨h5, h6⟩ := and2 h5
              unfold chkL at h6
              obtain ⟨n2, h6⟩ := and2 h6
              obtain ⟨h6, _⟩ := and2 h6
              have jy := TEv.low (m := 0) (Nat.zero_le _) (fun _ z => z) (chkE_ok y w h5).1
              have jz := TEv.low (m := 0) (Nat.zero_le _) (fun _ z => z) (chkE_ok z w h6).1
              have key := blt2_ok (pos := pos) (p := p) w hs q1 q2 q3 n1 n2 jy jz
              have e1 : (fun e => (evE P cl mk cx y e).bnd fun t => (evE P cl mk cx z e).bnd fun u => blt2 b t u) = evE P cl mk cx (.blt b [y, z]) := funext fun e => by
                show _ = ((evE P cl mk cx y e).bnd fun t => ((evE P cl mk cx z e).bnd fun u => (R.ok []).bnd fun xs => R.ok (u :: xs)).bnd fun xs => R.ok (t :: xs)).bnd fun ts => bltT P cl b ts
                cases evE P cl mk cx y e with
                | ok t => cases evE P cl mk cx z e <;> rfl
                | exc q => rfl
                | bad => rfl
              have e2 : varsE (.blt b [y, z]) = varsE y ++ varsE z := by show varsE y ++ (varsE z ++ []) = _; rw [List.append_nil]
              refine jd ?_ rfl
              rw [e2, ← e1]
              exact key
            | [l, m], [], _, h5 => unfold chkL at h5; cases h5
            | [l, m], [y], _, h5 =>
              unfold chkL at h5
              obtain ⟨_, h5⟩ := and2 h5
              obtain ⟨_, h5⟩ := and2 h5
              unfold chkL at h5
              cases h5
            | [l, m], y :: z :: q :: r, _, h5 =>
              unfold chkL at h5
              obtain ⟨_, h5⟩ := and2 h5
              obtain ⟨_, h5⟩ := and2 h5
              unfold chkL at h5
              obtain ⟨_, h5⟩ := and2 h5
              obtain ⟨_, h5⟩ := and2 h5
              unfold chkL at h5
              cases h5
          · cases h
    · cases h
  | .comp el tg k its cds, sc, X, g, W, a, w, h => by
    unfold chkE at h
    split at h
    · rename_i e' t' i' c' scope pos
      obtain ⟨h1, h2⟩ := and2 h
      obtain ⟨h1, h3⟩ := and2 h1
      obtain ⟨h3, h4⟩ := and2 h3
      obtain ⟨h2, h5⟩ := and2 h2
      obtain ⟨h5, h6⟩ := and2 h5
      have ok : BlkOk X.N X.env.scope scope ((tgI tg).map fun i => (sc.N.getD i Str.empty, i)) := by
        rw [w.sN, w.sS]
        exact blkOk_by h1
      have key := ev_comp (pos := pos) (n := min (lvE D el) 1 + 1) (m := min (lvE D el) 1) (W := W) (own := (tgI tg).map fun i => (sc.N.getD i Str.empty, i)) w.er (Nat.le_refl _) (Nat.min_le_right _ _) (tgC_ok (X := X) (g := g) (tg := tg)) w.calm (by rw [w.sN]; exact w.nd) (chkI_ok its k t' w (and2 h2).1 (and2 h2).2) ok
        (by rw [List.map_map]; exact List.map_id _)
        (fun s H C c' fp => tg_ok (w.blk scope s H C c' fp) h4) (fun s H C c' fp => chkC_ok cds (w.blk scope s H C c' fp) h5) (fun s H C c' fp => TEv.low (Nat.min_le_left _ _) (fun _ z => z) (chkE_ok el (w.blk scope s H C c' fp) h6).1) h3
      have e1 : compF tg (fun e => (noX k (evL P cl mk cx its e)).bnd (walk P cl k)) (evC P cl mk cx cds) (evE P cl mk cx el) = evE P cl mk cx (.comp el tg k its cds) := funext fun e => by
        show ((noX k (evL P cl mk cx its e)).bnd (walk P cl k)).bnd _ = (noX k (evL P cl mk cx its e)).bnd fun ts => (walk P cl k ts).bnd fun xs => _
        rw [bnd_assoc]
      refine jd ?_ rfl
      rw [← e1]
      exact key
    · cases h
  | .cmeth _ _ _ _, _, _, _, _, _, _, h => by unfold chkE at h; cases h
  | .makeV _ _ _, _, _, _, _, _, _, h => by unfold chkE at h; cases h
  | .xfld _, _, _, _, _, _, _, h => by unfold chkE at h; cases h
  | .xisa _, _, _, _, _, _, _, h => by unfold chkE at h; cases h
theorem chkL_ok : ∀ (es : List E) {sc : Sc} {X : Cx} {g : Cfg} {W : WX} {as : List Expr}, Wd D sc X g W P cl mk → chkL D es sc as = true → PA X as (TAv g W (lvEs D es) (varsL es) (evL P cl mk cx es)) ∧ as.length = es.length ∧ as.all nst = true
  | [], sc, X, g, W, as, w, h => by
    unfold chkL at h
    cases as with
    | nil => exact ⟨av_nil, rfl, rfl⟩
    | cons a r => cases h
  | x :: xs, sc, X, g, W, as, w, h => by
    unfold chkL at h
    cases as with
    | nil => cases h
    | cons a r =>
      obtain ⟨h1, h2⟩ := and2 h
      obtain ⟨h2, h3⟩ := and2 h2
      have j := chkE_ok x w h2
      obtain ⟨j1, j2, j3⟩ := chkL_ok xs w h3
      refine ⟨?_, by rw [List.length_cons, List.length_cons, j2], by rw [List.all_cons, h1, j3]; rfl⟩
      exact av_cons (TEv.low (Nat.min_le_left _ _) (fun _ z => z) j.1) (tav_lowN (lvEs_le xs) (Nat.min_le_right _ _) j1) (star_cons h1)
theorem chkK_ok : ∀ (es : List E) {sc : Sc} {X : Cx} {g : Cfg} {W : WX} {as : List Expr} {kws : List Keyword}, Wd D sc X g W P cl mk → chkK D es sc as kws = true → JK D X g W as kws (varsL es) (evL P cl mk cx es)
  | [], sc, X, g, W, as, kws, w, h => by
    unfold chkK at h
    obtain ⟨h1, h2⟩ := and2 h
    cases as with
    | cons a r => cases h1
    | nil =>
      cases kws with
      | cons a r => cases h2
      | nil => exact ⟨fun _ => .ok [], fun _ => .ok [], [], [], av_nil, pkv_nil, rfl, fun _ => rfl, (fun e ts q => by cases q; rfl), fun _ _ => rfl, (fun e ts q => by cases q; rfl), rfl⟩
  | x :: xs, sc, X, g, W, as, kws, w, h => by
    unfold chkK at h
    cases as with
    | cons a r =>
      obtain ⟨h1, h2⟩ := and2 h
      obtain ⟨h2, h3⟩ := and2 h2
      have j := TEv.low (m := 0) (Nat.zero_le _) (fun _ z => z) (chkE_ok x w h2).1
      obtain ⟨fa, fk, va, vk, ja, jk, ev, ef, l1, l2, l3, l4⟩ := (chkK_ok xs w h3).ex
      refine ⟨_, fk, varsE x ++ va, vk, av_cons j ja (star_cons h1), jk, (by rw [List.append_assoc, ← ev]; rfl), (fun e => ?_), (fun e ts q => ?_), (fun q => by cases q), l3, (by rw [List.all_cons, h1, l4]; rfl)⟩
      · show ((evE P cl mk cx x e).bnd fun t => (evL P cl mk cx xs e).bnd fun ts => R.ok (t :: ts)) = _
        rw [ef e]
        cases evE P cl mk cx x e with
        | ok t =>
          cases fa e with
          | ok ts => cases fk e <;> rfl
          | exc z => rfl
          | bad => rfl
        | exc z => rfl
        | bad => rfl
      · revert q
        cases evE P cl mk cx x e with
        | ok t =>
          cases q : fa e with
          | ok ts' =>
            intro z
            cases z
            rw [List.length_cons, List.length_cons, l1 e ts' q]
          | exc z => exact fun q => by cases q
          | bad => exact fun q => by cases q
        | exc z => exact fun q => by cases q
        | bad => exact fun q => by cases q
    | nil =>
      cases kws with
      | nil => cases h
      | cons k ks =>
        obtain ⟨nm, v, kp⟩ := k
        obtain ⟨h2, h3⟩ := and2 h
        have j := TEv.low (m := 0) (Nat.zero_le _) (fun _ z => z) (chkE_ok x w h2).1
        obtain ⟨fa, fk, va, vk, ja, jk, ev, ef, l1, l2, l3, l4⟩ := (chkK_ok xs w h3).ex
        refine ⟨fun _ => .ok [], _, [], varsE x ++ (va ++ vk), av_nil, pkv_cons j (pkv_low (vs := vk) jk fun i hi => List.mem_append_right _ hi), (by rw [← ev]; rfl), (fun e => ?_), (fun e ts q => by cases q; rfl), fun _ _ => rfl, (fun e us q => ?_), rfl⟩
        · show ((evE P cl mk cx x e).bnd fun t => (evL P cl mk cx xs e).bnd fun ts => R.ok (t :: ts)) = _
          rw [ef e, l2 rfl e]
          cases evE P cl mk cx x e with
          | ok t => cases fk e <;> rfl
          | exc z => rfl
          | bad => rfl
        · revert q
          cases evE P cl mk cx x e with
          | ok t =>
            cases q : fk e with
            | ok ts' =>
              intro z
              cases z
              rw [List.length_cons, List.length_cons, l3 e ts' q]
            | exc z => exact fun q => by cases q
            | bad => exact fun q => by cases q
          | exc z => exact fun q => by cases q
          | bad => exact fun q => by cases q
theorem chkO_ok : ∀ (es : List E) {sc : Sc} {X : Cx} {g : Cfg} {W : WX} {o : Option Expr}, Wd D sc X g W P cl mk → chkO D es sc o = true →
    ((o = none ∧ evP P cl mk cx es = fun _ => .ok .non) ∨ ∃ pe, o = some pe ∧ PE X pe (TEv g W 0 (varsL es) (evP P cl mk cx es))) ∧ (o = none ∨ ∀ e, evP P cl mk cx es e ≠ .ok .non)
  | [], sc, X, g, W, o, w, h => by
    unfold chkO at h
    cases o with
    | none => exact ⟨.inl ⟨rfl, rfl⟩, .inl rfl⟩
    | some a => cases h
  | x :: xs, sc, X, g, W, o, w, h => by
    unfold chkO at h
    cases o with
    | none => cases h
    | some a =>
      have j := (chkE_ok x w h).1
      refine ⟨.inr ⟨a, rfl, TEv.low (Nat.le_refl _) (fun i hi => List.mem_append_left _ hi) (ev_onlyI j)⟩, .inr fun e => ?_⟩
      show onlyI (evE P cl mk cx x e) ≠ _
      unfold onlyI
      cases evE P cl mk cx x e with
      | ok t => cases t <;> exact fun z => by cases z
      | exc z => exact fun z => by cases z
      | bad => exact fun z => by cases z
theorem chkC_ok : ∀ (es : List E) {sc : Sc} {X : Cx} {g : Cfg} {W : WX} {l : List Expr}, Wd D sc X g W P cl mk → chkC D es sc l = true → PTs X l (TTv g W (varsL es) (evC P cl mk cx es))
  | [], sc, X, g, W, l, w, h => by
    unfold chkC at h
    cases l with
    | nil => exact pts_nilT
    | cons a r => cases h
  | x :: xs, sc, X, g, W, l, w, h => by
    unfold chkC at h
    split at h
    · obtain ⟨h1, h2⟩ := and2 h
      have j := (chkE_ok x w h2).2.1
      exact pts_one (PT.imp j fun σ H Q ⟨e, Fs, he, h⟩ => ⟨e, Fs, he, h.ext (.refl H) fun b ⟨i, hi, hb⟩ => ⟨i, List.mem_append_left _ hi, hb⟩⟩)
    · cases h
theorem chkI_ok : ∀ (es : List E) (k : Ik) (t' : Expr) {sc : Sc} {X : Cx} {g : Cfg} {W : WX} {a : Expr}, Wd D sc X g W P cl mk → tgT k t' = true → chkI D es k sc a = true → PI X t' a (TIv g W (varsI k es) fun e => (noX k (evL P cl mk cx es e)).bnd (walk P cl k))
  | [], k, t', sc, X, g, W, a, w, ht, h => by unfold chkI at h; cases h
  | x :: xs, k, t', sc, X, g, W, a, w, ht, h => by
    unfold chkI at h
    split at h
    · obtain ⟨h1, h2⟩ := and2 h
      have : xs = [] := by cases xs with | nil => rfl | cons q r => cases h1
      subst this
      have j := TEv.low (m := 0) (Nat.zero_le _) (fun _ z => z) (chkE_ok x w h2).1
      have key := it_seq (tg := t') j
      have e1 : (fun e => (evE P cl mk cx x e).bnd fun t => ofO (items t)) = fun e => (noX .seq (evL P cl mk cx [x] e)).bnd (walk P cl .seq) := funext fun e => by
        show _ = ((evE P cl mk cx x e).bnd fun t => (R.ok []).bnd fun xs => R.ok (t :: xs)).bnd _
        cases evE P cl mk cx x e <;> rfl
      rw [← e1]
      show PI X t' a (TIv g W (varsE x ++ []) _)
      rw [List.append_nil]
      exact key
    · split at h
      · rename_i n p as pos
        obtain ⟨h1, h2⟩ := and2 h
        obtain ⟨h2, h3⟩ := and2 h2
        obtain ⟨q1, q2, q3⟩ := blt_nm w h1
        subst q1
        cases as with
        | nil => cases h3
        | cons b bs =>
          obtain ⟨n1, h3⟩ := and2 h3
          obtain ⟨h3, h4⟩ := and2 h3
          have jx := TEv.low (m := 0) (Nat.zero_le _) (fun _ z => z) (chkE_ok x w h3).1
          match xs, bs, h2, h4 with
          | [], [], _, _ =>
            have key := it_rng1 (vs := []) (tg := t') (p := p) (pos := pos) (P := P) (cl := cl) q2 q3 n1 jx
            have e1 : (fun e => nxR ((evE P cl mk cx x e).bnd fun t => walk P cl .rng [t])) = fun e => (noX .rng (evL P cl mk cx [x] e)).bnd (walk P cl .rng) := funext fun e => by
              show _ = (nxR ((evE P cl mk cx x e).bnd fun t => (R.ok []).bnd fun xs => R.ok (t :: xs))).bnd _
              cases evE P cl mk cx x e with
              | ok t => exact rng_nx (P := P) (cl := cl)
              | exc z => rfl
              | bad => rfl
            rw [← e1]
            exact key
          | [], c :: r, _, h4 => unfold chkL at h4; cases h4
          | y :: ys, [], _, h4 => unfold chkL at h4; cases h4
          | y :: ys, c :: r, h2, h4 =>
            unfold chkL at h4
            obtain ⟨n2, h4⟩ := and2 h4
            obtain ⟨h4, h5⟩ := and2 h4
            have jy := TEv.low (m := 0) (Nat.zero_le _) (fun _ z => z) (chkE_ok y w h4).1
            match ys, r, h2, h5 with
            | [], [], _, _ =>
              have key := it_rng2 (vs := []) (tg := t') (p := p) (pos := pos) (P := P) (cl := cl) q2 q3 n1 n2 jx jy
              have e1 : (fun e => nxR ((evE P cl mk cx x e).bnd fun t => (evE P cl mk cx y e).bnd fun u => walk P cl .rng [t, u])) = fun e => (noX .rng (evL P cl mk cx [x, y] e)).bnd (walk P cl .rng) := funext fun e => by
                show _ = (nxR ((evE P cl mk cx x e).bnd fun t => ((evE P cl mk cx y e).bnd fun u => (R.ok []).bnd fun xs => R.ok (u :: xs)).bnd fun xs => R.ok (t :: xs))).bnd _
                cases evE P cl mk cx x e with
                | ok t =>
                  cases evE P cl mk cx y e with
                  | ok u => exact rng_nx (P := P) (cl := cl)
                  | exc z => rfl
                  | bad => rfl
                | exc z => rfl
                | bad => rfl
              rw [← e1]
              exact key
            | [], q :: r, _, h5 => unfold chkL at h5; cases h5
            | z :: zs, [], _, h5 => unfold chkL at h5; cases h5
            | z :: zs, q :: r, h2, h5 =>
              unfold chkL at h5
              obtain ⟨n3, h5⟩ := and2 h5
              obtain ⟨h5, h6⟩ := and2 h5
              have jz := TEv.low (m := 0) (Nat.zero_le _) (fun _ z => z) (chkE_ok z w h5).1
              match zs, r, h2, h6 with
              | [], [], _, _ =>
                have key := it_rng3 (vs := []) (tg := t') (p := p) (pos := pos) (P := P) (cl := cl) q2 q3 n1 n2 n3 jx jy jz
                have e1 : (fun e => nxR ((evE P cl mk cx x e).bnd fun t => (evE P cl mk cx y e).bnd fun u => (evE P cl mk cx z e).bnd fun v => walk P cl .rng [t, u, v])) = fun e => (noX .rng (evL P cl mk cx [x, y, z] e)).bnd (walk P cl .rng) := funext fun e => by
                  show _ = (nxR ((evE P cl mk cx x e).bnd fun t => ((evE P cl mk cx y e).bnd fun u => ((evE P cl mk cx z e).bnd fun v => (R.ok []).bnd fun xs => R.ok (v :: xs)).bnd fun xs => R.ok (u :: xs)).bnd fun xs => R.ok (t :: xs))).bnd _
                  cases evE P cl mk cx x e with
                  | ok t =>
                    cases evE P cl mk cx y e with
                    | ok u =>
                      cases evE P cl mk cx z e with
                      | ok v => exact rng_nx (P := P) (cl := cl)
                      | exc z => rfl
                      | bad => rfl
                    | exc z => rfl
                    | bad => rfl
                  | exc z => rfl
                  | bad => rfl
                rw [← e1]
                exact key
              | z :: zs, [], _, h6 => unfold chkL at h6; cases h6
              | _, q :: r, h2, _ => exact absurd (Nat.le_of_ble_eq_true h2) (by simp)
      · cases h
    · split at h
      · rename_i n p b pos
        obtain ⟨h1, h2⟩ := and2 h
        obtain ⟨h2, h3⟩ := and2 h2
        obtain ⟨h3, h4⟩ := and2 h3
        obtain ⟨q1, q2, q3⟩ := blt_nm w h1
        subst q1
        have : xs = [] := by cases xs with | nil => rfl | cons q r => cases h2
        subst this
        cases t' with
        | Tuple elts kk tpos =>
          have j := TEv.low (m := 0) (Nat.zero_le _) (fun _ z => z) (chkE_ok x w h4).1
          have key := it_enK (P := P) (cl := cl) (p := p) (pos := pos) (elts := elts) (kk := kk) (tpos := tpos) q2 q3 h3 j
          have e1 : (fun e => (evE P cl mk cx x e).bnd fun t => walk P cl .enum [t]) = fun e => (noX .enum (evL P cl mk cx [x] e)).bnd (walk P cl .enum) := funext fun e => by
            show _ = ((evE P cl mk cx x e).bnd fun t => (R.ok []).bnd fun xs => R.ok (t :: xs)).bnd _
            cases evE P cl mk cx x e <;> rfl
          rw [← e1]
          show PI X _ _ (TIv g W (varsE x ++ []) _)
          rw [List.append_nil]
          exact key
        | _ => cases ht
      · cases h
    · split at h
      · rename_i n p b c pos
        obtain ⟨h1, hr⟩ := and2 h
        obtain ⟨nb, hr⟩ := and2 hr
        have hcx := (and2 hr).1
        have hcl := (and2 hr).2
        obtain ⟨q1, q2, q3⟩ := blt_nm w h1
        subst q1
        clear hr h
        cases xs with
        | nil => unfold chkL at hcl; cases hcl
        | cons y ys =>
          unfold chkL at hcl
          have n2 := (and2 hcl).1
          have hcy := (and2 (and2 hcl).2).1
          have hcz := (and2 (and2 hcl).2).2
          clear hcl
          cases ys with
          | cons z zs => unfold chkL at hcz; cases hcz
          | nil =>
            cases t' with
            | Tuple elts kk tpos =>
              have jx := TEv.low (m := 0) (Nat.zero_le _) (fun _ z => z) (chkE_ok x w hcx).1
              have jy := TEv.low (m := 0) (Nat.zero_le _) (fun _ z => z) (chkE_ok y w hcy).1
              have key := it_zpK (P := P) (cl := cl) (p := p) (pos := pos) (elts := elts) (kk := kk) (tpos := tpos) q2 q3 nb n2 jx jy
              have e1 : (fun e => (evE P cl mk cx x e).bnd fun t => (evE P cl mk cx y e).bnd fun u => walk P cl .zip [t, u]) = fun e => (noX .zip (evL P cl mk cx [x, y] e)).bnd (walk P cl .zip) := funext fun e => by
                show _ = ((evE P cl mk cx x e).bnd fun t => ((evE P cl mk cx y e).bnd fun u => (R.ok []).bnd fun xs => R.ok (u :: xs)).bnd fun xs => R.ok (t :: xs)).bnd _
                cases evE P cl mk cx x e with
                | ok t => cases evE P cl mk cx y e <;> rfl
                | exc q => rfl
                | bad => rfl
              rw [← e1]
              show PI X _ _ (TIv g W (varsE x ++ (varsE y ++ [])) _)
              rw [List.append_nil]
              exact key
            | _ => cases ht
      · cases h
    · cases h
end
end
end Wt

/-! Snd27: an except suite is checked against its tree. -/
namespace Wt
open PySem PySem.Spec PyProof.Rows L2

mutual
/-- what stands in a suite: y the error's name -/
def chkH (D : Dat) (y : Str) (sc : Sc) : E → Expr → Bool
  | .int i, a => (match a with | .Constant (.int j) _ _ => decide (i = j) | _ => false)
  | .bl i, a => (match a with | .Constant (.bool j) _ _ => decide (i = j) | _ => false)
  | .non, a => (match a with | .Constant .none _ _ => true | _ => false)
  | .str i, a => (match a with | .Constant (.str j) _ _ => decide (i = j) | _ => false)
  | .not x, a => (match a with | .UnaryOp .Not r _ => chkH D y sc x r | _ => false)
  | .and x z, a => (match a with
    | .BoolOp .And (l :: r :: rest) p => chkH D y sc x l && (match rest with | [] => chkH D y sc z r | _ :: _ => chkH D y sc z (.BoolOp .And (r :: rest) p))
    | _ => false)
  | .or x z, a => (match a with
    | .BoolOp .Or (l :: r :: rest) p => chkH D y sc x l && (match rest with | [] => chkH D y sc z r | _ :: _ => chkH D y sc z (.BoolOp .Or (r :: rest) p))
    | _ => false)
  | .lst es, a => (match a with | .List l _ => Nat.ble l.length 1000 && chkHL D y sc es l | _ => false)
  | .xfld f, a => (match a with | .Attribute (.Name z _) n _ => decide (z = y) && (decide (n = D.an f) && (decide (f ∈ D.fls) && !(z == ("" : Str)))) | _ => false)
  | .xisa ty, a => (match a with
    | .Call (.Name x _) [.Name z _, .Name c _] [] _ => bltB D sc x "isinstance" && (decide (z = y) && (glB sc c && (ndb c && (!(z == ("" : Str)) && D.xtys.any fun p => decide (p.1 = c) && decide (p.2 = ty)))))
    | _ => false)
  | _, _ => false
def chkHL (D : Dat) (y : Str) (sc : Sc) : List E → List Expr → Bool
  | [], l => l.isEmpty
  | x :: xs, l => (match l with | a :: as => nst a && (chkH D y sc x a && chkHL D y sc xs as) | [] => false)
end
/-- the place in a suite -/
structure Hd (D : Dat) (sc : Sc) (X : Cx) (g : Cfg) (P : Prog) (i : Nat) (y : Str) (a : Addr) (oe : Obj) (c dd : Nat) (ks : List Nat) (us : List T) : Prop where
  er : g.er = some (i, a, c, ks, us, dd)
  sS : X.env.scope = sc.scope
  nm : (!(y == ("" : Str))) = true → X.N[i]? = some y ∧ Vis X.env.scope y ∧ (y == ("__debug__" : Str)) = false ∧ (y == ("__classdict__" : Str)) = false
  blts : ∀ x ∈ D.blts, X.mg x = none
  an : g.an = D.an
  xt : ∀ p ∈ D.xtys, TyE X g P p.1 p.2
  sui : SuiOk X.K g P D.fls
  sup : P.sup c ≠ []
  hz : Zc (.ref (g.C c)) (some dd) oe
  hf : ∃ vs, oe.data = .fields vs
section
variable {D : Dat} {sc : Sc} {X : Cx} {g : Cfg} {W : WX} {P : Prog} {cl mk : Nat → List T → R T} {i : Nat} {y : Str} {a : Addr} {oe : Obj} {c dd : Nat} {ks : List Nat} {us : List T} {pn : List (Addr × Obj)}
theorem isX_ok (w : Hd D sc X g P i y a oe c dd ks us) {ty : Ty} {n : Str} {p p2 p3 pos : Pos} (hi : Gl X "isinstance") (hm : X.mg "isinstance" = none) (hg : Gl X n) (hd : (n == ("__debug__" : Str)) = false) (ht : TyE X g P n ty) (hy : (!(y == ("" : Str))) = true) :
    PE (X.suite a ((a, oe) :: pn)) (.Call (.Name "isinstance" p) [.Name y p2, .Name n p3] [] pos) (TEv g W 2 [] fun _ => xisaT P (some (.ins c ks us)) ty) := by
  obtain ⟨n1, n2, n3, n4⟩ := w.nm hy
  rcases ht with ⟨rfl, rfl, h1, h2⟩ | ⟨d, rfl, h1, h2⟩
  · exact isX_run w.er w.sui w.sup w.hz w.hf (cv := .type "ValueError") (cn := .ty "ValueError") n1 n2 n3 n4 hi hm (fun u r => r) (pe_bltn (X := X.suite a ((a, oe) :: pn)) hg h1 PyProof.Rows.Boot.«ValueError» rfl (by decide) hd) rfl (h2 c w.sup)
  · exact isX_run w.er w.sui w.sup w.hz w.hf (cv := .ref (g.C d)) (cn := .ref (g.C d)) n1 n2 n3 n4 hi hm (fun u r => r) (pe_glob (X := X.suite a ((a, oe) :: pn)) hg h1 rfl hd) rfl (h2 c w.sup)
mutual
theorem chkH_ok (w : Hd D sc X g P i y a oe c dd ks us) : ∀ (x : E) {e : Expr}, chkH D y sc x e = true → Jd (X.suite a ((a, oe) :: pn)) g W (lvE D x) (varsE x) (evE P cl mk (some (.ins c ks us)) x) e
  | .int j, e, h => by
    unfold chkH at h
    split at h
    · rw [← of_decide_eq_true h]; exact jd ev_int rfl
    · cases h
  | .bl j, e, h => by
    unfold chkH at h
    split at h
    · rw [← of_decide_eq_true h]; exact jd ev_bl rfl
    · cases h
  | .non, e, h => by
    unfold chkH at h
    split at h
    · exact jd ev_non rfl
    · cases h
  | .str j, e, h => by
    unfold chkH at h
    split at h
    · rw [← of_decide_eq_true h]; exact jd ev_str rfl
    · cases h
  | .not x, e, h => by
    unfold chkH at h
    split at h
    · have j := chkH_ok w x h
      refine ⟨ev_not (TEv.low (m := 0) (Nat.zero_le _) (fun _ z => z) j.1), tt_not j.2.1, fun op l p e => by cases e⟩
    · cases h
  | .and x z, e, h => by
    unfold chkH at h
    split at h
    · rename_i l r rest p
      obtain ⟨h1, h2⟩ := and2 h
      have ih := chkH_ok w x h1
      have ihl : PE (X.suite a ((a, oe) :: pn)) l (TEv g W 0 (varsE x) (evE P cl mk (some (.ins c ks us)) x)) := TEv.low (Nat.zero_le _) (fun _ z => z) ih.1
      have hb : PE (X.suite a ((a, oe) :: pn)) (.BoolOp .And (r :: rest) p) (TEv g W 0 (varsE z) (evE P cl mk (some (.ins c ks us)) z)) ∧ PW (X.suite a ((a, oe) :: pn)) (.BoolOp .And (r :: rest) p) (TTv g W (varsE z) fun e => truth (evE P cl mk (some (.ins c ks us)) z e)) := by
        split at h2
        · have j := chkH_ok w z h2
          exact ⟨pe_one (TEv.low (Nat.zero_le _) (fun _ z => z) j.1), pw_and1 j.2.1⟩
        · have j := chkH_ok w z h2
          exact ⟨TEv.low (Nat.zero_le _) (fun _ z => z) j.1, j.2.2 _ _ _ rfl⟩
      have pw := tw_and ih.2.1 hb.2 (pos := p)
      exact ⟨ev_and ihl hb.1, pw.pt, fun op l' p' e => pw⟩
    · cases h
  | .or x z, e, h => by
    unfold chkH at h
    split at h
    · rename_i l r rest p
      obtain ⟨h1, h2⟩ := and2 h
      have ih := chkH_ok w x h1
      have ihl : PE (X.suite a ((a, oe) :: pn)) l (TEv g W 0 (varsE x) (evE P cl mk (some (.ins c ks us)) x)) := TEv.low (Nat.zero_le _) (fun _ z => z) ih.1
      have hb : PE (X.suite a ((a, oe) :: pn)) (.BoolOp .Or (r :: rest) p) (TEv g W 0 (varsE z) (evE P cl mk (some (.ins c ks us)) z)) ∧ PW (X.suite a ((a, oe) :: pn)) (.BoolOp .Or (r :: rest) p) (TTv g W (varsE z) fun e => truth (evE P cl mk (some (.ins c ks us)) z e)) := by
        split at h2
        · have j := chkH_ok w z h2
          exact ⟨pe_one (TEv.low (Nat.zero_le _) (fun _ z => z) j.1), pw_or1 j.2.1⟩
        · have j := chkH_ok w z h2
          exact ⟨TEv.low (Nat.zero_le _) (fun _ z => z) j.1, j.2.2 _ _ _ rfl⟩
      have pw := tw_or ih.2.1 hb.2 (pos := p)
      exact ⟨ev_or ihl hb.1, pw.pt, fun op l' p' e => pw⟩
    · cases h
  | .lst es, e, h => by
    unfold chkH at h
    split at h
    · obtain ⟨h1, h2⟩ := and2 h
      obtain ⟨j, jl⟩ := chkHL_ok w es h2
      exact jd (ev_lst j (fun e ts q => by rw [evL_len q, ← jl]; exact Nat.le_of_ble_eq_true h1) (Nat.le_refl _) (lvEs_le es)) rfl
    · cases h
  | .xfld f, e, h => by
    unfold chkH at h
    split at h
    · obtain ⟨h1, h2⟩ := and2 h
      obtain ⟨h2, h3⟩ := and2 h2
      obtain ⟨h3, h4⟩ := and2 h3
      have e1 := of_decide_eq_true h1
      have e2 := of_decide_eq_true h2
      subst e1
      obtain ⟨n1, n2, n3, n4⟩ := w.nm h4
      rw [e2, ← w.an]
      exact jd (ev_xf w.er w.sui w.sup w.hz w.hf (of_decide_eq_true h3) n1 n2 n3 n4) rfl
    · cases h
  | .xisa ty, e, h => by
    unfold chkH at h
    split at h
    · rename_i x p z p2 n p3 pos
      obtain ⟨h1, h2⟩ := and2 h
      obtain ⟨h2, h3⟩ := and2 h2
      obtain ⟨h3, h4⟩ := and2 h3
      obtain ⟨h4, h5⟩ := and2 h4
      obtain ⟨hy, h5⟩ := and2 h5
      have e2 := of_decide_eq_true h2
      subst e2
      unfold bltB at h1
      obtain ⟨q1, q2⟩ := and2 h1
      obtain ⟨q2, q3⟩ := and2 q2
      have e1 := of_decide_eq_true q1
      subst e1
      have gl : ∀ {x : Str}, glB sc x = true → Gl X x := fun {x} h => by
        show X.env.scope.names.lookup x = _
        rw [w.sS]
        exact kdB_ok h
      obtain ⟨pr, hp, hq⟩ := List.any_eq_true.mp h5
      obtain ⟨r1, r2⟩ := and2 hq
      have r1 := of_decide_eq_true r1
      have r2 := of_decide_eq_true r2
      have ht := w.xt pr hp
      rw [r1, r2] at ht
      exact jd (isX_ok w (gl q2) (w.blts _ (of_decide_eq_true q3)) (gl h3) (ndb_of h4) ht hy) rfl
    · cases h
  | .var _, _, h => by unfold chkH at h; cases h
  | .bin _ _ _, _, h => by unfold chkH at h; cases h
  | .neg _, _, h => by unfold chkH at h; cases h
  | .cmp _ _ _, _, h => by unfold chkH at h; cases h
  | .cmp2 _ _ _ _ _, _, h => by unfold chkH at h; cases h
  | .ite _ _ _, _, h => by unfold chkH at h; cases h
  | .tup _, _, h => by unfold chkH at h; cases h
  | .fld _ _, _, h => by unfold chkH at h; cases h
  | .ix _ _, _, h => by unfold chkH at h; cases h
  | .slice _ _ _, _, h => by unfold chkH at h; cases h
  | .rev _, _, h => by unfold chkH at h; cases h
  | .call _ _ _, _, h => by unfold chkH at h; cases h
  | .meth _ _ _ _, _, h => by unfold chkH at h; cases h
  | .cmeth _ _ _ _, _, h => by unfold chkH at h; cases h
  | .make _ _ _, _, h => by unfold chkH at h; cases h
  | .blt _ _, _, h => by unfold chkH at h; cases h
  | .comp _ _ _ _ _, _, h => by unfold chkH at h; cases h
theorem chkHL_ok (w : Hd D sc X g P i y a oe c dd ks us) : ∀ (xs : List E) {as : List Expr}, chkHL D y sc xs as = true → PA (X.suite a ((a, oe) :: pn)) as (TAv g W (lvEs D xs) (varsL xs) (evL P cl mk (some (.ins c ks us)) xs)) ∧ as.length = xs.length
  | [], as, h => by
    unfold chkHL at h
    cases as with
    | nil => exact ⟨av_nil, rfl⟩
    | cons a r => cases h
  | x :: xs, as, h => by
    unfold chkHL at h
    cases as with
    | nil => cases h
    | cons b r =>
      obtain ⟨h1, h2⟩ := and2 h
      obtain ⟨h2, h3⟩ := and2 h2
      have j := chkH_ok w x h2
      obtain ⟨j1, j2⟩ := chkHL_ok w xs h3
      exact ⟨av_cons (TEv.low (Nat.min_le_left _ _) (fun _ z => z) j.1) (tav_lowN (lvEs_le xs) (Nat.min_le_right _ _) j1) (star_cons h1), by rw [List.length_cons, List.length_cons, j2]⟩
end
mutual
/-- the statements of a suite: all its ways end in a return, or it goes on with nothing owned -/
def ckHS (D : Dat) (lv : Nat) (y : Str) (sc : Sc) : S → Stmt → Bool
  | .ret e, st => (match st with | .Return (some a) _ => chkH D y sc e a && Nat.ble lv (lvE D e) | _ => false)
  | .ifs c a b, st => (match st with | .If c' a' b' _ => chkH D y sc c c' && (ckHB D lv y sc a a' && ckHB D lv y sc b b') | _ => false)
  | .pass, st => (match st with | .Pass _ => true | _ => false)
  | _, _ => false
def ckHB (D : Dat) (lv : Nat) (y : Str) (sc : Sc) : List S → List Stmt → Bool
  | [], l => l.isEmpty
  | s :: ss, l => (match l with | st :: sts => ckHS D lv y sc s st && ckHB D lv y sc ss sts | [] => false)
end
section
variable {lv : Nat} {H0 : Hp} {A : Addr → Prop} {held : List Addr} {Lk : List Nat}
mutual
theorem ckHS_ok (w : Hd D sc X g P i y a oe c dd ks us) : ∀ (x : S) {st : Stmt}, ckHS D lv y sc x st = true → PS (X.suite a ((a, oe) :: pn)) st (TSv g W lv H0 A held lv0 lv0 Lk (exS P cl mk (some (.ins c ks us)) x))
  | .ret e, st, h => by
    unfold ckHS at h
    split at h
    · obtain ⟨h1, h2⟩ := and2 h
      exact sv_ret (TEv.low (Nat.le_of_ble_eq_true h2) (fun _ z => z) (chkH_ok w e h1).1)
    · cases h
  | .ifs d a' b', st, h => by
    unfold ckHS at h
    split at h
    · obtain ⟨h1, h2⟩ := and2 h
      obtain ⟨h2, h3⟩ := and2 h2
      exact sv_if (f1 := exB P cl mk (some (.ins c ks us)) a') (f2 := exB P cl mk (some (.ins c ks us)) b') (chkH_ok w d h1).2.1 (ckHB_ok w a' h2) (ckHB_ok w b' h3)
    · cases h
  | .pass, st, h => by
    unfold ckHS at h
    split at h
    · exact sv_pass
    · cases h
  | .asg _ _ _, _, h => by unfold ckHS at h; cases h
  | .asgT _ _, _, h => by unfold ckHS at h; cases h
  | .par _ _, _, h => by unfold ckHS at h; cases h
  | .aug _ _ _, _, h => by unfold ckHS at h; cases h
  | .doc, _, h => by unfold ckHS at h; cases h
  | .expr _, _, h => by unfold ckHS at h; cases h
  | .app _ _ _, _, h => by unfold ckHS at h; cases h
  | .appPop _ _ _, _, h => by unfold ckHS at h; cases h
  | .pop _ _, _, h => by unfold ckHS at h; cases h
  | .popL _, _, h => by unfold ckHS at h; cases h
  | .clear _, _, h => by unfold ckHS at h; cases h
  | .insert _ _ _, _, h => by unfold ckHS at h; cases h
  | .setIx _ _ _ _, _, h => by unfold ckHS at h; cases h
  | .setIx2 _ _ _ _ _, _, h => by unfold ckHS at h; cases h
  | .app2 _ _ _ _, _, h => by unfold ckHS at h; cases h
  | .pop2 _ _, _, h => by unfold ckHS at h; cases h
  | .clear2 _ _, _, h => by unfold ckHS at h; cases h
  | .remove2 _ _ _, _, h => by unfold ckHS at h; cases h
  | .fldS _ _ _, _, h => by unfold ckHS at h; cases h
  | .retN, _, h => by unfold ckHS at h; cases h
  | .raise _ _, _, h => by unfold ckHS at h; cases h
  | .forS _ _ _ _ _, _, h => by unfold ckHS at h; cases h
  | .whileS _ _ _, _, h => by unfold ckHS at h; cases h
  | .brk, _, h => by unfold ckHS at h; cases h
  | .cont, _, h => by unfold ckHS at h; cases h
  | .tryS _ _ _ _ _, _, h => by unfold ckHS at h; cases h
theorem ckHB_ok (w : Hd D sc X g P i y a oe c dd ks us) : ∀ (x : List S) {sts : List Stmt}, ckHB D lv y sc x sts = true → PSs (X.suite a ((a, oe) :: pn)) sts (TSv g W lv H0 A held lv0 lv0 Lk (exB P cl mk (some (.ins c ks us)) x))
  | [], sts, h => by
    unfold ckHB at h
    cases sts with
    | nil => exact svs_nil
    | cons s r => cases h
  | x :: xs, sts, h => by
    unfold ckHB at h
    cases sts with
    | nil => cases h
    | cons s r =>
      obtain ⟨h1, h2⟩ := and2 h
      exact svs_cons (f1 := exS P cl mk (some (.ins c ks us)) x) (f2 := exB P cl mk (some (.ins c ks us)) xs) (ckHS_ok w x h1) (ckHB_ok w xs h2)
end
end
end
end Wt

/-! Snd28: try. -/
namespace Wt
open PySem PySem.Spec PyProof.Rows L2

section
variable {g g' : Cfg} {H : Hp}
mutual
/-- a tree's place does not ask which error was caught -/
theorem Rep.cfg (hC : g'.C = g.C) (ha : g'.an = g.an) (hK : g'.K = g.K) : ∀ {t : T} {v : V} {F : List Addr}, Rep g H t v F → Rep g' H t v F
  | .non, _, _, h => by rw [Rep] at h ⊢; exact h
  | .bl _, _, _, h => by rw [Rep] at h ⊢; exact h
  | .int _, _, _, h => by rw [Rep] at h ⊢; exact h
  | .str _, _, _, h => by rw [Rep] at h ⊢; exact h
  | .cls _, _, _, h => by rw [Rep] at h ⊢; rw [hC]; exact h
  | .scr ns, _, _, h => by rw [Rep] at h ⊢; rw [hK]; exact h
  | .tup xs, _, _, h => by
    rw [Rep] at h ⊢
    obtain ⟨a, vs, e, h1, h2⟩ := h
    exact ⟨a, vs, e, h1, RepL.cfg hC ha hK h2⟩
  | .lst xs, _, _, h => by
    rw [Rep] at h ⊢
    obtain ⟨a, vs, G, e, h1, h2, rfl⟩ := h
    exact ⟨a, vs, G, e, h1, RepL.cfg hC ha hK h2, rfl⟩
  | .ins c ks ts, _, _, h => by
    rw [Rep] at h ⊢
    obtain ⟨a, dx, fv, G, e, h1, h2, h3, rfl⟩ := h
    exact ⟨a, dx, fv, G, e, by rw [hC]; exact h1, by rw [ha]; exact h2, RepL.cfg hC ha hK h3, rfl⟩
theorem RepL.cfg (hC : g'.C = g.C) (ha : g'.an = g.an) (hK : g'.K = g.K) : ∀ {ts : List T} {vs : List V} {F : List Addr}, RepL g H ts vs F → RepL g' H ts vs F
  | [], _, _, h => by rw [RepL] at h ⊢; exact h
  | t :: ts, _, _, h => by
    rw [RepL] at h ⊢
    obtain ⟨v, vr, F1, F2, e, h1, h2, rfl⟩ := h
    exact ⟨v, vr, F1, F2, e, Rep.cfg hC ha hK h1, RepL.cfg hC ha hK h2, rfl⟩
end
end
/-- what all the fields reach -/
theorem fields_all {g : Cfg} {H : Hp} {Av : Addr → Prop} {fs : List (Str × V)} : ∀ {ks : List Nat} {us : List T}, (∀ (i k : Nat) (t : T), ks[i]? = some k → us[i]? = some t → ∃ v F, fs.lookup (g.an k) = some v ∧ Rep g H t v F ∧ ∀ b ∈ F, Av b) →
    ∃ Fx : List Addr, (∀ b ∈ Fx, Av b ∧ H b ≠ none) ∧ ∀ (i k : Nat) (t : T), ks[i]? = some k → us[i]? = some t → ∃ v F, fs.lookup (g.an k) = some v ∧ Rep g H t v F ∧ ∀ b ∈ F, b ∈ Fx
  | [], _, _ => ⟨[], ⟨fun _ z => (by cases z), fun i k t z => (by simp at z)⟩⟩
  | _ :: _, [], _ => ⟨[], ⟨fun _ z => (by cases z), fun i k t _ z => (by simp at z)⟩⟩
  | k :: ks, u :: us, h => by
    obtain ⟨v, F, v1, v2, v3⟩ := h 0 k u rfl rfl
    obtain ⟨Fx, f1, f2⟩ := fields_all (ks := ks) (us := us) fun i k' t q1 q2 => h (i + 1) k' t (by simpa using q1) (by simpa using q2)
    refine ⟨F ++ Fx, fun b hb => ?_, fun i k' t q1 q2 => ?_⟩
    · rcases List.mem_append.mp hb with hb | hb
      · exact ⟨v3 b hb, v2.dom b hb⟩
      · exact f1 b hb
    · cases i with
      | zero =>
        have e1 : k = k' := by simpa using q1
        have e2 : u = t := by simpa using q2
        subst e1 e2
        exact ⟨v, F, v1, v2, fun b hb => List.mem_append_left _ hb⟩
      | succ i =>
        obtain ⟨w, G, g1, g2, g3⟩ := f2 i k' t (by simpa using q1) (by simpa using q2)
        exact ⟨w, G, g1, g2, fun b hb => List.mem_append_right _ (g3 b hb)⟩
def unsetS (x : Option Nat) (o : Option V) (σ : L2.St) : L2.St := match x with
  | some i => σ.set i o
  | none => σ
section
variable {g : Cfg} {H0 : Hp} {A : Addr → Prop} {held : List Addr} {L : List Nat} {H : Hp} {σ : L2.St} {e : Env} {Fs : Nat → List Addr} {x : Option Nat}
theorem unset_len : (unset x e).length = e.length := by cases x <;> simp [unset]
theorem unsetS_len {o : Option V} : (unsetS x o σ).length = σ.length := by cases x <;> simp [unsetS]
theorem unset_get {j : Nat} {t : T} (h : (unset x e)[j]? = some (some t)) : e[j]? = some (some t) ∧ x ≠ some j := by
  cases x with
  | none => exact ⟨h, fun z => by cases z⟩
  | some i =>
    have h : (e.set i none)[j]? = some (some t) := h
    rw [get_set] at h
    by_cases q : j = i
    · rw [if_pos q] at h
      split at h <;> cases h
    · rw [if_neg q] at h
      exact ⟨h, fun z => q (Option.some.inj z).symm⟩
theorem unsetS_get {j : Nat} {o : Option V} (h : x ≠ some j) : (unsetS x o σ)[j]? = σ[j]? := by
  cases x with
  | none => rfl
  | some i =>
    show (σ.set i o)[j]? = _
    rw [get_set, if_neg (fun z => h (by rw [z]))]
/-- into the suite -/
theorem StR.enter {c dd a i : Nat} {ks : List Nat} {us : List T} {fs : List (Str × V)} {Fx : List Addr} (S : StR g H0 A held lv0 H σ e Fs) (her : g.er = none) (hl : e.length ≤ 1000) (hi : ∀ j, x = some j → j = i) (hi2 : x = none → e.length ≤ i) (hd : H dd = some (.xd fs)) (f1 : ∀ b ∈ Fx, (H0 b = none ∨ A b) ∧ H b ≠ none)
    (f2 : ∀ (i k : Nat) (t : T), ks[i]? = some k → us[i]? = some t → ∃ v F, fs.lookup (g.an k) = some v ∧ Rep g H t v F ∧ ∀ b ∈ F, b ∈ Fx) :
    StR { g with er := some (i, a, c, ks, us, dd) } H0 A held lv0 H (unsetS x (some (.ref a)) σ) (unset x e) fun j => if j = erS then Fx else Fs j := by
  have ne : ∀ {j t}, (unset x e)[j]? = some (some t) → j ≠ erS := fun {j t} q z => by
    have q2 := (List.getElem?_eq_some_iff.mp (unset_get q).1).1
    unfold erS at z
    omega
  refine ⟨⟨?_, fun j t q => ?_, ?_⟩, fun j q b hb => ?_, S.ext, fun j b hb => ?_, S.hd, S.hpv, fun j t q => ?_⟩
  · rw [unset_len, unsetS_len]; exact S.env.len
  · obtain ⟨q1, q2⟩ := unset_get q
    obtain ⟨v, v1, v2⟩ := S.env.at_ j t q1
    refine ⟨v, by rw [unsetS_get q2]; exact v1, ?_⟩
    rw [if_neg (ne q)]
    exact Rep.cfg (g := g) (g' := { g with er := some (i, a, c, ks, us, dd) }) rfl rfl rfl v2
  · unfold ErrCx
    dsimp only
    refine ⟨fun hlt => ?_, fs, hd, fun j k t q1 q2 => ?_⟩
    · rw [unsetS_len] at hlt
      cases x with
      | none => have := hi2 rfl; rw [S.env.len] at hlt; omega
      | some j =>
        have := hi j rfl
        subst this
        show (σ.set j _)[j]? = _
        rw [get_set, if_pos rfl, if_pos hlt]
    · obtain ⟨v, F, v1, v2, v3⟩ := f2 j k t q1 q2
      exact ⟨v, F, v1, Rep.cfg (g := g) (g' := { g with er := some (i, a, c, ks, us, dd) }) rfl rfl rfl v2, fun b hb => by rw [if_pos rfl]; exact v3 b hb⟩
  · by_cases z : j = erS
    · rw [if_pos z] at hb; exact (f1 b hb).2
    · rw [if_neg z] at hb; exact S.dom j b hb
  · by_cases z : j = erS
    · rw [if_pos z] at hb; exact (f1 b hb).1
    · rw [if_neg z] at hb; exact S.pro j b hb
  · have : lvA lv0 j = 0 := by have := lv0_le (L := []) j; unfold lvA lv0; simp
    rw [this]
    exact Own.zero
/-- out of the suite -/
theorem StR.back {z : Option (Nat × Addr × Nat × List Nat × List T × Addr)} (her : g.er = none) (S : StR { g with er := z } H0 A held lv0 H σ e Fs) : ∃ Fs', StR g H0 A held lv0 H (unsetS x none σ) (unset x e) Fs' := by
  refine ⟨Fs, ⟨?_, fun j t q => ?_, ?_⟩, fun j q b hb => S.dom j b hb, S.ext, S.pro, S.hd, S.hpv, fun j t q => ?_⟩
  · rw [unset_len, unsetS_len]; exact S.env.len
  · obtain ⟨q1, q2⟩ := unset_get q
    obtain ⟨v, v1, v2⟩ := S.env.at_ j t q1
    exact ⟨v, by rw [unsetS_get q2]; exact v1, Rep.cfg (g := { g with er := z }) (g' := g) rfl rfl rfl v2⟩
  · unfold ErrCx; rw [her]; trivial
  · have : lvA lv0 j = 0 := by unfold lvA lv0; simp
    rw [this]
    exact Own.zero
end
/-- what a try does -/
noncomputable def tryF (P : Prog) (ft : Bool) (x : Option Nat) (c0 : Nat) (fb : Env → SR) (fh : T → Env → SR) (e : Env) : SR := match fb e with
  | .exc t e' => chkS (!(P.sup (excOf t)).isEmpty && Nat.ble e'.length 1000) (match (P.sup (excOf t)).contains c0 with
    | true => (match fh t (unset x e') with
      | .nx e2 => chkS ft (.nx (unset x e2))
      | .rt u => .rt u
      | _ => .bad)
    | false => .exc t e')
  | r => r
/-- the suite's reading: the caught error is a of cls with the dict d -/
def tsE (g : Cfg) (P : Prog) (lv : Nat) (H0 : Hp) (A : Addr → Prop) (held : List Addr) (Lk : List Nat) (i : Nat) (c0 : Nat) (fh : T → Env → SR) (a : Addr) (cls : Value) (d : Option Addr) : TS := fun D σ H => ∃ (c : Nat) (ks : List Nat) (us : List T) (dd : Addr), cls = .ref (g.C c) ∧ d = some dd ∧ P.sup c ≠ [] ∧
  TSv { g with er := some (i, a, c, ks, us, dd) } WF lv H0 A held lv0 lv0 Lk (fh (.ins c ks us)) D σ H
section
variable {X : Cx} {g : Cfg} {W : WX} {P : Prog} {lv : Nat} {H0 : Hp} {A : Addr → Prop} {held : List Addr} {L Ln Lm Lk : List Nat} {fb : Env → SR} {fh : T → Env → SR} {c0 i : Nat}
theorem not_empty {α : Type} {l : List α} (h : (!l.isEmpty) = true) : l ≠ [] := by cases l with | nil => cases h | cons a r => exact fun z => by cases z
/-- the body's wish, from the try's -/
theorem try_out {ft : Bool} {x : Option Nat} (her : g.er = none) (hLn : ft = true → ∀ j, lvA Ln j = 0) (hx : ∀ c, P.sup c ≠ [] → PySem.W.exmOne X.K (.ref (g.C c)) (.ref (g.C c0)) = some ((P.sup c).contains c0)) (hi : ∀ j, x = some j → j = i) (hi2 : x = none → 1000 ≤ i) {D : Ends} {H : Hp} {e : Env} {Wb : WX}
    (h : OutS g W lv H0 A held Ln Lk D H (tryF P ft x c0 fb fh e)) (hLm : ∀ j, lvA Ln j ≤ lvA Lm j)
    (hW : ∀ cls d σ' H', (∃ b, PySem.W.exmOne X.K cls (.ref (g.C c0)) = some b ∧ (b = true → ∀ a, H' a = none → tsE g P lv H0 A held [] i c0 fh a cls d { nx := fun σ H => D.nx (unsetS x none σ) H, rt := D.rt, bk := fun σ H => D.bk (unsetS x none σ) H, ct := fun σ H => D.ct (unsetS x none σ) H } (unsetS x (some (.ref a)) σ') H') ∧ (b = false → W cls d σ' H')) → Wb cls d σ' H') :
    OutS g Wb lv H0 A held Lm Lk D H (fb e) := by
  unfold tryF at h
  cases q : fb e with
  | nx e1 => rw [q] at h; exact fun σ' H' Fs S k => h σ' H' Fs (S.weak hLm) k
  | bk e1 => rw [q] at h; exact h
  | ct e1 => rw [q] at h; exact h
  | rt t => rw [q] at h; exact h
  | bad => rw [q] at h; exact h
  | exc t e1 =>
    rw [q] at h
    obtain ⟨hc, h⟩ := out_chkS h
    obtain ⟨hc1, hc2⟩ := and2 hc
    have hl := Nat.le_of_ble_eq_true hc2
    intro cls d σ' H' Fs S rx kp
    refine hW cls d σ' H' ?_
    have rx' := rx
    obtain ⟨c, ks, us, rfl, rfl, dd, fs, rfl, hd, hf⟩ := rx
    have hs : P.sup c ≠ [] := not_empty hc1
    refine ⟨_, hx c hs, fun hb a ha => ?_, fun hb => ?_⟩
    · have h : OutS g W lv H0 A held Ln Lk D H (match (P.sup c).contains c0 with
        | true => (match fh (.ins c ks us) (unset x e1) with
          | .nx e2 => chkS ft (.nx (unset x e2))
          | .rt u => .rt u
          | _ => .bad)
        | false => .exc (.ins c ks us) e1) := h
      rw [hb] at h
      have h := h.kp kp
      obtain ⟨Fx, f1, f2⟩ := fields_all hf
      refine ⟨c, ks, us, dd, rfl, rfl, hs, unset x e1, _, StR.enter S her hl hi (fun z => Nat.le_trans hl (hi2 z)) hd f1 f2, ?_⟩
      dsimp only at h
      revert h
      cases fh (.ins c ks us) (unset x e1) with
      | nx e2 =>
        intro h σ2 H2 Fs2 S2 k2
        obtain ⟨hft, h⟩ := out_chkS h
        obtain ⟨Fs3, S3⟩ := S2.back (x := x) her
        exact h _ H2 Fs3 (S3.weak fun j => by rw [hLn hft j]; exact Nat.zero_le _) k2
      | bk e2 => exact fun h => h.elim
      | ct e2 => exact fun h => h.elim
      | rt t => exact fun h v H2 F a1 a2 a3 a4 a5 => h v H2 F a1 (Rep.cfg (g := { g with er := some (i, a, c, ks, us, dd) }) (g' := g) rfl rfl rfl a2) a3 a4 a5
      | exc z e2 => exact fun h => h.elim
      | bad => exact id
    · have h : OutS g W lv H0 A held Ln Lk D H (match (P.sup c).contains c0 with
        | true => (match fh (.ins c ks us) (unset x e1) with
          | .nx e2 => chkS ft (.nx (unset x e2))
          | .rt u => .rt u
          | _ => .bad)
        | false => .exc (.ins c ks us) e1) := h
      rw [hb] at h
      exact h _ _ σ' H' Fs S rx' kp

theorem unset_eq {x : Option Nat} {σ : L2.St} {o : Option V} : (match x with | some i => σ.set i o | none => σ) = unsetS x o σ := rfl
/-- try: .. except C as n: .. -/
theorem sv_try {ft : Bool} {n : Str} {x : Str} {body suite : List Stmt} {b₀ : Stmt} {np pos pos' : Pos} (hs : X.stack = X.env :: X.outer) (hf : X.env.frame = some X.env.locals) (hN : X.N.Nodup) (hi : X.N[i]? = some n) (hln : X.env.kindOf n = some .local) (hc : Names X x (.ref (g.C c0))) (tk : Takes X W) (her : g.er = none) (hLn : ft = true → ∀ j, lvA Ln j = 0) (hLm : ∀ j, lvA Ln j ≤ lvA Lm j)
    (hx : ∀ c, P.sup c ≠ [] → PySem.W.exmOne X.K (.ref (g.C c)) (.ref (g.C c0)) = some ((P.sup c).contains c0))
    (hb : ∀ (W : WX) (pn : List (Addr × Obj)) (xe : Value → Shared → Prop), Takes (X.tr pn xe) W → PassesOwn (model X.prog X.w) X.A X.env xe → PSs (X.tr pn xe) body (TSv g W lv H0 A held L Lm Lk fb))
    (hsu : ∀ (a : Addr) (oe : Obj) (pn : List (Addr × Obj)) (c : Nat) (ks : List Nat) (us : List T) (dd : Addr), P.sup c ≠ [] → Zc (.ref (g.C c)) (some dd) oe → (∃ vs, oe.data = .fields vs) → PSs (X.suite a ((a, oe) :: pn)) (b₀ :: suite) (TSv { g with er := some (i, a, c, ks, us, dd) } WF lv H0 A held lv0 lv0 [] (fh (.ins c ks us)))) :
    PS X (.Try body [.ExceptHandler (some (.Name x np)) (some n) (b₀ :: suite) pos'] [] [] pos) (TSv g W lv H0 A held L Ln Lk (tryF P ft (some i) c0 fb fh)) := by
  refine PS.imp (ps_try_as (tb := fun Wb => TSv g Wb lv H0 A held L Lm Lk fb) (ts := tsE g P lv H0 A held [] i c0 fh) (Wout := W) hs hf hN hi hln hc tk hb fun a oe cls d pn hz hd => ?_) fun D σ H ⟨e, Fs, S, h⟩ => ?_
  · refine ⟨fun pins s σ H D I ⟨c, ks, us, dd, e1, e2, hs, h⟩ => ?_⟩
    subst e1 e2
    exact (hsu a oe pn c ks us dd hs hz hd).run pins s σ H D I h
  · exact ⟨e, Fs, S, try_out (x := some i) her hLn hx (fun j z => (Option.some.inj z).symm) (fun z => by cases z) h hLm fun cls d σ' H' z => z⟩
/-- try: .. except C: .. -/
theorem sv_try0 {ft : Bool} {x : Str} {body suite : List Stmt} {b₀ : Stmt} {np pos pos' : Pos} (hs : X.stack = X.env :: X.outer) (hf : X.env.frame = some X.env.locals) (hc : Names X x (.ref (g.C c0))) (tk : Takes X W) (her : g.er = none) (hLn : ft = true → ∀ j, lvA Ln j = 0) (hLm : ∀ j, lvA Ln j ≤ lvA Lm j) (hi : 1000 ≤ i)
    (hx : ∀ c, P.sup c ≠ [] → PySem.W.exmOne X.K (.ref (g.C c)) (.ref (g.C c0)) = some ((P.sup c).contains c0))
    (hb : ∀ (W : WX) (pn : List (Addr × Obj)) (xe : Value → Shared → Prop), Takes (X.tr pn xe) W → PassesOwn (model X.prog X.w) X.A X.env xe → PSs (X.tr pn xe) body (TSv g W lv H0 A held L Lm Lk fb))
    (hsu : ∀ (a : Addr) (oe : Obj) (pn : List (Addr × Obj)) (c : Nat) (ks : List Nat) (us : List T) (dd : Addr), P.sup c ≠ [] → Zc (.ref (g.C c)) (some dd) oe → (∃ vs, oe.data = .fields vs) → PSs (X.suite a ((a, oe) :: pn)) (b₀ :: suite) (TSv { g with er := some (i, a, c, ks, us, dd) } WF lv H0 A held lv0 lv0 [] (fh (.ins c ks us)))) :
    PS X (.Try body [.ExceptHandler (some (.Name x np)) none (b₀ :: suite) pos'] [] [] pos) (TSv g W lv H0 A held L Ln Lk (tryF P ft none c0 fb fh)) := by
  refine PS.imp (ps_try_only (tb := fun Wb => TSv g Wb lv H0 A held L Lm Lk fb) (ts := tsE g P lv H0 A held [] i c0 fh) (Wout := W) hs hf hc tk hb fun a oe cls d pn hz hd => ?_) fun D σ H ⟨e, Fs, S, h⟩ => ?_
  · refine ⟨fun pins s σ H D I ⟨c, ks, us, dd, e1, e2, hs, h⟩ => ?_⟩
    subst e1 e2
    exact (hsu a oe pn c ks us dd hs hz hd).run pins s σ H D I h
  · exact ⟨e, Fs, S, try_out (x := none) her hLn hx (fun j z => by cases z) (fun _ => hi) h hLm fun cls d σ' H' z => z⟩
end
end Wt

/-! Snd22: two names at once; an item moved from list to list. -/
namespace Wt
open PySem PySem.Spec PyProof.Rows L2
/-- a, b = c, d stored from the right -/
def parB (sc : Sc) (x y : Str) (px py : Pos) (a b : Expr) : Bool := (kdB (kd sc x) .local && kdB (kd sc y) .local) && ((px.line == py.line) && (!(x == y) && ((nst a && nst b) && (!([a, b].all (foldedForSure 8)) && !([a, b].all (constantsAlone 8))))))
section
variable {D : Dat} {sc : Sc} {X : Cx} {g : Cfg} {W : WX} {P : Prog} {cl : Nat → List T → R T}
theorem not_true {b : Bool} (h : (!b) = true) : b = false := by cases b with | false => rfl | true => cases h
theorem sw2 {x y : Str} {px py pt pt2 : Pos} {kt k2 : Nat} {a b : Expr} (hk : X.env.scope.kind = .function) (hs : X.env.scope = sc.scope) (h : parB sc x y px py a b = true) :
    swappedStores [.Tuple [.Name x px, .Name y py] kt pt] (.Tuple [a, b] k2 pt2) X.env = pure (some [x, y]) ∧ X.env.scope.names.lookup x = some .local ∧ X.env.scope.names.lookup y = some .local ∧ nst a = true ∧ nst b = true := by
  unfold parB at h
  obtain ⟨h1, h2⟩ := and2 h
  obtain ⟨h1, h1'⟩ := and2 h1
  obtain ⟨h2, h3⟩ := and2 h2
  obtain ⟨h3, h4⟩ := and2 h3
  obtain ⟨h4, h5⟩ := and2 h4
  obtain ⟨h4, h4'⟩ := and2 h4
  obtain ⟨h5, h6⟩ := and2 h5
  have e1 : X.env.scope.names.lookup x = some .local := by rw [hs]; exact kdB_ok h1
  have e2 : X.env.scope.names.lookup y = some .local := by rw [hs]; exact kdB_ok h1'
  refine ⟨?_, e1, e2, h4, h4'⟩
  have hb : X.env.blockKind = .function := by unfold Env.blockKind; rw [hk]; rfl
  have k1 : X.env.kindOf x = some .local := e1
  have k2' : X.env.kindOf y = some .local := e2
  have hne : (x == y) = false := not_true h3
  have l1 : (py.line == px.line) = true := by rw [beq_iff_eq] at h2 ⊢; exact h2.symm
  have f1 := not_true h5
  have f2 := not_true h6
  have ns : ([a, b].any fun | .Starred .. => true | _ => false) = false := by
    cases a <;> cases b <;> first | rfl | cases h4 | cases h4'
  have hd : [x, y].eraseDups = [x, y] := by
    have hyx : (y == x) = false := by rw [beq_eq_false_iff_ne] at hne ⊢; exact fun z => hne z.symm
    rw [List.eraseDups_cons, List.filter_cons, hyx]
    rfl
  unfold swappedStores
  simp only [hb, ns, List.filterMap_cons, List.filterMap_nil, k1, k2', List.length_cons, List.length_nil, List.head?_cons, Option.map_some, Expr.pos, Option.getD_some, l1, f1, f2, beq_self_eq_true, Bool.and_self, if_true, hd]
  refine (if_neg (by decide)).trans ?_
  refine (if_neg (by
    intro z
    have z' : ([a, b].any fun | .Starred .. => true | _ => false) = true := z
    rw [ns] at z'
    cases z')).trans ?_
  rfl
/-- what values reach is held -/
theorem StR.hold {H0 : Hp} {A : Addr → Prop} {held : List Addr} {L : List Nat} {H : Hp} {σ : L2.St} {e : Env} {Fs : Nat → List Addr} {vs : List Nat} {F : List Addr} (S : StR g H0 A held L H σ e Fs)
    (pf : ∀ b ∈ F, (H0 b = none ∧ (∀ i, b ∉ Fs i) ∨ ∃ i ∈ vs, b ∈ Fs i) ∧ H b ≠ none) : StR g H0 A (held ++ F) (dropL vs L) H σ e Fs := by
  refine ⟨S.env, S.emp, S.ext, S.pro, fun b hb => ?_, fun b hb => ?_, fun i t q => ?_⟩
  · rcases List.mem_append.mp hb with z | z
    · exact S.hd b z
    · exact (pf b z).2
  · rcases List.mem_append.mp hb with z | z
    · exact S.hpv b z
    · exact (pf b z).1.elim (fun q => .inl q.1) fun ⟨j, _, q⟩ => S.pro j b q
  · by_cases hz : lvA (dropL vs L) i = 0
    · rw [hz]; exact Own.zero
    · have ni : i ∉ vs := fun z => hz (dropL_zero z)
      have O := (S.own i t q).imp (dropL_le (vs := vs)) (fun _ z => z) fun _ z => z
      have nF : ∀ b ∈ Fs i, (¬ ∃ j, j ≠ i ∧ b ∈ Fs j) → b ∉ F := fun b hb no hF => by
        rcases (pf b hF).1 with z | ⟨j, hj, z⟩
        · exact z.2 i hb
        · exact no ⟨j, fun q => ni (q ▸ hj), z⟩
      refine ⟨fun k1 zs ez => ?_, fun k2 zs ez fl => ?_⟩
      · obtain ⟨a, G, o1, o2, o3, o4, o5⟩ := O.1 k1 zs ez
        refine ⟨a, G, o1, o2, o3, fun z => ?_, o5⟩
        rcases List.mem_append.mp z with z | z
        · exact o4 z
        · exact nF a (by rw [o1]; exact List.mem_cons_self) o5 z
      · obtain ⟨o1, o2⟩ := O.2 k2 zs ez fl
        refine ⟨o1, fun b hb => ⟨(o2 b hb).1, fun z => ?_, (o2 b hb).2.2⟩⟩
        rcases List.mem_append.mp z with z | z
        · exact (o2 b hb).2.1 z
        · exact nF b hb (o2 b hb).2.2 z
theorem sv_par2 {lv : Nat} {H0 : Hp} {A : Addr → Prop} {held : List Addr} {L Lk : List Nat} {i j : Nat} {x y : Str} {px py pt pt2 pos : Pos} {kt k2 : Nat} {a b : Expr} {va vb : List Nat} {fa fb : Env → R T} (w : Wd D sc X g W P cl mk) (h : parB sc x y px py a b = true) (hi : sc.N[i]? = some x) (hj : sc.N[j]? = some y) (hij : i ≠ j)
    (ha : PE X a (TEv g W 0 va fa)) (hb : PE X b (TEv g W 0 vb fb)) :
    PS X (.Assign [.Tuple [.Name x px, .Name y py] kt pt] (.Tuple [a, b] k2 pt2) pos) (TSv g W lv H0 A held L (((dropL (va ++ vb) L).set i 0).set j 0) Lk fun e => (fa e).st e fun t => (fb e).st e fun u => .nx ((e.set i (some t)).set j (some u))) := by
  refine ⟨fun pins s σ H Dd I hh => ?_⟩
  obtain ⟨h1, h2, h3, h4, h5⟩ := sw2 (pt := pt) (pt2 := pt2) (kt := kt) (k2 := k2) I.ok.kind w.sS h
  refine (PS.imp (ps_par (i := i) (j := j) w.calm (by rw [w.sN]; exact w.nd) (by rw [w.sN]; exact hi) (by rw [w.sN]; exact hj) hij h2 h3 (pa_cons ha (pa_cons hb pa_nil (star_cons h5)) (star_cons h4)) h1 rfl) fun D σ H ⟨e, Fs, S, h⟩ => ?_).run pins s σ H Dd I hh
  refine st1 (vs := va) (k := fun t => (fb e).st e fun u => .nx ((e.set i (some t)).set j (some u))) S h fun t v F H1 e1 S1 r _ pf h => ?_
  refine st1 (vs := vb) (k := fun u => .nx ((e.set i (some t)).set j (some u))) S1 h fun u v2 F2 H2 e2 S2 r2 _ pf2 h => ?_
  have r' := r.ext e2
  have S3 := S2.hold (vs := va ++ vb) (F := F ++ F2) fun b hb => by
    rcases List.mem_append.mp hb with z | z
    · exact ⟨(pf b z).elim (fun q => .inl ⟨S.ext.none q, fun k hk => S.dom k b hk q⟩) fun ⟨m, hm, q⟩ => .inr ⟨m, List.mem_append_left _ hm, q⟩, r'.dom b z⟩
    · exact ⟨(pf2 b z).elim (fun q => .inl ⟨S1.ext.none q, fun k hk => S1.dom k b hk q⟩) fun ⟨m, hm, q⟩ => .inr ⟨m, List.mem_append_right _ hm, q⟩, r2.dom b z⟩
  obtain ⟨Fs4, S4⟩ := StR.putH (x := i) S3 w.er r' fun b hb => List.mem_append_right _ (List.mem_append_left _ hb)
  obtain ⟨Fs5, S5⟩ := StR.putH (x := j) S4 w.er r2 fun b hb => List.mem_append_right _ (List.mem_append_right _ hb)
  exact ⟨v, v2, rfl, h _ _ Fs5 (S5.less fun b hb => List.mem_append_left _ hb) .refl⟩
end
end Wt
namespace Wt
open PySem PySem.Spec PyProof.Rows L2
section
variable {X : Cx} {g : Cfg} {W : WX} {lv : Nat} {H0 : Hp} {A : Addr → Prop} {held : List Addr} {L L' Ln Lk : List Nat} {n : Nat} {vs : List Nat} {fa : Env → R T} {a : Expr} {x z : Nat} {y y2 : Str} {pos p ap cp p2 ap2 cp2 : Pos}
theorem Kp.upd {H : Hp} {a : Addr} {ws us : List V} {F : List Addr} (hw : H a = some (.lst ws)) (hn : a ∉ F) : Kp H (upd H a (.lst us)) F := ⟨fun b hb o q => by
    rw [upd_ne (fun z => hn (by rw [← z]; exact hb))]; exact q, fun b xs q => by
    rw [upd_ne (ne_of q hw (by intro z; cases z))]; exact q, fun b o u q => by
    rw [upd_ne (ne_of q hw (by intro z; cases z))]; exact q⟩
/-- x.append(z.pop(a)) -/
theorem sv_appPop (her : g.er = none) (hxz : x ≠ z) (hN : X.N[x]? = some y) (hv : Vis X.env.scope y) (hd : (y == ("__debug__" : Str)) = false) (hcd : (y == ("__classdict__" : Str)) = false) (hN2 : X.N[z]? = some y2) (hv2 : Vis X.env.scope y2) (hd2 : (y2 == ("__debug__" : Str)) = false) (hcd2 : (y2 == ("__classdict__" : Str)) = false)
    (hl : (ap.endLine == cp.line) = true) (hl2 : (ap2.endLine == cp2.line) = true) (hst : nst a = true) (ha : PE X a (TEv g W n vs fa)) (h1 : 1 ≤ lvA L x) (h2 : 1 ≤ lvA L z) :
    PS X (.Expr (.Call (.Attribute (.Name y p) "append" ap) [.Call (.Attribute (.Name y2 p2) "pop" ap2) [a] [] cp2] [] cp) pos) (TSv g W lv H0 A held L (L.set z 1) Lk fun e => (slotL e x).st e fun xs => (slotL e z).st e fun ys => (intR (fa e)).st e fun i => (ofO (ixI ys.length i)).st e fun j => (ofO ys[j]?).st e fun t =>
      chkS ((Nat.blt xs.length LIM && Nat.ble ys.length LIM) && noList t) (.nx (putL (putL e z (ys.eraseIdx j)) x (xs ++ [t])))) := by
  refine PS.imp (ps_expr (pe_bm PySem.F.plainAttrs_list PySem.F.slot_list_append PySem.F.type_list_append mt_append (pe_var hN hv hd hcd) (pa_cons (pe_bm PySem.F.plainAttrs_list PySem.F.slot_list_pop PySem.F.type_list_pop mt_popAt (pe_var hN2 hv2 hd2 hcd2) (pa_cons ha pa_nil (star_cons hst)) rfl (few1 hst) hl2 (star_cons hst) rfl) pa_nil (star_cons rfl)) rfl (few1 rfl) hl (star_cons rfl) rfl) rfl) fun D σ H ⟨e, Fs, S, h⟩ => ?_
  obtain ⟨xs, hx0, h⟩ := slotL_ok h
  obtain ⟨ys, hz0, h⟩ := slotL_ok h
  obtain ⟨l, G, ws, s1, s2, s3, s4, s5, s6⟩ := S.list hx0 h1
  obtain ⟨l2, G2, ws2, t1, t2, t3, t4, t5, t6⟩ := S.list hz0 h2
  refine ⟨_, s1, .inl ⟨rfl, ws, SqL.of s3⟩, _, t1, .inl ⟨rfl, ws2, SqL.of t3⟩, ?_⟩
  refine st1 (vs := vs) (k := fun t => match t with | .int i => ((ofO (ixI ys.length i)).st e fun j => (ofO ys[j]?).st e fun t =>
      chkS ((Nat.blt xs.length LIM && Nat.ble ys.length LIM) && noList t) (.nx (putL (putL e z (ys.eraseIdx j)) x (xs ++ [t])))) | _ => .bad) S (intR_ok h) fun t v F H1 e1 S1 r lt pf h => ?_
  cases t with
  | int i =>
    obtain ⟨j, hj, h⟩ := ofO_st h
    obtain ⟨t, ht, h⟩ := ofO_st h
    obtain ⟨c1, h⟩ := out_chkS h
    obtain ⟨c1, c3⟩ := and2 c1
    obtain ⟨c1, c2⟩ := and2 c1
    rw [rep_i] at r
    have hw1 : H1 l = some (.lst ws) := e1 l _ s3
    have hw2 : H1 l2 = some (.lst ws2) := e1 l2 _ t3
    have hlen : ws2.length = ys.length := t4.len
    have c2 := Nat.le_of_ble_eq_true c2
    obtain ⟨q1, q2, q3, q4⟩ := ixN_seq (n := ws2.length) (i := i) (j := j) (by rw [hlen]; exact hj)
    obtain ⟨G', rG, sub⟩ := (t4.ext e1).eraseAt (j := j)
    obtain ⟨w, Gt, w1, w2, w3⟩ := (t4.ext e1).get ht
    have neq : l ≠ l2 := fun q => s6 z (fun k => hxz k.symm) (by rw [t2, q]; exact List.mem_cons_self)
    obtain ⟨Fs2, S2, kp2⟩ := StR.part1 (us := ws2.eraseIdx j) (L' := L.set z 1) S1 her hz0 h2 t2 rG sub (set1_le h2) set1_at
    have hx2 : (putL e z (ys.eraseIdx j))[x]? = some (some (.lst xs)) := by
      unfold putL
      rw [get_set, if_neg hxz]; exact hx0
    have lx : lvA (L.set z 1) x = lvA L x := by rw [lvA_set, if_neg hxz]
    obtain ⟨l', Gx, wx, u1, u2, u3, u4, u5, u6⟩ := S2.list hx2 (by rw [lx]; exact h1)
    have el : l' = l := by
      rw [s1] at u1
      cases u1
      rfl
    subst el
    have ndG : l2 ∉ Gt := fun q => t5 (w3 l2 q)
    have rt : Rep g (upd H1 l2 (.lst (ws2.eraseIdx j))) t w Gt := w2.kp (Kp.upd hw2 ndG)
    have noT : l' ∉ Gt := fun q => s6 z (fun k => hxz k.symm) (by rw [t2]; exact List.mem_cons_of_mem _ (w3 l' q))
    obtain ⟨Fs3, S3, kp3⟩ := StR.mut (x := x) (L' := L.set z 1) S2 her hx2 (by rw [lx]; exact h1) u2 (u4.append (RepL.cons rt RepL.nil)) (fun q => by
        rcases List.mem_append.mp q with q | q
        · exact u5 q
        · exact noT (by simpa using q)) (fun b hb => by
        rcases List.mem_append.mp hb with hb | hb
        · exact S2.pro x b (by rw [u2]; exact List.mem_cons_of_mem _ hb)
        · exact S1.pro z b (by rw [t2]; exact List.mem_cons_of_mem _ (w3 b (by simpa using hb)))) (fun _ => Nat.le_refl _)
      (fun b ⟨bs, hbs⟩ k hk hz hbk hbG => by
        rcases List.mem_append.mp hbG with q | q
        · exact ⟨x, fun q' => hk q'.symm, by rw [u2]; exact List.mem_cons_of_mem _ q⟩
        · obtain ⟨C, dx, fs, w'⟩ := noList_F rt c3 b (by simpa using q)
          rw [w'] at hbs
          cases hbs)
      (fun k2 fl => by
        rw [flat2_app, Bool.and_eq_true] at fl
        obtain ⟨o1, o2⟩ := (S2.own x _ hx2).2 k2 xs rfl fl.1
        rw [u2] at o1 o2
        have nm : noMut t = true := by
          cases t with
          | lst ys => exact absurd c3 (by rw [noList]; decide)
          | _ => exact fl.2
        have eGt : Gt = [] := noMut_F rt nm
        subst eGt
        refine ⟨by simpa using (List.nodup_cons.mp o1).2, fun b hb => ?_⟩
        have hb : b ∈ Gx := by simpa using hb
        obtain ⟨q1, q2, q3⟩ := o2 b (List.mem_cons_of_mem _ hb)
        exact ⟨q1, q2, fun j hj z => q3 ⟨j, hj, z⟩⟩)
    have hw3 : (upd H1 l2 (.lst (ws2.eraseIdx j))) l' = some (.lst ws) := by rw [upd_ne neq]; exact hw1
    rw [hw3] at u3
    cases u3
    refine ⟨l2, ws2, i, j, w, rfl, by rw [r.1], hw2, by have : LIM = 16777216 := rfl; omega, by have : LIM = 16777216 := rfl; omega, q1, w1, l', ws, w, rfl, rfl, hw3, ?_, ?_⟩
    · rw [s4.len, lim_eq]; exact Nat.le_of_ble_eq_true c1
    · exact h σ _ Fs3 S3 (kp2.trans kp3)
  | _ => exact (show False from h).elim
end
end Wt

/-! Snd18: a written block is checked against its tree. -/
namespace Wt
open PySem PySem.Spec PyProof.Rows L2

def topL : List Nat := List.replicate 128 2
def minL (a b : List Nat) : List Nat := List.zipWith min a b
/-- each at most -/
def leB : List Nat → List Nat → Bool
  | [], _ => true
  | x :: a, [] => Nat.ble x 0 && leB a []
  | x :: a, y :: b => Nat.ble x y && leB a b
theorem leB_ok : ∀ {a b : List Nat}, leB a b = true → ∀ i, lvA a i ≤ lvA b i
  | [], b, _, i => by unfold lvA; simp
  | x :: a, [], h, i => by
    obtain ⟨h1, h2⟩ := and2 (show (Nat.ble x 0 && leB a []) = true from h)
    cases i with
    | zero => exact Nat.le_of_ble_eq_true h1
    | succ i => have := leB_ok h2 i; unfold lvA at this ⊢; simpa using this
  | x :: a, y :: b, h, i => by
    obtain ⟨h1, h2⟩ := and2 (show (Nat.ble x y && leB a b) = true from h)
    cases i with
    | zero => exact Nat.le_of_ble_eq_true h1
    | succ i => have := leB_ok h2 i; unfold lvA at this ⊢; simpa using this
theorem minL_l : ∀ {a b : List Nat} (i : Nat), lvA (minL a b) i ≤ lvA a i
  | [], b, i => by unfold minL lvA; simp
  | x :: a, [], i => by unfold minL lvA; simp
  | x :: a, y :: b, i => by
    cases i with
    | zero => exact Nat.min_le_left _ _
    | succ i => have := minL_l (a := a) (b := b) i; unfold minL lvA at this ⊢; simpa using this
theorem minL_r : ∀ {a b : List Nat} (i : Nat), lvA (minL a b) i ≤ lvA b i
  | [], b, i => by unfold minL lvA; simp
  | x :: a, [], i => by unfold minL lvA; simp
  | x :: a, y :: b, i => by
    cases i with
    | zero => exact Nat.min_le_right _ _
    | succ i => have := minL_r (a := a) (b := b) i; unfold minL lvA at this ⊢; simpa using this
/-- name = [..]: the store that comes first -/
def swB (sc : Sc) (y : Str) (p : Pos) : Expr → Bool
  | .ListComp _ _ scope q => kdB (kd sc y) .local && ((p.line == q.line) && !(scope.names.any fun (n, k) => n == y && (k == .local || k == .cell)))
  | _ => false
/-- a cell is stored to behind -/
theorem swaps_cell {e : Expr} {y : Str} {p : Pos} {l : Nat} {env : PySem.Env} (h : env.kindOf y = some .cell) : swapsWith e (some (.Name y p)) l env = pure false := by
  have k : (env.kindOf y == some NameKind.local) = false := by rw [h]; rfl
  unfold swapsWith
  cases e <;> first | rfl | (simp only [k, Bool.and_false, Bool.false_and])
def orN (b : Bool) (o : Option (List Nat)) : Option (List Nat) := if b then o else none
theorem orN_ok {b : Bool} {o : Option (List Nat)} {l : List Nat} (h : orN b o = some l) : b = true ∧ o = some l := by
  unfold orN at h
  cases b with
  | true => exact ⟨rfl, h⟩
  | false => cases h
def bothN : Option (List Nat) → Option (List Nat) → Option (List Nat)
  | some a, some b => some (minL a b)
  | _, _ => none
theorem bothN_ok {a b : Option (List Nat)} {l : List Nat} (h : bothN a b = some l) : ∃ x y, a = some x ∧ b = some y ∧ l = minL x y := by
  cases a with
  | none => cases h
  | some x =>
    cases b with
    | none => cases h
    | some y => cases h; exact ⟨x, y, rfl, rfl, rfl⟩
/-- the slot of an except clause's name -/
def tryB (sc : Sc) (x : Option Nat) (nm : Option Str) : Bool := match x, nm with
  | some i, some n => decide (sc.N[i]? = some n) && (kdB (kd sc n) .local && (ndb n && !(n == ("__classdict__" : Str))))
  | none, none => true
  | _, _ => false
mutual
def ckS (D : Dat) (lv : Nat) : S → Sc → List Nat → List Nat → Stmt → Option (List Nat)
  | .asg x e g, sc, L, _, st => (match st with
    | .Assign [.Name y p] a _ => (match e with
      | .comp el tg k its cds => orN (stB sc x y && (chkE D (.comp el tg k its cds) sc a && (swB sc y p a || kdB (kd sc y) .cell))) (some ((dropG g (varsE (.comp el tg k its cds)) L).set x (lvE D (.comp el tg k its cds))))
      | e => orN (stB sc x y && (chkE D e sc a && (notComp a && Nat.ble (lvE D e) 2))) (some ((dropG g (varsE e) L).set x (lvE D e))))
    | _ => none)
  | .doc, _, L, _, st => (match st with | .Expr (.Constant (.str _) _ _) _ => some L | _ => none)
  | .expr e, sc, L, _, st => (match st with | .Expr a _ => orN (chkE D e sc a && notComp a) (some L) | _ => none)
  | .app x e g, sc, L, _, st => (match st with
    | .Expr (.Call (.Attribute (.Name y _) m ap) [a] [] cp) _ => orN (decide (m = "append") && (varB sc x y && ((ap.endLine == cp.line) && (nst a && (chkE D e sc a && (Nat.ble 1 (lvA L x) && (decide (x ∉ varsE e) || g))))))) (
        some (let L1 := dropG g ((varsE e).filter (· ≠ x)) L; if g || Nat.ble 1 (lvE D e) then L1 else L1.set x 1))
    | _ => none)
  | .clear x, sc, L, _, st => (match st with
    | .Expr (.Call (.Attribute (.Name y _) m ap) [] [] cp) _ => orN (decide (m = "clear") && (varB sc x y && ((ap.endLine == cp.line) && Nat.ble 1 (lvA L x)))) (some L)
    | _ => none)
  | .pop x e, sc, L, _, st => (match st with
    | .Expr (.Call (.Attribute (.Name y _) m ap) [a] [] cp) _ => orN (decide (m = "pop") && (varB sc x y && ((ap.endLine == cp.line) && (nst a && (chkE D e sc a && Nat.ble 1 (lvA L x)))))) (some (L.set x 1))
    | _ => none)
  | .setIx x i e g, sc, L, _, st => (match st with
    | .Assign [.Subscript (.Name y _) b _] a _ => orN (varB sc x y && (chkE D e sc a && (chkE D i sc b && (notSlice b && (notComp a && (Nat.ble 1 (lvA L x) && (decide (x ∉ varsE e) || g))))))) (some ((dropG g ((varsE e).filter (· ≠ x)) L).set x 1))
    | _ => none)
  | .par xs es, sc, L, _, st => (match xs, es with
    | [i, j], [e1, e2] => (match st with
      | .Assign [.Tuple [.Name x px, .Name y py] _ _] (.Tuple [a, b] _ _) _ => orN (parB sc x y px py a b && (decide (sc.N[i]? = some x) && (decide (sc.N[j]? = some y) && (decide (i ≠ j) && (chkE D e1 sc a && chkE D e2 sc b))))) (some (((dropL (varsE e1 ++ varsE e2) L).set i 0).set j 0))
      | _ => none)
    | _, _ => none)
  | .appPop x z e, sc, L, _, st => (match st with
    | .Expr (.Call (.Attribute (.Name y _) m ap) [.Call (.Attribute (.Name y2 _) m2 ap2) [a] [] cp2] [] cp) _ => orN ((decide (m = "append") && decide (m2 = "pop")) && ((varB sc x y && varB sc z y2) && (((ap.endLine == cp.line) && (ap2.endLine == cp2.line)) && (nst a && (chkE D e sc a && ((Nat.ble 1 (lvA L x) && Nat.ble 1 (lvA L z)) && decide (x ≠ z))))))) (some (L.set z 1))
    | _ => none)
  | .ret e, sc, L, _, st => (match st with
    | .Return (some a) _ => orN (chkE D e sc a && (Nat.ble lv (lvE D e) || (match e with | .var x => Nat.ble lv (lvA L x) && Nat.ble lv 2 | _ => false))) (some topL)
    | _ => none)
  | .retN, _, _, _, st => (match st with | .Return none _ => some topL | _ => none)
  | .ifs c a b, sc, L, Lk, st => (match st with
    | .If c' a' b' _ => orN (chkE D c sc c') (bothN (ckB D lv a sc L Lk a') (ckB D lv b sc L Lk b'))
    | _ => none)
  | .forS tg k its body own, sc, L, _, st => (match st with
    | .For t i b [] _ => orN (notSet i && (tgB sc tg t && ((tgT k t && chkI D its k sc i) && leB own (dropL (varsI k its) L)))) (match ckB D lv body sc (dropL (tgI tg) own) own b with
      | some Lm => orN (leB own Lm) (some own)
      | none => none)
    | _ => none)
  | .whileS c body own, sc, L, _, st => (match st with
    | .While c' b [] _ => orN (chkE D c sc c' && leB own L) (match ckB D lv body sc own own b with
      | some Lm => orN (leB own Lm) (some own)
      | none => none)
    | _ => none)
  | .brk, _, L, Lk, st => (match st with | .Break _ => orN (leB Lk L) (some topL) | _ => none)
  | .cont, _, L, Lk, st => (match st with | .Continue _ => orN (leB Lk L) (some topL) | _ => none)
  | .pass, _, L, _, st => (match st with | .Pass _ => some L | _ => none)
  | .raise c es, sc, _, _, st => (match st with
    | .Raise (some (.Call (.Name x _) (a :: as) [] _)) none _ => orN (glB sc x && (ndb x && (Nat.ble (a :: as).length 1000 && (D.errs.any (fun e => decide (e.1 = x) && decide (e.2.1 = c)) && chkL D es sc (a :: as))))) (some topL)
    | _ => none)
  | .tryS body c x h ft, sc, L, Lk, st => (match st with
    | .Try b [.ExceptHandler (some (.Name n0 _)) nm (h0 :: hr) _] [] [] _ => orN (glB sc n0 && (ndb n0 && (D.xtys.any (fun p => decide (p.1 = n0) && decide (p.2 = .own c)) && tryB sc x nm))) (match ckHB D lv (nm.getD "") sc h (h0 :: hr) with
      | true => (match ckB D lv body sc L Lk b with
        | some Lm => some (if ft then [] else Lm)
        | none => none)
      | false => none)
    | _ => none)
  | _, _, _, _, _ => none
def ckB (D : Dat) (lv : Nat) : List S → Sc → List Nat → List Nat → List Stmt → Option (List Nat)
  | [], _, L, _, l => (match l with | [] => some L | _ => none)
  | s :: ss, sc, L, Lk, l => (match l with
    | st :: sts => (match ckS D lv s sc L Lk st with
      | some Lm => ckB D lv ss sc Lm Lk sts
      | none => none)
    | [] => none)
end

section
variable {D : Dat} {P : Prog} {cl : Nat → List T → R T} {mk : Nat → List T → R T} {cx : Option T}
/-- a comprehension stored at once -/
theorem compS_ok {el : E} {tg : Tg} {k : Ik} {its cds : List E} {sc : Sc} {X : Cx} {g : Cfg} {W : WX} {a : Expr} (w : Wd D sc X g W P cl mk) (h : chkE D (.comp el tg k its cds) sc a = true) {x : Nat} {y : Str} {p : Pos} {spos : Pos} (hs : stB sc x y = true) (hw : swB sc y p a = true) {lv : Nat} {H0 : Hp} {A : Addr → Prop} {held : List Addr} {L Lk : List Nat} {gd : Bool} :
    PS X (.Assign [.Name y p] a spos) (TSv g W lv H0 A held L ((dropG gd (varsE (.comp el tg k its cds)) L).set x (lvE D (.comp el tg k its cds))) Lk fun e => (evE P cl mk cx (.comp el tg k its cds) e).st e fun t => grd gd t (.nx (e.set x (some t)))) := by
  unfold chkE at h
  split at h
  · rename_i e' t' i' c' scope pos
    obtain ⟨h1, h2⟩ := and2 h
    obtain ⟨h1, h3⟩ := and2 h1
    obtain ⟨h3, h4⟩ := and2 h3
    obtain ⟨h2, h5⟩ := and2 h2
    obtain ⟨h5, h6⟩ := and2 h5
    have ok : BlkOk X.N X.env.scope scope ((tgI tg).map fun i => (sc.N.getD i Str.empty, i)) := by
      rw [w.sN, w.sS]
      exact blkOk_by h1
    have hw : (kdB (kd sc y) .local && ((p.line == pos.line) && !(scope.names.any fun (n, k) => n == y && (k == .local || k == .cell)))) = true := hw
    obtain ⟨w1, w2⟩ := and2 hw
    obtain ⟨w2, w3⟩ := and2 w2
    have w3 : (scope.names.any fun (n, k) => n == y && (k == .local || k == .cell)) = false := by
      cases q : (scope.names.any fun (n, k) => n == y && (k == .local || k == .cell)) with
      | false => rfl
      | true => rw [q] at w3; cases w3
    obtain ⟨l1, l2, l3⟩ := loc_of w hs
    have hyl : X.env.scope.names.lookup y = some .local := by rw [w.sS]; exact kdB_ok w1
    have e1 : compF tg (fun e => (noX k (evL P cl mk cx its e)).bnd (walk P cl k)) (evC P cl mk cx cds) (evE P cl mk cx el) = evE P cl mk cx (.comp el tg k its cds) := funext fun e => by
      show ((noX k (evL P cl mk cx its e)).bnd (walk P cl k)).bnd _ = (noX k (evL P cl mk cx its e)).bnd fun ts => (walk P cl k ts).bnd fun xs => _
      rw [bnd_assoc]
    refine ⟨fun pins s σ H Dd I hh => ?_⟩
    have sw : swapsWith (.ListComp e' [⟨t', i', c', 0⟩] scope pos) (some (.Name y p)) spos.line X.env = pure true := sw_true I.ok.kind hyl w2 w3
    have key := sv_asgC (pos := pos) (p := p) (spos := spos) (lv := lv) (H0 := H0) (A := A) (held := held) (L := L) (Lk := Lk) (gd := gd) (x := x) (n := min (lvE D el) 1 + 1) (m := min (lvE D el) 1) (W := W) (own := (tgI tg).map fun i => (sc.N.getD i Str.empty, i)) w.er (Nat.le_refl _) (Nat.min_le_right _ _) (tgC_ok (X := X) (g := g) (tg := tg)) w.calm (by rw [w.sN]; exact w.nd) l1 hyl
      sw (chkI_ok (mk := mk) (cx := cx) its k t' w (and2 h2).1 (and2 h2).2) ok (by rw [List.map_map]; exact List.map_id _)
      (fun s H C c' fp => tg_ok (w.blk scope s H C c' fp) h4) (fun s H C c' fp => chkC_ok (mk := mk) (cx := cx) cds (w.blk scope s H C c' fp) h5) (fun s H C c' fp => TEv.low (Nat.min_le_left _ _) (fun _ z => z) (chkE_ok (mk := mk) (cx := cx) el (w.blk scope s H C c' fp) h6).1) h3
    rw [e1] at key
    exact key.run pins s σ H Dd I hh
  · cases h

/-- a scope in which statements run -/
structure Ws (D : Dat) (sc : Sc) (X : Cx) (g : Cfg) (W : WX) (P : Prog) (cl mk : Nat → List T → R T) : Prop where
  w : Wd D sc X g W P cl mk
  hp : PassesOwn (model X.prog X.w) X.A X.env X.xe
  hs : X.stack = X.env :: X.outer
  hf : X.env.frame = some X.env.locals
theorem Ws.tr {D : Dat} {sc : Sc} {X : Cx} {g : Cfg} {W W' : WX} (w : Ws D sc X g W P cl mk) {pn : List (Addr × Obj)} {xe : Value → Shared → Prop} (tk : Takes (X.tr pn xe) W') (hp : PassesOwn (model X.prog X.w) X.A X.env xe) : Ws D sc (X.tr pn xe) g W' P cl mk where
  w := { hK := w.w.hK, er := w.w.er, tk := tk, calm := w.w.calm, sN := w.w.sN, nd := w.w.nd, sS := w.w.sS, sF := w.w.sF, un := w.w.un, calls := fun c hc => ⟨(w.w.calls c hc).ex⟩, blts := w.w.blts,
         tys := fun p hp => (w.w.tys p hp).imp (fun ⟨cn, a, b, c, d⟩ => ⟨cn, a, b, c, ⟨d.base, d.ins⟩⟩) fun ⟨C, a, d⟩ => ⟨C, a, ⟨d.base, d.ins⟩⟩,
         m0 := w.w.m0, an := w.w.an, errs := fun e he => ⟨⟨(w.w.errs e he).1.ex⟩, (w.w.errs e he).2⟩, xt := w.w.xt, sui := w.w.sui, exm := w.w.exm,
         ifl := fun f hf => ⟨(w.w.ifl f hf).inj, (w.w.ifl f hf).cls⟩, makes := fun c hc => ⟨(w.w.makes c hc).ex⟩, meths := fun c hc => ⟨(w.w.meths c hc).nf, (w.w.meths c hc).ex⟩,
         dAdd := fun X' W' q => w.w.dAdd X' W' ⟨q.prog, q.w, q.K, q.mg, q.base, q.A⟩, dSub := fun X' W' q => w.w.dSub X' W' ⟨q.prog, q.w, q.K, q.mg, q.base, q.A⟩, dAnd := fun X' W' q => w.w.dAnd X' W' ⟨q.prog, q.w, q.K, q.mg, q.base, q.A⟩,
         dEq := fun X' W' q => w.w.dEq X' W' ⟨q.prog, q.w, q.K, q.mg, q.base, q.A⟩, dIn := fun X' W' q => w.w.dIn X' W' ⟨q.prog, q.w, q.K, q.mg, q.base, q.A⟩, dNin := fun X' W' q => w.w.dNin X' W' ⟨q.prog, q.w, q.K, q.mg, q.base, q.A⟩, dLen := fun X' W' q => w.w.dLen X' W' ⟨q.prog, q.w, q.K, q.mg, q.base, q.A⟩ }
  hp := hp
  hs := w.hs
  hf := w.hf
theorem dropG_at {gd : Bool} {vs L : List Nat} {i : Nat} : lvA (dropG gd (vs.filter (· ≠ i)) L) i = lvA L i := by
  unfold dropG
  split
  · rfl
  · have key : ∀ (vs L : List Nat), i ∉ vs → lvA (dropL vs L) i = lvA L i := by
      intro vs
      induction vs with
      | nil => intro L _; rfl
      | cons j js ih =>
        intro L hn
        unfold dropL
        rw [lvA_set, if_neg (fun z => hn (by rw [z]; exact List.mem_cons_self)), ih L (fun z => hn (List.mem_cons_of_mem _ z))]
    exact key _ _ (by simp)
theorem vb_of {sc : Sc} {X : Cx} {g : Cfg} {W : WX} (w : Wd D sc X g W P cl mk) {x : Nat} {y : Str} (h : varB sc x y = true) : X.N[x]? = some y ∧ Vis X.env.scope y ∧ (y == ("__debug__" : Str)) = false ∧ (y == ("__classdict__" : Str)) = false := by
  unfold varB at h
  obtain ⟨h1, h2⟩ := and2 h
  obtain ⟨h2, h3⟩ := and2 h2
  obtain ⟨h3, h4⟩ := and2 h3
  refine ⟨by rw [w.sN]; exact of_decide_eq_true h1, vis_of w h2, ndb_of h3, ?_⟩
  cases q : (y == ("__classdict__" : Str)) with
  | false => rfl
  | true => rw [q] at h4; cases h4
mutual
theorem ckS_ok {lv : Nat} : ∀ (x : S) {sc : Sc} {X : Cx} {g : Cfg} {W : WX} {L Ln Lk : List Nat} {st : Stmt} {H0 : Hp} {A : Addr → Prop} {held : List Addr}, Ws D sc X g W P cl mk → ckS D lv x sc L Lk st = some Ln → PS X st (TSv g W lv H0 A held L Ln Lk (exS P cl mk cx x))
  | .asg x e gd, sc, X, g, W, L, Ln, Lk, st, H0, A, held, w, h => by
    unfold ckS at h
    split at h
    · rename_i y p a pos
      split at h
      · rename_i el tg k its cds
        obtain ⟨h1, h2⟩ := orN_ok h
        obtain ⟨h1, h3⟩ := and2 h1
        obtain ⟨h3, h4⟩ := and2 h3
        cases h2
        rw [Bool.or_eq_true] at h4
        rcases h4 with h4 | h4
        · exact compS_ok w.w h3 h1 h4
        · obtain ⟨l1, l2, l3⟩ := loc_of w.w h1
          have hk : X.env.kindOf y = some .cell := by
            show X.env.scope.names.lookup y = _
            rw [w.w.sS]
            exact kdB_ok h4
          have le2 : lvE D (.comp el tg k its cds) ≤ 2 := by
            show min (lvE D el) 1 + 1 ≤ 2
            omega
          exact sv_asg (by rw [w.w.sN]; exact w.w.nd) l1 l2 (chkE_ok (.comp el tg k its cds) w.w h3).1 le2 (swaps_cell hk) l3 (fun q z => by rw [w.w.er] at z; cases z)
      · obtain ⟨h1, h2⟩ := orN_ok h
        obtain ⟨h1, h3⟩ := and2 h1
        obtain ⟨h3, h4⟩ := and2 h3
        obtain ⟨h4, h5⟩ := and2 h4
        cases h2
        obtain ⟨l1, l2, l3⟩ := loc_of w.w h1
        exact sv_asg (by rw [w.w.sN]; exact w.w.nd) l1 l2 (chkE_ok e w.w h3).1 (Nat.le_of_ble_eq_true h5) (swaps_no h4) l3 (fun q z => by rw [w.w.er] at z; cases z)
    · cases h
  | .doc, sc, X, g, W, L, Ln, Lk, st, H0, A, held, w, h => by
    unfold ckS at h
    split at h
    · cases h; exact sv_doc
    · cases h
  | .expr e, sc, X, g, W, L, Ln, Lk, st, H0, A, held, w, h => by
    unfold ckS at h
    split at h
    · obtain ⟨h1, h2⟩ := orN_ok h
      obtain ⟨h1, h3⟩ := and2 h1
      cases h2
      exact sv_expr (TEv.low (Nat.zero_le _) (fun _ z => z) (chkE_ok e w.w h1).1) (swaps_no h3)
    · cases h
  | .app x e gd, sc, X, g, W, L, Ln, Lk, st, H0, A, held, w, h => by
    unfold ckS at h
    split at h
    · obtain ⟨h1, h2⟩ := orN_ok h
      obtain ⟨h1, h3⟩ := and2 h1
      obtain ⟨h3, h4⟩ := and2 h3
      obtain ⟨h4, h5⟩ := and2 h4
      obtain ⟨h5, h6⟩ := and2 h5
      obtain ⟨h6, h7⟩ := and2 h6
      obtain ⟨h7, h8⟩ := and2 h7
      have := of_decide_eq_true h1
      subst this
      cases h2
      obtain ⟨v1, v2, v3, v4⟩ := vb_of w.w h3
      refine sv_app w.w.er v1 v2 v3 v4 h4 h5 (chkE_ok e w.w h6).1 (Nat.le_of_ble_eq_true h7) ?_ _ ?_ ?_
      · rw [Bool.or_eq_true] at h8
        exact h8.imp (fun z => of_decide_eq_true z) id
      · intro i
        dsimp only
        split
        · exact Nat.le_refl _
        · rw [lvA_set]
          split
          · rename_i hi
            subst hi
            have := Nat.le_of_ble_eq_true h7
            have hz : lvA (dropG gd ((varsE e).filter (· ≠ i)) L) i = lvA L i := by
              unfold dropG
              split
              · rfl
              · have key : ∀ (vs L : List Nat), i ∉ vs → lvA (dropL vs L) i = lvA L i := by
                  intro vs
                  induction vs with
                  | nil => intro L _; rfl
                  | cons j js ih =>
                    intro L hn
                    unfold dropL
                    rw [lvA_set, if_neg (fun z => hn (by rw [z]; exact List.mem_cons_self)), ih L (fun z => hn (List.mem_cons_of_mem _ z))]
                exact key _ _ (by simp)
            rw [hz]
            split <;> omega
          · exact Nat.le_refl _
      · dsimp only
        split
        · rename_i q
          rw [Bool.or_eq_true] at q
          rcases q with q | q
          · exact .inr (.inr q)
          · exact .inr (.inl (Nat.le_of_ble_eq_true q))
        · refine .inl ?_
          rw [lvA_set, if_pos rfl]
          split
          · exact Nat.le_refl _
          · exact Nat.zero_le _
    · cases h
  | .clear x, sc, X, g, W, L, Ln, Lk, st, H0, A, held, w, h => by
    unfold ckS at h
    split at h
    · obtain ⟨h1, h2⟩ := orN_ok h
      obtain ⟨h1, h3⟩ := and2 h1
      obtain ⟨h3, h4⟩ := and2 h3
      obtain ⟨h4, h5⟩ := and2 h4
      have := of_decide_eq_true h1
      subst this
      cases h2
      obtain ⟨v1, v2, v3, v4⟩ := vb_of w.w h3
      exact sv_clear w.w.er v1 v2 v3 v4 h4 (Nat.le_of_ble_eq_true h5)
    · cases h
  | .ret e, sc, X, g, W, L, Ln, Lk, st, H0, A, held, w, h => by
    unfold ckS at h
    split at h
    · rename_i a pos
      obtain ⟨h1, h2⟩ := orN_ok h
      obtain ⟨h1, h3⟩ := and2 h1
      cases h2
      rw [Bool.or_eq_true] at h3
      rcases h3 with h3 | h3
      · exact sv_ret (TEv.low (Nat.le_of_ble_eq_true h3) (fun _ z => z) (chkE_ok e w.w h1).1)
      · split at h3
        · rename_i x
          obtain ⟨q1, q2⟩ := and2 h3
          unfold chkE at h1
          split at h1
          · obtain ⟨v1, v2, v3, v4⟩ := vb_of w.w h1
            exact sv_retO v1 v2 v3 v4 (Nat.le_of_ble_eq_true q1) (Nat.le_of_ble_eq_true q2)
          · cases h1
        · cases h3
    · cases h
  | .retN, sc, X, g, W, L, Ln, Lk, st, H0, A, held, w, h => by
    unfold ckS at h
    split at h
    · cases h; exact sv_retN
    · cases h
  | .ifs c a b, sc, X, g, W, L, Ln, Lk, st, H0, A, held, w, h => by
    unfold ckS at h
    split at h
    · obtain ⟨h1, h2⟩ := orN_ok h
      obtain ⟨x, y, hx, hy, rfl⟩ := bothN_ok h2
      exact sv_if (f1 := exB P cl mk cx a) (f2 := exB P cl mk cx b) (chkE_ok c w.w h1).2.1 (svs_low (ckB_ok a w hx) minL_l) (svs_low (ckB_ok b w hy) minL_r)
    · cases h
  | .forS tg k its body own, sc, X, g, W, L, Ln, Lk, st, H0, A, held, w, h => by
    unfold ckS at h
    split at h
    · rename_i t i b pos
      obtain ⟨h1, h2⟩ := orN_ok h
      obtain ⟨h1, h3⟩ := and2 h1
      obtain ⟨h3, h4⟩ := and2 h3
      obtain ⟨h4, h5⟩ := and2 h4
      split at h2
      · rename_i Lm hb
        obtain ⟨h6, h7⟩ := orN_ok h2
        cases h7
        have key := sv_for (pos := pos) (lv := lv) (H0 := H0) (A := A) (held := held) (L := L) (Lk := Lk) (vs := varsI k its) (fb := exB P cl mk cx body) w.w.er w.hp w.w.calm (chkI_ok (mk := mk) (cx := cx) its k _ w.w (and2 h4).1 (and2 h4).2) (tg_ok w.w h3) (tgO_ok (X := X) (g := g) (tg := tg)) (fun held' => ckB_ok body w hb) (leB_ok h6) (leB_ok h5) h1
        have e1 : (fun e => ((noX k (evL P cl mk cx its e)).bnd (walk P cl k)).st e fun xs => forX (forB tg (exB P cl mk cx body)) xs e) = exS P cl mk cx (.forS tg k its body own) := funext fun e => by
          show _ = (noX k (evL P cl mk cx its e)).st e fun ts => (walk P cl k ts).st e fun xs => forX (forB tg (exB P cl mk cx body)) xs e
          cases noX k (evL P cl mk cx its e) <;> rfl
        rw [← e1]
        exact key
      · cases h2
    · cases h
  | .whileS c body own, sc, X, g, W, L, Ln, Lk, st, H0, A, held, w, h => by
    unfold ckS at h
    split at h
    · obtain ⟨h1, h2⟩ := orN_ok h
      obtain ⟨h1, h3⟩ := and2 h1
      split at h2
      · rename_i c' b pos Lm hb
        obtain ⟨h6, h7⟩ := orN_ok h2
        cases h7
        exact sv_while (fb := exB P cl mk cx body) w.hp (chkE_ok c w.w h1).2.1 (ckB_ok body w hb) (leB_ok h6) (leB_ok h3)
      · cases h2
    · cases h
  | .brk, sc, X, g, W, L, Ln, Lk, st, H0, A, held, w, h => by
    unfold ckS at h
    split at h
    · obtain ⟨h1, h2⟩ := orN_ok h
      exact sv_brk (leB_ok h1)
    · cases h
  | .cont, sc, X, g, W, L, Ln, Lk, st, H0, A, held, w, h => by
    unfold ckS at h
    split at h
    · obtain ⟨h1, h2⟩ := orN_ok h
      exact sv_cont (leB_ok h1)
    · cases h
  | .pass, sc, X, g, W, L, Ln, Lk, st, H0, A, held, w, h => by
    unfold ckS at h
    split at h
    · cases h; exact sv_pass
    · cases h
  | .pop x e, sc, X, g, W, L, Ln, Lk, st, H0, A, held, w, h => by
    unfold ckS at h
    split at h
    · obtain ⟨h1, h2⟩ := orN_ok h
      obtain ⟨h1, h3⟩ := and2 h1
      obtain ⟨h3, h4⟩ := and2 h3
      obtain ⟨h4, h5⟩ := and2 h4
      obtain ⟨h5, h6⟩ := and2 h5
      obtain ⟨h6, h7⟩ := and2 h6
      have := of_decide_eq_true h1
      subst this
      cases h2
      obtain ⟨v1, v2, v3, v4⟩ := vb_of w.w h3
      exact sv_pop w.w.er v1 v2 v3 v4 h4 h5 (chkE_ok e w.w h6).1 (Nat.le_of_ble_eq_true h7)
    · cases h
  | .setIx x i e gd, sc, X, g, W, L, Ln, Lk, st, H0, A, held, w, h => by
    unfold ckS at h
    split at h
    · rename_i y p b p2 a pos
      obtain ⟨h1, h2⟩ := orN_ok h
      obtain ⟨h1, h3⟩ := and2 h1
      obtain ⟨h3, h4⟩ := and2 h3
      obtain ⟨h4, h5⟩ := and2 h4
      obtain ⟨h5, h6⟩ := and2 h5
      obtain ⟨h6, h7⟩ := and2 h6
      obtain ⟨h7, h8⟩ := and2 h7
      cases h2
      obtain ⟨v1, v2, v3, v4⟩ := vb_of w.w h1
      have hb := Nat.le_of_ble_eq_true h7
      refine sv_setIx w.w.er v1 v2 v3 v4 (chkE_ok e w.w h3).1 (chkE_ok i w.w h4).1 hb ?_ (by show swapsWith a (some (.Subscript (.Name y p) b p2)) pos.line X.env = pure false; exact swaps_no h6) (by cases a <;> rfl) h5 (fun k => ?_) ?_
      · rw [Bool.or_eq_true] at h8
        exact h8.imp (fun z => of_decide_eq_true z) id
      · rw [lvA_set]
        split
        · rename_i hk
          subst hk
          rw [dropG_at]
          split <;> omega
        · exact Nat.le_refl _
      · rw [lvA_set, if_pos rfl]
        split <;> omega
    · cases h
  | .par xs es, sc, X, g, W, L, Ln, Lk, st, H0, A, held, w, h => by
    unfold ckS at h
    split at h
    · rename_i i j e1 e2
      split at h
      · obtain ⟨h1, h2⟩ := orN_ok h
        obtain ⟨h1, h3⟩ := and2 h1
        obtain ⟨h3, h4⟩ := and2 h3
        obtain ⟨h4, h5⟩ := and2 h4
        obtain ⟨h5, h6⟩ := and2 h5
        obtain ⟨h6, h7⟩ := and2 h6
        cases h2
        have e1' : (fun e => (evE P cl mk cx e1 e).st e fun t => (evE P cl mk cx e2 e).st e fun u => SR.nx ((e.set i (some t)).set j (some u))) = exS P cl mk cx (.par [i, j] [e1, e2]) := funext fun e => by
          show _ = ((evE P cl mk cx e1 e).bnd fun t => ((evE P cl mk cx e2 e).bnd fun u => (R.ok []).bnd fun xs => R.ok (u :: xs)).bnd fun xs => R.ok (t :: xs)).st e _
          cases evE P cl mk cx e1 e with
          | ok t => cases evE P cl mk cx e2 e <;> rfl
          | exc z => rfl
          | bad => rfl
        rw [← e1']
        exact sv_par2 w.w h1 (of_decide_eq_true h3) (of_decide_eq_true h4) (of_decide_eq_true h5) (TEv.low (m := 0) (Nat.zero_le _) (fun _ z => z) (chkE_ok (mk := mk) (cx := cx) e1 w.w h6).1) (TEv.low (m := 0) (Nat.zero_le _) (fun _ z => z) (chkE_ok (mk := mk) (cx := cx) e2 w.w h7).1)
      · cases h
    · cases h
  | .appPop x z e, sc, X, g, W, L, Ln, Lk, st, H0, A, held, w, h => by
    unfold ckS at h
    split at h
    · obtain ⟨h1, h2⟩ := orN_ok h
      obtain ⟨h1, h3⟩ := and2 h1
      obtain ⟨h1, h1'⟩ := and2 h1
      obtain ⟨h3, h4⟩ := and2 h3
      obtain ⟨h3, h3'⟩ := and2 h3
      obtain ⟨h4, h5⟩ := and2 h4
      obtain ⟨h4, h4'⟩ := and2 h4
      obtain ⟨h5, h6⟩ := and2 h5
      obtain ⟨h6, h7⟩ := and2 h6
      obtain ⟨h7, h8⟩ := and2 h7
      obtain ⟨h7, h7'⟩ := and2 h7
      have := of_decide_eq_true h1
      subst this
      have := of_decide_eq_true h1'
      subst this
      cases h2
      obtain ⟨v1, v2, v3, v4⟩ := vb_of w.w h3
      obtain ⟨u1, u2, u3, u4⟩ := vb_of w.w h3'
      exact sv_appPop w.w.er (of_decide_eq_true h8) v1 v2 v3 v4 u1 u2 u3 u4 h4 h4' h5 (chkE_ok e w.w h6).1 (Nat.le_of_ble_eq_true h7) (Nat.le_of_ble_eq_true h7')
    · cases h
  | .asgT _ _, _, _, _, _, _, _, _, _, _, _, _, _, h => by unfold ckS at h; cases h
  | .aug _ _ _, _, _, _, _, _, _, _, _, _, _, _, _, h => by unfold ckS at h; cases h
  | .popL _, _, _, _, _, _, _, _, _, _, _, _, _, h => by unfold ckS at h; cases h
  | .insert _ _ _, _, _, _, _, _, _, _, _, _, _, _, _, h => by unfold ckS at h; cases h
  | .setIx2 _ _ _ _ _, _, _, _, _, _, _, _, _, _, _, _, _, h => by unfold ckS at h; cases h
  | .app2 _ _ _ _, _, _, _, _, _, _, _, _, _, _, _, _, h => by unfold ckS at h; cases h
  | .pop2 _ _, _, _, _, _, _, _, _, _, _, _, _, _, h => by unfold ckS at h; cases h
  | .clear2 _ _, _, _, _, _, _, _, _, _, _, _, _, _, h => by unfold ckS at h; cases h
  | .remove2 _ _ _, _, _, _, _, _, _, _, _, _, _, _, _, h => by unfold ckS at h; cases h
  | .fldS _ _ _, _, _, _, _, _, _, _, _, _, _, _, _, h => by unfold ckS at h; cases h
  | .raise c es, sc, X, g, W, L, Ln, Lk, st, H0, A, held, w, h => by
    unfold ckS at h
    split at h
    · rename_i x p a as pos pos2
      obtain ⟨h1, h2⟩ := orN_ok h
      obtain ⟨h1, h3⟩ := and2 h1
      obtain ⟨h3, h4⟩ := and2 h3
      obtain ⟨h4, h5⟩ := and2 h4
      obtain ⟨h5, h6⟩ := and2 h5
      obtain ⟨er, he, hq⟩ := List.any_eq_true.mp h5
      obtain ⟨q1, q2⟩ := and2 hq
      have q1 := of_decide_eq_true q1
      have q2 := of_decide_eq_true q2
      obtain ⟨O, hP⟩ := w.w.errs er he
      rw [q1, q2] at O
      rw [q2] at hP
      obtain ⟨j1, j2, j3⟩ := chkL_ok (mk := mk) (cx := cx) es w.w h6
      have key := sv_raise (lv := lv) (H0 := H0) (A := A) (held := held) (L := L) (Ln := Ln) (Lk := Lk) (p := p) (pos := pos) (pos2 := pos2) w.w.calm w.w.tk O (gl_of w.w h1) (ndb_of h3) j3 j1 (fun e ts q => by rw [evL_len q, ← j2]; exact Nat.le_of_ble_eq_true h4)
      have e1 : exS P cl mk cx (.raise c es) = fun e => (evL P cl mk cx es e).st e fun ts => (errT er.2.2 c ts).st e fun x => .exc x e := funext fun e => by
        show (ofO (P.err c)).st e _ = _
        rw [hP]; rfl
      rw [e1]
      exact key
    · cases h
  | .tryS body c x hd ft, sc, X, g, W, L, Ln, Lk, st, H0, A, held, w, hh => by
    unfold ckS at hh
    split at hh
    · rename_i b n0 np nm h0 hr pos' pos
      obtain ⟨h1, h2⟩ := orN_ok hh
      obtain ⟨h1, h3⟩ := and2 h1
      obtain ⟨h3, h4⟩ := and2 h3
      obtain ⟨h4, h5⟩ := and2 h4
      have G1 := gl_of w.w h1
      have G3 := ndb_of h3
      obtain ⟨pr, hp, hq⟩ := List.any_eq_true.mp h4
      obtain ⟨q1, q2⟩ := and2 hq
      have q1 := of_decide_eq_true q1
      have q2 := of_decide_eq_true q2
      have ht := w.w.xt pr hp
      rw [q1, q2] at ht
      rcases ht with ⟨z, _⟩ | ⟨d, ed, m1, m2⟩
      · cases z
      cases ed
      have hx : ∀ k, P.sup k ≠ [] → PySem.W.exmOne X.K (.ref (g.C k)) (.ref (g.C c)) = some ((P.sup k).contains c) := w.w.exm n0 c (by
        have : pr = (n0, .own c) := Prod.ext q1 q2
        rw [← this]; exact hp)
      split at h2
      · rename_i hH
        split at h2
        · rename_i Lm hB
          cases h2
          have hsu : ∀ (i : Nat) (y : Str), y = nm.getD "" → ((!(y == ("" : Str))) = true → X.N[i]? = some y ∧ Vis X.env.scope y ∧ (y == ("__debug__" : Str)) = false ∧ (y == ("__classdict__" : Str)) = false) → ∀ (a : Addr) (oe : Obj) (pn : List (Addr × Obj)) (c : Nat) (ks : List Nat) (us : List T) (dd : Addr), P.sup c ≠ [] → Zc (.ref (g.C c)) (some dd) oe → (∃ vs, oe.data = .fields vs) →
              PSs (X.suite a ((a, oe) :: pn)) (h0 :: hr) (TSv { g with er := some (i, a, c, ks, us, dd) } WF lv H0 A held lv0 lv0 [] (exB P cl mk (some (.ins c ks us)) hd)) := fun i y ey hy a oe pn c ks us dd hs hz hf =>
            ckHB_ok (D := D) (sc := sc) (X := X) (P := P) (cl := cl) (mk := mk) (W := WF) (i := i) (y := y) (g := { g with er := some (i, a, c, ks, us, dd) }) (a := a) (oe := oe) (c := c) (dd := dd) (ks := ks) (us := us) (pn := pn) (H0 := H0) (A := A) (held := held) (Lk := []) { er := rfl, sS := w.w.sS, nm := hy, blts := w.w.blts, an := w.w.an, xt := fun p hp => w.w.xt p hp, sui := ⟨w.w.sui.cls⟩, sup := hs, hz := hz, hf := hf } hd (by rw [ey]; exact hH)
          have e1 : exS P cl mk cx (.tryS body c x hd ft) = tryF P ft x c (exB P cl mk cx body) (fun t => exB P cl mk (some t) hd) := funext fun e => rfl
          rw [e1]
          have lvz : ∀ (ft : Bool), ft = true → ∀ j, lvA (if ft then [] else Lm) j = 0 := fun ft z j => by rw [z]; unfold lvA; simp
          have lvm : ∀ (ft : Bool) j, lvA (if ft then [] else Lm) j ≤ lvA Lm j := fun ft j => by
            cases ft with
            | true => unfold lvA; simp
            | false => exact Nat.le_refl _
          unfold tryB at h5
          split at h5
          · rename_i i n
            obtain ⟨t1, t2⟩ := and2 h5
            obtain ⟨t2, t3⟩ := and2 t2
            obtain ⟨t3, t4⟩ := and2 t3
            have hl : X.env.scope.names.lookup n = some .local := by rw [w.w.sS]; exact kdB_ok t2
            have t4 : (n == ("__classdict__" : Str)) = false := by
              cases q : (n == ("__classdict__" : Str)) with
              | false => rfl
              | true => rw [q] at t4; cases t4
            exact sv_try w.hs w.hf (by rw [w.w.sN]; exact w.w.nd) (by rw [w.w.sN]; exact of_decide_eq_true t1) hl ⟨G1, G3, .inl m1⟩ w.w.tk w.w.er (lvz ft) (lvm ft) hx (fun W' pn xe tk hp => ckB_ok body (w.tr tk hp) hB)
              (hsu i n rfl fun _ => ⟨by rw [w.w.sN]; exact of_decide_eq_true t1, .inl hl, ndb_of t3, t4⟩)
          · exact sv_try0 (i := 1000) w.hs w.hf ⟨G1, G3, .inl m1⟩ w.w.tk w.w.er (lvz ft) (lvm ft) (Nat.le_refl _) hx (fun W' pn xe tk hp => ckB_ok body (w.tr tk hp) hB)
              (hsu 1000 "" rfl fun z => by cases z)
          · cases h5
        · cases h2
      · cases h2
    · cases hh
theorem ckB_ok {lv : Nat} : ∀ (x : List S) {sc : Sc} {X : Cx} {g : Cfg} {W : WX} {L Ln Lk : List Nat} {st : List Stmt} {H0 : Hp} {A : Addr → Prop} {held : List Addr}, Ws D sc X g W P cl mk → ckB D lv x sc L Lk st = some Ln → PSs X st (TSv g W lv H0 A held L Ln Lk (exB P cl mk cx x))
  | [], sc, X, g, W, L, Ln, Lk, st, H0, A, held, w, h => by
    unfold ckB at h
    split at h
    · cases h; exact svs_nil
    · cases h
  | s :: ss, sc, X, g, W, L, Ln, Lk, st, H0, A, held, w, h => by
    unfold ckB at h
    split at h
    · split at h
      · rename_i Lm hm
        exact svs_cons (f1 := exS P cl mk cx s) (f2 := exB P cl mk cx ss) (ckS_ok s w hm) (ckB_ok ss w h)
      · cases h
    · cases h
end
end
end Wt

/-! Snd19: defs. -/
namespace Wt
open PySem PySem.Spec PyProof.Rows L2

/-- a def: where it stands, its names, how new its answer is -/
structure FnI where
  f : Nat
  x : Str
  qual : Str
  params : Arguments
  body : List Stmt
  scope : Scope
  N : List Str
  ps : List Str
  lv : Nat
def zeroL (n : Nat) : List Nat := List.replicate n 0
theorem zeroL_lv {n i : Nat} : lvA (zeroL n) i = 0 := by
  unfold lvA zeroL
  rw [List.getD_eq_getElem?_getD, List.getElem?_replicate]
  split <;> rfl
def scB (N ps : List Str) (scope : Scope) : Bool := (match scope.kind with | .function => true | _ => false) && ((!scope.isCoroutine && !scope.isGenerator) && (decide N.Nodup && (decide (N.take ps.length = ps) && ((ps.all fun x => kdB (scope.names.lookup x) .local || kdB (scope.names.lookup x) .cell) && scope.names.all fun y => match y.2 with | .free => false | _ => true))))
theorem scB_ok {N ps : List Str} {scope : Scope} (h : scB N ps scope = true) : FnScope N ps scope := by
  unfold scB at h
  obtain ⟨h1, h⟩ := and2 h
  obtain ⟨h2, h⟩ := and2 h
  obtain ⟨h2, h3⟩ := and2 h2
  obtain ⟨h4, h⟩ := and2 h
  obtain ⟨h5, h6⟩ := and2 h
  obtain ⟨h6, h7⟩ := and2 h6
  refine ⟨?_, ?_, ?_, of_decide_eq_true h4, of_decide_eq_true h5, fun x hx => ?_, fun y hy e => ?_⟩
  · split at h1
    · assumption
    · cases h1
  · cases q : scope.isCoroutine with
    | false => rfl
    | true => rw [q] at h2; cases h2
  · cases q : scope.isGenerator with
    | false => rfl
    | true => rw [q] at h3; cases h3
  · have := List.all_eq_true.mp h6 x hx
    rw [Bool.or_eq_true] at this
    exact this.imp kdB_ok kdB_ok
  · have := List.all_eq_true.mp h7 y hy
    rw [e] at this
    cases this
/-- a def against its tree -/
def fnB (D : Dat) (Pr : Prog) (i : FnI) : Bool := match Pr.fn i.f with
  | some d => scB i.N i.ps i.scope && (decide (d.np = i.ps.length) && (decide (d.ns = i.N.length) && (Nat.ble i.ps.length i.N.length && (ckB D i.lv d.body ⟨i.N, i.scope, true, i.scope⟩ (zeroL i.N.length) [] i.body).isSome)))
  | none => false

section
variable {P : Program} {w : World} {K : PySem.W.Frag} {mg : Str → Option Value} {base : Heap} {g : Cfg} {D : Dat} {Pr : Prog}
/-- what the body's scope is told -/
def BodyWd (P : Program) (w : World) (K : PySem.W.Frag) (mg : Str → Option Value) (base : Heap) (g : Cfg) (D : Dat) (Pr : Prog) (k n : Nat) : Prop :=
  ∀ (sc : Sc) (X : Cx) (W : WX), X.prog = P → X.w = w → X.K = K → X.mg = mg → X.base = base → Room k X.A → Takes X W → X.calm = true → X.N = sc.N → sc.N.Nodup → X.env.scope = sc.scope → (∀ x, X.fn x = true) → Wd D sc X g W Pr (run Pr n) (make Pr n)
theorem fn_ok {i : FnI} {dvs : List V} {kws : List (Str × V)} {fa : Addr} {fd : FuncData} {k n : Nat} (F : FunD K i.x i.qual i.params i.body i.scope dvs kws fa fd) (ck : fnB D Pr i = true) (hw : BodyWd P w K mg base g D Pr k n) (hg : g.er = none) :
    FnOk P w K mg base (L2.CX P w) (k + 1) fa fd i.ps (spOf g i.ps.length i.lv (run Pr (n + 1) i.f)) := by
  unfold fnB at ck
  cases qd : Pr.fn i.f with
  | none => rw [qd] at ck; cases ck
  | some d =>
    rw [qd] at ck
    obtain ⟨c1, c2⟩ := and2 ck
    obtain ⟨c2, c3⟩ := and2 c2
    obtain ⟨c3, c4⟩ := and2 c3
    obtain ⟨c4, c5⟩ := and2 c4
    have np := of_decide_eq_true c2
    have ns := of_decide_eq_true c3
    have SC := scB_ok c1
    obtain ⟨Ln, hck⟩ := Option.isSome_iff_exists.mp c5
    refine F.ok SC (fun vs H Q E h => h.1) fun cdv A outer s H vs Q E hr h => ?_
    obtain ⟨hl, ts, Fa, rL, h⟩ := h
    have ws : Ws D ⟨i.N, i.scope, true, i.scope⟩ (cxOf (L2.CX P w) P w K mg base i.N i.qual i.scope fa cdv A outer s H E) g (fun c d _ H' => E c d H') Pr (run Pr n) (make Pr n) :=
      ⟨hw _ _ _ rfl rfl rfl rfl rfl hr (takes_of (E₁ := fun e' s'' => L2.CX P w outer H s E e' s'') rfl rfl rfl rfl) rfl rfl SC.nd rfl (fun _ => rfl), passes_of (K := fun e s'' => L2.CX P w outer H s E e s'') (E₁ := fun e' s'' => L2.CX P w outer H s E e' s'') rfl, rfl, rfl⟩
    refine ⟨_, ckB_ok (mk := make Pr n) (cx := none) d.body (H0 := H) (A := fun b => b ∈ Fa) (held := []) ws hck, ?_⟩
    obtain ⟨Fs, f1, f2, f3⟩ := rL.slots
    have hts : ts.length = i.ps.length := by rw [← rL.len, hl]
    refine ⟨Wt.start d ts, Fs, ⟨⟨?_, fun j t q => ?_, by unfold ErrCx; rw [hg]; trivial⟩, fun j q => ?_, .refl H, fun j b hb => .inr (f2 j b hb), (fun b z => by cases z), (fun b z => by cases z), fun j t q => ?_⟩, ?_⟩
    · unfold L2.start Wt.start
      rw [List.length_append, List.length_append, List.length_map, List.length_map, List.length_replicate, List.length_replicate, ns, hl, hts]
    · unfold Wt.start at q
      obtain ⟨v, v1, v2⟩ := f1 j t (start_get (β := Nat) q)
      exact ⟨v, start_of v1, v2⟩
    · intro b hb
      rw [f3 j ?_] at hb
      · cases hb
      rcases Nat.lt_or_ge j ts.length with z | z
      · exact absurd (start_of (by simp [z] : ts[j]? = some ts[j])) (q _)
      · exact z
    · rw [zeroL_lv]; exact Own.zero
    · have h : Out g (fun c d _ H' => E c d H') i.lv (fun b => b ∈ Fa) [] H Q (match Pr.fn i.f with | some d => chk (ts.length == d.np) (exB Pr (run Pr n) (make Pr n) none d.body (Wt.start d ts)).out | none => .bad) := h
      rw [qd] at h
      obtain ⟨_, h⟩ := Out.chk h
      revert h
      cases exB Pr (run Pr n) (make Pr n) none d.body (Wt.start d ts) with
      | nx e => exact fun h σ' H' Fs' S _ => h .non H' [] S.ext (by rw [rep_n]; exact ⟨rfl, rfl⟩) (lv_of fun _ z => by cases z) (fun _ z => by cases z)
      | rt t => exact fun h v H' F a b c d _ => h v H' F a b c d
      | exc x e => exact fun h cls d σ' H' Fs' S r _ => h cls d H' S.ext r
      | bk e => exact fun h => h.elim
      | ct e => exact fun h => h.elim
      | bad => exact fun h => h.elim
/-- at level 0 nothing is promised -/
theorem fn_zero {fa : Addr} {fd : FuncData} {ps : List Str} {lv f k : Nat} : FnOk P w K mg base (L2.CX P w) k fa fd ps (spOf g ps.length lv (run Pr 0 f)) :=
  ⟨fun vs H Q E h => h.1, fun A outer s H args us vs Q E _ _ _ _ h => by
    obtain ⟨_, ts, F, _, h⟩ := h
    exact (show False from h).elim⟩
end
end Wt

/-! Snd29: what the head tells of the classes of errors. -/
namespace Wt
open PySem PySem.Spec PyProof.Rows L2

/-- the class object of an error -/
def errCB (K : PySem.W.Frag) (C : Addr) : Bool := match K.lookup C with
  | some ⟨.type t, _, .cls cd, sl⟩ => (match cd.mro, sl.toList with
    | .ref C' :: bm, [_, _, _, _, some (.builtin n), _] => decide (t = "type") && (decide (C' = C) && (decide (n = "ValueError.__new__") && (!cd.hasDel && (cd.hasDict && HandSPX.refsVE bm))))
    | _, _ => false)
  | _ => false
theorem errCB_ok {K : PySem.W.Frag} {C : Addr} (h : errCB K C = true) : ∃ nm q N bs bm sn sub ab col dd k0 k1 k2 k3 k5, K.lookup C = some (excClassObj nm q C N bs bm true sn sub ab col dd k0 k1 k2 k3 k5 "ValueError.__new__") ∧ PySem.HandSPX.refsVE bm = true := by
  unfold errCB at h
  split at h
  · rename_i t dd cd sl ho
    split at h
    · rename_i C' bm k0 k1 k2 k3 n k5 hm hs
      obtain ⟨h1, h⟩ := and2 h
      obtain ⟨h2, h⟩ := and2 h
      obtain ⟨h3, h⟩ := and2 h
      obtain ⟨h4, h⟩ := and2 h
      obtain ⟨h5, h6⟩ := and2 h
      have e1 := of_decide_eq_true h1
      have e2 := of_decide_eq_true h2
      have e3 := of_decide_eq_true h3
      subst e1 e2 e3
      obtain ⟨nm, bs, mro, ns, qn, hd, sn, sub, ab, col, del⟩ := cd
      dsimp only at hm h4 h5
      subst hm
      have hdel : del = false := by cases del with | false => rfl | true => cases h4
      have hdc : hd = true := h5
      subst hdel hdc
      have hsl : sl = #[k0, k1, k2, k3, some (.builtin "ValueError.__new__"), k5] := by
        apply Array.ext'
        rw [hs]
      subst hsl
      exact ⟨nm, qn, ns, bs, bm, sn, sub, ab, col, dd, k0, k1, k2, k3, k5, ho, h6⟩
    · cases h
  · cases h
def isSomeN (o : Option (Option Value)) : Bool := match o with
  | some none => true
  | _ => false
theorem isSomeN_ok {o : Option (Option Value)} (h : isSomeN o = true) : o = some none := by
  unfold isSomeN at h
  split at h
  · rfl
  · cases h
/-- the class x, its __init__ of the class y, the fields' names -/
def errB (K : PySem.W.Frag) (x y : Str) (fs : List Str) : Bool := errCB K (He.ga K x) && (He.eqO (PySem.W.nsIn K mainGlobals x) (some (some (.ref (He.ga K x)))) && (He.eqO (PySem.W.findIn K (.ref (He.ga K x)) "__setattr__") (some (some (.builtin "object.__setattr__"))) &&
  (decide (PySem.W.subIn K (.ref (He.ga K x)) (.type "BaseException") = some true) && (decide (PySem.W.typeIn K (.ref (He.ga K x)) = some (.type "type")) && (PySem.W.keepIn K (.ref (He.ga K x)) &&
  ((PySem.W.clsIn K (He.ga K y)).isSome && (decide (PySem.W.mroIn K (He.ga K x) (.ref (He.ga K y)) = some true) && (decide (PySem.W.subIn K (.ref (He.ga K x)) (.type "ValueError") = some true) && (isSomeN (PySem.W.nsIn K PySem.cStatics "thirdparty.any") &&
  (He.eqO (PySem.W.ks_superIn K (He.ga K x) (He.ga K y) "__init__") (some (some (.builtin "ValueError.__init__"))) && (He.eqO (PySem.W.findIn K (.ref (He.ga K x)) "__init__") (some (some (.ref (He.ma K (He.ga K y) "__init__")))) &&
  (decide (PySem.W.typeIn K (.ref (He.ma K (He.ga K y) "__init__")) = some (.type "function")) && fs.all fun f => isSomeN (PySem.W.findIn K (.ref (He.ga K x)) f)))))))))))))
structure ErrF (K : PySem.W.Frag) (x y : Str) (fs : List Str) : Prop where
  sup : SupC K (He.ga K y) (He.ga K x)
  nm : PySem.W.nsIn K mainGlobals x = some (some (.ref (He.ga K x)))
  ini : PySem.W.findIn K (.ref (He.ga K x)) "__init__" = some (some (.ref (He.ma K (He.ga K y) "__init__")))
  fnT : PySem.W.typeIn K (.ref (He.ma K (He.ga K y) "__init__")) = some (.type "function")
  no : ∀ f ∈ fs, PySem.W.findIn K (.ref (He.ga K x)) f = some none
theorem errB_ok {K : PySem.W.Frag} {x y : Str} {fs : List Str} (h : errB K x y fs = true) : ErrF K x y fs := by
  unfold errB at h
  obtain ⟨h1, h⟩ := and2 h
  obtain ⟨h2, h⟩ := and2 h
  obtain ⟨h3, h⟩ := and2 h
  obtain ⟨h4, h⟩ := and2 h
  obtain ⟨h5, h⟩ := and2 h
  obtain ⟨h6, h⟩ := and2 h
  obtain ⟨h7, h⟩ := and2 h
  obtain ⟨h8, h⟩ := and2 h
  obtain ⟨h9, h⟩ := and2 h
  obtain ⟨h10, h⟩ := and2 h
  obtain ⟨h11, h⟩ := and2 h
  obtain ⟨h12, h⟩ := and2 h
  obtain ⟨h13, h14⟩ := and2 h
  exact ⟨⟨⟨errCB_ok h1, He.eqO_ok h3, of_decide_eq_true h4, of_decide_eq_true h5, h6⟩, Option.isSome_iff_exists.mp h7, of_decide_eq_true h8, of_decide_eq_true h9, isSomeN_ok h10, He.eqO_ok h11⟩, He.eqO_ok h2, He.eqO_ok h12, of_decide_eq_true h13, fun f hf => isSomeN_ok (List.all_eq_true.mp h14 f hf)⟩
/-- what a suite asks of the class x -/
def suiB (K : PySem.W.Frag) (x : Str) (fls : List Str) : Bool := (PySem.W.clsIn K (He.ga K x)).isSome && (xfB K (He.ga K x) && ((fls.all fun f => isSomeN (PySem.W.findIn K (.ref (He.ga K x)) f)) && (He.eqO (PySem.W.findIn K (.ref (He.ga K x)) "__class__") (some (some (.builtin "object.__class__"))) &&
  (He.eqO (PySem.W.specialIn K (.builtin "object.__class__") "__get__") (some (some (.builtin "getset_descriptor.__get__"))) && (decide (PySem.W.takesIn K (.builtin "object.__class__") = some true) && decide (PySem.W.mroIn K (He.ga K x) (.type "object") = some true))))))
/-- what the class x is to the class z -/
def kinB (K : PySem.W.Frag) (x z : Str) (b : Bool) : Bool := decide (PySem.W.kitOne K (.ref (He.ga K x)) (.ref (He.ga K z)) = some b) && decide (PySem.W.exmOne K (.ref (He.ga K x)) (.ref (He.ga K z)) = some b)
def veB (K : PySem.W.Frag) (x : Str) : Bool := decide (PySem.W.kitOne K (.ref (He.ga K x)) (.type "ValueError") = some true)

/-! ### an __init__ -/
/-- such a def: where it stands, its name in full, parameters, body, scope, its names, the parameters' names, the fields -/
structure IniX where
  at_ : Str
  qual : Str
  params : Arguments
  body : List Stmt
  scope : Scope
  N : List Str
  ps : List Str
  fs : List (Nat × Bool)
abbrev FnV : Type := Option (Str × Str × Arguments × FuncBody × Scope × Addr × List Str × Addr)
def fnV (K : PySem.W.Frag) (y : Str) : FnV := match K.lookup (He.ma K (He.ga K y) "__init__") with
  | some ⟨_, _, .func fd, _⟩ => some (fd.name, fd.qualname, fd.params, fd.body, fd.scope, fd.globals, fd.closure.map (·.1), fd.builtins)
  | _ => none
def IniX.val (d : IniX) : FnV := some ("__init__", d.qual, d.params, .stmts d.body, d.scope, mainGlobals, ["__class__"], builtinsNs)
/-- its code object, its cell -/
def iniB (K : PySem.W.Frag) (file : Str) (y qual : Str) : Bool := match K.lookup (He.ma K (He.ga K y) "__init__") with
  | some ⟨_, _, .func fd, _⟩ => (match fd.defaults with | .none => true | _ => false) && (PySem.W.codeIn K fd.code qual && ((match fd.closure with
    | [(_, c)] => (match K.lookup c with
      | some ⟨_, _, .cell (some (.ref D)), _⟩ => decide (D = He.ga K y)
      | _ => false)
    | _ => false) && (match fd.code with
    | .ref c => (match K.lookup c with
      | some ⟨_, _, .fields vs, _⟩ => (match (vs[2]? : Option Value) with
        | some (.str f _) => f == file
        | _ => false)
      | _ => false)
    | _ => false)))
  | _ => false
/-- the written form -/
def iniC (an : Nat → Str) (d : IniX) : Bool := (match d.body with
  | .Expr (.Call (.Attribute (.Call (.Name s _) [] [] _) m p2) [.Constant (.str _) _ _] [] p4) _ :: rest => decide (s = "super") && (decide (m = "__init__") && ((p2.endLine == p4.line) && fldsB d.N d.scope an d.fs 1 rest))
  | _ => false) && (decide (d.fs.map (·.1)).Nodup && (decide (d.ps.length = d.fs.length + 1) && (!d.fs.isEmpty && Nat.ble d.fs.length 900)))
def scXB (N ps : List Str) (sc : Scope) : Bool := (match sc.kind with | .function => true | _ => false) && ((!sc.isCoroutine && !sc.isGenerator) && (decide N.Nodup && (decide (N.take ps.length = ps) && ((ps.all fun x => kdB (sc.names.lookup x) .local) &&
  ((sc.names.all fun y => match y.2 with | .free => decide (y.1 = "__class__") | .cell => false | _ => true) && (kdB (sc.names.lookup ("__class__" : Str)) .free && kdB (sc.names.lookup ("super" : Str)) .globalImplicit))))))
theorem scXB_ok {N ps : List Str} {sc : Scope} (h : scXB N ps sc = true) : ScX N ps sc := by
  unfold scXB at h
  obtain ⟨h1, h⟩ := and2 h
  obtain ⟨h2, h⟩ := and2 h
  obtain ⟨h2, h3⟩ := and2 h2
  obtain ⟨h4, h⟩ := and2 h
  obtain ⟨h5, h⟩ := and2 h
  obtain ⟨h6, h⟩ := and2 h
  obtain ⟨h7, h⟩ := and2 h
  obtain ⟨h8, h9⟩ := and2 h
  refine ⟨?_, ?_, ?_, of_decide_eq_true h4, of_decide_eq_true h5, fun x hx => kdB_ok (List.all_eq_true.mp h6 x hx), fun y hy e => ?_, fun y hy e => ?_, kdB_ok h8, kdB_ok h9⟩
  · split at h1
    · assumption
    · cases h1
  · cases q : sc.isCoroutine with
    | false => rfl
    | true => rw [q] at h2; cases h2
  · cases q : sc.isGenerator with
    | false => rfl
    | true => rw [q] at h3; cases h3
  · have := List.all_eq_true.mp h7 y hy
    rw [e] at this
    exact of_decide_eq_true this
  · have := List.all_eq_true.mp h7 y hy
    rw [e] at this
    cases this
section
variable {P : Program} {K : PySem.W.Frag} {mg : Str → Option Value} {g : Cfg}
theorem ini_ok {d : IniX} {y : Str} (e : fnV K y = d.val) (hB : iniB K P.main.file y d.qual = true) (hC : iniC g.an d = true) (hS : scXB d.N d.ps d.scope = true) (hp : (d.params.posonlyargs ++ d.params.args).head?.map (·.arg) = d.ps.head?)
    (htop : (P.main.scope.names.lookup ("super" : Str)).isSome = false) (hm : mg "super" = none) (hm2 : mg "tuple" = none) (her : g.er = none) (inj : ∀ j k, g.an j = g.an k → j = k)
    (hbind : ∀ (kV doc pm : Value) (an : Option Addr) (cdv ct : Value) (cc : Addr) (us : List Value), us.length = d.ps.length → bindArgs (PySem.W.fnX "__init__" d.qual d.params d.body d.scope [("__class__", cc)] .none kV doc pm an cdv ct) ⟨us, []⟩ = pure (d.ps.zip us)) :
    ∃ fd, (∀ (w : World) (base : Heap) (k : Nat), FnOk P w K mg base (L2.CX P w) (k + 1) (He.ma K (He.ga K y) "__init__") fd d.ps (spE g K (He.ga K y) d.fs)) ∧ Binds K fd d.ps [] := by
  obtain ⟨at_, qual, params, body, scope, N, ps, fs⟩ := d
  unfold fnV IniX.val at e
  unfold iniB at hB
  cases q : K.lookup (He.ma K (He.ga K y) "__init__") with
  | none => rw [q] at e; cases e
  | some o =>
    obtain ⟨oc, od, dt, osl⟩ := o
    rw [q] at e hB
    cases dt with
    | func fd =>
      obtain ⟨n1, n2, n3, n4, n5, n6, n7, n8, n9, n10, n11, n12, n13, n14, n15⟩ := fd
      have e2 : (some (n1, n2, n3, n4, n5, n6, n7.map (·.1), n15) : FnV) = (some (("__init__" : Str), qual, params, FuncBody.stmts body, scope, mainGlobals, [("__class__" : Str)], builtinsNs) : FnV) := e
      simp only [Option.some.injEq, Prod.mk.injEq] at e2
      obtain ⟨h1, h2, h3, h4, h5, h6, h7, h8⟩ := e2
      subst h1 h2 h3 h4 h5 h6 h8
      dsimp only at hB
      obtain ⟨b0, hB2⟩ := and2 hB
      clear hB
      have hdf : n8 = .none := by
        cases n8 <;> first | rfl | cases b0
      subst hdf
      obtain ⟨b1, b2⟩ := and2 hB2
      obtain ⟨b2, b3⟩ := and2 b2
      cases n7 with
      | nil => exact absurd (congrArg List.length h7) (by simp)
      | cons c7 r7 =>
        cases r7 with
        | cons _ _ => exact absurd (congrArg List.length h7) (by simp)
        | nil =>
          obtain ⟨cn, cc⟩ := c7
          have hcn : cn = ("__class__" : Str) := (List.cons.inj h7).1
          subst hcn
          dsimp only at b2
          split at b2
          · rename_i ccl ccd D ccs hcell
            have eD := of_decide_eq_true b2
            subst eD
            split at b3
            · rename_i cda
              split at b3
              · rename_i lc ld vs ls hcd
                split at b3
                · rename_i f tf hvs
                  have hf : ((P.main.file : Str) == f) = true := by
                    have := eq_of_beq b3
                    rw [this]; exact beq_self_eq_true _
                  unfold iniC at hC
                  obtain ⟨c1, cR⟩ := and2 hC
                  dsimp only at c1
                  split at c1
                  · rename_i s p0 p1 m p2 tx j p3 p4 p5 rest
                    obtain ⟨c2, cR⟩ := and2 cR
                    obtain ⟨c3, cR⟩ := and2 cR
                    obtain ⟨c4, c5⟩ := and2 cR
                    dsimp only at c2 c3 c4 c5
                    obtain ⟨d1, d2⟩ := and2 c1
                    obtain ⟨d2, d3⟩ := and2 d2
                    obtain ⟨d3, d4⟩ := and2 d3
                    have d1 := of_decide_eq_true d1
                    have d2 := of_decide_eq_true d2
                    subst d1 d2
                    have hps := of_decide_eq_true c3
                    dsimp only at hp hS hbind
                    cases ps with
                    | nil => simp at hps
                    | cons p0' pr =>
                      cases ha : (n3.posonlyargs ++ n3.args).head? with
                      | none => rw [ha] at hp; cases hp
                      | some ar =>
                        rw [ha] at hp
                        have har : ar.arg = p0' := by simpa using hp
                        refine ⟨_, fun w base k => ex_fn q b1 (scXB_ok hS) ha (by rw [har]; rfl) hcd hvs hf htop hcell hm hm2 d3 her inj d4 (of_decide_eq_true c2) hps (not_empty c4) (Nat.le_of_ble_eq_true c5), Binds.all fun us hl => hbind _ _ _ _ _ _ _ us hl⟩
                  · cases c1
                · cases b3
              · cases b3
            · cases b3
          · cases b2
    | _ => cases e
end

/-! ### the hook -/
def frE (g : Addr → Option Obj) (n : Nat) : PySem.W.Frag := He.frG g (PySem.cStatics :: He.asD g n)
abbrev AlE : Type := He.AlD × List FnV × Bool
def obsE (n : Nat) (fa : List He.Fa) (fn : List He.DefD) (ys : List IniX) (ex : PySem.W.Frag → Bool) (g : Addr → Option Obj) : AlE := (He.obsD fa fn (frE g n), ys.map (fun d => fnV (frE g n) d.at_), ex (frE g n))
def SaysE (fa : List He.Fa) (fn : List He.DefD) (ys : List IniX) (ex : PySem.W.Frag → Bool) (K : PySem.W.Frag) : Prop := He.SaysD fa fn K ∧ (ys.map fun d => fnV K d.at_) = ys.map IniX.val ∧ ex K = true
def hookE (n : Nat) (fa : List He.Fa) (fn : List He.DefD) (ys : List IniX) (ex : PySem.W.Frag → Bool) : PySem.W.Hook where
  α := AlE
  obs := fun s => obsE n fa fn ys ex s.heap.get?
  val := fun _ => (He.valD fn, ys.map IniX.val, true)
  says := fun _ h => ∃ K : PySem.W.Frag, K.In h ∧ SaysE fa fn ys ex K
  of := fun _ _ e => ⟨_, He.frG_in, congrArg (fun z : AlE => z.1) e, congrArg (fun z : AlE => z.2.1) e, congrArg (fun z : AlE => z.2.2) e⟩
  keeps := fun _ _ _ ⟨K, hK, c⟩ k => ⟨K, PySem.W.Frag.In.keeps hK k, c⟩
theorem obsE_eq {n : Nat} {fa : List He.Fa} {fn : List He.DefD} {ys : List IniX} {ex : PySem.W.Frag → Bool} {g : Addr → Option Obj} {s : Shared} (h : ∀ a, g a = s.heap.get? a) : obsE n fa fn ys ex g = (hookE n fa fn ys ex).obs s := by
  have e : g = s.heap.get? := funext h
  rw [e] <;> rfl
end Wt

/-! Snd34: an instance's __init__. -/
namespace Wt
open PySem PySem.Spec PyProof.Rows L2

/-! ### a configuration that pins an address -/
structure AgX (g g' : Cfg) : Prop where
  K : g'.K = g.K
  an : g'.an = g.an
  C : ∀ c, c ≠ 1000 → g'.C c = g.C c
def pinC (g : Cfg) (x : Addr) : Cfg := ⟨fun c => if c = 1000 then x else g.C c, g.an, g.K, g.er⟩
theorem pinC_ag (g : Cfg) (x : Addr) : AgX g (pinC g x) := ⟨rfl, rfl, fun c hc => if_neg hc⟩
theorem pinC_ag' (g : Cfg) (x : Addr) : AgX (pinC g x) g := ⟨rfl, rfl, fun c hc => (if_neg hc).symm⟩
theorem Rep.ag {g g' : Cfg} (h : AgX g g') {H : Hp} : ∀ {t : T} {v : V} {F : List Addr}, noCls t = true → Rep g H t v F → Rep g' H t v F := by
  intro t
  refine T.rec (motive_1 := fun t => ∀ {v : V} {F : List Addr}, noCls t = true → Rep g H t v F → Rep g' H t v F) (motive_2 := fun ts => ∀ {v : List V} {F : List Addr}, noClsL ts = true → RepL g H ts v F → RepL g' H ts v F) ?_ ?_ ?_ ?_ ?_ ?_ ?_ ?_ ?_ ?_ ?_ t
  · intro v F _ r; rw [Rep] at r ⊢; exact r
  · intro b v F _ r; rw [Rep] at r ⊢; exact r
  · intro b v F _ r; rw [Rep] at r ⊢; exact r
  · intro b v F _ r; rw [Rep] at r ⊢; exact r
  · intro xs ih v F n r
    rw [Rep] at r ⊢
    obtain ⟨a, vs, e, h1, h2⟩ := r
    exact ⟨a, vs, e, h1, ih n h2⟩
  · intro xs ih v F n r
    rw [Rep] at r ⊢
    obtain ⟨a, vs, G, e, h1, h2, h3⟩ := r
    exact ⟨a, vs, G, e, h1, ih n h2, h3⟩
  · intro c ks vs ih v F n r
    rw [Rep] at r ⊢
    obtain ⟨a, dx, fv, G, ev, h1, h2, h3, h4⟩ := r
    have n : (!(c == 1000) && noClsL vs) = true := n
    obtain ⟨n1, n2⟩ := and2 n
    have hc : c ≠ 1000 := fun z => by rw [z] at n1; cases n1
    exact ⟨a, dx, fv, G, ev, by rw [h.C c hc]; exact h1, by rw [h.an]; exact h2, ih n2 h3, h4⟩
  · intro b v F n r; cases n
  · intro b v F _ r
    rw [Rep] at r ⊢
    rw [h.K]
    exact r
  · intro v F _ r; rw [RepL] at r ⊢; exact r
  · intro t ts ih1 ih2 v F n r
    rw [RepL] at r ⊢
    have n : (noCls t && noClsL ts) = true := n
    obtain ⟨n1, n2⟩ := and2 n
    obtain ⟨w, vr, F1, F2, e, h1, h2, h3⟩ := r
    exact ⟨w, vr, F1, F2, e, ih1 n1 h1, ih2 n2 h2, h3⟩
theorem RepL.ag {g g' : Cfg} (h : AgX g g') {H : Hp} : ∀ {ts : List T} {vs : List V} {F : List Addr}, noClsL ts = true → RepL g H ts vs F → RepL g' H ts vs F
  | [], vs, F, _, r => by rw [RepL] at r ⊢; exact r
  | t :: ts, vs, F, n, r => by
    rw [RepL] at r ⊢
    have n : (noCls t && noClsL ts) = true := n
    obtain ⟨n1, n2⟩ := and2 n
    obtain ⟨w, vr, F1, F2, e, h1, h2, h3⟩ := r
    exact ⟨w, vr, F1, F2, e, h1.ag h n1, RepL.ag h n2 h2, h3⟩
theorem noClsL_at : ∀ {ts : List T} {i : Nat} {t : T}, noClsL ts = true → ts[i]? = some t → noCls t = true
  | [], i, t, _, h => by simp at h
  | x :: xs, 0, t, n, h => by
    have n : (noCls x && noClsL xs) = true := n
    cases h
    exact (and2 n).1
  | x :: xs, i + 1, t, n, h => by
    have n : (noCls x && noClsL xs) = true := n
    exact noClsL_at (and2 n).2 (by simpa using h)
theorem RepX.ag {g g' : Cfg} (h : AgX g g') {H : Hp} {x : T} {cls : Value} {d : Option Addr} {Av : Addr → Prop} (n : noCls x = true) (r : RepX g H x cls d Av) : RepX g' H x cls d Av := by
  obtain ⟨c, ks, ts, e1, e2, dd, fs, e3, e4, e5⟩ := r
  subst e1
  have n : (!(c == 1000) && noClsL ts) = true := n
  obtain ⟨n1, n2⟩ := and2 n
  have hc : c ≠ 1000 := fun z => by rw [z] at n1; cases n1
  refine ⟨c, ks, ts, rfl, by rw [h.C c hc]; exact e2, dd, fs, e3, e4, fun i k t h1 h2 => ?_⟩
  obtain ⟨v, F, p, q, z⟩ := e5 i k t h1 h2
  exact ⟨v, F, by rw [h.an]; exact p, q.ag h (noClsL_at n2 h2), z⟩
/-! ### a block whose end is another's -/
/-- the first statements against their trees; what is left -/
def ckT (D : Dat) : List S → Sc → List Nat → List Nat → List Stmt → Option (List Stmt)
  | [], _, _, _, st => some st
  | x :: xs, sc, L, Lk, st => match st with
    | s :: r => (match ckS D 0 x sc L Lk s with
      | some L' => ckT D xs sc L' Lk r
      | none => none)
    | [] => none
section
variable {D : Dat} {P : Prog} {cl mk : Nat → List T → R T} {cx : Option T}
theorem ckT_ok : ∀ (x : List S) {sc : Sc} {X : Cx} {g : Cfg} {W : WX} {L Lk : List Nat} {st r : List Stmt} {H0 : Hp} {A : Addr → Prop} {held : List Addr} {t : TS}, Ws D sc X g W P cl mk → ckT D x sc L Lk st = some r → PSs X r t →
    ∃ Ln, PSs X st fun En σ H => TSv g W 0 H0 A held L Ln Lk (exB P cl mk cx x) { En with nx := fun σ' H' => t En σ' H' } σ H
  | [], sc, X, g, W, L, Lk, st, r, H0, A, held, t, w, h, ht => by
    unfold ckT at h
    cases h
    exact ⟨L, PSs.imp ht fun En σ H ⟨e, Fs, S, k⟩ => k σ H Fs S .refl⟩
  | s :: ss, sc, X, g, W, L, Lk, st, r, H0, A, held, t, w, h, ht => by
    unfold ckT at h
    split at h
    · rename_i a rest
      split at h
      · rename_i L' hm
        obtain ⟨Ln, q⟩ := ckT_ok ss (H0 := H0) (A := A) (held := held) w h ht
        refine ⟨Ln, PSs.imp (pss_cons (ckS_ok (mk := mk) (cx := cx) s w hm) q) fun En σ H ⟨e, Fs, S, k⟩ => ⟨e, Fs, S, ?_⟩⟩
        have k : OutS g W 0 H0 A held Ln Lk { En with nx := fun σ' H' => t En σ' H' } H ((exS P cl mk cx s e).seq fun e' => exB P cl mk cx ss e') := k
        revert k
        cases exS P cl mk cx s e with
        | nx e1 => exact fun k σ' H' Fs' S' kk => ⟨e1, Fs', S', k.kp kk⟩
        | rt t => exact id
        | bk e1 => exact id
        | ct e1 => exact id
        | exc x e1 => exact id
        | bad => exact id
      · cases h
    · cases h
end

/-! ### the fields -/
/-- self.f = .. against the fields -/
def ckF (D : Dat) (sc : Sc) : List (Nat × Bool × E) → List Stmt → Bool
  | [], [] => true
  | (f, g, a) :: r, st :: sts => (match st with
    | .Assign [.Attribute (.Name s _) x _] e _ => decide (x = D.an f) && ((decide (sc.N[0]? = some s) && (kdB (sc.scope.names.lookup s) .local && (ndb s && !(s == ("__classdict__" : Str))))) && (notComp e && (chkE D a sc e && (g || !(varsE a).contains 0))))
    | _ => false) && ckF D sc r sts
  | _, _ => false
section
variable {D : Dat} {Pr : Prog} {cl mk : Nat → List T → R T} {sc : Sc} {X : Cx} {g : Cfg} {W : WX}
theorem putF_new {f : Str} {v : V} : ∀ {fs : List (Str × V)}, f ∉ fs.map (·.1) → L2.putF f v fs = fs ++ [(f, v)]
  | [], _ => rfl
  | (k, x) :: r, h => by
    have h1 : k ≠ f := fun z => h (by rw [z]; exact List.mem_cons_self)
    unfold L2.putF
    rw [if_neg h1, putF_new fun z => h (List.mem_cons_of_mem _ z)]
    rfl
theorem kp_ins {H H' : Hp} {x C dx : Addr} {fv : List (Str × V)} {F : List Addr} (h : H x = some (.ins C dx fv)) (k : ∀ b, b ≠ x → H' b = H b) (hF : x ∉ F) : Kp H H' F :=
  ⟨fun b hb o q => by rw [k b fun z => hF (z ▸ hb)]; exact q, fun b xs q => by rw [k b fun z => by rw [z, h] at q; cases q]; exact q, fun b o u q => by rw [k b fun z => by rw [z, h] at q; cases q]; exact q⟩
theorem get_set0 {e : Env} {t : T} {i : Nat} (hi : i ≠ 0) : (e.set 0 (some t))[i]? = e[i]? := List.getElem?_set_ne (fun z => hi z.symm)
theorem fldI_ok {c : Nat} (w : Wd D sc X g W Pr cl mk) (inj : ∀ j k, g.an j = g.an k → j = k) (hc : Cls X.K (g.C c)) : ∀ {fls : List (Nat × Bool × E)} {sts : List Stmt} {ks : List Nat}, ckF D sc fls sts = true → (ks ++ fls.map (·.1)).Nodup → (∀ p ∈ fls, NoAttr X.K (g.C c) (g.an p.1)) →
    ∃ t, PSs X sts t ∧ ∀ (vs : List T) (En : Ends) (σ : L2.St) (H : Hp) (e : Env) (Fs : Nat → List Addr) (x dx : Addr) (fv : List (Str × V)) (G : List Addr), EnvR g H σ (e.set 0 (some (.ins c ks vs))) Fs → σ[0]? = some (some (.ref x)) → H x = some (.ins (g.C c) dx fv) → fv.map (·.1) = ks.map g.an →
      RepL g H vs (fv.map (·.2)) G → x ∉ G → Fs 0 = x :: G → (∀ i, i ≠ 0 → x ∉ Fs i) → fv.length + fls.length ≤ 900 →
      (match fillF (evE Pr cl mk none) c fls ks vs e with
      | .ok t => ∀ H' F, ExtB x H H' → Rep g H' t (.ref x) F → (∀ b ∈ F, b = x ∨ H b = none ∨ ∃ i, b ∈ Fs i) → En.nx σ H'
      | .exc z => ∀ cls d H', ExtB x H H' → RepX g H' z cls d (fun b => b ≠ x ∧ (H b = none ∨ ∃ i, b ∈ Fs i)) → W cls d σ H'
      | .bad => False) → t En σ H
  | [], sts, ks, h, _, _ => by
    cases sts with
    | cons a r => unfold ckF at h; cases h
    | nil =>
      refine ⟨_, pss_nil, fun vs En σ H e Fs x dx fv G hE h0 hx hk hv hxG hF hn hl hr => ?_⟩
      have hr : ∀ H' F, ExtB x H H' → Rep g H' (.ins c ks vs) (.ref x) F → (∀ b ∈ F, b = x ∨ H b = none ∨ ∃ i, b ∈ Fs i) → En.nx σ H' := hr
      refine hr H (x :: G) (fun b o _ q => q) (by rw [rep_ins]; exact ⟨x, dx, fv, G, rfl, hx, hk, hv, rfl⟩) fun b hb => ?_
      rcases List.mem_cons.mp hb with z | z
      · exact .inl z
      · exact .inr (.inr ⟨0, by rw [hF]; exact List.mem_cons_of_mem _ z⟩)
  | (f, gd, a) :: r, sts, ks, h, nd, hno => by
    cases sts with
    | nil => unfold ckF at h; cases h
    | cons st sts =>
      unfold ckF at h
      obtain ⟨h1, h2⟩ := and2 h
      split at h1
      · rename_i s p0 y p1 ex p2
        obtain ⟨hy, h1⟩ := and2 h1
        obtain ⟨hs, h1⟩ := and2 h1
        obtain ⟨hnc, h1⟩ := and2 h1
        obtain ⟨hck, hgd⟩ := and2 h1
        have hy := of_decide_eq_true hy
        rw [← w.an] at hy
        subst hy
        rw [← w.sS] at hs
        obtain ⟨n1, n2, n3, n4⟩ := nm_ok (X := X) w.sN hs
        have hfn : f ∉ ks := fun z => by
          rw [List.map_cons] at nd
          exact (List.nodup_append.mp nd).2.2 f z f List.mem_cons_self rfl
        have nd2 : ((ks ++ [f]) ++ r.map (·.1)).Nodup := by
          rw [List.append_assoc]
          exact nd
        obtain ⟨tr, ht, hh⟩ := fldI_ok w inj hc (fls := r) (sts := sts) (ks := ks ++ [f]) h2 nd2 fun p hp => hno p (List.mem_cons_of_mem _ hp)
        have j := (chkE_ok (mk := mk) (cx := none) a w hck).1
        refine ⟨_, pss_cons (ps_fld (pe_var n1 n2 n3 n4) j (swaps_no hnc)) ht, fun vs En σ H e Fs x dx fv G hE h0 hx hk hv hxG hF hn hl hr => ?_⟩
        refine ⟨e.set 0 (some (.ins c ks vs)), Fs, hE, ?_⟩
        have hv0 : gd = false → ∀ i ∈ varsE a, i ≠ 0 := fun z i hi hi0 => by
          rw [z, Bool.false_or] at hgd
          rw [hi0] at hi
          have : (varsE a).contains 0 = true := List.contains_iff_mem.mpr hi
          rw [this] at hgd
          cases hgd
        have un : fillF (evE Pr cl mk none) c ((f, gd, a) :: r) ks vs e = (if gd then nxR (evE Pr cl mk none a (e.set 0 (some (.ins c ks vs)))) else evE Pr cl mk none a (e.set 0 (some (.ins c ks vs)))).bnd fun t => chk (!gd || noMut t) (fillF (evE Pr cl mk none) c r (ks ++ [f]) (vs ++ [t]) e) := rfl
        rw [un] at hr
        cases q : evE Pr cl mk none a (e.set 0 (some (.ins c ks vs))) with
        | bad =>
          rw [q] at hr
          cases gd <;> exact hr.elim
        | exc z =>
          rw [q] at hr
          cases gd with
          | true => exact hr.elim
          | false =>
            refine fun cls d H' e1 rx => hr cls d H' (fun b o _ k => e1 b o k) (rx.imp fun b hb => ⟨fun zb => ?_, hb.imp id fun ⟨i, _, k⟩ => ⟨i, k⟩⟩)
            rcases hb with k | ⟨i, hi, k⟩
            · rw [zb, hx] at k; cases k
            · exact hn i (hv0 rfl i hi) (zb ▸ k)
        | ok t =>
          rw [q] at hr
          have hr2 : (match chk (!gd || noMut t) (fillF (evE Pr cl mk none) c r (ks ++ [f]) (vs ++ [t]) e) with
            | .ok t => ∀ H' F, ExtB x H H' → Rep g H' t (.ref x) F → (∀ b ∈ F, b = x ∨ H b = none ∨ ∃ i, b ∈ Fs i) → En.nx σ H'
            | .exc z => ∀ cls d H', ExtB x H H' → RepX g H' z cls d (fun b => b ≠ x ∧ (H b = none ∨ ∃ i, b ∈ Fs i)) → W cls d σ H'
            | .bad => False) := by
            cases gd <;> exact hr
          have hnm : (!gd || noMut t) = true := by
            cases k : (!gd || noMut t) with
            | true => rfl
            | false => rw [k] at hr2; exact hr2.elim
          rw [hnm] at hr2
          have hr2 : (match fillF (evE Pr cl mk none) c r (ks ++ [f]) (vs ++ [t]) e with
            | .ok t => ∀ H' F, ExtB x H H' → Rep g H' t (.ref x) F → (∀ b ∈ F, b = x ∨ H b = none ∨ ∃ i, b ∈ Fs i) → En.nx σ H'
            | .exc z => ∀ cls d H', ExtB x H H' → RepX g H' z cls d (fun b => b ≠ x ∧ (H b = none ∨ ∃ i, b ∈ Fs i)) → W cls d σ H'
            | .bad => False) := hr2
          clear hr un
          refine fun y H1 F e1 ry _ pf => ⟨.ref x, h0, x, g.C c, dx, fv, rfl, e1 _ _ hx, hc, hno _ List.mem_cons_self, by rw [List.length_cons] at hl; omega, ?_⟩
          have hx1 := e1 _ _ hx
          have hxF : x ∉ F := fun hb => by
            cases gd with
            | true =>
              have nm : noMut t = true := hnm
              rw [noMut_F ry nm] at hb
              cases hb
            | false =>
              rcases pf x hb with k | ⟨i, hi, k⟩
              · rw [hx] at k; cases k
              · exact hn i (hv0 rfl i hi) k
          have hnew : g.an f ∉ fv.map (·.1) := fun z => by
            rw [hk] at z
            obtain ⟨k, hk1, hk2⟩ := List.mem_map.mp z
            exact hfn (inj k f hk2 ▸ hk1)
          rw [putF_new hnew]
          have hx3 : upd H1 x (.ins (g.C c) dx (fv ++ [(g.an f, y)])) x = some (.ins (g.C c) dx (fv ++ [(g.an f, y)])) := upd_same
          have keep : ∀ b, b ≠ x → upd H1 x (.ins (g.C c) dx (fv ++ [(g.an f, y)])) b = H1 b := fun b hb => upd_ne hb
          generalize upd H1 x (.ins (g.C c) dx (fv ++ [(g.an f, y)])) = H3 at hx3 keep
          have eb : ExtB x H H3 := fun b o hb k => by rw [keep b hb]; exact e1 _ _ k
          have hnone : ∀ b, H3 b = none → H b = none := fun b k => by
            by_cases hb : b = x
            · rw [hb, hx3] at k; cases k
            · rw [keep b hb] at k; exact e1.none k
          have rv3 : RepL g H3 (vs ++ [t]) ((fv ++ [(g.an f, y)]).map (·.2)) (G ++ F) := by
            rw [List.map_append]
            have r1 := RepL.append ((hv.ext e1).kp (kp_ins hx1 keep hxG)) (RepL.cons (ry.kp (kp_ins hx1 keep hxF)) RepL.nil)
            rw [List.append_nil] at r1
            exact r1
          refine hh (vs ++ [t]) En σ H3 e (fun i => if i = 0 then x :: (G ++ F) else Fs i) x dx (fv ++ [(g.an f, y)]) (G ++ F) ⟨?_, fun i u k => ?_, ?_⟩ h0 hx3 ?_ rv3 (fun z => (List.mem_append.mp z).elim hxG hxF) (if_pos rfl) (fun i hi => by rw [if_neg hi]; exact hn i hi) (by rw [List.length_append, List.length_cons] at *; simp at *; omega) ?_
          · have := hE.len
            rw [List.length_set] at this ⊢
            exact this
          · by_cases hi : i = 0
            · subst hi
              rw [if_pos rfl]
              have hlt : 0 < e.length := by
                have := (List.getElem?_eq_some_iff.mp k).1
                rw [List.length_set] at this
                exact this
              rw [List.getElem?_set_self hlt] at k
              cases k
              refine ⟨.ref x, h0, ?_⟩
              rw [rep_ins]
              exact ⟨x, dx, _, _, rfl, hx3, by rw [List.map_append, List.map_append, hk]; rfl, rv3, rfl⟩
            · rw [if_neg hi]
              rw [get_set0 hi] at k
              obtain ⟨v, v1, v2⟩ := hE.at_ i u (by rw [get_set0 hi]; exact k)
              exact ⟨v, v1, (v2.ext e1).kp (kp_ins hx1 keep (hn i hi))⟩
          · unfold ErrCx; rw [w.er]; trivial
          · rw [List.map_append, List.map_append, hk]
            rfl
          · revert hr2
            cases fillF (evE Pr cl mk none) c r (ks ++ [f]) (vs ++ [t]) e with
            | bad => exact id
            | exc z =>
              refine fun hr2 cls d H' eb2 rx => hr2 cls d H' (fun b o hb k => eb2 b o hb (eb b o hb k)) (rx.imp fun b ⟨nb, hb⟩ => ⟨nb, ?_⟩)
              rcases hb with k | ⟨i, k⟩
              · exact .inl (hnone b k)
              · by_cases hi : i = 0
                · rw [if_pos hi] at k
                  rcases List.mem_cons.mp k with k | k
                  · exact absurd k nb
                  · rcases List.mem_append.mp k with k | k
                    · exact .inr ⟨0, by rw [hF]; exact List.mem_cons_of_mem _ k⟩
                    · exact (pf b k).imp id fun ⟨j, _, k⟩ => ⟨j, k⟩
                · rw [if_neg hi] at k
                  exact .inr ⟨i, k⟩
            | ok u =>
              refine fun hr2 H' F' eb2 ru pu => hr2 H' F' (fun b o hb k => eb2 b o hb (eb b o hb k)) ru fun b hb => ?_
              rcases pu b hb with k | k | ⟨i, k⟩
              · exact .inl k
              · exact .inr (.inl (hnone b k))
              · by_cases hi : i = 0
                · rw [if_pos hi] at k
                  rcases List.mem_cons.mp k with k | k
                  · exact .inl k
                  · rcases List.mem_append.mp k with k | k
                    · exact .inr (.inr ⟨0, by rw [hF]; exact List.mem_cons_of_mem _ k⟩)
                    · exact .inr ((pf b k).imp id fun ⟨j, _, k⟩ => ⟨j, k⟩)
                · rw [if_neg hi] at k
                  exact .inr (.inr ⟨i, k⟩)
      · cases h1
end

/-! ### the def -/
/-- an __init__ against its trees -/
structure InI where
  c : Nat
  cls : Str
  qual : Str
  params : Arguments
  body : List Stmt
  scope : Scope
  N : List Str
  ps : List Str
def inB (D : Dat) (Pr : Prog) (i : InI) : Bool := match Pr.ini i.c with
  | some d => scB i.N i.ps i.scope && (decide (d.np = i.ps.length) && (decide (d.ns = i.N.length) && (Nat.ble i.ps.length i.N.length && ((decide (d.fls.map (·.1)).Nodup && Nat.ble d.fls.length 900) && (match ckT D d.pre ⟨i.N, i.scope, true, i.scope⟩ (zeroL i.N.length) [] i.body with
    | some r => ckF D ⟨i.N, i.scope, true, i.scope⟩ d.fls r
    | none => false)))))
  | none => false
section
variable {P : Program} {w : World} {K : PySem.W.Frag} {mg : Str → Option Value} {base : Heap} {g : Cfg} {D : Dat} {Pr : Prog}
theorem in_ok {i : InI} {dvs : List V} {kws : List (Str × V)} {fa : Addr} {fd : FuncData} {k n : Nat} (F : FunD K "__init__" i.qual i.params i.body i.scope dvs kws fa fd) (ck : inB D Pr i = true) (hw : ∀ x : Addr, BodyWd P w K mg base (pinC g x) D Pr k n) (hg : g.er = none) (inj : ∀ j k, g.an j = g.an k → j = k) (hc : i.c ≠ 1000)
    (hcl : Cls K (g.C i.c)) (hno : ∀ d, Pr.ini i.c = some d → ∀ p ∈ d.fls, NoAttr K (g.C i.c) (g.an p.1)) :
    FnOk P w K mg base (L2.CX P w) (k + 1) fa fd i.ps (spInit g i.ps.length i.c (make Pr (n + 1) i.c)) := by
  unfold inB at ck
  cases qd : Pr.ini i.c with
  | none => rw [qd] at ck; cases ck
  | some d =>
    rw [qd] at ck
    obtain ⟨c1, c2⟩ := and2 ck
    obtain ⟨c2, c3⟩ := and2 c2
    obtain ⟨c3, c4⟩ := and2 c3
    obtain ⟨c4, c5⟩ := and2 c4
    obtain ⟨c5, c6⟩ := and2 c5
    obtain ⟨c5, c7⟩ := and2 c5
    have np := of_decide_eq_true c2
    have ns := of_decide_eq_true c3
    have nd := of_decide_eq_true c5
    have SC := scB_ok c1
    cases qr : ckT D d.pre ⟨i.N, i.scope, true, i.scope⟩ (zeroL i.N.length) [] i.body with
    | none => rw [qr] at c6; cases c6
    | some r =>
      rw [qr] at c6
      refine F.ok SC (fun vs H Q E h => h.1) fun cdv A outer s H vs Q E hr h => ?_
      obtain ⟨hl, x, dx, ws, ts, Fa, rfl, hx, rL, hxF, h⟩ := h
      have h : (match (chk (ts.length + 1 == d.np && noClsL ts) (grdC (match exB Pr (run Pr n) (make Pr n) none d.pre (startI d ts) with
          | .nx e => chk (isC0 e) (fillF (evE Pr (run Pr n) (make Pr n) none) i.c d.fls [] [] e)
          | .exc x _ => .exc x
          | _ => .bad)) : R T) with
        | .ok t => ∀ H' F, ExtB x H H' → Rep g H' t (.ref x) F → (∀ b ∈ F, b = x ∨ H b = none ∨ b ∈ Fa) → Q .non H'
        | .exc z => ∀ cls d H', ExtB x H H' → RepX g H' z cls d (fun b => H b = none ∨ b ∈ Fa) → E cls d H'
        | .bad => False) := by
        have e : make Pr (n + 1) i.c ts = (chk (ts.length + 1 == d.np && noClsL ts) (grdC (match exB Pr (run Pr n) (make Pr n) none d.pre (startI d ts) with
          | .nx e => chk (isC0 e) (fillF (evE Pr (run Pr n) (make Pr n) none) i.c d.fls [] [] e)
          | .exc x _ => .exc x
          | _ => .bad))) := by
          show (match Pr.ini i.c with | some d => _ | none => _) = _
          rw [qd] <;> rfl
        rw [← e]
        exact h
      cases hb : (ts.length + 1 == d.np && noClsL ts) with
      | false => rw [hb] at h; exact h.elim
      | true =>
        rw [hb] at h
        obtain ⟨b1, b2⟩ := and2 hb
        have agp := pinC_ag g x
        have agm := pinC_ag' g x
        have rL2 := rL.ag agp b2
        have wsd : Ws D ⟨i.N, i.scope, true, i.scope⟩ (cxOf (L2.CX P w) P w K mg base i.N i.qual i.scope fa cdv A outer s H E) (pinC g x) (fun c d _ H' => E c d H') Pr (run Pr n) (make Pr n) :=
          ⟨hw x _ _ _ rfl rfl rfl rfl rfl hr (takes_of (E₁ := fun e' s'' => L2.CX P w outer H s E e' s'') rfl rfl rfl rfl) rfl rfl SC.nd rfl (fun _ => rfl), passes_of (K := fun e s'' => L2.CX P w outer H s E e s'') (E₁ := fun e' s'' => L2.CX P w outer H s E e' s'') rfl, rfl, rfl⟩
        have hC : (pinC g x).C i.c = g.C i.c := agp.C _ hc
        obtain ⟨tr, ht, hh⟩ := fldI_ok (c := i.c) (ks := []) wsd.w inj (by rw [hC]; exact hcl) c6 (by rw [List.nil_append]; exact nd) (fun p hp => by rw [hC]; exact hno d qd p hp)
        obtain ⟨Ln, hp⟩ := ckT_ok (mk := make Pr n) (cx := none) d.pre (H0 := H) (A := fun b => b ∈ Fa) (held := []) wsd qr ht
        refine ⟨_, hp, ?_⟩
        obtain ⟨Fs, f1, f2, f3⟩ := rL2.slots
        have hts : ts.length + 1 = i.ps.length := by
          rw [← rL.len]
          exact hl
        refine ⟨startI d ts, fun j => if j = 0 then [] else Fs (j - 1), ⟨⟨?_, fun j t q => ?_, by unfold ErrCx; rw [show (pinC g x).er = none from hg]; trivial⟩, fun j q b hbm => ?_, .refl H, fun j b hbm => .inr ?_, (fun b z => by cases z), (fun b z => by cases z), fun j t q => ?_⟩, ?_⟩
        · unfold L2.start startI
          have hle := Nat.le_of_ble_eq_true c4
          have hw2 := rL.len
          have hl2 : ws.length + 1 = i.ps.length := hl
          simp only [List.length_append, List.length_cons, List.length_map, List.length_replicate]
          omega
        · cases j with
          | zero =>
            cases q
            refine ⟨.ref x, start_of rfl, ?_⟩
            rw [rep_cls]
            exact ⟨by show V.ref x = V.ref (if (1000 : Nat) = 1000 then x else g.C 1000); rw [if_pos rfl], rfl⟩
          | succ j =>
            have q : (ts.map some ++ List.replicate (d.ns - (ts.length + 1)) none)[j]? = some (some t) := by
              have : (startI d ts)[j + 1]? = some (some t) := q
              unfold startI at this
              simpa using this
            obtain ⟨v, v1, v2⟩ := f1 j t (start_get (β := Nat) q)
            exact ⟨v, start_of (by simpa using v1), v2⟩
        · cases j with
          | zero => cases hbm
          | succ j =>
            have hbm : b ∈ Fs j := hbm
            rw [f3 j ?_] at hbm
            · cases hbm
            rcases Nat.lt_or_ge j ts.length with z | z
            · have : (startI d ts)[j + 1]? = some (some ts[j]) := by
                unfold startI
                rw [List.getElem?_cons_succ]
                exact start_of (by simp [z])
              exact absurd this (q _)
            · exact z
        · cases j with
          | zero => cases hbm
          | succ j => exact f2 j b hbm
        · rw [zeroL_lv]; exact Own.zero
        · revert h
          cases exB Pr (run Pr n) (make Pr n) none d.pre (startI d ts) with
          | rt t => exact fun h => h.elim
          | bk e => exact fun h => h.elim
          | ct e => exact fun h => h.elim
          | bad => exact fun h => h.elim
          | exc z e =>
            intro h cls dd σ' H' Fs' S rx _
            have h : (match chk (noCls z) (R.exc z : R T) with
              | .ok t => ∀ H' F, ExtB x H H' → Rep g H' t (.ref x) F → (∀ b ∈ F, b = x ∨ H b = none ∨ b ∈ Fa) → Q .non H'
              | .exc z => ∀ cls d H', ExtB x H H' → RepX g H' z cls d (fun b => H b = none ∨ b ∈ Fa) → E cls d H'
              | .bad => False) := h
            cases nz : noCls z with
            | false => rw [nz] at h; exact h.elim
            | true =>
              rw [nz] at h
              exact h cls dd H' (fun b o _ q => S.ext b o q) (rx.ag agm nz)
          | nx e =>
            intro h σ' H' Fs' S _
            cases i0 : isC0 e with
            | false =>
              dsimp only at h
              rw [i0] at h
              exact h.elim
            | true =>
              dsimp only at h
              rw [i0] at h
              have he0 : e[0]? = some (some (.cls 1000)) := by
                unfold isC0 at i0
                rw [List.getD_eq_getElem?_getD] at i0
                cases q0 : e[0]? with
                | none => rw [q0] at i0; cases i0
                | some o =>
                  rw [q0] at i0
                  cases o with
                  | none => cases i0
                  | some t =>
                    cases t with
                    | cls c =>
                      have : (c == 1000) = true := i0
                      rw [eq_of_beq this]
                    | _ => cases i0
              obtain ⟨v0, s0, r0⟩ := S.env.at_ 0 _ he0
              rw [rep_cls] at r0
              have ev0 : v0 = .ref x := by
                rw [r0.1]
                show V.ref (if (1000 : Nat) = 1000 then x else g.C 1000) = _
                rw [if_pos rfl]
              rw [ev0] at s0
              have hx' := S.ext _ _ hx
              have hlt : 0 < e.length := (List.getElem?_eq_some_iff.mp he0).1
              have nx : ∀ j, x ∉ Fs' j := fun j hb => by
                rcases S.pro j x hb with z | z
                · rw [hx] at z; cases z
                · exact hxF z
              refine hh [] _ σ' H' e (fun j => if j = 0 then [x] else Fs' j) x dx [] [] ⟨?_, fun j t q => ?_, by unfold ErrCx; rw [show (pinC g x).er = none from hg]; trivial⟩ s0 (by rw [hC]; exact hx') rfl RepL.nil (by simp) (if_pos rfl) (fun j hj => by rw [if_neg hj]; exact nx j) (by have := Nat.le_of_ble_eq_true c7; simp; exact this) ?_
              · rw [List.length_set]; exact S.env.len
              · by_cases hj : j = 0
                · subst hj
                  rw [List.getElem?_set_self hlt] at q
                  cases q
                  refine ⟨.ref x, s0, ?_⟩
                  rw [rep_ins, if_pos rfl]
                  exact ⟨x, dx, [], [], rfl, by rw [hC]; exact hx', rfl, RepL.nil, rfl⟩
                · rw [get_set0 hj] at q
                  obtain ⟨v, v1, v2⟩ := S.env.at_ j t q
                  rw [if_neg hj]
                  exact ⟨v, v1, v2⟩
              · have h : (match grdC (fillF (evE Pr (run Pr n) (make Pr n) none) i.c d.fls [] [] e) with
                  | .ok t => ∀ H' F, ExtB x H H' → Rep g H' t (.ref x) F → (∀ b ∈ F, b = x ∨ H b = none ∨ b ∈ Fa) → Q .non H'
                  | .exc z => ∀ cls d H', ExtB x H H' → RepX g H' z cls d (fun b => H b = none ∨ b ∈ Fa) → E cls d H'
                  | .bad => False) := h
                revert h
                cases fillF (evE Pr (run Pr n) (make Pr n) none) i.c d.fls [] [] e with
                | bad => exact fun h => h.elim
                | exc z =>
                  intro h cls dd H2 eb rx
                  have h : (match chk (noCls z) (R.exc z : R T) with
                    | .ok t => ∀ H' F, ExtB x H H' → Rep g H' t (.ref x) F → (∀ b ∈ F, b = x ∨ H b = none ∨ b ∈ Fa) → Q .non H'
                    | .exc z => ∀ cls d H', ExtB x H H' → RepX g H' z cls d (fun b => H b = none ∨ b ∈ Fa) → E cls d H'
                    | .bad => False) := h
                  cases nz : noCls z with
                  | false => rw [nz] at h; exact h.elim
                  | true =>
                    rw [nz] at h
                    refine h cls dd H2 (fun b o hb q => eb b o hb (S.ext b o q)) ((rx.ag agm nz).imp fun b ⟨nb, hb⟩ => ?_)
                    rcases hb with z | ⟨j, z⟩
                    · exact .inl (S.ext.none z)
                    · by_cases hj : j = 0
                      · rw [if_pos hj] at z
                        exact absurd (List.mem_singleton.mp z) nb
                      · rw [if_neg hj] at z
                        exact S.pro j b z
                | ok t =>
                  intro h H2 F2 eb rt pf
                  have h : (match chk (noCls t) (R.ok t) with
                    | .ok t => ∀ H' F, ExtB x H H' → Rep g H' t (.ref x) F → (∀ b ∈ F, b = x ∨ H b = none ∨ b ∈ Fa) → Q .non H'
                    | .exc z => ∀ cls d H', ExtB x H H' → RepX g H' z cls d (fun b => H b = none ∨ b ∈ Fa) → E cls d H'
                    | .bad => False) := h
                  cases nz : noCls t with
                  | false => rw [nz] at h; exact h.elim
                  | true =>
                    rw [nz] at h
                    refine h H2 F2 (fun b o hb q => eb b o hb (S.ext b o q)) (rt.ag agm nz) fun b hb => ?_
                    rcases pf b hb with z | z | ⟨j, z⟩
                    · exact .inl z
                    · exact .inr (.inl (S.ext.none z))
                    · by_cases hj : j = 0
                      · rw [if_pos hj] at z
                        exact .inl (List.mem_singleton.mp z)
                      · rw [if_neg hj] at z
                        exact .inr (S.pro j b z)
end
end Wt

/-! Snd20: all defs of a program without classes. -/
namespace Wt
open PySem PySem.Spec PyProof.Rows L2

def tyBI : Ty → Option String
  | .int => some "int"
  | .bool => some "bool"
  | .tuple => some "tuple"
  | .list => some "list"
  | _ => none
/-- what isinstance with a built-in type asks of the program's instances -/
def insB (K : PySem.W.Frag) (C : Addr) (cn : String) (b : Bool) : Prop := PySem.W.kitOne K (.ref C) (.type cn) = some b
theorem isaOk_blt {X : Cx} {g : Cfg} {Pr : Prog} {ty : Ty} {cn : String} (h : tyBI ty = some cn) (hi : ∀ c, (Pr.ini c).isSome = true → InsOk X.K (g.C c) ∧ PySem.W.kitOne X.K (.ref (g.C c)) (.type cn) = some false) : IsaOk X g Pr ty (.type cn) := by
  refine ⟨fun k hk => ?_, fun c hc => ?_⟩
  · have all : (isaB ty).all (fun k => decide (kitB k.1 cn = some k.2)) = true := by
      cases ty <;> cases h <;> decide +kernel
    exact kit_ty (of_decide_eq_true (List.all_eq_true.mp all k hk))
  · obtain ⟨a, b⟩ := hi c hc
    refine ⟨a, ?_⟩
    rw [b]
    cases ty <;> cases h <;> rfl
/-- what a program must be -/
structure PF (P : Program) (K : PySem.W.Frag) (mg : Str → Option Value) (g : Cfg) (D : Dat) (Pr : Prog) (fns : List FnI) (inis : List InI) : Prop where
  hK : g.K = K
  er : g.er = none
  meth : ∀ c m, m < 10 → Pr.meth c m = none
  blts : ∀ x ∈ D.blts, mg x = none
  tys : ∀ p ∈ D.tys, (mg p.1 = none ∧ ∃ cn, tyBI p.2 = some cn ∧ p.1 = Str.ofString cn ∧ ∀ c, (Pr.ini c).isSome = true → InsOk K (g.C c) ∧ PySem.W.kitOne K (.ref (g.C c)) (.type cn) = some false) ∨
    ∃ C, mg p.1 = some (.ref C) ∧ ∀ X : Cx, X.K = K → IsaOk X g Pr p.2 (.ref C)
  calls : ∀ c ∈ D.calls, ∃ i ∈ fns, ∃ (fa : Addr) (fd : FuncData) (dvs : List V) (kws : List (Str × V)), i.f = c.f ∧ i.lv = c.lv ∧ FunD K i.x i.qual i.params i.body i.scope dvs kws fa fd ∧ mg c.x = some (.ref fa) ∧ BndOk K fd i.ps c.np c.ks c.pm ∧ i.ps.length = (match c.pm with | [] => c.np + c.ks.length | _ => c.pm.length)
  fnsOk : ∀ i ∈ fns, fnB D Pr i = true
  an : g.an = D.an
  errs : ∀ e ∈ D.errs, Pr.err e.2.1 = some e.2.2 ∧ g.C e.2.1 = He.ga K e.1 ∧ mg e.1 = some (.ref (He.ga K e.1)) ∧ ∃ (y : Str) (fd : FuncData) (ps : List Str), ErrF K e.1 y (e.2.2.map fun p => D.an p.1) ∧
    (∀ (w : World) (base : Heap) (k : Nat), FnOk P w K mg base (L2.CX P w) (k + 1) (He.ma K (He.ga K y) "__init__") fd ps (spE g K (He.ga K y) e.2.2)) ∧ Binds K fd ps []
  xt : ∀ p ∈ D.xtys, ∀ X : Cx, X.K = K → X.mg = mg → TyE X g Pr p.1 p.2
  exm : ∀ n c0, (n, Ty.own c0) ∈ D.xtys → ∀ c, Pr.sup c ≠ [] → PySem.W.exmOne K (.ref (g.C c)) (.ref (g.C c0)) = some ((Pr.sup c).contains c0)
  sui : SuiOk K g Pr D.fls
  inj : ∀ j k, g.an j = g.an k → j = k
  ifl : ∀ f ∈ D.ifl, ∀ c, (Pr.ini c).isSome = true → Cls K (g.C c) ∧ NoAttr K (g.C c) (g.an f)
  inisOk : ∀ i ∈ inis, inB D Pr i = true ∧ i.c ≠ 1000 ∧ Cls K (g.C i.c) ∧ ∀ d, Pr.ini i.c = some d → ∀ p ∈ d.fls, NoAttr K (g.C i.c) (g.an p.1)
  makes : ∀ c ∈ D.makes, ∃ i ∈ inis, ∃ (fa : Addr) (fd : FuncData) (dvs : List V) (kws : List (Str × V)), i.c = c.f ∧ FunD K "__init__" i.qual i.params i.body i.scope dvs kws fa fd ∧ Mk K (g.C c.f) fa ∧ mg c.x = some (.ref (g.C c.f)) ∧ BndOk K fd i.ps (c.np + 1) c.ks (selfPm c.pm) ∧
    i.ps.length = (match c.pm with | [] => c.np + c.ks.length | _ => c.pm.length) + 1
  meths : ∀ c ∈ D.meths, (∀ k, g.an k ≠ c.x) ∧ ∀ cc f, Pr.meth cc c.f = some f → ∃ i ∈ fns, ∃ (fa : Addr) (fd : FuncData) (dvs : List V) (kws : List (Str × V)), i.f = f ∧ FunD K i.x i.qual i.params i.body i.scope dvs kws fa fd ∧ Cls K (g.C cc) ∧ Meth K (g.C cc) c.x fa ∧ c.lv ≤ i.lv ∧
    BndOk K fd i.ps (c.np + 1) c.ks c.pm ∧ i.ps.length = (match c.pm with | [] => c.np + 1 + c.ks.length | _ => c.pm.length)
theorem boot_ty {ty : Ty} {cn : String} (h : tyBI ty = some cn) : bootBuiltins (Str.ofString cn) = some (.type cn) ∧ Str.ofString cn ≠ "__name__" := by
  cases ty <;> cases h
  all_goals exact ⟨by decide +kernel, by decide +kernel⟩
section
variable {P : Program} {w : World} {K : PySem.W.Frag} {mg : Str → Option Value} {base : Heap} {g : Cfg} {D : Dat} {Pr : Prog} {fns : List FnI} {inis : List InI}
theorem no_dun {n m : Nat} (hm : ∀ c, Pr.meth c m = none) {X : Cx} {W : WX} {f : Value → Value → Sem Value} {cl : Nat → List T → R T} : Dun X g W n f fun c x y => mcall Pr cl c m [x, y] := by
  intro pins s σ Hb H A Q x y v u c ks ts t2 F1 F2 I eb rx ry r1 r2 p1 p2 h
  have h : Out g W n A σ Hb Q (match Pr.meth c m with | some f => cl f [.ins c ks ts, t2] | none => .bad) := h
  rw [hm] at h
  exact h.elim
theorem pin_pin (g : Cfg) (x y : Addr) : pinC (pinC g x) y = pinC g y := by
  unfold pinC
  congr 1
  funext c
  dsimp only
  by_cases h : c = 1000
  · rw [if_pos h, if_pos h]
  · rw [if_neg h, if_neg h, if_neg h]
def FnsOk (P : Program) (w : World) (K : PySem.W.Frag) (mg : Str → Option Value) (base : Heap) (g : Cfg) (Pr : Prog) (fns : List FnI) (n : Nat) : Prop :=
  ∀ i ∈ fns, ∀ (fa : Addr) (fd : FuncData) (dvs : List V) (kws : List (Str × V)), FunD K i.x i.qual i.params i.body i.scope dvs kws fa fd → FnOk P w K mg base (L2.CX P w) (2 * n + 2) fa fd i.ps (spOf g i.ps.length i.lv (run Pr n i.f))
def InsOkN (P : Program) (w : World) (K : PySem.W.Frag) (mg : Str → Option Value) (base : Heap) (g : Cfg) (Pr : Prog) (inis : List InI) (n : Nat) : Prop :=
  ∀ i ∈ inis, ∀ (fa : Addr) (fd : FuncData) (dvs : List V) (kws : List (Str × V)), FunD K "__init__" i.qual i.params i.body i.scope dvs kws fa fd → FnOk P w K mg base (L2.CX P w) (2 * n + 2) fa fd i.ps (spInit g i.ps.length i.c (make Pr n i.c))
theorem in_zero {fa : Addr} {fd : FuncData} {ps : List Str} {c k : Nat} : FnOk P w K mg base (L2.CX P w) k fa fd ps (spInit g ps.length c (make Pr 0 c)) :=
  ⟨fun vs H Q E h => h.1, fun A outer s H args us vs Q E _ _ _ _ h => by
    obtain ⟨_, x, dx, ws, ts, Fs, _, _, _, _, h⟩ := h
    exact (show False from h).elim⟩
theorem step_ok (F : PF P K mg g D Pr fns inis) (n : Nat) (hn : FnsOk P w K mg base g Pr fns n) (hi : InsOkN P w K mg base g Pr inis n) : BodyWd P w K mg base g D Pr (2 * n + 3) n := by
  intro sc X W e1 e2 e3 e4 e5 hr tk calm sN nd sS sF
  subst e1 e2 e3 e4 e5
  have nm : ∀ m, m < 10 → ∀ c, Pr.meth c m = none := fun m hm c => F.meth c m hm
  exact { hK := F.hK, er := F.er, tk := tk, calm := calm, sN := sN, nd := nd, sS := sS, sF := fun x _ => sF x, un := by have := hr.un; omega,
          calls := fun c hc => by
            obtain ⟨i, hi, fa, fd, dvs, kws, q1, q2, q3, q4, q5, q6⟩ := F.calls c hc
            refine ⟨fa, fd, i.ps, 2 * n + 2, i.ps.length, ?_, hr.mono (Nat.le_succ _), q4, q3.kp, q5, q6⟩
            rw [← q1, ← q2]
            exact hn i hi fa fd dvs kws q3
          blts := F.blts,
          tys := fun p hp => by
            rcases F.tys p hp with ⟨t1, cn, t2, t3, t4⟩ | ⟨C, t1, t2⟩
            · obtain ⟨b1, b2⟩ := boot_ty t2
              exact .inl ⟨cn, t1, by rw [t3]; exact b1, by rw [t3]; exact b2, isaOk_blt t2 t4⟩
            · exact .inr ⟨C, t1, t2 X rfl⟩
          m0 := nm 0 (by decide), an := F.an, xt := fun p hp => F.xt p hp X rfl rfl, exm := F.exm, sui := F.sui,
          errs := fun e he => by
            obtain ⟨q1, q2, q3, y, fd, ps, q4, q5, q6⟩ := F.errs e he
            refine ⟨⟨He.ga X.K y, _, fd, ps, 1, ?_, ?_, q4.fnT, q5 X.w X.base 0, hr.mono (by omega), q6, ?_, fun p hp => ?_⟩, q1⟩
            · rw [q2]; exact q4.sup
            · rw [q2]; exact q4.ini
            · rw [q2]; exact q3
            · rw [q2, F.an]; exact q4.no _ (List.mem_map.mpr ⟨p, hp, rfl⟩),
          ifl := fun f hf => ⟨fun k hk => F.inj k f hk, fun c hc => F.ifl f hf c hc⟩,
          makes := fun c hc => by
            obtain ⟨i, hii, fa, fd, dvs, kws, q1, q2, q3, q4, q5, q6⟩ := F.makes c hc
            refine ⟨fa, fd, i.ps, 2 * n + 2, i.ps.length, q3, ?_, hr, q4, q5, q6⟩
            rw [← q1]
            exact hi i hii fa fd dvs kws q2
          meths := fun c hc => by
            obtain ⟨nf, ex⟩ := F.meths c hc
            refine ⟨nf, fun cc f hf => ?_⟩
            obtain ⟨i, hii, fa, fd, dvs, kws, q1, q2, q3, q4, q5, q6, q7⟩ := ex cc f hf
            refine ⟨fa, fd, i.ps, 2 * n + 2, i.ps.length, i.lv, q3, q4, ?_, q5, hr.mono (Nat.le_succ _), q6, q7⟩
            rw [← q1]
            exact hn i hii fa fd dvs kws q2
          dAdd := fun _ _ _ _ => no_dun (nm 1 (by decide)), dSub := fun _ _ _ _ => no_dun (nm 2 (by decide)), dAnd := fun _ _ _ _ => no_dun (nm 3 (by decide)), dEq := fun _ _ _ _ => no_dun (nm 4 (by decide)),
          dIn := fun X' W' _ _ pins s σ Hb H A Q x y v u c ks ts t2 F1 F2 I eb rx ry r1 r2 p1 p2 h => by
            have h : Out g W' 2 A σ Hb Q (match Pr.meth c 5 with | some f => run Pr n f [.ins c ks ts, t2] | none => .bad) := h
            rw [nm 5 (by decide)] at h
            exact h.elim
          dNin := fun X' W' _ _ pins s σ Hb H A Q x y v u c ks ts t2 F1 F2 I eb rx ry r1 r2 p1 p2 h => by
            have h : Out g W' 2 A σ Hb Q (notR (match Pr.meth c 5 with | some f => run Pr n f [.ins c ks ts, t2] | none => .bad)) := h
            rw [nm 5 (by decide)] at h
            exact h.elim
          dLen := fun X' W' _ _ pins s σ Hb H A Q x u t F1 I eb rx r1 p1 h => by
            cases t with
            | ins c ks ts =>
              have h : Out g W' 2 A σ Hb Q (match Pr.meth c mLen with | some f => run Pr n f [.ins c ks ts] | none => .bad) := h
              rw [show Pr.meth c mLen = none from nm 6 (by decide) c] at h
              exact h.elim
            | _ => exact (show False from h).elim }
theorem lvl (F : ∀ x : Addr, PF P K mg (pinC g x) D Pr fns inis) : ∀ (n : Nat) (x : Addr), BodyWd P w K mg base (pinC g x) D Pr (2 * n + 3) n ∧ FnsOk P w K mg base (pinC g x) Pr fns n ∧ InsOkN P w K mg base (pinC g x) Pr inis n := by
  intro n
  induction n with
  | zero =>
    intro x
    have h0 : FnsOk P w K mg base (pinC g x) Pr fns 0 := fun i _ fa fd dvs kws _ => fn_zero
    have h1 : InsOkN P w K mg base (pinC g x) Pr inis 0 := fun i _ fa fd dvs kws _ => in_zero
    exact ⟨step_ok (F x) 0 h0 h1, h0, h1⟩
  | succ n ih =>
    intro x
    have h0 : FnsOk P w K mg base (pinC g x) Pr fns (n + 1) := fun i hi fa fd dvs kws q => fn_ok q ((F x).fnsOk i hi) (ih x).1 (F x).er
    have h1 : InsOkN P w K mg base (pinC g x) Pr inis (n + 1) := fun i hi fa fd dvs kws q => by
      obtain ⟨c1, c2, c3, c4⟩ := (F x).inisOk i hi
      exact in_ok q c1 (fun y => by rw [pin_pin]; exact (ih y).1) (F x).er (F x).inj c2 c3 c4
    exact ⟨step_ok (F x) (n + 1) h0 h1, h0, h1⟩

/-! ### plain calls -/
/-- every parameter is written, none by name -/
theorem bnd_plain {fd : FuncData} {ps : List Str} (h : Binds K fd ps []) {n : Nat} (hn : n = ps.length) : BndOk K fd ps n [] [] := by
  refine ⟨fun s us ws k hu hw => ⟨us, ?_, fun vs hv => ?_⟩⟩
  · have hw : ws = [] := List.eq_nil_of_length_eq_zero hw
    subst hw
    have := h s us k (by rw [List.append_nil, hu, hn])
    rw [List.append_nil] at this
    exact this
  · have hw : ws = [] := List.eq_nil_of_length_eq_zero hw
    subst hw
    rw [List.append_nil] at hv
    exact hv

/-! ### the law -/
theorem law_sp {F : PF P K mg g D Pr fns inis} {n lv q f : Nat} {H : Hp} {a : Addr} {ns : List Int} (hO : Only H) (hS : SqL K H a (ns.map V.int)) (hq : q = 1) (hr : run Pr n f [.scr ns] = .ok (.bl true)) : spOf g q lv (run Pr n f) [.ref a] H (fun v _ => v = .bl true) fun _ _ _ => False := by
  refine ⟨hq.symm, [.scr ns], [], ?_, ?_⟩
  · have r : Rep g H (.scr ns) (.ref a) [] := by
      rw [rep_scr]
      refine ⟨⟨a, rfl, ?_⟩, rfl⟩
      rcases hS with (h | ⟨o, h⟩) | h
      · rcases hO a with z | ⟨o, xs, z⟩
        · rw [h] at z; cases z
        · rw [h] at z; cases z
      · exact .inl ⟨o, h⟩
      · rw [F.hK]; exact .inr h
    have := RepL.cons r (RepL.nil (g := g) (H := H))
    exact this
  · rw [hr]
    intro v H' F' _ r _ _
    rw [rep_b] at r
    exact r.1
theorem cx_false {P : Program} {w : World} : ∀ (H : Hp) (s : Shared) (e : Value) (s' : Shared), L2.CX P w [] H s (fun _ _ _ => False) e s' → False := fun H s e s' ⟨_, _, _, _, _, _, _, _, _, _, _, _, z⟩ => z
end
end Wt
namespace Wt
open PySem PySem.Spec PyProof.Rows L2
/-- the head's last step, an exception's promise being that none leaves the law -/
theorem walk_ofX {l : PySem.W.OpenLaw} {n k : Nat} {q : Program} {loose : List Str} {XP : (Str → Option Value) → Heap → Prop} {YP : World → Heap → Prop} {d : DefRec} {x : Str}
    (hn : l.most = some n) (hn2 : n ≤ sizeLine) (hdf : d.params.defaults = []) (hr : Room k callerA)
    (F : ∀ (w : World) (mg : Str → Option Value) (fa : Addr) (h : Heap), YP w h → h.Ns mainGlobals mg → mg d.name = some (.ref fa) →
      ∃ (K : PySem.W.Frag) (fd : FuncData) (sp : Sp), K.In h ∧ (∀ (s : Shared) (u : Value), BindsTo s fd ⟨[u], []⟩ [(x, u)]) ∧
        (∀ (H : Hp) (a : Addr) (ns : List Int), ns.length ≤ n → Only H → SqL K H a (ns.map V.int) → sp [.ref a] H (fun v _ => v = .bl true) fun _ _ _ => False) ∧
        ∀ base : Heap, K.In base → base.Ns mainGlobals mg → FnOk l.prog w K mg base (L2.CX l.prog w) k fa fd [x] sp) :
    PySem.W.WalkO q loose XP YP l.row.toRowW d [] (fun f vs => PySem.call f vs) := by
  refine Att.attach_call hn hdf fun w s₀ s₁ mg mb fa o pm cd doc a vs ns G Y ho hd hcd hmg hobj hints hlen hg => ?_
  obtain ⟨K, fd, sp, KX, hb, hsp, hF⟩ := F w mg fa _ Y G.T.g hmg
  exact law_call KX G.T.g G.T.b G.T.builtins G.T.nolimit hg hobj hints (Nat.le_trans hlen hn2) hr hF hb (fun H hO hS => hsp H a ns hlen hO hS) fun H e s' => cx_false H s₁ e s'
end Wt

/-! Snd36: calls with keywords. -/
namespace Wt
open PySem PySem.Spec PyProof.Rows L2
/-- what goes to the parameters: the values written ahead, then of the lacking ones or of the keywords each in turn -/
def pkK {α : Type} (pk : List (Bool × Nat)) (vs mz zs : List α) : List α := match pk with
  | [] => vs
  | p :: r => pkK r (vs ++ ((bif p.1 then mz else zs).drop p.2).take 1) mz zs
theorem pkK_rel {mz zs : List V} {mv ws : List Value} : ∀ {pk : List (Bool × Nat)} {vs : List V} {us : List Value}, Vals vs us → Vals mz mv → Vals zs ws → Vals (pkK pk vs mz zs) (pkK pk us mv ws)
  | [], _, _, h, _, _ => h
  | p :: r, vs, us, h, h1, h2 => by
    refine pkK_rel (pk := r) (h.append ?_) h1 h2
    cases p.1 with
    | true => exact (h1.drop _).take 1
    | false => exact (h2.drop _).take 1
section
variable {K : PySem.W.Frag} {x qual : Str} {params : Arguments} {body : List Stmt} {scope : Scope} {kws : List (Str × V)} {f : Addr} {fd : FuncData} {ps ks : List Str} {np : Nat} {pm : List Pa}
theorem bnd_of {g : List Value → List Value → List Value} {gV : List V → List V → List V} (hb : KBn K fd ps np ks g gV) (hg : ∀ vs zs : List V, vs.length = np → zs.length = ks.length → gV vs zs = argsV pm (vs ++ zs)) : BndOk K fd ps np ks pm := by
  refine ⟨fun s us ws k hu hw => ⟨g us ws, hb.to s us ws k hu hw, fun vs hv => ?_⟩⟩
  have hl : vs.length = np + ks.length := by rw [hv.length, List.length_append, hu, hw]
  have e1 : Vals (vs.take np) us := by
    have := hv.take np
    rw [List.take_left' hu] at this
    exact this
  have e2 : Vals (vs.drop np) ws := by
    have := hv.drop np
    rw [List.drop_left' hu] at this
    exact this
  have := hb.rel e1 e2
  rwa [hg _ _ (by rw [List.length_take]; omega) (by rw [List.length_drop]; omega), List.take_append_drop] at this
/-- keyword-only parameters, no other defaults: ms lack -/
theorem bnd_kw (F : FunD K x qual params body scope [] kws f fd) (ms : List (Str × V)) (pk : List (Bool × Nat)) (hk : kws ≠ []) (hms : ∀ q ∈ ms, q ∈ kws)
    (h : ∀ (D : Addr) (doc pm : Value) (an : Option Addr) (cdv ct : Value) (us mv ws : List Value), us.length = np → mv.length = ms.length → ws.length = ks.length →
      KwChain D ((ms.map (·.1)).zip mv) (bindArgs (PySem.W.fnOf x qual params body scope .none (.ref D) doc pm an cdv ct) ⟨us, ks.zip ws⟩) (ps.zip (pkK pk us mv ws)))
    (hg : ∀ vs zs : List V, vs.length = np → zs.length = ks.length → pkK pk vs (ms.map (·.2)) zs = argsV pm (vs ++ zs)) : BndOk K fd ps np ks pm := by
  obtain ⟨mv, hb⟩ := F.kbinds0 np ks ms (fun {α} vs mz zs => pkK pk vs mz zs) hk hms (fun r1 r2 r3 => pkK_rel r1 r2 r3) h
  exact bnd_of hb hg
end
end Wt

/-! Snd31: the fields' names; what the head tells of a program, by one Bool. -/
namespace Wt
open PySem PySem.Spec PyProof.Rows L2

/-- all fields' names -/
def anT : List Str := ["classes", "rows", "order", "slot", "parts", "weights", "shares", "promise", "obstacle", "expected", "actual", "waits", "lows", "highs", "orders", "scale", "pairs", "side", "group", "promised", "possible", "table", "bands", "floors"]
def an (k : Nat) : Str := if k < 24 then anT.getD k ("" : Str) else ⟨Array.replicate k 122⟩
theorem an_inj : ∀ j k, an j = an k → j = k := by
  have small : ∀ s ∈ anT, s.cps.size < 24 := by decide +kernel
  have nd : anT.Nodup := by decide +kernel
  have len : anT.length = 24 := by rfl
  have mem : ∀ k, k < 24 → an k ∈ anT := fun k hk => by
    unfold an
    rw [if_pos hk, List.getD_eq_getElem?_getD, List.getElem?_eq_getElem (by omega)]
    exact List.getElem_mem _
  have big : ∀ k, ¬ k < 24 → (an k).cps.size = k := fun k hk => by
    unfold an
    rw [if_neg hk]
    simp
  intro j k h
  by_cases hj : j < 24
  · by_cases hk : k < 24
    · unfold an at h
      rw [if_pos hj, if_pos hk, List.getD_eq_getElem?_getD, List.getD_eq_getElem?_getD, List.getElem?_eq_getElem (by omega), List.getElem?_eq_getElem (by omega)] at h
      exact (List.getElem_inj nd).mp h
    · have h1 := small _ (mem j hj)
      rw [h, big k hk] at h1
      exact absurd h1 hk
  · by_cases hk : k < 24
    · have h1 := small _ (mem k hk)
      rw [← h, big j hj] at h1
      exact absurd h1 hj
    · rw [← big j hj, ← big k hk, h]

/-- the errors of a program: class, name, where its __init__ stands, its fields; the classes above each -/
structure EDat where
  errs : List (Nat × Str × Str × List (Nat × Bool))
  sup : List (Nat × List Nat)
  xd : List (Str × Nat)
  cn : Nat → Str
  fls : List Nat
def supOf (l : List (Nat × List Nat)) (c : Nat) : List Nat := (l.lookup c).getD []
theorem supOf_mem {l : List (Nat × List Nat)} {c : Nat} (h : supOf l c ≠ []) : (c, supOf l c) ∈ l := by
  unfold supOf at h ⊢
  induction l with
  | nil => exact absurd rfl h
  | cons p r ih =>
    obtain ⟨k, v⟩ := p
    rw [List.lookup_cons] at h ⊢
    cases q : (c == k) with
    | true =>
      have e : c = k := eq_of_beq q
      rw [e]
      exact List.mem_cons_self
    | false =>
      rw [q] at h
      exact List.mem_cons_of_mem _ (ih h)
def exE (E : EDat) (ys : List IniX) (file : Str) (K : PySem.W.Frag) : Bool :=
  (E.errs.all fun e => errB K e.2.1 e.2.2.1 (e.2.2.2.map fun p => an p.1)) && ((E.sup.all fun p => suiB K (E.cn p.1) (E.fls.map an) && (veB K (E.cn p.1) && E.xd.all fun d => kinB K (E.cn p.1) (E.cn d.2) (p.2.contains d.2))) &&
  ((ys.all fun d => iniB K file d.at_ d.qual) && E.xd.all fun d => He.eqO (PySem.W.nsIn K mainGlobals d.1) (some (some (.ref (He.ga K d.1))))))
/-- what needs no head -/
def exS1 (E : EDat) (ys : List IniX) : Bool := (E.errs.all fun e => decide (e.2.1 = E.cn e.1) && ys.any fun d => decide (d.at_ = e.2.2.1) && decide (d.fs = e.2.2.2)) && ((ys.all fun d => iniC an d && (scXB d.N d.ps d.scope && decide ((d.params.posonlyargs ++ d.params.args).head?.map (·.arg) = d.ps.head?))) && E.xd.all fun d => decide (d.1 = E.cn d.2))
def exS0 (E : EDat) (ys : List IniX) : Bool := ((E.errs.all fun e => !decide (e.1 = 1000)) && ((E.sup.all fun p => !decide (p.1 = 1000)) && E.xd.all fun d => !decide (d.2 = 1000))) && exS1 E ys
def cfgE (E : EDat) (K : PySem.W.Frag) : Cfg := ⟨fun c => He.ga K (E.cn c), an, K, none⟩
theorem cfg_C {E : EDat} {K : PySem.W.Frag} {x : Addr} {c : Nat} (h : c ≠ 1000) : (pinC (cfgE E K) x).C c = He.ga K (E.cn c) := if_neg h
theorem not1000 {c : Nat} (h : (!decide (c = 1000)) = true) : c ≠ 1000 := fun z => by rw [decide_eq_true z] at h; cases h
section
variable {x : Addr} {P : Program} {K : PySem.W.Frag} {h : Heap} {mg : Str → Option Value} {E : EDat} {ys : List IniX} {D : Dat} {Pr : Prog}
theorem errs_of (X : K.In h) (G : h.Ns mainGlobals mg) (hD : D.errs = E.errs.map fun e => (e.2.1, e.1, e.2.2.2)) (hP : ∀ e ∈ E.errs, Pr.err e.1 = some e.2.2.2) (hx : exE E ys P.main.file K = true) (h0 : exS0 E ys = true) (hv : (ys.map fun d => fnV K d.at_) = ys.map IniX.val)
    (htop : (P.main.scope.names.lookup ("super" : Str)).isSome = false) (hm : mg "super" = none) (hm2 : mg "tuple" = none)
    (hbind : ∀ d ∈ ys, ∀ (kV doc pm : Value) (an : Option Addr) (cdv ct : Value) (cc : Addr) (us : List Value), us.length = d.ps.length → bindArgs (PySem.W.fnX "__init__" d.qual d.params d.body d.scope [("__class__", cc)] .none kV doc pm an cdv ct) ⟨us, []⟩ = pure (d.ps.zip us)) :
    ∀ e ∈ D.errs, Pr.err e.2.1 = some e.2.2 ∧ (pinC (cfgE E K) x).C e.2.1 = He.ga K e.1 ∧ mg e.1 = some (.ref (He.ga K e.1)) ∧ ∃ (y : Str) (fd : FuncData) (ps : List Str), ErrF K e.1 y (e.2.2.map fun p => an p.1) ∧
      (∀ (w : World) (base : Heap) (k : Nat), FnOk P w K mg base (L2.CX P w) (k + 1) (He.ma K (He.ga K y) "__init__") fd ps (spE (pinC (cfgE E K) x) K (He.ga K y) e.2.2)) ∧ Binds K fd ps [] := by
  intro e he
  rw [hD] at he
  obtain ⟨e0, he0, rfl⟩ := List.mem_map.mp he
  unfold exE at hx
  obtain ⟨x1, x2⟩ := and2 hx
  obtain ⟨x2, x3⟩ := and2 x2
  obtain ⟨x3, x4⟩ := and2 x3
  unfold exS0 at h0
  obtain ⟨hn, h0⟩ := and2 h0
  obtain ⟨hn1, hn⟩ := and2 hn
  obtain ⟨hn2, hn3⟩ := and2 hn
  unfold exS1 at h0
  obtain ⟨s1, s2⟩ := and2 h0
  obtain ⟨s2, s3⟩ := and2 s2
  have F := errB_ok (List.all_eq_true.mp x1 e0 he0)
  obtain ⟨t1, t2⟩ := and2 (List.all_eq_true.mp s1 e0 he0)
  obtain ⟨d, hd, hq⟩ := List.any_eq_true.mp t2
  obtain ⟨q1, q2⟩ := and2 hq
  have q1 := of_decide_eq_true q1
  have q2 := of_decide_eq_true q2
  obtain ⟨u1, u2⟩ := and2 (List.all_eq_true.mp s2 d hd)
  obtain ⟨u2, u3⟩ := and2 u2
  have ev : fnV K d.at_ = d.val := by
    obtain ⟨i, hi, e⟩ := List.mem_iff_getElem.mp hd
    have z : (ys.map fun d => fnV K d.at_)[i]? = (ys.map IniX.val)[i]? := by rw [hv]
    rw [List.getElem?_map, List.getElem?_map, List.getElem?_eq_getElem hi, e] at z
    exact Option.some.inj z
  obtain ⟨fd, k1, k2⟩ := ini_ok (P := P) (mg := mg) (g := pinC (cfgE E K) x) ev (List.all_eq_true.mp x3 d hd) u1 u2 (of_decide_eq_true u3) htop hm hm2 rfl an_inj (hbind d hd)
  refine ⟨hP e0 he0, ?_, PySem.W.mg_of X G F.nm, d.at_, fd, d.ps, ?_, ?_, k2⟩
  · refine (cfg_C (not1000 (List.all_eq_true.mp hn1 e0 he0))).trans ?_
    rw [← of_decide_eq_true t1]
  · rw [q1]; exact F
  · rw [← q2]; exact k1
theorem xt_of (X : K.In h) (G : h.Ns mainGlobals mg) (hS : ∀ c, Pr.sup c = supOf E.sup c) (hx : exE E ys P.main.file K = true) (h0 : exS0 E ys = true) {n : Str} {ty : Ty} (hp : (ty = .verr ∧ n = "ValueError" ∧ mg n = none) ∨ ∃ d, ty = .own d ∧ (n, d) ∈ E.xd) :
    ∀ Y : Cx, Y.K = K → Y.mg = mg → TyE Y (pinC (cfgE E K) x) Pr n ty := by
  intro Y e1 e2
  subst e1 e2
  unfold exE at hx
  obtain ⟨x1, x2⟩ := and2 hx
  obtain ⟨x2, x3⟩ := and2 x2
  obtain ⟨x3, x4⟩ := and2 x3
  unfold exS0 at h0
  obtain ⟨hn, h0⟩ := and2 h0
  obtain ⟨hn1, hn⟩ := and2 hn
  obtain ⟨hn2, hn3⟩ := and2 hn
  unfold exS1 at h0
  obtain ⟨s1, s2⟩ := and2 h0
  obtain ⟨s2, s3⟩ := and2 s2
  have sup : ∀ c, Pr.sup c ≠ [] → (c, Pr.sup c) ∈ E.sup := fun c hc => by
    rw [hS c] at hc ⊢
    exact supOf_mem hc
  have n2 : ∀ c, Pr.sup c ≠ [] → c ≠ 1000 := fun c hc => not1000 (List.all_eq_true.mp hn2 _ (sup c hc))
  rcases hp with ⟨rfl, rfl, hm⟩ | ⟨d, rfl, hd⟩
  · refine .inl ⟨rfl, rfl, hm, fun c hc => ?_⟩
    obtain ⟨a, b⟩ := and2 (List.all_eq_true.mp x2 _ (sup c hc))
    obtain ⟨b, _⟩ := and2 b
    rw [cfg_C (n2 c hc)]
    exact of_decide_eq_true b
  · have en : n = E.cn d := of_decide_eq_true (List.all_eq_true.mp s3 _ hd)
    have nd : d ≠ 1000 := not1000 (List.all_eq_true.mp hn3 _ hd)
    refine .inr ⟨d, rfl, ?_, fun c hc => ?_⟩
    · rw [cfg_C nd, ← en]
      exact PySem.W.mg_of X G (He.eqO_ok (List.all_eq_true.mp x4 _ hd))
    · obtain ⟨a, b⟩ := and2 (List.all_eq_true.mp x2 _ (sup c hc))
      obtain ⟨_, b⟩ := and2 b
      obtain ⟨z, _⟩ := and2 (List.all_eq_true.mp b _ hd)
      rw [cfg_C nd, cfg_C (n2 c hc)]
      exact of_decide_eq_true z
theorem exm_of (hS : ∀ c, Pr.sup c = supOf E.sup c) (hx : exE E ys P.main.file K = true) (h0 : exS0 E ys = true) {n : Str} {d : Nat} (hd : (n, d) ∈ E.xd) : ∀ c, Pr.sup c ≠ [] → PySem.W.exmOne K (.ref ((pinC (cfgE E K) x).C c)) (.ref ((pinC (cfgE E K) x).C d)) = some ((Pr.sup c).contains d) := by
  intro c hc
  unfold exE at hx
  obtain ⟨x1, x2⟩ := and2 hx
  obtain ⟨x2, x3⟩ := and2 x2
  have m : (c, Pr.sup c) ∈ E.sup := by
    rw [hS c] at hc ⊢
    exact supOf_mem hc
  unfold exS0 at h0
  obtain ⟨hn, h0⟩ := and2 h0
  obtain ⟨hn1, hn⟩ := and2 hn
  obtain ⟨hn2, hn3⟩ := and2 hn
  obtain ⟨a, b⟩ := and2 (List.all_eq_true.mp x2 _ m)
  obtain ⟨_, b⟩ := and2 b
  obtain ⟨_, z⟩ := and2 (List.all_eq_true.mp b _ hd)
  rw [cfg_C (not1000 (List.all_eq_true.mp hn2 _ m)), cfg_C (not1000 (List.all_eq_true.mp hn3 _ hd))]
  exact of_decide_eq_true z
theorem sui_of (hS : ∀ c, Pr.sup c = supOf E.sup c) (hx : exE E ys P.main.file K = true) (h0 : exS0 E ys = true) : SuiOk K (pinC (cfgE E K) x) Pr E.fls := by
  refine ⟨fun c hc => ?_⟩
  unfold exE at hx
  obtain ⟨x1, x2⟩ := and2 hx
  obtain ⟨x2, x3⟩ := and2 x2
  have m : (c, Pr.sup c) ∈ E.sup := by
    rw [hS c] at hc ⊢
    exact supOf_mem hc
  unfold exS0 at h0
  obtain ⟨hn, h0⟩ := and2 h0
  obtain ⟨hn1, hn⟩ := and2 hn
  obtain ⟨hn2, hn3⟩ := and2 hn
  rw [cfg_C (not1000 (List.all_eq_true.mp hn2 _ m))]
  obtain ⟨a, _⟩ := and2 (List.all_eq_true.mp x2 _ m)
  unfold suiB at a
  obtain ⟨a1, a⟩ := and2 a
  obtain ⟨a2, a⟩ := and2 a
  obtain ⟨a3, a⟩ := and2 a
  obtain ⟨a4, a⟩ := and2 a
  obtain ⟨a5, a⟩ := and2 a
  obtain ⟨a6, a7⟩ := and2 a
  exact ⟨a1, xfB_ok a2, fun f hf => isSomeN_ok (List.all_eq_true.mp a3 _ (List.mem_map.mpr ⟨f, hf, rfl⟩)), He.eqO_ok a4, He.eqO_ok a5, of_decide_eq_true a6, of_decide_eq_true a7⟩
end

/-! ### classes of instances -/
def insX (K : PySem.W.Frag) (x : Str) (bt : List String) (own : List (Str × Bool)) : Bool := He.eqO (PySem.W.findIn K (.ref (He.ga K x)) "__class__") (some (some (.builtin "object.__class__"))) && (He.eqO (PySem.W.specialIn K (.builtin "object.__class__") "__get__") (some (some (.builtin "getset_descriptor.__get__"))) &&
  (decide (PySem.W.takesIn K (.builtin "object.__class__") = some true) && (decide (PySem.W.mroIn K (He.ga K x) (.type "object") = some true) && ((bt.all fun cn => decide (PySem.W.kitOne K (.ref (He.ga K x)) (.type cn) = some false)) && own.all fun p => decide (PySem.W.kitOne K (.ref (He.ga K x)) (.ref (He.ga K p.1)) = some p.2)))))
def isaN : List String := ["NoneType", "str", "bool", "int", "tuple", "list"]
def ownX (K : PySem.W.Frag) (y : Str) : Bool := isaN.all fun k => decide (PySem.W.kitOne K (.type k) (.ref (He.ga K y)) = some false)
theorem insX_ok {K : PySem.W.Frag} {x : Str} {bt : List String} {own : List (Str × Bool)} (h : insX K x bt own = true) (hc : Cls K (He.ga K x)) : InsOk K (He.ga K x) ∧ (∀ cn ∈ bt, PySem.W.kitOne K (.ref (He.ga K x)) (.type cn) = some false) ∧ ∀ p ∈ own, PySem.W.kitOne K (.ref (He.ga K x)) (.ref (He.ga K p.1)) = some p.2 := by
  unfold insX at h
  obtain ⟨h1, h⟩ := and2 h
  obtain ⟨h2, h⟩ := and2 h
  obtain ⟨h3, h⟩ := and2 h
  obtain ⟨h4, h⟩ := and2 h
  obtain ⟨h5, h6⟩ := and2 h
  exact ⟨⟨hc, He.eqO_ok h1, He.eqO_ok h2, of_decide_eq_true h3, of_decide_eq_true h4⟩, fun cn hcn => of_decide_eq_true (List.all_eq_true.mp h5 cn hcn), fun p hp => of_decide_eq_true (List.all_eq_true.mp h6 p hp)⟩
theorem ownX_ok {K : PySem.W.Frag} {y : Str} {d : Nat} (h : ownX K y = true) : ∀ k ∈ isaB (.own d), PySem.W.kitOne K (.type k.1) (.ref (He.ga K y)) = some k.2 := by
  intro k hk
  have hk : k ∈ [("NoneType", false), ("str", false), ("bool", false), ("int", false), ("tuple", false), ("list", false)] := hk
  have e : k.2 = false ∧ k.1 ∈ isaN := by
    simp only [List.mem_cons, List.not_mem_nil, or_false] at hk
    rcases hk with rfl | rfl | rfl | rfl | rfl | rfl <;> exact ⟨rfl, by simp [isaN]⟩
  rw [e.1]
  exact of_decide_eq_true (List.all_eq_true.mp h _ e.2)
theorem an_ne {x : Str} (h : anT.contains x = false) (h2 : x.cps.size < 24) : ∀ k, an k ≠ x := by
  intro k hk
  by_cases hl : k < 24
  · have : an k ∈ anT := by
      unfold an
      rw [if_pos hl, List.getD_eq_getElem?_getD, List.getElem?_eq_getElem (show k < anT.length from hl)]
      exact List.getElem_mem _
    rw [hk] at this
    rw [List.contains_iff_mem.mpr this] at h
    cases h
  · have : (an k).cps.size = k := by
      unfold an
      rw [if_neg hl]
      simp
    rw [hk] at this
    omega
end Wt

/-! Pure1: what the draws answer. -/
namespace Wt
open PySem
def cellF : Fn := ⟨2, 2, [.ifs (.cmp .lt (.var 1) (.blt .len [(.var 0)])) [.ret (.ix (.var 0) (.var 1))] [],
  .ret (.int 0)]⟩
def drawBody : List S := [.ifs (.cmp .ge (.var 0) (.int 1000000000000000000)) [.app 2 (.bin .mod (.blt .int [(.var 3)]) (.ix (.var 1) (.var 4))) false, .asg 3 (.bin .fdiv (.var 3) (.ix (.var 1) (.var 4))) false] [.asg 5 (.bin .mod (.blt .int [(.bin .add (.bin .add (.var 0) (.bin .mul (.int 7919) (.var 4))) (.int 13))]) (.int 2147483647)) false, .asg 5 (.bin .mod (.blt .int [(.bin .mul (.var 5) (.bin .add (.var 5) (.int 48271)))]) (.int 2147483629)) false, .asg 5 (.bin .mod (.blt .int [(.bin .add (.bin .mul (.var 5) (.bin .add (.var 5) (.int 69621))) (.bin .mul (.int 31) (.var 4)))]) (.int 2147483647)) false, .app 2 (.bin .mod (.blt .int [(.bin .fdiv (.var 5) (.int 9))]) (.ix (.var 1) (.var 4))) true]]
def drawsF : Fn := ⟨2, 6, [.asg 2 (.lst []) false,
  .asg 3 (.var 0) false,
  .forS (.one 4) .rng [(.blt .len [(.var 1)])] drawBody [0, 0, 2, 0, 0, 0],
  .ret (.var 2)]⟩
theorem big64 : 18446744073709551616 ≤ BIG := by
  unfold BIG
  exact (Nat.pow_le_pow_right (by decide) (by decide) : 2 ^ 64 ≤ 2 ^ 8000)
theorem divOk64 {i j : Int} (h : 0 < j) (h2 : j < 18446744073709551616) : DivOk i j = true := by
  unfold DivOk
  rw [Bool.and_eq_true, Bool.or_eq_true]
  refine ⟨decide_eq_true h, .inr ?_⟩
  refine Nat.ble_eq_true_of_le ?_
  have := big64
  omega
theorem mulOk64 {i j : Int} (h : i.natAbs < 18446744073709551616) : MulOk i j = true := by
  unfold MulOk
  rw [Bool.or_eq_true]
  exact .inl (Nat.ble_eq_true_of_le h)
section
variable {P : Prog} {cl : Nat → List T → R T} {mk : Nat → List T → R T}
theorem exB_cons {cx : Option T} {s : S} {ss : List S} {e : Env} : exB P cl mk cx (s :: ss) e = (exS P cl mk cx s e).seq fun e' => exB P cl mk cx ss e' := rfl
theorem exS_ifT {cx : Option T} {c : E} {a b : List S} {e : Env} (h : evE P cl mk cx c e = .ok (.bl true)) : exS P cl mk cx (.ifs c a b) e = exB P cl mk cx a e := by
  show (truth (evE P cl mk cx c e)).st e _ = _
  rw [h]; rfl
theorem exS_ifF {cx : Option T} {c : E} {a b : List S} {e : Env} (h : evE P cl mk cx c e = .ok (.bl false)) : exS P cl mk cx (.ifs c a b) e = exB P cl mk cx b e := by
  show (truth (evE P cl mk cx c e)).st e _ = _
  rw [h]; rfl
theorem exS_for {cx : Option T} {tg : Tg} {k : Ik} {its : List E} {body : List S} {own : List Nat} {e : Env} {ts xs : List T} (h : evL P cl mk cx its e = .ok ts) (h2 : walk P cl k ts = .ok xs) :
    exS P cl mk cx (.forS tg k its body own) e = forX (fun x e' => match bindTg tg x e' with | some e2 => exB P cl mk cx body e2 | none => .bad) xs e := by
  show (noX k (evL P cl mk cx its e)).st e _ = _
  rw [h, noX_ok]
  show (walk P cl k ts).st e _ = _
  rw [h2]; rfl
theorem walk_rng1 {n : Int} (h : small n = true) : walk P cl .rng [.int n] = .ok ((rangeI 0 n).map T.int) := by
  show chk (small n) _ = _
  rw [h]; rfl
theorem small_nat {n : Nat} (h : n ≤ 1000000) : small (n : Int) = true := by
  unfold small
  rw [Bool.and_eq_true]
  exact ⟨decide_eq_true (by omega), decide_eq_true (by omega)⟩
theorem range_nat {n : Nat} : (rangeI 0 (n : Int)).map T.int = (List.range' 0 n).map fun (k : Nat) => T.int (k : Int) := by
  unfold rangeI
  rw [List.map_map, List.range_eq_range', Int.sub_zero, Int.toNat_natCast]
  refine List.map_congr_left fun k _ => ?_
  show T.int (0 + (k : Int)) = _
  rw [Int.zero_add]
theorem exS_ret {cx : Option T} {a : E} {e : Env} {t : T} (h : evE P cl mk cx a e = .ok t) : exS P cl mk cx (.ret a) e = .rt t := by
  show (evE P cl mk cx a e).st e _ = _
  rw [h]; rfl
theorem exS_asg {cx : Option T} {a : E} {e : Env} {t : T} {x : Nat} (h : evE P cl mk cx a e = .ok t) : exS P cl mk cx (.asg x a false) e = .nx (e.set x (some t)) := by
  show (evE P cl mk cx a e).st e _ = _
  rw [h]
  show grd false t _ = _
  rw [grd_false]
theorem run_of {n f : Nat} {d : Fn} {ts : List T} {r : SR} (hf : P.fn f = some d) (hl : ts.length = d.np) (h : exB P (run P n) (make P n) none d.body (start d ts) = r) : run P (n + 1) f ts = r.out := by
  show (match P.fn f with | some d => chk (ts.length == d.np) (exB P (run P n) (make P n) none d.body (start d ts)).out | none => .bad) = _
  rw [hf]
  show chk (ts.length == d.np) (exB P (run P n) (make P n) none d.body (start d ts)).out = _
  rw [h, hl, beq_self_eq_true]
  rfl
theorem ev_blt1 {b : Blt} {a : E} {e : Env} {cx : Option T} : evE P cl mk cx (.blt b [a]) e = (evE P cl mk cx a e).bnd (blt1 P cl b) := by
  show ((evE P cl mk cx a e).bnd fun t => (R.ok []).bnd fun xs => R.ok (t :: xs)).bnd (bltT P cl b) = _
  cases evE P cl mk cx a e <;> rfl
theorem ix_ok {xs : List T} {i : Nat} {t : T} (h : xs[i]? = some t) : ixT (.lst xs) (.int (i : Int)) = .ok t := by
  have hl : i < xs.length := (List.getElem?_eq_some_iff.mp h).1
  show (ofO (ixI xs.length (i : Int))).bnd (fun j => ofO xs[j]?) = _
  have : ixI xs.length (i : Int) = some i := by
    unfold ixI
    rw [if_pos (by omega), if_pos (by omega)]
    rfl
  rw [this]
  show ofO xs[i]? = _
  rw [h]; rfl
/-- one draw -/
theorem draw_turn {c r s : Int} {S : List T} {ds : List T} {i : Nat} {o4 o5 : Option T} (hS : S[i]? = some (.int s)) (h0 : 0 < s) (h1 : s < 18446744073709551616) (hd : ds.length < LIM) :
    ∃ d r' o5', 0 ≤ d ∧ d < s ∧ exB P cl mk none drawBody [some (.int c), some (.lst S), some (.lst ds), some (.int r), some (.int (i : Int)), o5] = .nx [some (.int c), some (.lst S), some (.lst (ds ++ [.int d])), some (.int r'), some (.int (i : Int)), o5'] := by
  by_cases hc : 1000000000000000000 ≤ c
  · refine ⟨r % s, r / s, o5, Int.emod_nonneg _ (by omega), Int.emod_lt_of_pos _ h0, ?_⟩
    have hx := ix_ok hS
    have hd' : Nat.blt ds.length LIM = true := Nat.ble_eq_true_of_le hd
    simp [drawBody, exB, exS, evE, evL, bltT, cmpT, cmpI, hc, truth, blt1, hx, binT, chk, h0, divOk64 h0 h1, R.st, R.bnd, SR.seq, slotL, slot, ofO, putL, chkS, hd', grd]
  · obtain ⟨x1, y1⟩ : ∃ x, (c + 7919 * (i : Int) + 13) % 2147483647 = x := ⟨_, rfl⟩
    obtain ⟨x2, y2⟩ : ∃ x, (x1 * (x1 + 48271)) % 2147483629 = x := ⟨_, rfl⟩
    obtain ⟨x3, y3⟩ : ∃ x, (x2 * (x2 + 69621) + 31 * (i : Int)) % 2147483647 = x := ⟨_, rfl⟩
    have b1 : 0 ≤ x1 ∧ x1 < 2147483647 := by rw [← y1]; exact ⟨Int.emod_nonneg _ (by omega), Int.emod_lt_of_pos _ (by omega)⟩
    have b2 : 0 ≤ x2 ∧ x2 < 2147483629 := by rw [← y2]; exact ⟨Int.emod_nonneg _ (by omega), Int.emod_lt_of_pos _ (by omega)⟩
    have b3 : 0 ≤ x3 ∧ x3 < 2147483647 := by rw [← y3]; exact ⟨Int.emod_nonneg _ (by omega), Int.emod_lt_of_pos _ (by omega)⟩
    refine ⟨(x3 / 9) % s, r, some (.int x3), Int.emod_nonneg _ (by omega), Int.emod_lt_of_pos _ h0, ?_⟩
    have hx := ix_ok hS
    have hd' : Nat.blt ds.length LIM = true := Nat.ble_eq_true_of_le hd
    have m1 : MulOk 7919 (i : Int) = true := mulOk64 (by decide)
    have m2 : MulOk x1 (x1 + 48271) = true := mulOk64 (by omega)
    have m3 : MulOk x2 (x2 + 69621) = true := mulOk64 (by omega)
    have m4 : MulOk 31 (i : Int) = true := mulOk64 (by decide)
    have d9 : DivOk x3 9 = true := divOk64 (by decide) (by decide)
    simp [drawBody, exB, exS, evE, evL, bltT, cmpT, cmpI, hc, truth, blt1, hx, binT, chk, h0, R.st, R.bnd, SR.seq, slotL, slot, ofO, putL, chkS, hd', grd, m1, m2, m3, m4, d9, y1, y2, y3, noList]
theorem draw_loop {c : Int} {sz : List Int} (hs : ∀ s ∈ sz, 0 < s ∧ s < 18446744073709551616) (hl : sz.length ≤ 1000) : ∀ (m i : Nat) (ds : List Int) (r : Int) (o4 o5 : Option T), i + m = sz.length → ds.length = i →
    ∃ (es : List Int) (r' : Int) (o4' o5' : Option T), es.length = m ∧ (∀ (j : Nat) (d s : Int), es[j]? = some d → sz[i + j]? = some s → 0 ≤ d ∧ d < s) ∧
      forX (fun x e => match bindTg (.one 4) x e with | some e2 => exB P cl mk none drawBody e2 | none => .bad) ((List.range' i m).map fun (k : Nat) => T.int (k : Int)) [some (.int c), some (.lst (sz.map T.int)), some (.lst (ds.map T.int)), some (.int r), o4, o5] =
        .nx [some (.int c), some (.lst (sz.map T.int)), some (.lst ((ds ++ es).map T.int)), some (.int r'), o4', o5']
  | 0, i, ds, r, o4, o5, _, _ => ⟨[], r, o4, o5, rfl, fun j d s h => by simp at h, by simp [forX]⟩
  | m + 1, i, ds, r, o4, o5, hi, hd => by
    have hlt : i < sz.length := by omega
    have hS : (sz.map T.int)[i]? = some (.int sz[i]) := by simp [hlt]
    obtain ⟨h0, h1⟩ := hs sz[i] (List.getElem_mem hlt)
    obtain ⟨d, r1, o5', d1, d2, ht⟩ := draw_turn (P := P) (cl := cl) (mk := mk) (c := c) (r := r) (ds := ds.map T.int) (o4 := o4) (o5 := o5) hS h0 h1 (by rw [List.length_map, hd]; unfold LIM; omega)
    obtain ⟨es, r', p4, p5, e1, e2, e3⟩ := draw_loop hs hl m (i + 1) (ds ++ [d]) r1 (some (.int (i : Int))) o5' (by omega) (by rw [List.length_append, hd]; rfl)
    refine ⟨d :: es, r', p4, p5, by rw [List.length_cons, e1], fun j x s hj hz => ?_, ?_⟩
    · cases j with
      | zero =>
        have hz : sz[i]? = some s := hz
        rw [List.getElem?_eq_getElem hlt] at hz
        cases hz
        cases hj
        exact ⟨d1, d2⟩
      | succ j => exact e2 j x s (by simpa using hj) (by rw [show i + 1 + j = i + (j + 1) by omega]; exact hz)
    · rw [List.range'_succ, List.map_cons]
      show (match exB P cl mk none drawBody [some (.int c), some (.lst (sz.map T.int)), some (.lst (ds.map T.int)), some (.int r), some (.int (i : Int)), o5] with
        | .nx e' => forX _ _ e'
        | .ct e' => forX _ _ e'
        | .bk e' => .nx e'
        | .rt t => .rt t
        | .exc x e' => .exc x e'
        | .bad => .bad) = _
      rw [ht]
      rw [show ds.map T.int ++ [T.int d] = (ds ++ [d]).map T.int by simp]
      refine e3.trans ?_
      rw [List.append_assoc]
      rfl
/-- the draws: as many as sizes, each below its size -/
theorem draws_ok {n f : Nat} {c : Int} {sz : List Int} (hf : P.fn f = some drawsF) (hs : ∀ s ∈ sz, 0 < s ∧ s < 18446744073709551616) (hl : sz.length ≤ 1000) :
    ∃ ds : List Int, ds.length = sz.length ∧ (∀ (j : Nat) (d s : Int), ds[j]? = some d → sz[j]? = some s → 0 ≤ d ∧ d < s) ∧ run P (n + 1) f [.int c, .lst (sz.map T.int)] = .ok (.lst (ds.map T.int)) := by
  obtain ⟨ds, r', p4, p5, e1, e2, e3⟩ := draw_loop (P := P) (cl := run P n) (mk := make P n) (c := c) hs hl sz.length 0 [] c none none (by omega) rfl
  refine ⟨ds, e1, fun j d s h1 h2 => e2 j d s h1 (by rw [Nat.zero_add]; exact h2), ?_⟩
  have hlen : ((sz.map T.int).length : Int) = (sz.length : Nat) := by rw [List.length_map]
  have hw : walk P (run P n) .rng [.int (sz.length : Nat)] = .ok ((List.range' 0 sz.length).map fun (k : Nat) => T.int (k : Int)) := by
    rw [walk_rng1 (small_nat (by omega)), range_nat]
  have hev : evL P (run P n) (make P n) none [(.blt .len [(.var 1)])] [some (.int c), some (.lst (sz.map T.int)), some (.lst []), some (.int c), none, none] = .ok [.int (sz.length : Nat)] := by
    rw [← hlen]
    rfl
  have hfor := (exS_for (tg := .one 4) (body := drawBody) (own := [0, 0, 2, 0, 0, 0]) (mk := make P n) hev hw).trans e3
  refine run_of (r := .rt (.lst (ds.map T.int))) hf rfl ?_
  show exB P (run P n) (make P n) none [.asg 2 (.lst []) false, .asg 3 (.var 0) false, .forS (.one 4) .rng [(.blt .len [(.var 1)])] drawBody [0, 0, 2, 0, 0, 0], .ret (.var 2)] [some (.int c), some (.lst (sz.map T.int)), none, none, none, none] = _
  rw [exB_cons, exS_asg (t := .lst []) rfl, SR.seq_nx, exB_cons, exS_asg (t := .int c) rfl, SR.seq_nx, exB_cons]
  show (SR.seq (exS P (run P n) (make P n) none (.forS (.one 4) .rng [(.blt .len [(.var 1)])] drawBody [0, 0, 2, 0, 0, 0]) [some (.int c), some (.lst (sz.map T.int)), some (.lst []), some (.int c), none, none]) _) = _
  rw [hfor, SR.seq_nx, exB_cons, exS_ret (t := .lst (ds.map T.int)) rfl]
  rfl
theorem cell_ok {n f : Nat} {ns : List Int} {k : Nat} (hf : P.fn f = some cellF) : run P (n + 1) f [.scr ns, .int (k : Int)] = .ok (.int (ns.getD k 0)) := by
  refine (run_of (r := .rt (.int (ns.getD k 0))) hf rfl ?_).trans rfl
  show exB P (run P n) (make P n) none [.ifs (.cmp .lt (.var 1) (.blt .len [(.var 0)])) [.ret (.ix (.var 0) (.var 1))] [], .ret (.int 0)] [some (.scr ns), some (.int (k : Int))] = _
  have hev : evE P (run P n) (make P n) none (.cmp .lt (.var 1) (.blt .len [(.var 0)])) [some (.scr ns), some (.int (k : Int))] = .ok (.bl (decide ((k : Int) < (ns.length : Int)))) := rfl
  by_cases h : k < ns.length
  · have h1 : decide ((k : Int) < (ns.length : Int)) = true := decide_eq_true (by omega)
    rw [h1] at hev
    have h2 : ixI ns.length (k : Int) = some k := by
      unfold ixI
      rw [if_pos (by omega), if_pos (by omega)]
      rfl
    have h3 : ns[k]? = some ns[k] := by simp [h]
    have h4 : evE P (run P n) (make P n) none (.ix (.var 0) (.var 1)) [some (.scr ns), some (.int (k : Int))] = .ok (.int (ns.getD k 0)) := by
      show ((ofO (ixI ns.length (k : Int))).bnd fun j => (ofO ns[j]?).bnd fun n => R.ok (T.int n)) = _
      rw [h2]
      show ((ofO ns[k]?).bnd fun n => R.ok (T.int n)) = _
      rw [h3, List.getD_eq_getElem?_getD, h3]
      rfl
    rw [exB_cons, exS_ifT hev, exB_cons, exS_ret h4]
    rfl
  · have h1 : decide ((k : Int) < (ns.length : Int)) = false := decide_eq_false (by omega)
    rw [h1] at hev
    rw [exB_cons, exS_ifF hev, List.getD_eq_getElem?_getD, List.getElem?_eq_none (by omega)]
    rfl
end
end Wt

/-! PureA: rules that go by the tree. -/
namespace Wt
open PySem
abbrev tI (xs : List Int) : List T := xs.map T.int
abbrev tL (rows : List (List Int)) : List T := rows.map fun r => T.lst (tI r)
abbrev tU (rows : List (List Int)) : List T := rows.map fun r => T.tup (tI r)
/-- the item at a place -/
def gD {α : Type} [Inhabited α] (xs : List α) (k : Int) : α := xs.getD k.toNat default
/-- slots told anew -/
def up (e : Env) (l : List (Nat × Option T)) : Env := l.foldl (fun e p => e.set p.1 p.2) e
noncomputable def forT (P : Prog) (cl : Nat → List T → R T) (mk : Nat → List T → R T) (cx : Option T) (tg : Tg) (body : List S) (x : T) (e : Env) : SR := match bindTg tg x e with
  | some e2 => exB P cl mk cx body e2
  | none => .bad
theorem whileN_up {c : Env → R Bool} {b : Env → SR} : ∀ {n m : Nat} {e : Env} {r : SR}, whileN c b n e = some r → n ≤ m → whileN c b m e = some r
  | 0, _, _, _, h, _ => by cases h
  | n + 1, 0, _, _, _, h => by omega
  | n + 1, m + 1, e, r, h, hm => by
    unfold whileN at h ⊢
    revert h
    cases c e with
    | ok k =>
      cases k with
      | true =>
        dsimp only
        cases b e with
        | nx e' => exact fun h => whileN_up h (by omega)
        | ct e' => exact fun h => whileN_up h (by omega)
        | _ => exact id
      | false => exact id
    | exc x => exact id
    | bad => exact id
theorem whX {c : Env → R Bool} {b : Env → SR} {n : Nat} {e : Env} {r : SR} (h : whileN c b n e = some r) : whileX c b e = r := by
  unfold whileX
  have hx : ∃ r, ∃ n, whileN c b n e = some r := ⟨r, n, h⟩
  rw [dif_pos hx]
  obtain ⟨m, hm⟩ := Classical.choose_spec hx
  have h1 := whileN_up hm (Nat.le_max_left m n)
  have h2 := whileN_up h (Nat.le_max_right m n)
  rw [h1] at h2
  exact Option.some.inj h2
section
variable {P : Prog} {cl mk : Nat → List T → R T} {cx : Option T} {e : Env} {a b c : E} {ss : List S} {r : SR}
theorem exB_app : ∀ (a b : List S) (e : Env), exB P cl mk cx (a ++ b) e = (exB P cl mk cx a e).seq fun e' => exB P cl mk cx b e'
  | [], b, e => rfl
  | s :: a, b, e => by
    rw [List.cons_append, exB_cons, exB_cons]
    cases exS P cl mk cx s e with
    | nx e' => exact exB_app a b e'
    | rt t => rfl
    | bk e => rfl
    | ct e => rfl
    | exc x e => rfl
    | bad => rfl
/-! expressions -/
theorem v_var {i : Nat} {t : T} (h : e.getD i none = some t) : evE P cl mk cx (.var i) e = .ok t := by
  show ofO (e.getD i none) = _
  rw [h]; rfl
theorem v_int {i : Int} : evE P cl mk cx (.int i) e = .ok (.int i) := rfl
theorem v_bl {i : Bool} : evE P cl mk cx (.bl i) e = .ok (.bl i) := rfl
theorem v_non : evE P cl mk cx .non e = .ok .non := rfl
theorem v_str {s : Str} : evE P cl mk cx (.str s) e = .ok (.str s) := rfl
theorem v_bin {o : Bop} {x y t : T} (h1 : evE P cl mk cx a e = .ok x) (h2 : evE P cl mk cx b e = .ok y) (h3 : binT P cl o x y = .ok t) : evE P cl mk cx (.bin o a b) e = .ok t := by
  show (evE P cl mk cx a e).bnd _ = _
  rw [h1]
  show (evE P cl mk cx b e).bnd _ = _
  rw [h2]
  exact h3
theorem v_cmp {o : Cop} {x y t : T} (h1 : evE P cl mk cx a e = .ok x) (h2 : evE P cl mk cx b e = .ok y) (h3 : cmpT P cl o x y = .ok t) : evE P cl mk cx (.cmp o a b) e = .ok t := by
  show (evE P cl mk cx a e).bnd _ = _
  rw [h1]
  show (evE P cl mk cx b e).bnd _ = _
  rw [h2]
  exact h3
theorem v_cmp2 {o1 o2 : Cop} {x y z : T} {p q : Bool} (h1 : evE P cl mk cx a e = .ok x) (h2 : evE P cl mk cx b e = .ok y) (h3 : cmpT P cl o1 x y = .ok (.bl p)) (h4 : p = true → evE P cl mk cx c e = .ok z) (h5 : p = true → cmpT P cl o2 y z = .ok (.bl q)) :
    evE P cl mk cx (.cmp2 o1 o2 a b c) e = .ok (.bl (p && q)) := by
  show (evE P cl mk cx a e).bnd _ = _
  rw [h1]
  show (evE P cl mk cx b e).bnd _ = _
  rw [h2]
  show (truth (cmpT P cl o1 x y)).bnd _ = _
  rw [h3]
  cases p with
  | false => rfl
  | true =>
    show (evE P cl mk cx c e).bnd _ = _
    rw [h4 rfl]
    exact h5 rfl
theorem v_neg {i : Int} (h : evE P cl mk cx a e = .ok (.int i)) : evE P cl mk cx (.neg a) e = .ok (.int (-i)) := by
  show (evE P cl mk cx a e).bnd _ = _
  rw [h]; rfl
theorem v_not {p : Bool} (h : evE P cl mk cx a e = .ok (.bl p)) : evE P cl mk cx (.not a) e = .ok (.bl (!p)) := by
  show (truth (evE P cl mk cx a e)).bnd _ = _
  rw [h]; rfl
theorem v_and {p q : Bool} (h1 : evE P cl mk cx a e = .ok (.bl p)) (h2 : p = true → evE P cl mk cx b e = .ok (.bl q)) : evE P cl mk cx (.and a b) e = .ok (.bl (p && q)) := by
  show (truth (evE P cl mk cx a e)).bnd _ = _
  rw [h1]
  cases p with
  | false => rfl
  | true => exact h2 rfl
theorem v_or {p q : Bool} (h1 : evE P cl mk cx a e = .ok (.bl p)) (h2 : p = false → evE P cl mk cx b e = .ok (.bl q)) : evE P cl mk cx (.or a b) e = .ok (.bl (p || q)) := by
  show (truth (evE P cl mk cx a e)).bnd _ = _
  rw [h1]
  cases p with
  | true => rfl
  | false => exact h2 rfl
theorem v_ite {p : Bool} {x y t : T} (h1 : evE P cl mk cx c e = .ok (.bl p)) (h2 : p = true → evE P cl mk cx a e = .ok x) (h3 : p = false → evE P cl mk cx b e = .ok y) (h4 : (bif p then x else y) = t) : evE P cl mk cx (.ite c a b) e = .ok t := by
  show (truth (evE P cl mk cx c e)).bnd _ = _
  rw [h1, ← h4]
  cases p with
  | true => exact h2 rfl
  | false => exact h3 rfl
theorem i_int {p : Bool} {x y : Int} : (bif p then T.int x else T.int y) = T.int (bif p then x else y) := by cases p <;> rfl
theorem i_bl {p : Bool} {x y : Bool} : (bif p then T.bl x else T.bl y) = T.bl (bif p then x else y) := by cases p <;> rfl
theorem i_lst {p : Bool} {x y : List T} : (bif p then T.lst x else T.lst y) = T.lst (bif p then x else y) := by cases p <;> rfl
theorem i_lstI {p : Bool} {x y : List Int} : (bif p then T.lst (tI x) else T.lst (tI y)) = T.lst (tI (bif p then x else y)) := by cases p <;> rfl
theorem i_tupI {p : Bool} {x y : List Int} : (bif p then T.tup (tI x) else T.tup (tI y)) = T.tup (tI (bif p then x else y)) := by cases p <;> rfl
theorem l_nil : evL P cl mk cx [] e = .ok [] := rfl
theorem l_cons {es : List E} {t : T} {ts : List T} (h1 : evE P cl mk cx a e = .ok t) (h2 : evL P cl mk cx es e = .ok ts) : evL P cl mk cx (a :: es) e = .ok (t :: ts) := by
  show (evE P cl mk cx a e).bnd _ = _
  rw [h1]
  show (evL P cl mk cx es e).bnd _ = _
  rw [h2]; rfl
theorem v_tup {es : List E} {ts : List T} (h1 : evL P cl mk cx es e = .ok ts) : evE P cl mk cx (.tup es) e = .ok (.tup ts) := by
  show (evL P cl mk cx es e).bnd _ = _
  rw [h1]; rfl
theorem v_lst {es : List E} {ts : List T} (h1 : evL P cl mk cx es e = .ok ts) : evE P cl mk cx (.lst es) e = .ok (.lst ts) := by
  show (evL P cl mk cx es e).bnd _ = _
  rw [h1]; rfl
theorem v_nil0 : evE P cl mk cx (.lst []) e = .ok (.lst []) := rfl
theorem v_nilI : evE P cl mk cx (.lst []) e = .ok (.lst (tI [])) := rfl
theorem l_nilM {α : Type} {f : α → T} : evL P cl mk cx [] e = .ok (([] : List α).map f) := rfl
theorem l_consI {es : List E} {i : Int} {xs : List Int} (h1 : evE P cl mk cx a e = .ok (.int i)) (h2 : evL P cl mk cx es e = .ok (tI xs)) : evL P cl mk cx (a :: es) e = .ok (tI (i :: xs)) := l_cons h1 h2
theorem l_consL {es : List E} {i : List Int} {xs : List (List Int)} (h1 : evE P cl mk cx a e = .ok (.lst (tI i))) (h2 : evL P cl mk cx es e = .ok (tL xs)) : evL P cl mk cx (a :: es) e = .ok (tL (i :: xs)) := l_cons h1 h2
theorem l_consU {es : List E} {i : List Int} {xs : List (List Int)} (h1 : evE P cl mk cx a e = .ok (.tup (tI i))) (h2 : evL P cl mk cx es e = .ok (tU xs)) : evL P cl mk cx (a :: es) e = .ok (tU (i :: xs)) := l_cons h1 h2
theorem v_lstI {es : List E} {xs : List Int} (h : evL P cl mk cx (a :: es) e = .ok (tI xs)) : evE P cl mk cx (.lst (a :: es)) e = .ok (.lst (tI xs)) := v_lst h
theorem v_lstL {es : List E} {xs : List (List Int)} (h : evL P cl mk cx (a :: es) e = .ok (tL xs)) : evE P cl mk cx (.lst (a :: es)) e = .ok (.lst (tL xs)) := v_lst h
theorem v_lstU {es : List E} {xs : List (List Int)} (h : evL P cl mk cx (a :: es) e = .ok (tU xs)) : evE P cl mk cx (.lst (a :: es)) e = .ok (.lst (tU xs)) := v_lst h
theorem v_tupI {es : List E} {xs : List Int} (h : evL P cl mk cx (a :: es) e = .ok (tI xs)) : evE P cl mk cx (.tup (a :: es)) e = .ok (.tup (tI xs)) := v_tup h
theorem v_tupU {es : List E} {xs : List (List Int)} (h : evL P cl mk cx (a :: es) e = .ok (tU xs)) : evE P cl mk cx (.tup (a :: es)) e = .ok (.tup (tU xs)) := v_tup h
theorem v_fld {f : Nat} {x t : T} (h1 : evE P cl mk cx a e = .ok x) (h2 : fldT P x f = .ok t) : evE P cl mk cx (.fld a f) e = .ok t := by
  show (evE P cl mk cx a e).bnd _ = _
  rw [h1]; exact h2
theorem v_ix {x y t : T} (h1 : evE P cl mk cx a e = .ok x) (h2 : evE P cl mk cx b e = .ok y) (h3 : ixT x y = .ok t) : evE P cl mk cx (.ix a b) e = .ok t := by
  show (evE P cl mk cx a e).bnd _ = _
  rw [h1]
  show (evE P cl mk cx b e).bnd _ = _
  rw [h2]; exact h3
theorem v_slice {lo hi : List E} {x y z t : T} (h1 : evE P cl mk cx a e = .ok x) (h2 : evP P cl mk cx lo e = .ok y) (h3 : evP P cl mk cx hi e = .ok z) (h4 : sliceT x y z = .ok t) : evE P cl mk cx (.slice a lo hi) e = .ok t := by
  show (evE P cl mk cx a e).bnd (fun x => (partR (evP P cl mk cx lo e)).bnd fun y => (partR (evP P cl mk cx hi e)).bnd fun z => sliceT x y z) = _
  have q : ∀ (l : List E) (y : T), evP P cl mk cx l e = .ok y → partR (evP P cl mk cx l e) = .ok y := fun l y h => by
    rw [h]
    cases l with
    | nil =>
      have h : R.ok T.non = .ok y := h
      cases h
      rfl
    | cons a l =>
      have h : onlyI (evE P cl mk cx a e) = .ok y := h
      cases q : evE P cl mk cx a e with
      | ok t =>
        rw [q] at h
        cases t with
        | int i => cases h; rfl
        | _ => cases h
      | exc x => rw [q] at h; cases h
      | bad => rw [q] at h; cases h
  rw [h1, q lo y h2, q hi z h3]
  exact h4
theorem p_nil : evP P cl mk cx [] e = .ok .non := rfl
theorem p_one {i : Int} {es : List E} (h : evE P cl mk cx a e = .ok (.int i)) : evP P cl mk cx (a :: es) e = .ok (.int i) := by
  show onlyI (evE P cl mk cx a e) = _
  rw [h]; rfl
theorem v_rev {x t : T} (h1 : evE P cl mk cx a e = .ok x) (h2 : revT x = .ok t) : evE P cl mk cx (.rev a) e = .ok t := by
  show (evE P cl mk cx a e).bnd _ = _
  rw [h1]; exact h2
theorem v_call0 {f : Nat} {es : List E} {ts : List T} {t : T} (h1 : evL P cl mk cx es e = .ok ts) (h2 : cl f ts = .ok t) : evE P cl mk cx (.call f es []) e = .ok t := by
  show (evL P cl mk cx es e).bnd _ = _
  rw [h1]; exact h2
theorem v_call {f : Nat} {es : List E} {pm : List Pa} {ts us : List T} {t : T} (h1 : evL P cl mk cx es e = .ok ts) (h2 : args pm ts = us) (h3 : cl f us = .ok t) : evE P cl mk cx (.call f es pm) e = .ok t := by
  show (evL P cl mk cx es e).bnd _ = _
  rw [h1]; show cl f (args pm ts) = _
  rw [h2]; exact h3
theorem v_meth {m f : Nat} {o : E} {es : List E} {pm : List Pa} {x : T} {ts us : List T} {t : T} (h1 : evE P cl mk cx o e = .ok x) (h2 : methOf P m x = some f) (h3 : evL P cl mk cx es e = .ok ts) (h4 : args pm (x :: ts) = us) (h5 : cl f us = .ok t) :
    evE P cl mk cx (.meth m o es pm) e = .ok t := by
  show (evE P cl mk cx o e).bnd _ = _
  rw [h1]
  show (ofO (methOf P m x)).bnd _ = _
  rw [h2]
  show (evL P cl mk cx es e).bnd _ = _
  rw [h3]
  show cl f (args pm (x :: ts)) = _
  rw [h4]; exact h5
theorem v_make {c : Nat} {es : List E} {pm : List Pa} {ts us : List T} {t : T} (h1 : evL P cl mk cx es e = .ok ts) (h2 : args pm ts = us) (h3 : mk c us = .ok t) : evE P cl mk cx (.make c es pm) e = .ok t := by
  show (evL P cl mk cx es e).bnd _ = _
  rw [h1]; show mk c (args pm ts) = _
  rw [h2]; exact h3
theorem v_meth0 {m f : Nat} {o : E} {es : List E} {x : T} {ts : List T} {t : T} (h1 : evE P cl mk cx o e = .ok x) (h2 : methOf P m x = some f) (h3 : evL P cl mk cx es e = .ok ts) (h5 : cl f (x :: ts) = .ok t) : evE P cl mk cx (.meth m o es []) e = .ok t := v_meth h1 h2 h3 rfl h5
theorem v_make0 {c : Nat} {es : List E} {ts : List T} {t : T} (h1 : evL P cl mk cx es e = .ok ts) (h3 : mk c ts = .ok t) : evE P cl mk cx (.make c es []) e = .ok t := v_make h1 rfl h3
theorem v_blt1 {o : Blt} {x t : T} (h1 : evE P cl mk cx a e = .ok x) (h2 : blt1 P cl o x = .ok t) : evE P cl mk cx (.blt o [a]) e = .ok t := by
  rw [ev_blt1, h1]; exact h2
theorem v_blt2 {o : Blt} {x y t : T} (h1 : evE P cl mk cx a e = .ok x) (h2 : evE P cl mk cx b e = .ok y) (h3 : blt2 o x y = .ok t) : evE P cl mk cx (.blt o [a, b]) e = .ok t := by
  show (evL P cl mk cx [a, b] e).bnd _ = _
  rw [l_cons h1 (l_cons h2 l_nil)]
  exact h3
theorem c_nil : evC P cl mk cx [] e = .ok true := rfl
theorem c_one {es : List E} {p : Bool} (h : evE P cl mk cx a e = .ok (.bl p)) : evC P cl mk cx (a :: es) e = .ok p := by
  show truth (evE P cl mk cx a e) = _
  rw [h]; rfl
theorem compL_at {α : Type} {tg : Tg} {cd : Env → R Bool} {el : Env → R T} {it : α → T} {env : α → Env} {q : α → Bool} {f : α → T} : ∀ (xs : List α), (∀ k ∈ xs, bindTg tg (it k) e = some (env k)) → (∀ k ∈ xs, cd (env k) = .ok (q k)) → (∀ k ∈ xs, q k = true → el (env k) = .ok (f k)) →
    compL tg cd el e (xs.map it) = .ok ((xs.filter q).map f)
  | [], _, _, _ => rfl
  | k :: xs, h0, h1, h2 => by
    have ih := compL_at (it := it) xs (fun j hj => h0 j (List.mem_cons_of_mem _ hj)) (fun j hj => h1 j (List.mem_cons_of_mem _ hj)) fun j hj => h2 j (List.mem_cons_of_mem _ hj)
    have a := h0 k List.mem_cons_self
    have b := h1 k List.mem_cons_self
    have c := h2 k List.mem_cons_self
    rw [List.map_cons]
    unfold compL
    rw [a]
    simp only []
    rw [b]
    cases h : q k with
    | true =>
      rw [List.filter_cons_of_pos h]
      simp only []
      rw [c h, ih]; rfl
    | false => rw [List.filter_cons_of_neg (by rw [h]; exact Bool.false_ne_true)]; exact ih
theorem v_comp {α : Type} {tg : Tg} {k : Ik} {its cds : List E} {el : E} {ts : List T} {xs : List α} {it : α → T} {env : α → Env} {q : α → Bool} {f : α → T} {ys : List T}
    (h1 : evL P cl mk cx its e = .ok ts) (h2 : walk P cl k ts = .ok (xs.map it)) (h3 : Nat.ble xs.length LIM = true) (h4 : ∀ k ∈ xs, bindTg tg (it k) e = some (env k)) (h5 : ∀ k ∈ xs, evC P cl mk cx cds (env k) = .ok (q k)) (h6 : ∀ k ∈ xs, q k = true → evE P cl mk cx el (env k) = .ok (f k)) (h7 : (xs.filter q).map f = ys) :
    evE P cl mk cx (.comp el tg k its cds) e = .ok (.lst ys) := by
  show (noX k (evL P cl mk cx its e)).bnd _ = _
  rw [h1, noX_ok]
  show (walk P cl k ts).bnd _ = _
  rw [h2]
  show chk (Nat.ble (xs.map it).length LIM) ((compL tg (fun e' => evC P cl mk cx cds e') (fun e' => evE P cl mk cx el e') e (xs.map it)).bnd _) = _
  rw [List.length_map, h3, compL_at xs h4 h5 h6, ← h7]
  rfl
theorem v_comp0 {α : Type} {tg : Tg} {k : Ik} {its : List E} {el : E} {ts : List T} {xs : List α} {it : α → T} {env : α → Env} {f : α → T} {ys : List T}
    (h1 : evL P cl mk cx its e = .ok ts) (h2 : walk P cl k ts = .ok (xs.map it)) (h3 : Nat.ble xs.length LIM = true) (h4 : ∀ k ∈ xs, bindTg tg (it k) e = some (env k)) (h6 : ∀ k ∈ xs, evE P cl mk cx el (env k) = .ok (f k)) (h7 : xs.map f = ys) :
    evE P cl mk cx (.comp el tg k its []) e = .ok (.lst ys) :=
  v_comp (q := fun _ => true) h1 h2 h3 h4 (fun _ _ => rfl) (fun k hk _ => h6 k hk) (by rw [List.filter_eq_self.mpr fun _ _ => rfl]; exact h7)
theorem m_id {xs : List Int} : (xs.map fun k => T.int k) = tI xs := rfl
theorem m_idL {xs : List (List Int)} : (xs.map fun k => T.lst (tI k)) = tL xs := rfl
theorem m_idU {xs : List (List Int)} : (xs.map fun k => T.tup (tI k)) = tU xs := rfl
theorem m_int {α : Type} {xs : List α} {g : α → Int} : (xs.map fun k => T.int (g k)) = tI (xs.map g) := by unfold tI; rw [List.map_map]; rfl
theorem m_lst {α : Type} {xs : List α} {g : α → List Int} : (xs.map fun k => T.lst (tI (g k))) = tL (xs.map g) := by unfold tL; rw [List.map_map]; rfl
theorem m_tup {α : Type} {xs : List α} {g : α → List Int} : (xs.map fun k => T.tup (tI (g k))) = tU (xs.map g) := by unfold tU; rw [List.map_map]; rfl
/-! values -/
theorem t_mul {x y : Int} (h : MulOk x y = true) : binT P cl .mul (.int x) (.int y) = .ok (.int (x * y)) := by
  show chk (MulOk x y) _ = _
  rw [h]; rfl
theorem t_div {x y : Int} (h : DivOk x y = true) : binT P cl .fdiv (.int x) (.int y) = .ok (.int (x / y)) := by
  show chk (DivOk x y) _ = _
  rw [h]; rfl
theorem t_mod {x y : Int} (h : 0 < y) : binT P cl .mod (.int x) (.int y) = .ok (.int (x % y)) := by
  show chk (decide (0 < y)) _ = _
  rw [decide_eq_true h]; rfl
theorem LIM_of {n : Nat} (h : n ≤ 16777216) : Nat.ble n LIM = true := Nat.ble_eq_true_of_le h
theorem LIM_lt {n : Nat} (h : n < 16777216) : Nat.blt n LIM = true := Nat.ble_eq_true_of_le h
theorem t_addM {α : Type} {f : α → T} {xs ys : List α} (h : xs.length + ys.length ≤ 16777216) : binT P cl .add (.lst (xs.map f)) (.lst (ys.map f)) = .ok (.lst ((xs ++ ys).map f)) := by
  show chk (Nat.ble ((xs.map f).length + (ys.map f).length) LIM) _ = _
  rw [List.length_map, List.length_map, LIM_of h, List.map_append]; rfl
theorem t_addU {α : Type} {f : α → T} {xs ys : List α} (h : xs.length + ys.length ≤ 16777216) : binT P cl .add (.tup (xs.map f)) (.tup (ys.map f)) = .ok (.tup ((xs ++ ys).map f)) := by
  show chk (Nat.ble ((xs.map f).length + (ys.map f).length) LIM) _ = _
  rw [List.length_map, List.length_map, LIM_of h, List.map_append]; rfl
/-- a list, so many times -/
def rep {α : Type} (n : Int) (xs : List α) : List α := (List.replicate n.toNat xs).flatten
theorem rep_len {α : Type} {n : Int} {xs : List α} : (rep n xs).length = n.toNat * xs.length := by
  unfold rep
  rw [List.length_flatten, List.map_replicate, List.sum_replicate_nat]
theorem t_rep {α : Type} {f : α → T} {xs : List α} {n : Int} (h0 : -1000000 ≤ n) (h1 : n ≤ 1000000) (h2 : xs.length ≤ 16) : binT P cl .mul (.lst (xs.map f)) (.int n) = .ok (.lst ((rep n xs).map f)) := by
  show chk (decide (-(2 ^ 62) < n) && (decide (n < 2 ^ 62) && Nat.ble ((xs.map f).length * n.toNat) LIM)) (R.ok (T.lst (repL n.toNat (xs.map f)))) = _
  have k : Nat.ble ((xs.map f).length * n.toNat) LIM = true := by
    refine LIM_of ?_
    rw [List.length_map]
    have : xs.length * n.toNat ≤ 16 * 1000000 := Nat.mul_le_mul h2 (by omega)
    omega
  rw [decide_eq_true (by omega), decide_eq_true (by omega), k]
  show R.ok (T.lst (repL n.toNat (xs.map f))) = _
  unfold repL rep
  rw [List.map_flatten, List.map_replicate]
theorem gD_rep {x k n : Int} (h0 : 0 ≤ k) (h1 : k < n) : gD (rep n [x]) k = x := by
  unfold gD rep
  have : ∀ m : Nat, (List.replicate m [x]).flatten = List.replicate m x := fun m => by
    induction m with
    | zero => rfl
    | succ m ih => rw [List.replicate_succ, List.flatten_cons, ih, List.replicate_succ]; rfl
  rw [this, List.getD_eq_getElem?_getD, List.getElem?_replicate, if_pos (by omega)]; rfl
theorem t_len {α : Type} {f : α → T} {xs : List α} : blt1 P cl .len (.lst (xs.map f)) = .ok (.int (xs.length : Nat)) := by
  show R.ok (T.int ((xs.map f).length : Nat)) = _
  rw [List.length_map]
theorem t_lenU {α : Type} {f : α → T} {xs : List α} : blt1 P cl .len (.tup (xs.map f)) = .ok (.int (xs.length : Nat)) := by
  show R.ok (T.int ((xs.map f).length : Nat)) = _
  rw [List.length_map]
theorem ints_of : ∀ xs : List Int, intsOf (tI xs) = some xs
  | [] => rfl
  | x :: xs => by
    show (intsOf (tI xs)).map (x :: ·) = _
    rw [ints_of xs]; rfl
theorem t_sum {xs : List Int} : blt1 P cl .sum (.lst (tI xs)) = .ok (.int xs.sum) := by
  show (ofO (intsOf (tI xs))).bnd _ = _
  rw [ints_of]; rfl
theorem t_sumU {xs : List Int} : blt1 P cl .sum (.tup (tI xs)) = .ok (.int xs.sum) := by
  show (ofO (intsOf (tI xs))).bnd _ = _
  rw [ints_of]; rfl
theorem t_min {xs : List Int} {m : Int} (h : botI xs = some m) : blt1 P cl .minL (.lst (tI xs)) = .ok (.int m) := by
  show (ofO (intsOf (tI xs))).bnd (fun ns => (ofO (botI ns)).bnd fun m => R.ok (T.int m)) = _
  rw [ints_of]
  show (ofO (botI xs)).bnd _ = _
  rw [h]; rfl
theorem t_sort {xs : List Int} : blt1 P cl .sorted (.lst (tI xs)) = .ok (.lst (tI (sortI xs))) := by
  show (ofO (intsOf (tI xs))).bnd _ = _
  rw [ints_of]; rfl
theorem t_sortU {xs : List Int} : blt1 P cl .sorted (.tup (tI xs)) = .ok (.lst (tI (sortI xs))) := by
  show (ofO (intsOf (tI xs))).bnd _ = _
  rw [ints_of]; rfl
theorem bools_m {α : Type} (f : α → Bool) : ∀ xs : List α, bools (xs.map fun k => T.bl (f k)) = some (xs.map f)
  | [] => rfl
  | x :: xs => by
    show (bools (xs.map fun k => T.bl (f k))).map (f x :: ·) = _
    rw [bools_m f xs]; rfl
theorem t_any {α : Type} {f : α → Bool} {xs : List α} : blt1 P cl .any (.lst (xs.map fun k => T.bl (f k))) = .ok (.bl (xs.any f)) := by
  show (ofO (bools (xs.map fun k => T.bl (f k)))).bnd _ = _
  rw [bools_m]
  show R.ok (T.bl ((xs.map f).any id)) = _
  rw [List.any_map]; rfl
theorem t_all {α : Type} {f : α → Bool} {xs : List α} : blt1 P cl .all (.lst (xs.map fun k => T.bl (f k))) = .ok (.bl (xs.all f)) := by
  show (ofO (bools (xs.map fun k => T.bl (f k)))).bnd _ = _
  rw [bools_m]
  show R.ok (T.bl ((xs.map f).all id)) = _
  rw [List.all_map]; rfl
theorem rng_m {n : Int} : (List.range n.toNat).map (fun (k : Nat) => T.int (0 + (k : Int))) = tI (rangeI 0 n) := by
  unfold tI rangeI
  rw [List.map_map, Int.sub_zero]; rfl
theorem t_rangeL {n : Int} (h1 : -1000000 ≤ n) (h2 : n ≤ 1000000) : blt1 P cl .rangeL (.int n) = .ok (.lst (tI (rangeI 0 n))) := by
  show chk (decide (-1000000 ≤ n) && decide (n ≤ 1000000)) _ = _
  rw [decide_eq_true h1, decide_eq_true h2]; rfl
theorem t_rangeT {n : Int} (h1 : -1000000 ≤ n) (h2 : n ≤ 1000000) : blt1 P cl .rangeT (.int n) = .ok (.tup (tI (rangeI 0 n))) := by
  show chk (decide (-1000000 ≤ n) && decide (n ≤ 1000000)) _ = _
  rw [decide_eq_true h1, decide_eq_true h2]; rfl
theorem ixI_at {n : Nat} {k : Int} (h0 : 0 ≤ k) (h1 : k < n) : ixI n k = some k.toNat := by
  unfold ixI
  rw [if_pos h0, if_pos h1]
theorem at_map {α : Type} [Inhabited α] {f : α → T} {xs : List α} {k : Int} (h0 : 0 ≤ k) (h1 : k < xs.length) : (xs.map f)[k.toNat]? = some (f (gD xs k)) := by
  have h : k.toNat < xs.length := by omega
  unfold gD
  rw [List.getElem?_map, List.getD_eq_getElem?_getD, List.getElem?_eq_getElem h]; rfl
theorem t_ix {α : Type} [Inhabited α] {f : α → T} {xs : List α} {k : Int} (h0 : 0 ≤ k) (h1 : k < xs.length) : ixT (.lst (xs.map f)) (.int k) = .ok (f (gD xs k)) := by
  show (ofO (ixI (xs.map f).length k)).bnd (fun j => ofO (xs.map f)[j]?) = _
  rw [List.length_map, ixI_at h0 h1]
  show ofO (xs.map f)[k.toNat]? = _
  rw [at_map h0 h1]; rfl
theorem t_ixU {α : Type} [Inhabited α] {f : α → T} {xs : List α} {k : Int} (h0 : 0 ≤ k) (h1 : k < xs.length) : ixT (.tup (xs.map f)) (.int k) = .ok (f (gD xs k)) := t_ix h0 h1
theorem ixI_neg {n : Nat} (h : 0 < n) : ixI n (-1) = some ((n : Int) - 1).toNat := by
  unfold ixI
  rw [if_neg (by omega), if_pos (by omega)]
  exact congrArg _ (by omega)
theorem t_ixN {α : Type} [Inhabited α] {f : α → T} {xs : List α} (h : 0 < xs.length) : ixT (.lst (xs.map f)) (.int (-1)) = .ok (f (gD xs ((xs.length : Int) - 1))) := by
  show (ofO (ixI (xs.map f).length (-1))).bnd (fun j => ofO (xs.map f)[j]?) = _
  rw [List.length_map, ixI_neg h]
  show ofO (xs.map f)[((xs.length : Int) - 1).toNat]? = _
  rw [at_map (by omega) (by omega)]; rfl
theorem t_ixNU {α : Type} [Inhabited α] {f : α → T} {xs : List α} (h : 0 < xs.length) : ixT (.tup (xs.map f)) (.int (-1)) = .ok (f (gD xs ((xs.length : Int) - 1))) := t_ixN h
theorem t_rev {α : Type} {f : α → T} {xs : List α} : revT (.lst (xs.map f)) = .ok (.lst (xs.reverse.map f)) := by
  show R.ok (T.lst (xs.map f).reverse) = _
  rw [List.map_reverse]
theorem t_toL {α : Type} {f : α → T} {xs : List α} : blt1 P cl .list (.tup (xs.map f)) = .ok (.lst (xs.map f)) := rfl
theorem nl_I {xs : List Int} : noList (.tup (tI xs)) = true := by
  show noLists (tI xs) = true
  induction xs with
  | nil => rfl
  | cons x xs ih => exact ih
/-! slices -/
def slc {α : Type} (xs : List α) (i j : Int) : List α := (xs.drop i.toNat).take (j.toNat - i.toNat)
theorem slc_len {α : Type} {xs : List α} {i j : Int} (h0 : 0 ≤ i) (h1 : i ≤ j) (h2 : j ≤ xs.length) : ((slc xs i j).length : Int) = j - i := by
  unfold slc
  rw [List.length_take, List.length_drop]
  omega
theorem slc_le {α : Type} {xs : List α} {i j : Int} : (slc xs i j).length ≤ xs.length := by
  unfold slc
  rw [List.length_take, List.length_drop]
  omega
theorem slc_at {α : Type} [Inhabited α] {xs : List α} {i j k : Int} (h0 : 0 ≤ i) (h2 : 0 ≤ k) (h3 : k < j - i) : gD (slc xs i j) k = gD xs (i + k) := by
  unfold gD slc
  rw [List.getD_eq_getElem?_getD, List.getD_eq_getElem?_getD, List.getElem?_take_of_lt (by omega), List.getElem?_drop, show i.toNat + k.toNat = (i + k).toNat by omega]
theorem cutI_at {n d : Nat} {i : Int} (h0 : 0 ≤ i) : cutI n d (.int i) = some (min i.toNat n) := by
  show some (if i < 0 then _ else _) = _
  rw [if_neg (by omega)]
theorem cutS_eq {α : Type} {xs : List α} {i j : Nat} : (xs.drop (min i xs.length)).take (min j xs.length - min i xs.length) = (xs.drop i).take (j - i) := by
  by_cases h : i ≤ xs.length
  · rw [Nat.min_eq_left h]
    by_cases h2 : j ≤ xs.length
    · rw [Nat.min_eq_left h2]
    · rw [show min j xs.length = xs.length by omega]
      rw [List.take_of_length_le (by rw [List.length_drop]; omega), List.take_of_length_le (by rw [List.length_drop]; omega)]
  · rw [show min i xs.length = xs.length by omega, List.drop_eq_nil_of_le (Nat.le_refl _), List.drop_eq_nil_of_le (by omega), List.take_nil, List.take_nil]
theorem t_slc {α : Type} {f : α → T} {xs : List α} {i j : Int} (h0 : 0 ≤ i) (h1 : 0 ≤ j) : sliceT (.lst (xs.map f)) (.int i) (.int j) = .ok (.lst ((slc xs i j).map f)) := by
  show ((ofO (cutI (xs.map f).length 0 (.int i))).bnd fun l => (ofO (cutI (xs.map f).length (xs.map f).length (.int j))).bnd fun h => R.ok (T.lst (cutL (xs.map f) l h))) = _
  rw [cutI_at h0, cutI_at h1, List.length_map]
  show R.ok (T.lst (cutL (xs.map f) _ _)) = _
  unfold cutL slc
  rw [← List.map_drop, ← List.map_take, cutS_eq]
theorem t_slcU {α : Type} {f : α → T} {xs : List α} {i j : Int} (h0 : 0 ≤ i) (h1 : 0 ≤ j) : sliceT (.tup (xs.map f)) (.int i) (.int j) = .ok (.tup ((slc xs i j).map f)) := by
  show ((ofO (cutI (xs.map f).length 0 (.int i))).bnd fun l => (ofO (cutI (xs.map f).length (xs.map f).length (.int j))).bnd fun h => R.ok (T.tup (cutL (xs.map f) l h))) = _
  rw [cutI_at h0, cutI_at h1, List.length_map]
  show R.ok (T.tup (cutL (xs.map f) _ _)) = _
  unfold cutL slc
  rw [← List.map_drop, ← List.map_take, cutS_eq]
theorem cut_to {α : Type} {xs : List α} {j : Nat} : (xs.drop 0).take (min j xs.length - 0) = xs.take j := by
  rw [List.drop_zero, Nat.sub_zero]
  by_cases h : j ≤ xs.length
  · rw [Nat.min_eq_left h]
  · rw [show min j xs.length = xs.length by omega, List.take_of_length_le (Nat.le_refl _), List.take_of_length_le (by omega)]
theorem t_slcT {α : Type} {f : α → T} {xs : List α} {j : Int} (h1 : 0 ≤ j) : sliceT (.lst (xs.map f)) .non (.int j) = .ok (.lst ((xs.take j.toNat).map f)) := by
  show ((ofO (cutI (xs.map f).length (xs.map f).length (.int j))).bnd fun h => R.ok (T.lst (cutL (xs.map f) 0 h))) = _
  rw [cutI_at h1, List.length_map]
  show R.ok (T.lst (cutL (xs.map f) _ _)) = _
  unfold cutL
  rw [← List.map_drop, ← List.map_take, cut_to]
theorem t_slcTU {α : Type} {f : α → T} {xs : List α} {j : Int} (h1 : 0 ≤ j) : sliceT (.tup (xs.map f)) .non (.int j) = .ok (.tup ((xs.take j.toNat).map f)) := by
  show ((ofO (cutI (xs.map f).length (xs.map f).length (.int j))).bnd fun h => R.ok (T.tup (cutL (xs.map f) 0 h))) = _
  rw [cutI_at h1, List.length_map]
  show R.ok (T.tup (cutL (xs.map f) _ _)) = _
  unfold cutL
  rw [← List.map_drop, ← List.map_take, cut_to]
theorem cut_fr {α : Type} {xs : List α} {i : Nat} : (xs.drop (min i xs.length)).take (xs.length - min i xs.length) = xs.drop i := by
  by_cases h : i ≤ xs.length
  · rw [Nat.min_eq_left h, List.take_of_length_le (by rw [List.length_drop]; omega)]
  · rw [show min i xs.length = xs.length by omega, List.drop_eq_nil_of_le (Nat.le_refl _), List.drop_eq_nil_of_le (by omega), List.take_nil]
theorem t_slcF {α : Type} {f : α → T} {xs : List α} {i : Int} (h1 : 0 ≤ i) : sliceT (.lst (xs.map f)) (.int i) .non = .ok (.lst ((xs.drop i.toNat).map f)) := by
  show ((ofO (cutI (xs.map f).length 0 (.int i))).bnd fun l => R.ok (T.lst (cutL (xs.map f) l (xs.map f).length))) = _
  rw [cutI_at h1, List.length_map]
  show R.ok (T.lst (cutL (xs.map f) _ _)) = _
  unfold cutL
  rw [← List.map_drop, ← List.map_take, cut_fr]
theorem t_slcFU {α : Type} {f : α → T} {xs : List α} {i : Int} (h1 : 0 ≤ i) : sliceT (.tup (xs.map f)) (.int i) .non = .ok (.tup ((xs.drop i.toNat).map f)) := by
  show ((ofO (cutI (xs.map f).length 0 (.int i))).bnd fun l => R.ok (T.tup (cutL (xs.map f) l (xs.map f).length))) = _
  rw [cutI_at h1, List.length_map]
  show R.ok (T.tup (cutL (xs.map f) _ _)) = _
  unfold cutL
  rw [← List.map_drop, ← List.map_take, cut_fr]
/-! equality, membership -/
theorem eqL_I : ∀ xs ys : List Int, eqL (tI xs) (tI ys) = decide (xs = ys)
  | [], [] => rfl
  | [], y :: ys => by simp [eqL]
  | x :: xs, [] => by simp [eqL]
  | x :: xs, y :: ys => by
    show (decide (x = y) && eqL (tI xs) (tI ys)) = _
    rw [eqL_I xs ys]
    by_cases h : x = y <;> by_cases h2 : xs = ys <;> simp [h, h2]
theorem data_I (xs : List Int) (n : Nat) : (tI xs).all (dataD n) = true := by
  rw [List.all_eq_true]
  intro t ht
  obtain ⟨i, _, rfl⟩ := List.mem_map.mp ht
  cases n <;> rfl
theorem t_eqL {xs ys : List Int} : cmpT P cl .eq (.lst (tI xs)) (.lst (tI ys)) = .ok (.bl (decide (xs = ys))) := by
  show chk ((tI xs).all (dataD 7) && (tI ys).all (dataD 7)) (R.ok (T.bl (eqL (tI xs) (tI ys)))) = _
  rw [data_I, data_I, eqL_I]; rfl
theorem t_eqU {xs ys : List Int} : cmpT P cl .eq (.tup (tI xs)) (.tup (tI ys)) = .ok (.bl (decide (xs = ys))) := by
  show chk ((tI xs).all (dataD 7) && (tI ys).all (dataD 7)) (R.ok (T.bl (eqL (tI xs) (tI ys)))) = _
  rw [data_I, data_I, eqL_I]; rfl
theorem eqL_L : ∀ xs ys : List (List Int), eqL (tL xs) (tL ys) = decide (xs = ys)
  | [], [] => rfl
  | [], y :: ys => by simp [eqL]
  | x :: xs, [] => by simp [eqL]
  | x :: xs, y :: ys => by
    show (eqL (tI x) (tI y) && eqL (tL xs) (tL ys)) = _
    rw [eqL_L xs ys, eqL_I]
    by_cases h : x = y <;> by_cases h2 : xs = ys <;> simp [h, h2]
theorem eqL_U : ∀ xs ys : List (List Int), eqL (tU xs) (tU ys) = decide (xs = ys)
  | [], [] => rfl
  | [], y :: ys => by simp [eqL]
  | x :: xs, [] => by simp [eqL]
  | x :: xs, y :: ys => by
    show (eqL (tI x) (tI y) && eqL (tU xs) (tU ys)) = _
    rw [eqL_U xs ys, eqL_I]
    by_cases h : x = y <;> by_cases h2 : xs = ys <;> simp [h, h2]
theorem data_L (xs : List (List Int)) (n : Nat) : (tL xs).all (dataD (n + 1)) = true := by
  rw [List.all_eq_true]
  intro t ht
  obtain ⟨i, _, rfl⟩ := List.mem_map.mp ht
  exact data_I i n
theorem data_U (xs : List (List Int)) (n : Nat) : (tU xs).all (dataD (n + 1)) = true := by
  rw [List.all_eq_true]
  intro t ht
  obtain ⟨i, _, rfl⟩ := List.mem_map.mp ht
  exact data_I i n
theorem t_eqLL {xs ys : List (List Int)} : cmpT P cl .eq (.lst (tL xs)) (.lst (tL ys)) = .ok (.bl (decide (xs = ys))) := by
  show chk ((tL xs).all (dataD 7) && (tL ys).all (dataD 7)) (R.ok (T.bl (eqL (tL xs) (tL ys)))) = _
  rw [data_L, data_L, eqL_L]; rfl
theorem t_eqLU {xs ys : List (List Int)} : cmpT P cl .eq (.lst (tU xs)) (.lst (tU ys)) = .ok (.bl (decide (xs = ys))) := by
  show chk ((tU xs).all (dataD 7) && (tU ys).all (dataD 7)) (R.ok (T.bl (eqL (tU xs) (tU ys)))) = _
  rw [data_U, data_U, eqL_U]; rfl
theorem t_eqUU {xs ys : List (List Int)} : cmpT P cl .eq (.tup (tU xs)) (.tup (tU ys)) = .ok (.bl (decide (xs = ys))) := t_eqLU (P := P) (cl := cl)
theorem t_neLL {xs ys : List (List Int)} : cmpT P cl .ne (.lst (tL xs)) (.lst (tL ys)) = .ok (.bl (!decide (xs = ys))) := by
  show notR (cmpT P cl .eq (.lst (tL xs)) (.lst (tL ys))) = _
  rw [t_eqLL]; rfl
theorem t_neL {xs ys : List Int} : cmpT P cl .ne (.lst (tI xs)) (.lst (tI ys)) = .ok (.bl (!decide (xs = ys))) := by
  show notR (cmpT P cl .eq (.lst (tI xs)) (.lst (tI ys))) = _
  rw [t_eqL]; rfl
theorem t_neU {xs ys : List Int} : cmpT P cl .ne (.tup (tI xs)) (.tup (tI ys)) = .ok (.bl (!decide (xs = ys))) := by
  show notR (cmpT P cl .eq (.tup (tI xs)) (.tup (tI ys))) = _
  rw [t_eqU]; rfl
theorem inL_I (k : Int) : ∀ xs : List Int, inL (.int k) (tI xs) = decide (k ∈ xs)
  | [] => rfl
  | x :: xs => by
    show (eqT (.int x) (.int k) || inL (.int k) (tI xs)) = _
    rw [inL_I k xs]
    show (decide (x = k) || decide (k ∈ xs)) = _
    by_cases h : x = k
    · simp [h]
    · have : ¬ k = x := fun z => h z.symm
      simp [h, this]
theorem t_in {xs : List Int} {k : Int} : cmpT P cl .isin (.int k) (.lst (tI xs)) = .ok (.bl (decide (k ∈ xs))) := by
  show chk (dataT (.int k) && (tI xs).all (dataD 7)) (R.ok (T.bl (inL (.int k) (tI xs)))) = _
  rw [data_I, inL_I]; rfl
theorem t_inU {xs : List Int} {k : Int} : cmpT P cl .isin (.int k) (.tup (tI xs)) = .ok (.bl (decide (k ∈ xs))) := t_in (P := P) (cl := cl)
theorem t_notin {xs : List Int} {k : Int} : cmpT P cl .notin (.int k) (.lst (tI xs)) = .ok (.bl (!decide (k ∈ xs))) := by
  show notR (cmpT P cl .isin (.int k) (.lst (tI xs))) = _
  rw [t_in]; rfl
theorem t_notinU {xs : List Int} {k : Int} : cmpT P cl .notin (.int k) (.tup (tI xs)) = .ok (.bl (!decide (k ∈ xs))) := t_notin (P := P) (cl := cl)
theorem t_eqS {x y : Str} (h1 : strFine x = true) (h2 : strFine y = true) : cmpT P cl .eq (.str x) (.str y) = .ok (.bl (decide (x = y))) := by
  show chk (strFine x && strFine y) (R.ok (T.bl (decide (x = y)))) = _
  rw [h1, h2]; rfl
theorem t_neS {x y : Str} (h1 : strFine x = true) (h2 : strFine y = true) : cmpT P cl .ne (.str x) (.str y) = .ok (.bl (!decide (x = y))) := by
  show notR (cmpT P cl .eq (.str x) (.str y)) = _
  rw [t_eqS h1 h2]; rfl
theorem t_lt {x y : Int} : cmpT P cl .lt (.int x) (.int y) = .ok (.bl (decide (x < y))) := rfl
theorem t_le {x y : Int} : cmpT P cl .le (.int x) (.int y) = .ok (.bl (decide (x ≤ y))) := rfl
theorem t_gt {x y : Int} : cmpT P cl .gt (.int x) (.int y) = .ok (.bl (decide (y < x))) := rfl
theorem t_ge {x y : Int} : cmpT P cl .ge (.int x) (.int y) = .ok (.bl (decide (y ≤ x))) := rfl
theorem t_eqI {x y : Int} : cmpT P cl .eq (.int x) (.int y) = .ok (.bl (decide (x = y))) := rfl
theorem t_neI {x y : Int} : cmpT P cl .ne (.int x) (.int y) = .ok (.bl (!decide (x = y))) := rfl
theorem t_is1 {x : Int} : blt1 P cl (.isa .int) (.int x) = .ok (.bl true) := rfl
theorem t_is2 {x : Int} : blt1 P cl (.isa .bool) (.int x) = .ok (.bl false) := rfl
theorem t_is3 {x : List T} : blt1 P cl (.isa .tuple) (.tup x) = .ok (.bl true) := rfl
theorem t_is4 {x : List T} : blt1 P cl (.isa .list) (.lst x) = .ok (.bl true) := rfl
theorem t_is5 {x : List T} : blt1 P cl (.isa .list) (.tup x) = .ok (.bl false) := rfl
theorem t_is6 {x : List T} : blt1 P cl (.isa .tuple) (.lst x) = .ok (.bl false) := rfl
/-! walks -/
theorem small_of {n : Int} (h1 : -4611686018427387904 < n) (h2 : n < 4611686018427387904) : small n = true := by
  unfold small
  rw [decide_eq_true (by omega), decide_eq_true (by omega)]; rfl
theorem w_rng {n : Int} (h1 : -4611686018427387904 < n) (h2 : n < 4611686018427387904) : walk P cl .rng [.int n] = .ok ((rangeI 0 n).map T.int) := by
  show chk (small n) _ = _
  rw [small_of h1 h2]; rfl
theorem w_rng2 {m n : Int} (h1 : -4611686018427387904 < m) (h2 : m < 4611686018427387904) (h3 : -4611686018427387904 < n) (h4 : n < 4611686018427387904) : walk P cl .rng [.int m, .int n] = .ok ((rangeI m n).map T.int) := by
  show chk (small m && small n) _ = _
  rw [small_of h1 h2, small_of h3 h4]; rfl
/-- numbers downwards -/
def downI (a b : Int) : List Int := (List.range (a - b).toNat).map fun (k : Nat) => a - (k : Int)
theorem w_rng3 {a b : Int} (h1 : -4611686018427387904 < a) (h2 : a < 4611686018427387904) (h3 : -4611686018427387904 < b) (h4 : b < 4611686018427387904) : walk P cl .rng [.int a, .int b, .int (-1)] = .ok ((downI a b).map T.int) := by
  show chk (small a && (small b && decide ((-1 : Int) = -1))) (R.ok (stepI a (-1) (a - b).toNat)) = _
  rw [small_of h1 h2, small_of h3 h4]
  show R.ok (stepI a (-1) (a - b).toNat) = _
  unfold stepI downI
  rw [List.map_map]
  congr 2
  funext k
  show T.int (a + (k : Int) * -1) = T.int (a - k)
  congr 1
  omega
theorem down_len {a b : Int} : (downI a b).length = (a - b).toNat := by
  unfold downI
  rw [List.length_map, List.length_range]
theorem down_get {a b : Int} {i : Nat} {x : Int} (h : (downI a b)[i]? = some x) : x = a - i ∧ (i : Int) < a - b := by
  unfold downI at h
  rw [List.getElem?_map, Option.map_eq_some_iff] at h
  obtain ⟨k, hk, rfl⟩ := h
  obtain ⟨h1, h2⟩ := List.getElem?_eq_some_iff.mp hk
  rw [List.getElem_range] at h2
  rw [List.length_range] at h1
  subst h2
  omega
theorem w_seq {α : Type} {f : α → T} {xs : List α} : walk P cl .seq [.lst (xs.map f)] = .ok (xs.map f) := rfl
theorem w_seqU {α : Type} {f : α → T} {xs : List α} : walk P cl .seq [.tup (xs.map f)] = .ok (xs.map f) := rfl
theorem enum_m {α : Type} {f : α → T} : ∀ (xs : List α) (n : Nat), enumL n (xs.map f) = (xs.zipIdx n).map fun p => .tup [.int (p.2 : Nat), f p.1]
  | [], n => rfl
  | x :: xs, n => by
    show T.tup [.int n, f x] :: enumL (n + 1) (xs.map f) = _
    rw [enum_m xs]; rfl
theorem w_seqA {ts : List T} : walk P cl .seq [.lst ts] = .ok (ts.map fun t => t) := by
  show R.ok ts = _
  rw [List.map_id']
theorem w_enum {α : Type} {f : α → T} {xs : List α} : walk P cl .enum [.lst (xs.map f)] = .ok (xs.zipIdx.map fun p => .tup [.int (p.2 : Nat), f p.1]) := by
  show R.ok (enumL 0 (xs.map f)) = _
  rw [enum_m]
theorem w_enumU {α : Type} {f : α → T} {xs : List α} : walk P cl .enum [.tup (xs.map f)] = .ok (xs.zipIdx.map fun p => .tup [.int (p.2 : Nat), f p.1]) := w_enum (P := P) (cl := cl)
theorem zip_m {α β : Type} {f : α → T} {g : β → T} : ∀ (xs : List α) (ys : List β), zipT (xs.map f) (ys.map g) = (xs.zip ys).map fun p => .tup [f p.1, g p.2]
  | [], ys => by cases ys <;> rfl
  | x :: xs, [] => rfl
  | x :: xs, y :: ys => by
    show T.tup [f x, g y] :: zipT (xs.map f) (ys.map g) = _
    rw [zip_m xs ys]; rfl
theorem w_zip {α β : Type} {f : α → T} {g : β → T} {xs : List α} {ys : List β} : walk P cl .zip [.lst (xs.map f), .lst (ys.map g)] = .ok ((xs.zip ys).map fun p => .tup [f p.1, g p.2]) := by
  show R.ok (zipT (xs.map f) (ys.map g)) = _
  rw [zip_m]
theorem w_zip1 {α β : Type} {f : α → T} {g : β → T} {xs : List α} {ys : List β} : walk P cl .zip [.tup (xs.map f), .lst (ys.map g)] = .ok ((xs.zip ys).map fun p => .tup [f p.1, g p.2]) := w_zip (P := P) (cl := cl)
theorem w_zip2 {α β : Type} {f : α → T} {g : β → T} {xs : List α} {ys : List β} : walk P cl .zip [.lst (xs.map f), .tup (ys.map g)] = .ok ((xs.zip ys).map fun p => .tup [f p.1, g p.2]) := w_zip (P := P) (cl := cl)
theorem w_zip3 {α β : Type} {f : α → T} {g : β → T} {xs : List α} {ys : List β} : walk P cl .zip [.tup (xs.map f), .tup (ys.map g)] = .ok ((xs.zip ys).map fun p => .tup [f p.1, g p.2]) := w_zip (P := P) (cl := cl)
theorem w_rev {α : Type} {f : α → T} {xs : List α} : walk P cl .rev [.lst (xs.map f)] = .ok (xs.reverse.map f) := by
  show R.ok (xs.map f).reverse = _
  rw [List.map_reverse]
theorem w_revU {α : Type} {f : α → T} {xs : List α} : walk P cl .rev [.tup (xs.map f)] = .ok (xs.reverse.map f) := w_rev (P := P) (cl := cl)
theorem mem_rng {a b k : Int} : k ∈ rangeI a b ↔ a ≤ k ∧ k < b := by
  unfold rangeI
  rw [List.mem_map]
  constructor
  · rintro ⟨j, hj, rfl⟩
    have := List.mem_range.mp hj
    omega
  · intro h
    exact ⟨(k - a).toNat, List.mem_range.mpr (by omega), by omega⟩
theorem rng_length {a b : Int} : (rangeI a b).length = (b - a).toNat := by
  unfold rangeI
  rw [List.length_map, List.length_range]
theorem rng_get {a b : Int} {i : Nat} {x : Int} (h : (rangeI a b)[i]? = some x) : x = a + i ∧ a + i < b := by
  unfold rangeI at h
  rw [List.getElem?_map, Option.map_eq_some_iff] at h
  obtain ⟨k, hk, rfl⟩ := h
  obtain ⟨h1, h2⟩ := List.getElem?_eq_some_iff.mp hk
  rw [List.getElem_range] at h2
  rw [List.length_range] at h1
  subst h2
  omega
/-! statements -/
/-- what holds of an outcome -/
def Wp (W : SR → Prop) (q : SR) : Prop := W q
theorem wp_eq {q : SR} (h : Wp (fun x => x = r) q) : q = r := h
variable {W : SR → Prop} {e' : Env}
theorem b_nil (h : Wp W (.nx e)) : Wp W (exB P cl mk cx [] e) := h
theorem b_asg {x : Nat} {t : T} (h : evE P cl mk cx a e = .ok t) (k : Wp W (exB P cl mk cx ss (e.set x (some t)))) : Wp W (exB P cl mk cx (.asg x a false :: ss) e) := by
  rw [exB_cons, exS_asg h]; exact k
theorem b_asgG {x : Nat} {t : T} (h : evE P cl mk cx a e = .ok t) (hn : noList t = true) (k : Wp W (exB P cl mk cx ss (e.set x (some t)))) : Wp W (exB P cl mk cx (.asg x a true :: ss) e) := by
  rw [exB_cons]
  show Wp W (((evE P cl mk cx a e).st e _).seq _)
  rw [h]
  show Wp W ((if (true && !noList t) = true then SR.bad else _).seq _)
  rw [hn]; exact k
theorem b_doc (k : Wp W (exB P cl mk cx ss e)) : Wp W (exB P cl mk cx (.doc :: ss) e) := k
theorem b_pass (k : Wp W (exB P cl mk cx ss e)) : Wp W (exB P cl mk cx (.pass :: ss) e) := k
theorem b_expr {t : T} (h : evE P cl mk cx a e = .ok t) (k : Wp W (exB P cl mk cx ss e)) : Wp W (exB P cl mk cx (.expr a :: ss) e) := by
  rw [exB_cons]
  show Wp W (((evE P cl mk cx a e).st e _).seq _)
  rw [h]; exact k
theorem b_par {xs : List Nat} {as : List E} {ts : List T} {e' : Env} (h : evL P cl mk cx as e = .ok ts) (h2 : setAll xs ts e = some e') (k : Wp W (exB P cl mk cx ss e')) : Wp W (exB P cl mk cx (.par xs as :: ss) e) := by
  rw [exB_cons]
  show Wp W (((evL P cl mk cx as e).st e _).seq _)
  rw [h]
  show Wp W (SR.seq (match setAll xs ts e with | some e' => SR.nx e' | none => .bad) _)
  rw [h2]; exact k
theorem b_asgT {xs : List Nat} {t : T} {e' : Env} (h : evE P cl mk cx a e = .ok t) (h2 : bindTg (.many xs) t e = some e') (k : Wp W (exB P cl mk cx ss e')) : Wp W (exB P cl mk cx (.asgT xs a :: ss) e) := by
  rw [exB_cons]
  show Wp W (((evE P cl mk cx a e).st e _).seq _)
  rw [h]
  show Wp W (SR.seq (match bindTg (.many xs) t e with | some e' => SR.nx e' | none => .bad) _)
  rw [h2]; exact k
theorem b_aug {x : Nat} {o : Bop} {i j : Int} {t : T} (h : e.getD x none = some (.int i)) (h2 : evE P cl mk cx a e = .ok (.int j)) (h3 : binT P cl o (.int i) (.int j) = .ok t) (k : Wp W (exB P cl mk cx ss (e.set x (some t)))) : Wp W (exB P cl mk cx (.aug x o a :: ss) e) := by
  rw [exB_cons]
  show Wp W (SR.seq ((ofO (e.getD x none)).st e fun t => (evE P cl mk cx a e).st e fun u => match t, u with
    | .int _, .int _ => (binT P cl o t u).st e fun r => .nx (e.set x (some r))
    | _, _ => .bad) _)
  rw [h, h2]
  show Wp W (SR.seq ((binT P cl o (.int i) (.int j)).st e _) _)
  rw [h3]; exact k
theorem b_app {x : Nat} {xs ys : List T} {t : T} (h : e.getD x none = some (.lst xs)) (h2 : evE P cl mk cx a e = .ok t) (h3 : Nat.blt xs.length LIM = true) (hy : xs ++ [t] = ys) (k : Wp W (exB P cl mk cx ss (e.set x (some (.lst ys))))) : Wp W (exB P cl mk cx (.app x a false :: ss) e) := by
  rw [exB_cons]
  show Wp W (SR.seq (((ofO (e.getD x none)).bnd fun t => match t with | .lst xs => .ok xs | _ => .bad).st e fun xs => (evE P cl mk cx a e).st e fun t => chkS (Nat.blt xs.length LIM) (grd false t (.nx (putL e x (xs ++ [t]))))) _)
  rw [h, h2]
  show Wp W (SR.seq (chkS (Nat.blt xs.length LIM) (grd false t (.nx (putL e x (xs ++ [t]))))) _)
  rw [h3, chkS_true, grd_false, hy]; exact k
theorem b_appG {x : Nat} {xs ys : List T} {t : T} (h : e.getD x none = some (.lst xs)) (h2 : evE P cl mk cx a e = .ok t) (hn : noList t = true) (h3 : Nat.blt xs.length LIM = true) (hy : xs ++ [t] = ys) (k : Wp W (exB P cl mk cx ss (e.set x (some (.lst ys))))) : Wp W (exB P cl mk cx (.app x a true :: ss) e) := by
  rw [exB_cons]
  show Wp W (SR.seq (((ofO (e.getD x none)).bnd fun t => match t with | .lst xs => .ok xs | _ => .bad).st e fun xs => (evE P cl mk cx a e).st e fun t => chkS (Nat.blt xs.length LIM) (grd true t (.nx (putL e x (xs ++ [t]))))) _)
  rw [h, h2]
  show Wp W (SR.seq (chkS (Nat.blt xs.length LIM) (if (true && !noList t) = true then SR.bad else (.nx (putL e x (xs ++ [t]))))) _)
  rw [h3, hn, hy]; exact k
theorem y_map {α : Type} {f : α → T} {xs : List α} {x : α} : xs.map f ++ [f x] = (xs ++ [x]).map f := by rw [List.map_append]; rfl
theorem y_nil {t : T} : [] ++ [t] = [t] := rfl
theorem b_setIx {x : Nat} {i : E} {xs ys : List T} {t : T} {m : Int} (h2 : evE P cl mk cx a e = .ok t) (h : e.getD x none = some (.lst xs)) (h3 : evE P cl mk cx i e = .ok (.int m)) (h4 : 0 ≤ m) (h5 : m < xs.length) (hy : xs.set m.toNat t = ys) (k : Wp W (exB P cl mk cx ss (e.set x (some (.lst ys))))) : Wp W (exB P cl mk cx (.setIx x i a false :: ss) e) := by
  rw [exB_cons]
  show Wp W (SR.seq ((evE P cl mk cx a e).st e fun t => ((ofO (e.getD x none)).bnd fun t => match t with | .lst xs => .ok xs | _ => .bad).st e fun xs => (intR (evE P cl mk cx i e)).st e fun k => (ofO (ixI xs.length k)).st e fun j => grd false t (.nx (putL e x (xs.set j t)))) _)
  rw [h, h2, h3]
  show Wp W (SR.seq ((ofO (ixI xs.length m)).st e fun j => grd false t (.nx (putL e x (xs.set j t)))) _)
  rw [ixI_at h4 h5]
  show Wp W (SR.seq (grd false t (.nx (putL e x (xs.set m.toNat t)))) _)
  rw [grd_false, hy]; exact k
theorem b_setIxG {x : Nat} {i : E} {xs ys : List T} {t : T} {m : Int} (h2 : evE P cl mk cx a e = .ok t) (hn : noList t = true) (h : e.getD x none = some (.lst xs)) (h3 : evE P cl mk cx i e = .ok (.int m)) (h4 : 0 ≤ m) (h5 : m < xs.length) (hy : xs.set m.toNat t = ys) (k : Wp W (exB P cl mk cx ss (e.set x (some (.lst ys))))) : Wp W (exB P cl mk cx (.setIx x i a true :: ss) e) := by
  rw [exB_cons]
  show Wp W (SR.seq ((evE P cl mk cx a e).st e fun t => ((ofO (e.getD x none)).bnd fun t => match t with | .lst xs => .ok xs | _ => .bad).st e fun xs => (intR (evE P cl mk cx i e)).st e fun k => (ofO (ixI xs.length k)).st e fun j => grd true t (.nx (putL e x (xs.set j t)))) _)
  rw [h, h2, h3]
  show Wp W (SR.seq ((ofO (ixI xs.length m)).st e fun j => grd true t (.nx (putL e x (xs.set j t)))) _)
  rw [ixI_at h4 h5]
  show Wp W (SR.seq (if (true && !noList t) = true then SR.bad else (.nx (putL e x (xs.set m.toNat t)))) _)
  rw [hn, hy]; exact k
theorem y_set {α : Type} {f : α → T} {xs : List α} {x : α} {m : Nat} : (xs.map f).set m (f x) = (xs.set m x).map f := by rw [List.map_set]
theorem b_appPop {x y : Nat} {xs ys : List T} {t : T} {m : Int} (hx : e.getD x none = some (.lst xs)) (hy : e.getD y none = some (.lst ys)) (ha : evE P cl mk cx a e = .ok (.int m)) (h0 : 0 ≤ m) (h1 : m < ys.length) (ht : ys[m.toNat]? = some t) (hl : xs.length < 16777216) (hl2 : ys.length ≤ 16777216) (hn : noList t = true)
    (k : Wp W (exB P cl mk cx ss ((e.set y (some (.lst (ys.eraseIdx m.toNat)))).set x (some (.lst (xs ++ [t])))))) : Wp W (exB P cl mk cx (.appPop x y a :: ss) e) := by
  rw [exB_cons]
  show Wp W (SR.seq (((ofO (e.getD x none)).bnd fun t => match t with | .lst xs => .ok xs | _ => .bad).st e fun xs => ((ofO (e.getD y none)).bnd fun t => match t with | .lst xs => .ok xs | _ => .bad).st e fun ys => (intR (evE P cl mk cx a e)).st e fun i => (ofO (ixI ys.length i)).st e fun j => (ofO ys[j]?).st e fun t =>
      chkS ((Nat.blt xs.length LIM && Nat.ble ys.length LIM) && noList t) (.nx (putL (putL e y (ys.eraseIdx j)) x (xs ++ [t])))) _)
  rw [hx, hy, ha]
  show Wp W (SR.seq ((ofO (ixI ys.length m)).st e fun j => (ofO ys[j]?).st e fun t => chkS ((Nat.blt xs.length LIM && Nat.ble ys.length LIM) && noList t) (.nx (putL (putL e y (ys.eraseIdx j)) x (xs ++ [t])))) _)
  rw [ixI_at h0 h1]
  show Wp W (SR.seq ((ofO ys[m.toNat]?).st e fun t => chkS ((Nat.blt xs.length LIM && Nat.ble ys.length LIM) && noList t) (.nx (putL (putL e y (ys.eraseIdx m.toNat)) x (xs ++ [t])))) _)
  rw [ht]
  show Wp W (SR.seq (chkS ((Nat.blt xs.length LIM && Nat.ble ys.length LIM) && noList t) (.nx (putL (putL e y (ys.eraseIdx m.toNat)) x (xs ++ [t])))) _)
  rw [LIM_lt hl, LIM_of hl2, hn]; exact k
theorem b_clear {x : Nat} {xs : List T} (h : e.getD x none = some (.lst xs)) (k : Wp W (exB P cl mk cx ss (e.set x (some (.lst []))))) : Wp W (exB P cl mk cx (.clear x :: ss) e) := by
  rw [exB_cons]
  show Wp W (SR.seq (((ofO (e.getD x none)).bnd fun t => match t with | .lst xs => .ok xs | _ => .bad).st e fun _ => .nx (putL e x [])) _)
  rw [h]; exact k
theorem b_ret {t : T} (h : evE P cl mk cx a e = .ok t) (k : Wp W (.rt t)) : Wp W (exB P cl mk cx (.ret a :: ss) e) := by
  rw [exB_cons, exS_ret h]; exact k
theorem b_retN (k : Wp W (.rt .non)) : Wp W (exB P cl mk cx (.retN :: ss) e) := k
theorem b_retX {x : T} (h : evE P cl mk cx a e = .exc x) (k : Wp W (.exc x e)) : Wp W (exB P cl mk cx (.ret a :: ss) e) := by
  rw [exB_cons]
  show Wp W (((evE P cl mk cx a e).st e _).seq _)
  rw [h]; exact k
theorem b_asgX {x : Nat} {t : T} {g : Bool} (h : evE P cl mk cx a e = .exc t) (k : Wp W (.exc t e)) : Wp W (exB P cl mk cx (.asg x a g :: ss) e) := by
  rw [exB_cons]
  show Wp W (((evE P cl mk cx a e).st e _).seq _)
  rw [h]; exact k
theorem b_exprX {t : T} (h : evE P cl mk cx a e = .exc t) (k : Wp W (.exc t e)) : Wp W (exB P cl mk cx (.expr a :: ss) e) := by
  rw [exB_cons]
  show Wp W (((evE P cl mk cx a e).st e _).seq _)
  rw [h]; exact k
theorem b_raise {c : Nat} {as : List E} {fs : List (Nat × Bool)} {ts : List T} {x : T} (h : P.err c = some fs) (h2 : evL P cl mk cx as e = .ok ts) (h3 : errT fs c ts = .ok x) (k : Wp W (.exc x e)) : Wp W (exB P cl mk cx (.raise c as :: ss) e) := by
  rw [exB_cons]
  show Wp W (((ofO (P.err c)).st e fun fs => (evL P cl mk cx as e).st e fun ts => (errT fs c ts).st e fun x => .exc x e).seq _)
  rw [h, h2]
  show Wp W (((errT fs c ts).st e fun x => .exc x e).seq _)
  rw [h3]; exact k
theorem b_ifs {s t : List S} {p : Bool} (h : evE P cl mk cx a e = .ok (.bl p)) (k : Wp W (bif p then exB P cl mk cx (s ++ ss) e else exB P cl mk cx (t ++ ss) e)) : Wp W (exB P cl mk cx (.ifs a s t :: ss) e) := by
  rw [exB_cons]
  cases p with
  | true =>
    have k : Wp W (exB P cl mk cx (s ++ ss) e) := k
    rw [exS_ifT h]; rw [exB_app] at k; exact k
  | false =>
    have k : Wp W (exB P cl mk cx (t ++ ss) e) := k
    rw [exS_ifF h]; rw [exB_app] at k; exact k
theorem set_same : ∀ (e : Env) (x : Nat) (t : T), e.getD x none = some t → e.set x (some t) = e
  | [], x, t, h => by simp at h
  | o :: e, 0, t, h => by
    have h : o = some t := h
    rw [h]; rfl
  | o :: e, x + 1, t, h => by
    show o :: e.set x (some t) = _
    rw [set_same e x t h]
/-- a slot that an if tells anew -/
theorem b_ifA {x : Nat} {p : Bool} {t u v : T} (h : evE P cl mk cx a e = .ok (.bl p)) (h1 : p = true → evE P cl mk cx b e = .ok t) (h2 : e.getD x none = some u) (h3 : (bif p then t else u) = v) (k : Wp W (exB P cl mk cx ss (e.set x (some v)))) : Wp W (exB P cl mk cx (.ifs a [.asg x b false] [] :: ss) e) := by
  refine b_ifs h ?_
  cases p with
  | true =>
    have h3 : t = v := h3
    subst h3
    exact b_asg (h1 rfl) k
  | false =>
    have h3 : u = v := h3
    subst h3
    rw [set_same e x u h2] at k
    exact k
theorem b_ifAG {x : Nat} {p : Bool} {t u v : T} (h : evE P cl mk cx a e = .ok (.bl p)) (h1 : p = true → evE P cl mk cx b e = .ok t) (hn : noList t = true) (h2 : e.getD x none = some u) (h3 : (bif p then t else u) = v) (k : Wp W (exB P cl mk cx ss (e.set x (some v)))) : Wp W (exB P cl mk cx (.ifs a [.asg x b true] [] :: ss) e) := by
  refine b_ifs h ?_
  cases p with
  | true =>
    have h3 : t = v := h3
    subst h3
    exact b_asgG (h1 rfl) hn k
  | false =>
    have h3 : u = v := h3
    subst h3
    rw [set_same e x u h2] at k
    exact k
theorem b_ifE {x : Nat} {p : Bool} {t u v : T} (h : evE P cl mk cx a e = .ok (.bl p)) (h1 : p = true → evE P cl mk cx b e = .ok t) (h2 : p = false → evE P cl mk cx c e = .ok u) (h3 : (bif p then t else u) = v) (k : Wp W (exB P cl mk cx ss (e.set x (some v)))) : Wp W (exB P cl mk cx (.ifs a [.asg x b false] [.asg x c false] :: ss) e) := by
  refine b_ifs h ?_
  cases p with
  | true =>
    have h3 : t = v := h3
    subst h3
    exact b_asg (h1 rfl) k
  | false =>
    have h3 : u = v := h3
    subst h3
    exact b_asg (h2 rfl) k
theorem k_T {p : Bool} {x y : SR} (h : p = true) (k : Wp W x) : Wp W (bif p then x else y) := by rw [h]; exact k
theorem k_F {p : Bool} {x y : SR} (h : p = false) (k : Wp W y) : Wp W (bif p then x else y) := by rw [h]; exact k
theorem k_split {p : Bool} {x y : SR} (h : p = true → Wp W x) (k : p = false → Wp W y) : Wp W (bif p then x else y) := by
  cases p with
  | true => exact h rfl
  | false => exact k rfl
theorem b_cont (k : Wp W (.ct e)) : Wp W (exB P cl mk cx (.cont :: ss) e) := k
theorem b_brk (k : Wp W (.bk e)) : Wp W (exB P cl mk cx (.brk :: ss) e) := k
/-- a part that two ways share -/
theorem b_mid {s : List S} {U : Env → Prop} (h : Wp (fun q => ∃ e', q = .nx e' ∧ U e') (exB P cl mk cx s e)) (k : ∀ e', U e' → Wp W (exB P cl mk cx ss e')) : Wp W (exB P cl mk cx (s ++ ss) e) := by
  obtain ⟨e', h1, h2⟩ := h
  rw [exB_app, h1]
  exact k e' h2
/-- an if by what holds behind it -/
theorem b_ifM {s t : List S} {p : Bool} {U : Env → Prop} (h : evE P cl mk cx a e = .ok (.bl p)) (h1 : p = true → Wp (fun q => ∃ e', q = .nx e' ∧ U e') (exB P cl mk cx s e)) (h2 : p = false → Wp (fun q => ∃ e', q = .nx e' ∧ U e') (exB P cl mk cx t e)) (k : ∀ e', U e' → Wp W (exB P cl mk cx ss e')) : Wp W (exB P cl mk cx (.ifs a s t :: ss) e) := by
  refine b_ifs h ?_
  cases p with
  | true => exact b_mid (h1 rfl) k
  | false => exact b_mid (h2 rfl) k
theorem b_ifU {σ : Type} {s t : List S} {p : Bool} (V : σ → List (Nat × Option T)) (I : σ → Prop) (h : evE P cl mk cx a e = .ok (.bl p)) (h1 : p = true → Wp (fun q => ∃ s, q = .nx (up e (V s)) ∧ I s) (exB P cl mk cx s e)) (h2 : p = false → Wp (fun q => ∃ s, q = .nx (up e (V s)) ∧ I s) (exB P cl mk cx t e)) (k : ∀ s, I s → Wp W (exB P cl mk cx ss (up e (V s)))) : Wp W (exB P cl mk cx (.ifs a s t :: ss) e) := by
  refine b_ifM (U := fun e' => ∃ s, e' = up e (V s) ∧ I s) h (fun hp => ?_) (fun hp => ?_) ?_
  · obtain ⟨s, h3, h4⟩ := h1 hp
    exact ⟨_, h3, s, rfl, h4⟩
  · obtain ⟨s, h3, h4⟩ := h2 hp
    exact ⟨_, h3, s, rfl, h4⟩
  · rintro e' ⟨s, rfl, h4⟩
    exact k s h4
/-! errors -/
theorem v_call0X {f : Nat} {es : List E} {ts : List T} {t : T} (h1 : evL P cl mk cx es e = .ok ts) (h2 : cl f ts = .exc t) : evE P cl mk cx (.call f es []) e = .exc t := by
  show (evL P cl mk cx es e).bnd _ = _
  rw [h1]; exact h2
theorem v_methX {m f : Nat} {o : E} {es : List E} {pm : List Pa} {x : T} {ts us : List T} {t : T} (h1 : evE P cl mk cx o e = .ok x) (h2 : methOf P m x = some f) (h3 : evL P cl mk cx es e = .ok ts) (h4 : args pm (x :: ts) = us) (h5 : cl f us = .exc t) :
    evE P cl mk cx (.meth m o es pm) e = .exc t := by
  show (evE P cl mk cx o e).bnd _ = _
  rw [h1]
  show (ofO (methOf P m x)).bnd _ = _
  rw [h2]
  show (evL P cl mk cx es e).bnd _ = _
  rw [h3]
  show cl f (args pm (x :: ts)) = _
  rw [h4]; exact h5
theorem v_makeX {c : Nat} {es : List E} {pm : List Pa} {ts us : List T} {t : T} (h1 : evL P cl mk cx es e = .ok ts) (h2 : args pm ts = us) (h3 : mk c us = .exc t) : evE P cl mk cx (.make c es pm) e = .exc t := by
  show (evL P cl mk cx es e).bnd _ = _
  rw [h1]; show mk c (args pm ts) = _
  rw [h2]; exact h3
theorem v_meth0X {m f : Nat} {o : E} {es : List E} {x : T} {ts : List T} {t : T} (h1 : evE P cl mk cx o e = .ok x) (h2 : methOf P m x = some f) (h3 : evL P cl mk cx es e = .ok ts) (h5 : cl f (x :: ts) = .exc t) : evE P cl mk cx (.meth m o es []) e = .exc t := v_methX h1 h2 h3 rfl h5
theorem v_make0X {c : Nat} {es : List E} {ts : List T} {t : T} (h1 : evL P cl mk cx es e = .ok ts) (h3 : mk c ts = .exc t) : evE P cl mk cx (.make c es []) e = .exc t := v_makeX h1 rfl h3
theorem v_lstX {es : List E} {t : T} (h1 : evL P cl mk cx es e = .exc t) : evE P cl mk cx (.lst es) e = .exc t := by
  show (evL P cl mk cx es e).bnd _ = _
  rw [h1]; rfl
theorem v_tupX {es : List E} {t : T} (h1 : evL P cl mk cx es e = .exc t) : evE P cl mk cx (.tup es) e = .exc t := by
  show (evL P cl mk cx es e).bnd _ = _
  rw [h1]; rfl
theorem l_consX {es : List E} {t : T} (h1 : evE P cl mk cx a e = .exc t) : evL P cl mk cx (a :: es) e = .exc t := by
  show (evE P cl mk cx a e).bnd _ = _
  rw [h1]; rfl
theorem l_consY {es : List E} {u t : T} (h1 : evE P cl mk cx a e = .ok u) (h2 : evL P cl mk cx es e = .exc t) : evL P cl mk cx (a :: es) e = .exc t := by
  show (evE P cl mk cx a e).bnd _ = _
  rw [h1]
  show (evL P cl mk cx es e).bnd _ = _
  rw [h2]; rfl
theorem v_call0L {f : Nat} {es : List E} {t : T} (h1 : evL P cl mk cx es e = .exc t) : evE P cl mk cx (.call f es []) e = .exc t := by
  show (evL P cl mk cx es e).bnd _ = _
  rw [h1]; rfl
theorem v_blt1X {o : Blt} {t : T} (h1 : evE P cl mk cx a e = .exc t) : evE P cl mk cx (.blt o [a]) e = .exc t := by
  rw [ev_blt1, h1]; rfl
theorem v_xisa {t : Ty} {u : T} (h : xisaT P cx t = .ok u) : evE P cl mk cx (.xisa t) e = .ok u := h
theorem v_xfld {f : Nat} {u : T} (h : xfldT cx f = .ok u) : evE P cl mk cx (.xfld f) e = .ok u := h
theorem b_tryR {body h : List S} {c : Nat} {x : Option Nat} {ft : Bool} {t : T} (hb : Wp (fun q => q = .rt t) (exB P cl mk cx body e)) (k : Wp W (.rt t)) : Wp W (exB P cl mk cx (.tryS body c x h ft :: ss) e) := by
  rw [exB_cons]
  unfold exS
  rw [show exB P cl mk cx body e = .rt t from hb]
  exact k
theorem b_tryN {body h : List S} {c : Nat} {x : Option Nat} {ft : Bool} {e' : Env} (hb : Wp (fun q => q = .nx e') (exB P cl mk cx body e)) (k : Wp W (exB P cl mk cx ss e')) : Wp W (exB P cl mk cx (.tryS body c x h ft :: ss) e) := by
  rw [exB_cons]
  unfold exS
  rw [show exB P cl mk cx body e = .nx e' from hb]
  exact k
theorem b_tryX {body h : List S} {c : Nat} {x : Option Nat} {ft : Bool} {t u : T} {e' : Env} (hb : Wp (fun q => q = .exc t e') (exB P cl mk cx body e)) (h1 : (P.sup (excOf t)).isEmpty = false) (h2 : e'.length ≤ 1000) (h3 : (P.sup (excOf t)).contains c = true) (hh : Wp (fun q => q = .rt u) (exB P cl mk (some t) h (unset x e'))) (k : Wp W (.rt u)) : Wp W (exB P cl mk cx (.tryS body c x h ft :: ss) e) := by
  rw [exB_cons]
  unfold exS
  rw [show exB P cl mk cx body e = .exc t e' from hb]
  show Wp W ((chkS (!(P.sup (excOf t)).isEmpty && Nat.ble e'.length 1000) (match (P.sup (excOf t)).contains c with
      | true => (match exB P cl mk (some t) h (unset x e') with
        | .nx e2 => chkS ft (.nx (unset x e2))
        | .rt u => .rt u
        | _ => .bad)
      | false => .exc t e')).seq _)
  rw [h1, Nat.ble_eq_true_of_le h2, h3, show exB P cl mk (some t) h (unset x e') = .rt u from hh]
  exact k
theorem wp_nx (h : e = e') : Wp (fun q => q = .nx e') (.nx e) := by rw [h]; rfl
theorem wp_x {t u : T} (h : t = u) : Wp (fun q => q = .exc u e) (.exc t e) := by rw [h]; rfl
/-! loops -/
theorem exS_fr {tg : Tg} {k : Ik} {its : List E} {body : List S} {own : List Nat} {ts xs : List T} (h : evL P cl mk cx its e = .ok ts) (h2 : walk P cl k ts = .ok xs) :
    exS P cl mk cx (.forS tg k its body own) e = forX (forT P cl mk cx tg body) xs e := (exS_for h h2).trans rfl
/-- a turn's outcome: what goes on, what leaves the def, what breaks -/
def Lp (N : Env → Prop) (W : SR → Prop) (B : Env → Prop) : SR → Prop
  | .nx e => N e
  | .ct e => N e
  | .bk e => B e
  | q => W q
theorem lp_nx {N B : Env → Prop} (h : N e) : Wp (Lp N W B) (.nx e) := h
theorem lp_ct {N B : Env → Prop} (h : N e) : Wp (Lp N W B) (.ct e) := h
theorem lp_bk {N B : Env → Prop} (h : B e) : Wp (Lp N W B) (.bk e) := h
theorem lp_rt {N B : Env → Prop} {t : T} (h : Wp W (.rt t)) : Wp (Lp N W B) (.rt t) := h
theorem lp_exc {N B : Env → Prop} {t : T} (h : Wp W (.exc t e)) : Wp (Lp N W B) (.exc t e) := h
theorem forX_wp {b : T → Env → SR} {α σ : Type} {it : α → T} {U : σ → List (Nat × Option T)} {e : Env} {k : Env → SR} {W : SR → Prop} : ∀ (xs : List α) (I : Nat → σ → Prop) (s : σ), I 0 s →
    (∀ i x s, xs[i]? = some x → I i s → Wp (Lp (fun e' => ∃ s', e' = up e (U s') ∧ I (i + 1) s') W (fun e' => Wp W (k e'))) (b (it x) (up e (U s)))) →
    (∀ s, I xs.length s → Wp W (k (up e (U s)))) → Wp W ((forX b (xs.map it) (up e (U s))).seq k)
  | [], I, s, h, _, hk => hk s h
  | x :: xs, I, s, h, hs, hk => by
    have h1 := hs 0 x s rfl h
    have un : forX b ((x :: xs).map it) (up e (U s)) = (match b (it x) (up e (U s)) with | .nx e' => forX b (xs.map it) e' | .ct e' => forX b (xs.map it) e' | .bk e' => .nx e' | .rt t => .rt t | .exc x e' => .exc x e' | .bad => .bad) := rfl
    have ih : ∀ s', I 1 s' → Wp W ((forX b (xs.map it) (up e (U s'))).seq k) := fun s' h2 => forX_wp xs (fun i => I (i + 1)) s' h2 (fun i y s2 hy hj => hs (i + 1) y s2 hy hj) hk
    rw [un]
    revert h1
    cases b (it x) (up e (U s)) with
    | nx e' => rintro ⟨s', rfl, h2⟩; exact ih s' h2
    | ct e' => rintro ⟨s', rfl, h2⟩; exact ih s' h2
    | bk e' => exact id
    | rt t => exact id
    | exc x e' => exact id
    | bad => exact id
/-- a loop by what holds before each turn, over slots that are told by U -/
theorem b_for {α σ : Type} {tg : Tg} {ik : Ik} {its : List E} {body : List S} {own : List Nat} {ts : List T} {xs : List α} {it : α → T} (U : σ → List (Nat × Option T)) (I : Nat → σ → Prop) (s0 : σ) {env : α → σ → Env}
    (h1 : evL P cl mk cx its e = .ok ts) (h2 : walk P cl ik ts = .ok (xs.map it)) (he : up e (U s0) = e) (hb : ∀ x s, bindTg tg (it x) (up e (U s)) = some (env x s)) (h0 : I 0 s0)
    (hs : ∀ i x s, xs[i]? = some x → I i s → Wp (Lp (fun e' => ∃ s', e' = up e (U s') ∧ I (i + 1) s') W (fun e' => Wp W (exB P cl mk cx ss e'))) (exB P cl mk cx body (env x s)))
    (k : ∀ s, I xs.length s → Wp W (exB P cl mk cx ss (up e (U s)))) : Wp W (exB P cl mk cx (.forS tg ik its body own :: ss) e) := by
  rw [exB_cons, exS_fr h1 h2]
  have q := forX_wp (b := forT P cl mk cx tg body) (it := it) (U := U) (e := e) (k := fun e' => exB P cl mk cx ss e') (W := W) xs I s0 h0 (fun i x s hx hI => by
    have := hs i x s hx hI
    unfold forT
    rw [hb]
    exact this) k
  rw [he] at q
  exact q
/-- a loop that tells its state by a fold -/
theorem b_while {σ : Type} {body : List S} {own : List Nat} (U : σ → List (Nat × Option T)) (I : σ → Prop) (m : σ → Nat) (s0 : σ) {p : σ → Bool} (he : up e (U s0) = e) (h0 : I s0)
    (hc : ∀ s, I s → evE P cl mk cx c (up e (U s)) = .ok (.bl (p s)))
    (hs : ∀ s, I s → p s = true → Wp (Lp (fun e' => ∃ s', e' = up e (U s') ∧ I s' ∧ m s' < m s) W (fun e' => Wp W (exB P cl mk cx ss e'))) (exB P cl mk cx body (up e (U s))))
    (k : ∀ s, I s → p s = false → Wp W (exB P cl mk cx ss (up e (U s)))) : Wp W (exB P cl mk cx (.whileS c body own :: ss) e) := by
  have key : ∀ (j : Nat) (s : σ), m s < j → I s → ∃ r n, whileN (fun e' => truth (evE P cl mk cx c e')) (fun e' => exB P cl mk cx body e') n (up e (U s)) = some r ∧ Wp W (r.seq fun e' => exB P cl mk cx ss e') := by
    intro j
    induction j with
    | zero => intro s h; omega
    | succ j ih =>
      intro s hj hI
      have hc := hc s hI
      cases hp : p s with
      | false => exact ⟨.nx (up e (U s)), 1, by unfold whileN; rw [hc, hp]; rfl, k s hI hp⟩
      | true =>
        have hs := hs s hI hp
        revert hs
        have un : ∀ n, whileN (fun e' => truth (evE P cl mk cx c e')) (fun e' => exB P cl mk cx body e') (n + 1) (up e (U s)) = (match exB P cl mk cx body (up e (U s)) with
            | .nx e' => whileN (fun e' => truth (evE P cl mk cx c e')) (fun e' => exB P cl mk cx body e') n e'
            | .ct e' => whileN (fun e' => truth (evE P cl mk cx c e')) (fun e' => exB P cl mk cx body e') n e'
            | .bk e' => some (.nx e')
            | .rt t => some (.rt t)
            | .exc x e' => some (.exc x e')
            | .bad => some .bad) := fun n => by
          have h2 : truth (evE P cl mk cx c (up e (U s))) = .ok true := by rw [hc, hp]; rfl
          conv => lhs; unfold whileN
          simp only [h2] <;> (cases exB P cl mk cx body (up e (U s)) <;> rfl)
        cases hb : exB P cl mk cx body (up e (U s)) with
        | nx e' =>
          rintro ⟨s', rfl, h2, h3⟩
          obtain ⟨r, n, q, w⟩ := ih s' (by omega) h2
          exact ⟨r, n + 1, by rw [un, hb]; exact q, w⟩
        | ct e' =>
          rintro ⟨s', rfl, h2, h3⟩
          obtain ⟨r, n, q, w⟩ := ih s' (by omega) h2
          exact ⟨r, n + 1, by rw [un, hb]; exact q, w⟩
        | bk e' => exact fun w => ⟨.nx e', 1, by rw [un, hb], w⟩
        | rt t => exact fun w => ⟨.rt t, 1, by rw [un, hb], w⟩
        | exc x e' => exact fun w => ⟨.exc x e', 1, by rw [un, hb], w⟩
        | bad => exact fun w => ⟨.bad, 1, by rw [un, hb], w⟩
  obtain ⟨r', n, q, w⟩ := key (m s0 + 1) s0 (by omega) h0
  rw [he] at q
  rw [exB_cons]
  show Wp W ((whileX (fun e' => truth (evE P cl mk cx c e')) (fun e' => exB P cl mk cx body e') e).seq _)
  rw [whX q]
  exact w
theorem run_ok {n f : Nat} {d : Fn} {ts : List T} {e0 : Env} {t : T} (hf : P.fn f = some d) (hl : (ts.length == d.np) = true) (he : start d ts = e0) (h : Wp (fun q => q = .rt t) (exB P (run P n) (make P n) none d.body e0)) : run P (n + 1) f ts = .ok t :=
  run_of (r := .rt t) hf (eq_of_beq hl) (by rw [he]; exact h)
theorem run_non {n f : Nat} {d : Fn} {ts : List T} {e0 : Env} (hf : P.fn f = some d) (hl : (ts.length == d.np) = true) (he : start d ts = e0) (h : Wp (fun q => q.out = .ok .non) (exB P (run P n) (make P n) none d.body e0)) : run P (n + 1) f ts = .ok .non := by
  rw [run_of (P := P) (n := n) (f := f) hf (eq_of_beq hl) rfl, he]
  exact h
theorem run_exc {n f : Nat} {d : Fn} {ts : List T} {e0 : Env} {t : T} (hf : P.fn f = some d) (hl : (ts.length == d.np) = true) (he : start d ts = e0) (h : Wp (fun q => q.out = .exc t) (exB P (run P n) (make P n) none d.body e0)) : run P (n + 1) f ts = .exc t := by
  rw [run_of (P := P) (n := n) (f := f) hf (eq_of_beq hl) rfl, he]
  exact h
theorem run_wp {n f : Nat} {d : Fn} {ts : List T} {e0 : Env} {Q : R T → Prop} (hf : P.fn f = some d) (hl : (ts.length == d.np) = true) (he : start d ts = e0) (h : Wp (fun q => Q q.out) (exB P (run P n) (make P n) none d.body e0)) : Q (run P (n + 1) f ts) := by
  rw [run_of (P := P) (n := n) (f := f) hf (eq_of_beq hl) rfl, he]
  exact h
theorem wp_rt {t u : T} (h : t = u) : Wp (fun q => q = .rt u) (.rt t) := by rw [h]; rfl
theorem wp_out {t u : T} (h : t = u) : Wp (fun q => q.out = .ok u) (.rt t) := by rw [h]; rfl
theorem wp_exc {t u : T} (h : t = u) : Wp (fun q => q.out = .exc u) (.exc t e) := by rw [h]; rfl
theorem mk_wp {n c : Nat} {d : Ini} {ts : List T} {e0 : Env} {t : T} (hP : P.ini c = some d) (hl : (ts.length + 1 == d.np) = true) (hn : noClsL ts = true) (he : startI d ts = e0)
    (h : Wp (fun q => ∃ e', q = .nx e' ∧ isC0 e' = true ∧ fillF (evE P (run P n) (make P n) none) c d.fls [] [] e' = .ok t ∧ noCls t = true) (exB P (run P n) (make P n) none d.pre e0)) : make P (n + 1) c ts = .ok t := by
  obtain ⟨e', h1, h2, h3, h4⟩ := h
  show (match P.ini c with | some d => _ | none => _) = _
  rw [hP]
  show chk (ts.length + 1 == d.np && noClsL ts) (grdC (match exB P (run P n) (make P n) none d.pre (startI d ts) with
    | .nx e => chk (isC0 e) (fillF (evE P (run P n) (make P n) none) c d.fls [] [] e)
    | .exc x _ => .exc x
    | _ => .bad)) = _
  rw [hl, hn, he, h1]
  show grdC (chk (isC0 e') (fillF (evE P (run P n) (make P n) none) c d.fls [] [] e')) = _
  rw [h2, h3]
  show chk (noCls t) (R.ok t) = _
  rw [h4]; rfl
theorem mk_exc {n c : Nat} {d : Ini} {ts : List T} {e0 : Env} {t : T} (hP : P.ini c = some d) (hl : (ts.length + 1 == d.np) = true) (hn : noClsL ts = true) (he : startI d ts = e0)
    (h : Wp (fun q => ∃ e', q = .exc t e' ∧ noCls t = true) (exB P (run P n) (make P n) none d.pre e0)) : make P (n + 1) c ts = .exc t := by
  obtain ⟨e', h1, h4⟩ := h
  show (match P.ini c with | some d => _ | none => _) = _
  rw [hP]
  show chk (ts.length + 1 == d.np && noClsL ts) (grdC (match exB P (run P n) (make P n) none d.pre (startI d ts) with
    | .nx e => chk (isC0 e) (fillF (evE P (run P n) (make P n) none) c d.fls [] [] e)
    | .exc x _ => .exc x
    | _ => .bad)) = _
  rw [hl, hn, he, h1]
  show chk (noCls t) (R.exc t) = _
  rw [h4]; rfl
theorem f_nil {ev : E → Env → R T} {c : Nat} {ks : List Nat} {vs : List T} : fillF ev c [] ks vs e = .ok (.ins c ks vs) := rfl
theorem f_cons {ev : E → Env → R T} {c f : Nat} {l : List (Nat × Bool × E)} {ks : List Nat} {vs : List T} {t : T} {q : R T} (h : ev a (e.set 0 (some (.ins c ks vs))) = .ok t) (k : fillF ev c l (ks ++ [f]) (vs ++ [t]) e = q) : fillF ev c ((f, false, a) :: l) ks vs e = q := by
  show (ev a (e.set 0 (some (.ins c ks vs)))).bnd (fun t => chk (!false || noMut t) (fillF ev c l (ks ++ [f]) (vs ++ [t]) e)) = _
  rw [h]; exact k
theorem f_consG {ev : E → Env → R T} {c f : Nat} {l : List (Nat × Bool × E)} {ks : List Nat} {vs : List T} {t : T} {q : R T} (h : ev a (e.set 0 (some (.ins c ks vs))) = .ok t) (hn : noMut t = true) (k : fillF ev c l (ks ++ [f]) (vs ++ [t]) e = q) : fillF ev c ((f, true, a) :: l) ks vs e = q := by
  show (nxR (ev a (e.set 0 (some (.ins c ks vs))))).bnd (fun t => chk (!true || noMut t) (fillF ev c l (ks ++ [f]) (vs ++ [t]) e)) = _
  rw [h]
  show chk (!true || noMut t) (fillF ev c l (ks ++ [f]) (vs ++ [t]) e) = _
  rw [hn]; exact k
theorem nc_map {α : Type} {f : α → T} (hf : ∀ r, noCls (f r) = true) : ∀ xs : List α, noClsL (xs.map f) = true
  | [] => rfl
  | r :: xs => by
    show (noCls (f r) && noClsL (xs.map f)) = true
    rw [nc_map hf xs, hf r]; rfl
theorem nc_I (xs : List Int) : noClsL (tI xs) = true := nc_map (fun _ => rfl) xs
theorem nc_L (xs : List (List Int)) : noClsL (tL xs) = true := nc_map (f := fun r => T.lst (tI r)) (fun r => nc_I r) xs
theorem nc_U (xs : List (List Int)) : noClsL (tU xs) = true := nc_map (f := fun r => T.tup (tI r)) (fun r => nc_I r) xs
theorem nm_I (xs : List Int) : noMuts (tI xs) = true := by
  induction xs with
  | nil => rfl
  | cons x xs ih => exact ih
theorem l_fld {c f : Nat} {ks : List Nat} {vs : List T} {t : T} (h : (P.ini c).isSome = true) (h2 : lookF f ks vs = some t) : fldT P (.ins c ks vs) f = .ok t := by
  show chk (P.ini c).isSome (ofO (lookF f ks vs)) = _
  rw [h, h2]; rfl
theorem rng0_get {b : Int} {i : Nat} {x : Int} (h : (rangeI 0 b)[i]? = some x) : x = i ∧ (i : Int) < b := by
  have := rng_get h
  omega
theorem gD_ext {α : Type} [Inhabited α] {xs ys : List α} (hl : xs.length = ys.length) (h : ∀ k : Nat, k < xs.length → gD xs k = gD ys k) : xs = ys := by
  apply List.ext_getElem hl
  intro i h1 h2
  have := h i h1
  unfold gD at this
  rw [Int.toNat_natCast, List.getD_eq_getElem?_getD, List.getD_eq_getElem?_getD, List.getElem?_eq_getElem h1, List.getElem?_eq_getElem h2] at this
  exact this
theorem gD_mem {α : Type} [Inhabited α] {xs : List α} {k : Int} (h0 : 0 ≤ k) (h1 : k < xs.length) : gD xs k ∈ xs := by
  unfold gD
  rw [List.getD_eq_getElem?_getD, List.getElem?_eq_getElem (show k.toNat < xs.length by omega)]
  exact List.getElem_mem _
theorem gD_get {α : Type} [Inhabited α] {xs : List α} {i : Nat} {x : α} (h : xs[i]? = some x) : gD xs i = x := by
  unfold gD
  rw [List.getD_eq_getElem?_getD, Int.toNat_natCast, h]; rfl
theorem get_gD {α : Type} [Inhabited α] {xs : List α} {i : Nat} (h : i < xs.length) : xs[i]? = some (gD xs i) := by
  unfold gD
  rw [List.getD_eq_getElem?_getD, Int.toNat_natCast, List.getElem?_eq_getElem h]; rfl
theorem gD_map {α β : Type} [Inhabited α] [Inhabited β] {f : α → β} {xs : List α} {k : Int} (h0 : 0 ≤ k) (h1 : k < xs.length) : gD (xs.map f) k = f (gD xs k) := by
  have h : k.toNat < xs.length := by omega
  unfold gD
  rw [List.getD_eq_getElem?_getD, List.getD_eq_getElem?_getD, List.getElem?_map, List.getElem?_eq_getElem h]; rfl
theorem gD_rng {a b k : Int} (h0 : 0 ≤ k) (h1 : k < b - a) : gD (rangeI a b) k = a + k := by
  have h : k.toNat < (rangeI a b).length := by rw [rng_length]; omega
  have := rng_get (i := k.toNat) (List.getElem?_eq_getElem h)
  unfold gD
  rw [List.getD_eq_getElem?_getD, List.getElem?_eq_getElem h]
  show (rangeI a b)[k.toNat] = _
  omega
theorem gD_set {α : Type} [Inhabited α] {xs : List α} {m : Nat} {x : α} {k : Int} (h0 : 0 ≤ k) (h1 : m < xs.length) : gD (xs.set m x) k = if k = m then x else gD xs k := by
  unfold gD
  rw [List.getD_eq_getElem?_getD, List.getD_eq_getElem?_getD, List.getElem?_set]
  by_cases h : k = m
  · have : m = k.toNat := by omega
    rw [if_pos this, if_pos h, if_pos h1]; rfl
  · rw [if_neg (by omega), if_neg h]
theorem gD_app {α : Type} [Inhabited α] {xs ys : List α} {k : Int} (h0 : 0 ≤ k) : gD (xs ++ ys) k = if k < xs.length then gD xs k else gD ys (k - xs.length) := by
  unfold gD
  rw [List.getD_eq_getElem?_getD, List.getD_eq_getElem?_getD, List.getD_eq_getElem?_getD, List.getElem?_append]
  by_cases h : k < xs.length
  · rw [if_pos (by omega), if_pos h]
  · rw [if_neg (by omega), if_neg h, show k.toNat - xs.length = (k - xs.length).toNat by omega]
end
end Wt

/-! Pure2: loops by steps, and what the evaluator's own rules say to simp. -/
namespace Wt
open PySem
/-- the loop ends so -/
def Wh (c : Env → R Bool) (b : Env → SR) (e : Env) (r : SR) : Prop := ∃ n, whileN c b n e = some r
section
variable {c : Env → R Bool} {b : Env → SR} {e e' : Env} {r : SR}
theorem Wh.eq (h : Wh c b e r) : whileX c b e = r := h.elim fun _ q => whileX_eq q
theorem Wh.done (h : c e = .ok false) : Wh c b e (.nx e) := ⟨1, by unfold whileN; rw [h]⟩
theorem Wh.step (h : c e = .ok true) (h2 : b e = .nx e') (h3 : Wh c b e' r) : Wh c b e r := by
  obtain ⟨n, q⟩ := h3
  refine ⟨n + 1, ?_⟩
  unfold whileN
  rw [h]
  show (match b e with | .nx e' => whileN c b n e' | .ct e' => whileN c b n e' | .bk e' => some (.nx e') | .rt t => some (.rt t) | .exc x e' => some (.exc x e') | .bad => some .bad) = _
  rw [h2]
  exact q
theorem Wh.ret {t : T} (h : c e = .ok true) (h2 : b e = .rt t) : Wh c b e (.rt t) := by
  refine ⟨1, ?_⟩
  unfold whileN
  rw [h]
  show (match b e with | .nx e' => whileN c b 0 e' | .ct e' => whileN c b 0 e' | .bk e' => some (.nx e') | .rt t => some (.rt t) | .exc x e' => some (.exc x e') | .bad => some .bad) = _
  rw [h2]
end
theorem exB_append {P : Prog} {cl : Nat → List T → R T} {mk : Nat → List T → R T} {cx : Option T} : ∀ (a b : List S) (e : Env), exB P cl mk cx (a ++ b) e = (exB P cl mk cx a e).seq fun e' => exB P cl mk cx b e'
  | [], b, e => rfl
  | s :: a, b, e => by
    rw [List.cons_append, exB_cons, exB_cons]
    cases exS P cl mk cx s e with
    | nx e' => exact exB_append a b e'
    | rt t => rfl
    | bk e => rfl
    | ct e => rfl
    | exc x e => rfl
    | bad => rfl
theorem divOk_of {i j : Int} (h : 0 < j) (h2 : j.natAbs < 18446744073709551616) : DivOk i j = true := divOk64 h (by omega)
section
variable {P : Prog} {n : Nat}
def f_divisor_of_4ac5e9 : Fn := ⟨2, 4, [.par [2, 3] [(.blt .abs [(.var 0)]), (.blt .abs [(.var 1)])],
  .whileS (.cmp .gt (.var 3) (.int 0)) [.par [2, 3] [(.var 3), (.bin .mod (.var 2) (.var 3))]] [0, 0, 0, 0],
  .ret (.var 2)]⟩
theorem gcd_loop {cl : Nat → List T → R T} {mk : Nat → List T → R T} {cx : Option T} {o p : Option T} : ∀ (b a : Nat),
    Wh (fun e' => truth (evE P cl mk cx (.cmp .gt (.var 3) (.int 0)) e')) (fun e' => exB P cl mk cx [.par [2, 3] [(.var 3), (.bin .mod (.var 2) (.var 3))]] e')
      [o, p, some (.int a), some (.int b)] (.nx [o, p, some (.int (Nat.gcd b a)), some (.int 0)]) := by
  intro b
  induction b using Nat.strongRecOn with
  | _ b ih =>
    intro a
    by_cases hb : b = 0
    · subst hb
      rw [Nat.gcd_zero_left]
      exact Wh.done (by simp [exB, exS, evE, evL, evP, evC, bltT, blt1, blt2, binT, cmpT, cmpI, chk, truth, R.st, R.bnd, SR.seq, SR.out, slot, slotL, ofO, putL, chkS, grd, intR, eqR, dataT, dataD, eqT, ixT, ixI, items, isaT, tyB, tyI, tyT, tyL, setAll, bindTg, args, pick, notR, noList, noLists, start, xfldT, xisaT, lookF, unset, errT, errT.go, toTup])
    · have hb' : 0 < b := by omega
      have hb2 : (0 : Int) < b := by omega
      rw [Nat.gcd_rec]
      refine Wh.step (by simp [exB, exS, evE, evL, evP, evC, bltT, blt1, blt2, binT, cmpT, cmpI, chk, truth, R.st, R.bnd, SR.seq, SR.out, slot, slotL, ofO, putL, chkS, grd, intR, eqR, dataT, dataD, eqT, ixT, ixI, items, isaT, tyB, tyI, tyT, tyL, setAll, bindTg, args, pick, notR, noList, noLists, start, xfldT, xisaT, lookF, unset, errT, errT.go, toTup, hb']) ?_ (ih (a % b) (Nat.mod_lt _ hb') b)
      simp [exB, exS, evE, evL, evP, evC, bltT, blt1, blt2, binT, cmpT, cmpI, chk, truth, R.st, R.bnd, SR.seq, SR.out, slot, slotL, ofO, putL, chkS, grd, intR, eqR, dataT, dataD, eqT, ixT, ixI, items, isaT, tyB, tyI, tyT, tyL, setAll, bindTg, args, pick, notR, noList, noLists, start, xfldT, xisaT, lookF, unset, errT, errT.go, toTup, hb']
theorem divisor_ok {f : Nat} {a b : Int} (hf : P.fn f = some f_divisor_of_4ac5e9) : run P (n + 1) f [.int a, .int b] = .ok (.int (Int.gcd a b : Nat)) := by
  refine (run_of (r := .rt (.int (Int.gcd a b : Nat))) hf rfl ?_).trans rfl
  have h := (gcd_loop (P := P) (cl := run P n) (mk := make P n) (cx := none) (o := some (.int a)) (p := some (.int b)) b.natAbs a.natAbs).eq
  simp [exB, exS, evE, evL, evP, evC, bltT, blt1, blt2, binT, cmpT, cmpI, chk, truth, R.st, R.bnd, SR.seq, SR.out, slot, slotL, ofO, putL, chkS, grd, intR, eqR, dataT, dataD, eqT, ixT, ixI, items, isaT, tyB, tyI, tyT, tyL, setAll, bindTg, args, pick, notR, noList, noLists, start, xfldT, xisaT, lookF, unset, errT, errT.go, toTup, f_divisor_of_4ac5e9] at h ⊢
  rw [h]
  simp [Int.gcd, Nat.gcd_comm]
end
end Wt

/-! Pure3: loops that check, and the law's helpers. -/
namespace Wt
open PySem
theorem exS_forT {P : Prog} {cl mk : Nat → List T → R T} {cx : Option T} {tg : Tg} {k : Ik} {its : List E} {body : List S} {own : List Nat} {e : Env} {ts xs : List T} (h : evL P cl mk cx its e = .ok ts) (h2 : walk P cl k ts = .ok xs) :
    exS P cl mk cx (.forS tg k its body own) e = forX (forT P cl mk cx tg body) xs e := (exS_for h h2).trans rfl
theorem forT_one {P : Prog} {cl mk : Nat → List T → R T} {cx : Option T} {i : Nat} {body : List S} {x : T} {e : Env} : forT P cl mk cx (.one i) body x e = exB P cl mk cx body (e.set i (some x)) := rfl
theorem exB_nil {P : Prog} {cl mk : Nat → List T → R T} {cx : Option T} {e : Env} : exB P cl mk cx [] e = .nx e := rfl
/-- a loop that goes on while p holds, and else answers t -/
theorem forX_all {b : T → Env → SR} {J : Env → Prop} {t : T} : ∀ (xs : List T) (p : Nat → Bool) (e : Env), J e →
    (∀ i x e, xs[i]? = some x → J e → (p i = true → ∃ e', b x e = .nx e' ∧ J e') ∧ (p i = false → b x e = .rt t)) →
    ((∀ i, i < xs.length → p i = true) → ∃ e', forX b xs e = .nx e' ∧ J e') ∧ ((∃ i, i < xs.length ∧ p i = false) → forX b xs e = .rt t)
  | [], p, e, h, _ => ⟨fun _ => ⟨e, rfl, h⟩, fun ⟨i, hi, _⟩ => absurd hi (Nat.not_lt_zero _)⟩
  | x :: xs, p, e, h, hs => by
    obtain ⟨h1, h2⟩ := hs 0 x e rfl h
    cases q : p 0 with
    | false =>
      refine ⟨fun z => ?_, fun _ => ?_⟩
      · have := z 0 (Nat.succ_pos _); rw [q] at this; cases this
      · show (match b x e with | .nx e' => forX b xs e' | .ct e' => forX b xs e' | .bk e' => .nx e' | .rt t => .rt t | .exc x e' => .exc x e' | .bad => .bad) = _
        rw [h2 q]
    | true =>
      obtain ⟨e', h3, h4⟩ := h1 q
      have h5 : forX b (x :: xs) e = forX b xs e' := by
        show (match b x e with | .nx e' => forX b xs e' | .ct e' => forX b xs e' | .bk e' => .nx e' | .rt t => .rt t | .exc x e' => .exc x e' | .bad => .bad) = _
        rw [h3]
      rw [h5]
      obtain ⟨k1, k2⟩ := forX_all xs (fun i => p (i + 1)) e' h4 fun i y e2 hy hj => hs (i + 1) y e2 hy hj
      refine ⟨fun z => k1 fun i hi => z (i + 1) (Nat.succ_lt_succ hi), fun ⟨i, hi, hp⟩ => ?_⟩
      cases i with
      | zero => rw [q] at hp; cases hp
      | succ i => exact k2 ⟨i, Nat.lt_of_succ_lt_succ hi, hp⟩
/-- a loop with what holds after each turn -/
theorem forX_inv {b : T → Env → SR} : ∀ (xs : List T) (J : Nat → Env → Prop) (e : Env), J 0 e →
    (∀ i x e, xs[i]? = some x → J i e → ∃ e', b x e = .nx e' ∧ J (i + 1) e') → ∃ e', forX b xs e = .nx e' ∧ J xs.length e'
  | [], J, e, h, _ => ⟨e, rfl, h⟩
  | x :: xs, J, e, h, hs => by
    obtain ⟨e', h1, h2⟩ := hs 0 x e rfl h
    have h5 : forX b (x :: xs) e = forX b xs e' := by
      show (match b x e with | .nx e' => forX b xs e' | .ct e' => forX b xs e' | .bk e' => .nx e' | .rt t => .rt t | .exc x e' => .exc x e' | .bad => .bad) = _
      rw [h1]
    rw [h5]
    exact forX_inv xs (fun i => J (i + 1)) e' h2 fun i y e2 hy hj => hs (i + 1) y e2 hy hj
theorem rng_at {n i : Nat} {x : T} (h : ((List.range' 0 n).map fun (k : Nat) => T.int (k : Int))[i]? = some x) : i < n ∧ x = .int (i : Nat) := by
  rw [List.getElem?_map, Option.map_eq_some_iff] at h
  obtain ⟨k, hk, rfl⟩ := h
  obtain ⟨h1, h2⟩ := List.getElem?_eq_some_iff.mp hk
  rw [List.getElem_range'] at h2
  rw [List.length_range'] at h1
  exact ⟨h1, by rw [← h2]; simp⟩
theorem rng_len {n : Nat} : ((List.range' 0 n).map fun (k : Nat) => T.int (k : Int)).length = n := by simp
theorem walk_rngN {P : Prog} {cl : Nat → List T → R T} {n : Nat} (h : n ≤ 1000000) : walk P cl .rng [.int (n : Nat)] = .ok ((List.range' 0 n).map fun (k : Nat) => T.int (k : Int)) := by
  rw [walk_rng1 (small_nat h), range_nat]
theorem dataD_int (n : Nat) (i : Int) : dataD n (.int i) = true := by cases n <;> rfl
theorem dataL_ints (xs : List Int) : dataL (tI xs) = true := by
  unfold dataL
  rw [List.all_eq_true]
  intro t ht
  obtain ⟨i, _, rfl⟩ := List.mem_map.mp ht
  rfl
theorem inL_ints (k : Int) : ∀ xs : List Int, inL (.int k) (tI xs) = decide (k ∈ xs)
  | [] => rfl
  | x :: xs => by
    show (eqT (.int x) (.int k) || inL (.int k) (tI xs)) = _
    rw [inL_ints k xs]
    show (decide (x = k) || decide (k ∈ xs)) = _
    by_cases h : x = k
    · simp [h]
    · have : ¬ k = x := fun z => h z.symm
      simp [h, this]
theorem intsOf_map : ∀ xs : List Int, intsOf (tI xs) = some xs
  | [] => rfl
  | x :: xs => by
    show (intsOf (tI xs)).map (x :: ·) = _
    rw [intsOf_map xs]
    rfl
theorem ixT_lst {xs : List Int} {i : Nat} {v : Int} (h : xs[i]? = some v) : ixT (.lst (tI xs)) (.int (i : Int)) = .ok (.int v) := ix_ok (by rw [List.getElem?_map, h]; rfl)
theorem ixT_tup {xs : List Int} {i : Nat} {v : Int} (h : xs[i]? = some v) : ixT (.tup (tI xs)) (.int (i : Int)) = .ok (.int v) := by
  have := ixT_lst h
  exact this
theorem ev_ixV {P : Prog} {cl : Nat → List T → R T} {mk : Nat → List T → R T} {cx : Option T} {e : Env} {a b : E} {t u : T} (h : evE P cl mk cx a e = .ok t) (h2 : evE P cl mk cx b e = .ok u) : evE P cl mk cx (.ix a b) e = ixT t u := by
  show (evE P cl mk cx a e).bnd _ = _
  rw [h]
  show (evE P cl mk cx b e).bnd _ = _
  rw [h2]
  rfl
section
variable {P : Prog} {n : Nat}
def f_law_is_integer_8a6384 : Fn := ⟨1, 1, [.ret (.and (.blt (.isa .int) [(.var 0)]) (.not (.blt (.isa .bool) [(.var 0)])))]⟩
def f_law_is_tuple_1ddc4d : Fn := ⟨2, 3, [.ifs (.or (.not (.blt (.isa .tuple) [(.var 0)])) (.cmp .ne (.blt .len [(.var 0)]) (.blt .len [(.var 1)]))) [.ret (.bl false)] [],
  .forS (.one 2) .rng [(.blt .len [(.var 1)])] [.ifs (.or (.not (.call 3 [(.ix (.var 0) (.var 2))] [])) (.cmp .ne (.ix (.var 0) (.var 2)) (.ix (.var 1) (.var 2)))) [.ret (.bl false)] []] [0, 0, 0],
  .ret (.bl true)]⟩
def f_law_is_list_ce7f05 : Fn := ⟨2, 3, [.ifs (.or (.not (.blt (.isa .list) [(.var 0)])) (.cmp .ne (.blt .len [(.var 0)]) (.blt .len [(.var 1)]))) [.ret (.bl false)] [],
  .forS (.one 2) .rng [(.blt .len [(.var 1)])] [.ifs (.or (.not (.call 3 [(.ix (.var 0) (.var 2))] [])) (.cmp .ne (.ix (.var 0) (.var 2)) (.ix (.var 1) (.var 2)))) [.ret (.bl false)] []] [0, 0, 0],
  .ret (.bl true)]⟩
theorem isint_ok {f : Nat} {a : Int} (hf : P.fn f = some f_law_is_integer_8a6384) : run P (n + 1) f [.int a] = .ok (.bl true) := by
  refine (run_of (r := .rt (.bl true)) hf rfl ?_).trans rfl
  simp [exB, exS, evE, evL, evP, evC, bltT, blt1, blt2, binT, cmpT, cmpI, chk, truth, R.st, R.bnd, SR.seq, SR.out, slot, slotL, ofO, putL, chkS, grd, intR, eqR, dataT, dataD, eqT, ixT, ixI, items, isaT, tyB, tyI, tyT, tyL, setAll, bindTg, args, pick, notR, noList, noLists, start, xfldT, xisaT, lookF, unset, errT, errT.go, toTup, f_law_is_integer_8a6384]
theorem is_loop {g : T} {xs ys : List Int} (hg : ∀ (i : Nat) (v : Int), xs[i]? = some v → ixT g (.int (i : Int)) = .ok (.int v)) (hi : P.fn 3 = some f_law_is_integer_8a6384) (hl : xs.length = ys.length) (hn : ys.length ≤ 1000000) :
    exB P (run P (n + 1)) (make P (n + 1)) none [.forS (.one 2) .rng [(.blt .len [(.var 1)])] [.ifs (.or (.not (.call 3 [(.ix (.var 0) (.var 2))] [])) (.cmp .ne (.ix (.var 0) (.var 2)) (.ix (.var 1) (.var 2)))) [.ret (.bl false)] []] [0, 0, 0], .ret (.bl true)]
      [some g, some (.lst (tI ys)), none] = .rt (.bl (decide (xs = ys))) := by
  have hev : evL P (run P (n + 1)) (make P (n + 1)) none [(.blt .len [(.var 1)])] [some g, some (.lst (tI ys)), none] = .ok [.int (ys.length : Nat)] := by simp [exB, exS, evE, evL, evP, evC, bltT, blt1, blt2, binT, cmpT, cmpI, chk, truth, R.st, R.bnd, SR.seq, SR.out, slot, slotL, ofO, putL, chkS, grd, intR, eqR, dataT, dataD, eqT, ixT, ixI, items, isaT, tyB, tyI, tyT, tyL, setAll, bindTg, args, pick, notR, noList, noLists, start, xfldT, xisaT, lookF, unset, errT, errT.go, toTup]
  rw [exB_cons, exS_forT hev (walk_rngN hn)]
  obtain ⟨k1, k2⟩ := forX_all (t := .bl false) (b := forT P (run P (n + 1)) (make P (n + 1)) none (.one 2) [.ifs (.or (.not (.call 3 [(.ix (.var 0) (.var 2))] [])) (.cmp .ne (.ix (.var 0) (.var 2)) (.ix (.var 1) (.var 2)))) [.ret (.bl false)] []])
    (J := fun e => ∃ o, e = [some g, some (.lst (tI ys)), o]) ((List.range' 0 ys.length).map fun (k : Nat) => T.int (k : Int)) (fun i => decide (xs[i]? = ys[i]?)) _ ⟨none, rfl⟩ fun i x e hx ⟨o, he⟩ => by
      obtain ⟨hi1, rfl⟩ := rng_at hx
      subst he
      have a1 : xs[i]? = some xs[i] := List.getElem?_eq_getElem (by omega)
      have a2 : ys[i]? = some ys[i] := List.getElem?_eq_getElem hi1
      have b1 := hg i _ a1
      have b2 := ixT_lst a2
      have hq := isint_ok (P := P) (n := n) (a := xs[i]) hi
      have v0 : evE P (run P (n + 1)) (make P (n + 1)) none (.ix (.var 0) (.var 2)) [some g, some (.lst (tI ys)), some (.int (i : Nat))] = .ok (.int xs[i]) := (ev_ixV rfl rfl).trans b1
      have v1 : evE P (run P (n + 1)) (make P (n + 1)) none (.ix (.var 1) (.var 2)) [some g, some (.lst (tI ys)), some (.int (i : Nat))] = .ok (.int ys[i]) := (ev_ixV rfl rfl).trans b2
      have c0 : evE P (run P (n + 1)) (make P (n + 1)) none (.or (.not (.call 3 [(.ix (.var 0) (.var 2))] [])) (.cmp .ne (.ix (.var 0) (.var 2)) (.ix (.var 1) (.var 2)))) [some g, some (.lst (tI ys)), some (.int (i : Nat))] = .ok (.bl (!decide (xs[i] = ys[i]))) := by
        unfold evE
        have d0 : evE P (run P (n + 1)) (make P (n + 1)) none (.not (.call 3 [(.ix (.var 0) (.var 2))] [])) [some g, some (.lst (tI ys)), some (.int (i : Nat))] = .ok (.bl false) := by
          unfold evE evE evL
          rw [v0]
          simp [exB, exS, evE, evL, evP, evC, bltT, blt1, blt2, binT, cmpT, cmpI, chk, truth, R.st, R.bnd, SR.seq, SR.out, slot, slotL, ofO, putL, chkS, grd, intR, eqR, dataT, dataD, eqT, ixT, ixI, items, isaT, tyB, tyI, tyT, tyL, setAll, bindTg, args, pick, notR, noList, noLists, start, xfldT, xisaT, lookF, unset, errT, errT.go, toTup, hq]
        have d1 : evE P (run P (n + 1)) (make P (n + 1)) none (.cmp .ne (.ix (.var 0) (.var 2)) (.ix (.var 1) (.var 2))) [some g, some (.lst (tI ys)), some (.int (i : Nat))] = .ok (.bl (!decide (xs[i] = ys[i]))) := by
          unfold evE
          rw [v0, v1]
          simp [exB, exS, evE, evL, evP, evC, bltT, blt1, blt2, binT, cmpT, cmpI, chk, truth, R.st, R.bnd, SR.seq, SR.out, slot, slotL, ofO, putL, chkS, grd, intR, eqR, dataT, dataD, eqT, ixT, ixI, items, isaT, tyB, tyI, tyT, tyL, setAll, bindTg, args, pick, notR, noList, noLists, start, xfldT, xisaT, lookF, unset, errT, errT.go, toTup]
        rw [d0, d1]
        simp [exB, exS, evE, evL, evP, evC, bltT, blt1, blt2, binT, cmpT, cmpI, chk, truth, R.st, R.bnd, SR.seq, SR.out, slot, slotL, ofO, putL, chkS, grd, intR, eqR, dataT, dataD, eqT, ixT, ixI, items, isaT, tyB, tyI, tyT, tyL, setAll, bindTg, args, pick, notR, noList, noLists, start, xfldT, xisaT, lookF, unset, errT, errT.go, toTup]
      rw [a1, a2, forT_one]
      show (_ → ∃ e', exB P (run P (n + 1)) (make P (n + 1)) none (_ :: _) [some g, some (.lst (tI ys)), some (.int (i : Nat))] = _ ∧ _) ∧ (_ → exB P (run P (n + 1)) (make P (n + 1)) none (_ :: _) [some g, some (.lst (tI ys)), some (.int (i : Nat))] = _)
      rw [exB_cons]
      by_cases hxy : xs[i] = ys[i]
      · refine ⟨fun _ => ⟨[some g, some (.lst (tI ys)), some (.int (i : Nat))], ?_, some (.int (i : Nat)), rfl⟩, fun z => ?_⟩
        · rw [exS_ifF (c0.trans (by simp [hxy]))]; rfl
        · simp [hxy] at z
      · refine ⟨fun z => ?_, fun _ => ?_⟩
        · simp [hxy] at z
        · rw [exS_ifT (c0.trans (by simp [hxy]))]; rfl
  by_cases hxy : xs = ys
  · obtain ⟨e', q, o, rfl⟩ := k1 fun i hi => by rw [hxy]; simp
    rw [q, SR.seq_nx]
    simp [exB, exS, evE, evL, evP, evC, bltT, blt1, blt2, binT, cmpT, cmpI, chk, truth, R.st, R.bnd, SR.seq, SR.out, slot, slotL, ofO, putL, chkS, grd, intR, eqR, dataT, dataD, eqT, ixT, ixI, items, isaT, tyB, tyI, tyT, tyL, setAll, bindTg, args, pick, notR, noList, noLists, start, xfldT, xisaT, lookF, unset, errT, errT.go, toTup, hxy]
  · have : ∃ i, i < ys.length ∧ xs[i]? ≠ ys[i]? := by
      apply Classical.byContradiction
      intro z
      apply hxy
      apply List.ext_getElem? 
      intro i
      by_cases hi : i < ys.length
      · exact Classical.byContradiction fun q => z ⟨i, hi, q⟩
      · rw [List.getElem?_eq_none (by omega), List.getElem?_eq_none (by omega)]
    obtain ⟨i, hi, q⟩ := this
    rw [k2 ⟨i, by rw [rng_len]; exact hi, by simp [q]⟩]
    simp [hxy]
theorem istuple_ok {f : Nat} {xs ys : List Int} (hf : P.fn f = some f_law_is_tuple_1ddc4d) (hi : P.fn 3 = some f_law_is_integer_8a6384) (hn : ys.length ≤ 1000000) :
    run P (n + 2) f [.tup (tI xs), .lst (tI ys)] = .ok (.bl (decide (xs = ys))) := by
  refine (run_of (r := .rt (.bl (decide (xs = ys)))) hf rfl ?_).trans rfl
  have c0 : evE P (run P (n + 1)) (make P (n + 1)) none (.or (.not (.blt (.isa .tuple) [(.var 0)])) (.cmp .ne (.blt .len [(.var 0)]) (.blt .len [(.var 1)]))) [some (.tup (tI xs)), some (.lst (tI ys)), none] = .ok (.bl (!decide (((tI xs).length : Int) = (tI ys).length))) := by simp [exB, exS, evE, evL, evP, evC, bltT, blt1, blt2, binT, cmpT, cmpI, chk, truth, R.st, R.bnd, SR.seq, SR.out, slot, slotL, ofO, putL, chkS, grd, intR, eqR, dataT, dataD, eqT, ixT, ixI, items, isaT, tyB, tyI, tyT, tyL, setAll, bindTg, args, pick, notR, noList, noLists, start, xfldT, xisaT, lookF, unset, errT, errT.go, toTup]
  rw [List.length_map, List.length_map] at c0
  show exB P (run P (n + 1)) (make P (n + 1)) none (.ifs _ _ _ :: _) [some (.tup (tI xs)), some (.lst (tI ys)), none] = _
  rw [exB_cons]
  by_cases hl : xs.length = ys.length
  · rw [exS_ifF (c0.trans (by simp [hl])), exB_nil, SR.seq_nx]
    have q := is_loop (P := P) (n := n) (g := .tup (tI xs)) (xs := xs) (ys := ys) (fun i v h => ixT_tup h) hi hl hn
    exact q
  · rw [exS_ifT (c0.trans (by simp; omega))]
    have : ¬ xs = ys := fun z => hl (by rw [z])
    rw [exB_cons, exS_ret (t := .bl false) rfl, SR.seq_rt, SR.seq_rt, decide_eq_false this]
theorem islist_ok {f : Nat} {xs ys : List Int} (hf : P.fn f = some f_law_is_list_ce7f05) (hi : P.fn 3 = some f_law_is_integer_8a6384) (hn : ys.length ≤ 1000000) :
    run P (n + 2) f [.lst (tI xs), .lst (tI ys)] = .ok (.bl (decide (xs = ys))) := by
  refine (run_of (r := .rt (.bl (decide (xs = ys)))) hf rfl ?_).trans rfl
  have c0 : evE P (run P (n + 1)) (make P (n + 1)) none (.or (.not (.blt (.isa .list) [(.var 0)])) (.cmp .ne (.blt .len [(.var 0)]) (.blt .len [(.var 1)]))) [some (.lst (tI xs)), some (.lst (tI ys)), none] = .ok (.bl (!decide (((tI xs).length : Int) = (tI ys).length))) := by simp [exB, exS, evE, evL, evP, evC, bltT, blt1, blt2, binT, cmpT, cmpI, chk, truth, R.st, R.bnd, SR.seq, SR.out, slot, slotL, ofO, putL, chkS, grd, intR, eqR, dataT, dataD, eqT, ixT, ixI, items, isaT, tyB, tyI, tyT, tyL, setAll, bindTg, args, pick, notR, noList, noLists, start, xfldT, xisaT, lookF, unset, errT, errT.go, toTup]
  rw [List.length_map, List.length_map] at c0
  show exB P (run P (n + 1)) (make P (n + 1)) none (.ifs _ _ _ :: _) [some (.lst (tI xs)), some (.lst (tI ys)), none] = _
  rw [exB_cons]
  by_cases hl : xs.length = ys.length
  · rw [exS_ifF (c0.trans (by simp [hl])), exB_nil, SR.seq_nx]
    have q := is_loop (P := P) (n := n) (g := .lst (tI xs)) (xs := xs) (ys := ys) (fun i v h => ixT_lst h) hi hl hn
    exact q
  · rw [exS_ifT (c0.trans (by simp; omega))]
    have : ¬ xs = ys := fun z => hl (by rw [z])
    rw [exB_cons, exS_ret (t := .bl false) rfl, SR.seq_rt, SR.seq_rt, decide_eq_false this]
end
end Wt

/-! Pure4: orders, groups. -/
namespace Wt
open PySem
/-- the numbers from 0 on -/
def upTo (n : Nat) : List Int := (List.range' 0 n).map fun (k : Nat) => (k : Int)
theorem upTo_len (n : Nat) : (upTo n).length = n := by simp [upTo]
theorem upTo_T (n : Nat) : tI (upTo n) = (List.range' 0 n).map fun (k : Nat) => T.int (k : Int) := by
  unfold tI upTo
  rw [List.map_map]
  rfl
theorem upTo_mem {n : Nat} {k : Int} : k ∈ upTo n ↔ 0 ≤ k ∧ k < n := by
  unfold upTo
  rw [List.mem_map]
  constructor
  · rintro ⟨j, hj, rfl⟩
    have := List.mem_range'_1.mp hj
    omega
  · intro h
    exact ⟨k.toNat, List.mem_range'_1.mpr (by omega), by omega⟩
theorem upTo_sorted (n : Nat) : (upTo n).Pairwise (· < ·) := by
  unfold upTo
  rw [List.pairwise_map]
  exact (List.pairwise_lt_range' (s := 0) (n := n)).imp fun h => by omega
theorem walk_up {P : Prog} {cl : Nat → List T → R T} {n : Nat} (h : n ≤ 1000000) : walk P cl .rng [.int (n : Nat)] = .ok (tI (upTo n)) := by rw [walk_rngN h, upTo_T]
theorem up_at {n i : Nat} {x : T} (h : (tI (upTo n))[i]? = some x) : i < n ∧ x = .int (i : Nat) := by
  rw [upTo_T] at h
  exact rng_at h
theorem map_erase : ∀ (xs : List Int) (j : Nat), (tI xs).eraseIdx j = tI (xs.eraseIdx j)
  | [], j => rfl
  | x :: xs, 0 => rfl
  | x :: xs, j + 1 => by
    show T.int x :: (tI xs).eraseIdx j = T.int x :: tI (xs.eraseIdx j)
    rw [map_erase xs j]
theorem exS_appPop {P : Prog} {cl mk : Nat → List T → R T} {cx : Option T} {x y j : Nat} {a : E} {e : Env} {xs ys : List T} {t : T} {i : Int} (hx : slotL e x = .ok xs) (hy : slotL e y = .ok ys) (ha : evE P cl mk cx a e = .ok (.int i)) (hi : ixI ys.length i = some j) (ht : ys[j]? = some t) (hc : ((Nat.blt xs.length LIM && Nat.ble ys.length LIM) && noList t) = true) :
    exS P cl mk cx (.appPop x y a) e = .nx (putL (putL e y (ys.eraseIdx j)) x (xs ++ [t])) := by
  unfold exS
  rw [hx, R.st_ok, hy, R.st_ok, ha]
  show ((ofO (ixI ys.length i)).st e fun j => (ofO ys[j]?).st e fun t => chkS ((Nat.blt xs.length LIM && Nat.ble ys.length LIM) && noList t) (.nx (putL (putL e y (ys.eraseIdx j)) x (xs ++ [t])))) = _
  rw [hi, ofO_some, R.st_ok, ht, ofO_some, R.st_ok, hc, chkS_true]
theorem perm_out {ys : List Int} {j : Nat} {v : Int} (h : ys[j]? = some v) : (v :: ys.eraseIdx j).Perm ys := by
  induction ys generalizing j with
  | nil => cases h
  | cons y ys ih =>
    cases j with
    | zero => cases h; exact .refl _
    | succ j =>
      have h : ys[j]? = some v := h
      show (v :: y :: ys.eraseIdx j).Perm (y :: ys)
      exact (List.Perm.swap y v _).trans ((ih h).cons y)
section
variable {P : Prog} {n : Nat}
def f_law_order_084f70 : Fn := ⟨2, 5, [.asg 2 (.blt .rangeL [(.var 1)]) false,
  .asg 3 (.lst []) false,
  .forS (.one 4) .rng [(.var 1)] [.appPop 3 2 (.bin .mod (.blt .int [(.ix (.var 0) (.var 4))]) (.blt .len [(.var 2)]))] [0, 0, 1, 2, 0],
  .ret (.var 3)]⟩
/-- an order: each number below c once -/
theorem order_ok {f c : Nat} {ps : List Int} (hf : P.fn f = some f_law_order_084f70) (hp : c ≤ ps.length) (hc : c ≤ 1000) :
    ∃ os : List Int, os.Perm (upTo c) ∧ run P (n + 1) f [.lst (tI ps), .int (c : Nat)] = .ok (.lst (tI os)) := by
  obtain ⟨e', q, os, ls, o, rfl, h1, h2, h3⟩ := forX_inv (b := forT P (run P n) (make P n) none (.one 4) [.appPop 3 2 (.bin .mod (.blt .int [(.ix (.var 0) (.var 4))]) (.blt .len [(.var 2)]))])
    (tI (upTo c)) (fun i e => ∃ (os ls : List Int) (o : Option T), e = [some (.lst (tI ps)), some (.int (c : Nat)), some (.lst (tI ls)), some (.lst (tI os)), o] ∧ os.length = i ∧ ls.length = c - i ∧ (os ++ ls).Perm (upTo c))
    [some (.lst (tI ps)), some (.int (c : Nat)), some (.lst (tI (upTo c))), some (.lst []), none] ⟨[], upTo c, none, rfl, rfl, by rw [upTo_len]; rfl, .refl _⟩ fun i x e hx ⟨os, ls, o, he, h1, h2, h3⟩ => by
      obtain ⟨hi, rfl⟩ := up_at hx
      subst he
      rw [forT_one]
      have a1 : ps[i]? = some ps[i] := List.getElem?_eq_getElem (by omega)
      have b1 := ixT_lst a1
      generalize ps[i] = p at a1 b1
      have hl0 : (0 : Int) < (ls.length : Nat) := by omega
      have z0 := Int.emod_nonneg p (b := (ls.length : Nat)) (by omega)
      have z1 := Int.emod_lt_of_pos p hl0
      obtain ⟨j, hj⟩ : ∃ j : Nat, p % (ls.length : Nat) = (j : Int) := ⟨(p % (ls.length : Nat)).toNat, by omega⟩
      rw [hj] at z0 z1
      have hjl : j < ls.length := by omega
      have a2 : ls[j]? = some ls[j] := List.getElem?_eq_getElem hjl
      have v0 : evE P (run P n) (make P n) none (.ix (.var 0) (.var 4)) [some (.lst (tI ps)), some (.int (c : Nat)), some (.lst (tI ls)), some (.lst (tI os)), some (.int (i : Nat))] = .ok (.int p) := (ev_ixV rfl rfl).trans b1
      have v1 : evE P (run P n) (make P n) none (.bin .mod (.blt .int [(.ix (.var 0) (.var 4))]) (.blt .len [(.var 2)])) [some (.lst (tI ps)), some (.int (c : Nat)), some (.lst (tI ls)), some (.lst (tI os)), some (.int (i : Nat))] = .ok (.int (j : Nat)) := by
        unfold evE evE evL
        rw [v0]
        simp only [evL, bltT, blt1, R.bnd, evE, slot, List.getD_cons_succ, List.getD_cons_zero, ofO, items, List.length_map, binT, chk]
        rw [decide_eq_true hl0, if_pos rfl, hj]
      refine ⟨[some (.lst (tI ps)), some (.int (c : Nat)), some (.lst (tI (ls.eraseIdx j))), some (.lst (tI (os ++ [ls[j]]))), some (.int (i : Nat))], ?_, os ++ [ls[j]], ls.eraseIdx j, _, rfl, by rw [List.length_append, h1]; rfl, by rw [List.length_eraseIdx_of_lt hjl, h2]; omega, ?_⟩
      · show exB P (run P n) (make P n) none [.appPop 3 2 _] [some (.lst (tI ps)), some (.int (c : Nat)), some (.lst (tI ls)), some (.lst (tI os)), some (.int (i : Nat))] = _
        have k1 : Nat.blt (tI os).length LIM = true := Nat.ble_eq_true_of_le (by rw [List.length_map]; unfold LIM; omega)
        have k2 : Nat.ble (tI ls).length LIM = true := Nat.ble_eq_true_of_le (by rw [List.length_map]; unfold LIM; omega)
        have k3 : ixI (tI ls).length ((j : Nat) : Int) = some j := by
          unfold ixI
          rw [List.length_map, if_pos (by omega), if_pos (by omega)]
          rfl
        have k4 : (tI ls)[j]? = some (.int ls[j]) := by rw [List.getElem?_map, a2]; rfl
        have k5 : (tI ls).eraseIdx j = tI (ls.eraseIdx j) := by
          exact map_erase ls j
        have k6 : tI os ++ [T.int ls[j]] = tI (os ++ [ls[j]]) := by
          unfold tI
          rw [List.map_append]
          rfl
        rw [exB_cons, exS_appPop (xs := tI os) (ys := tI ls) rfl rfl v1 k3 k4 (by rw [k1, k2]; rfl), SR.seq_nx, exB_nil, k5, k6]
        rfl
      · refine .trans ?_ h3
        rw [List.append_assoc]
        exact (perm_out a2).append_left os
  rw [List.length_map, upTo_len] at h1 h2
  rw [Nat.sub_self] at h2
  have h4 : ls = [] := List.length_eq_zero_iff.mp h2
  subst h4
  rw [List.append_nil] at h3
  refine ⟨os, h3, (run_of (r := .rt (.lst (tI os))) hf rfl ?_).trans rfl⟩
  have v0 : evE P (run P n) (make P n) none (.blt .rangeL [(.var 1)]) [some (.lst (tI ps)), some (.int (c : Nat)), none, none, none] = .ok (.lst (tI (upTo c))) := by
    rw [ev_blt1]
    show chk (decide (-1000000 ≤ ((c : Nat) : Int)) && decide (((c : Nat) : Int) ≤ 1000000)) (R.ok (T.lst ((rangeI 0 (c : Nat)).map T.int))) = _
    rw [decide_eq_true (by omega), decide_eq_true (by omega), range_nat, ← upTo_T]
    rfl
  show exB P (run P n) (make P n) none [.asg 2 (.blt .rangeL [(.var 1)]) false, .asg 3 (.lst []) false, .forS (.one 4) .rng [(.var 1)] _ _, .ret (.var 3)] [some (.lst (tI ps)), some (.int (c : Nat)), none, none, none] = _
  rw [exB_cons, exS_asg v0, SR.seq_nx, exB_cons, exS_asg (t := .lst []) rfl, SR.seq_nx, exB_cons]
  rw [exS_forT (ts := [.int (c : Nat)]) rfl (walk_up (by omega))]
  show SR.seq (forX _ (tI (upTo c)) [some (.lst (tI ps)), some (.int (c : Nat)), some (.lst (tI (upTo c))), some (.lst []), none]) _ = _
  rw [q, SR.seq_nx, exB_cons, exS_ret (t := .lst (tI os)) rfl, SR.seq_rt]
end
end Wt

/-! Pure5: group_of. -/
namespace Wt
open PySem
/-- a list, or a tuple, of ints -/
def sq (b : Bool) (xs : List Int) : T := if b then .lst (tI xs) else .tup (tI xs)
theorem sq_items (b : Bool) (xs : List Int) : items (sq b xs) = some (tI xs) := by cases b <;> rfl
theorem sq_ix {b : Bool} {xs : List Int} {i : Nat} {v : Int} (h : xs[i]? = some v) : ixT (sq b xs) (.int (i : Int)) = .ok (.int v) := by
  cases b
  · exact ixT_tup h
  · exact ixT_lst h
theorem sq_take {b : Bool} {xs : List Int} {i : Nat} (h : i ≤ xs.length) : sliceT (sq b xs) .non (.int (i : Nat)) = .ok (sq b (xs.take i)) := by
  have e : cutL (tI xs) 0 i = tI (xs.take i) := by
    show ((tI xs).drop 0).take (i - 0) = _
    rw [List.drop_zero, Nat.sub_zero]
    exact (List.map_take).symm
  have m : cutI (tI xs).length (tI xs).length (.int (i : Nat)) = some i := by
    show some (if ((i : Nat) : Int) < 0 then _ else min (((i : Nat) : Int).toNat) (tI xs).length) = _
    rw [if_neg (by omega), Int.toNat_natCast, List.length_map, Nat.min_eq_left h]
  cases b
  · show ((ofO (cutI (tI xs).length 0 .non)).bnd fun l => (ofO (cutI (tI xs).length (tI xs).length (.int (i : Nat)))).bnd fun h => R.ok (T.tup (cutL (tI xs) l h))) = _
    rw [m]
    show R.ok (T.tup (cutL (tI xs) 0 i)) = _
    rw [e]
    rfl
  · show ((ofO (cutI (tI xs).length 0 .non)).bnd fun l => (ofO (cutI (tI xs).length (tI xs).length (.int (i : Nat)))).bnd fun h => R.ok (T.lst (cutL (tI xs) l h))) = _
    rw [m]
    show R.ok (T.lst (cutL (tI xs) 0 i)) = _
    rw [e]
    rfl
theorem in_ints {P : Prog} {cl : Nat → List T → R T} {b : Bool} {xs : List Int} {k : Int} : inT P cl (.int k) (sq b xs) = .ok (.bl (decide (k ∈ xs))) := by
  have e : dataIn (.int k) (tI xs) = true := by
    show (dataT (.int k) && dataL (tI xs)) = true
    rw [dataL_ints]
    rfl
  cases b <;>
  · show chk (dataIn (.int k) (tI xs)) (R.ok (T.bl (inL (.int k) (tI xs)))) = _
    rw [e, inL_ints]
    rfl
theorem sorted_sq {P : Prog} {cl : Nat → List T → R T} {b : Bool} {xs : List Int} : blt1 P cl .sorted (sq b xs) = .ok (.lst (tI (sortI xs))) := by
  show ((ofO (items (sq b xs))).bnd fun ys => ofO (intsOf ys)).bnd _ = _
  rw [sq_items]
  show (ofO (intsOf (tI xs))).bnd _ = _
  rw [intsOf_map]
  rfl
theorem enum_at : ∀ {xs : List T} {k i : Nat} {t : T}, (enumL k xs)[i]? = some t → ∃ x, xs[i]? = some x ∧ t = .tup [.int ((k + i : Nat) : Int), x]
  | [], k, i, t, h => by simp [enumL] at h
  | x :: xs, k, 0, t, h => by
    simp [enumL] at h
    exact ⟨x, rfl, h.symm⟩
  | x :: xs, k, i + 1, t, h => by
    obtain ⟨y, h1, h2⟩ := enum_at (xs := xs) (k := k + 1) (i := i) (by simpa [enumL] using h)
    refine ⟨y, by simpa using h1, ?_⟩
    rw [h2, show k + 1 + i = k + (i + 1) by omega]
/-- a loop that goes on while p holds, and else raises t -/
theorem forX_allE {b : T → Env → SR} {J : Env → Prop} {t : T} : ∀ (xs : List T) (p : Nat → Bool) (e : Env), J e →
    (∀ i x e, xs[i]? = some x → J e → (p i = true → ∃ e', b x e = .nx e' ∧ J e') ∧ (p i = false → ∃ e', b x e = .exc t e')) →
    ((∀ i, i < xs.length → p i = true) → ∃ e', forX b xs e = .nx e' ∧ J e') ∧ ((∃ i, i < xs.length ∧ p i = false) → ∃ e', forX b xs e = .exc t e')
  | [], p, e, h, _ => ⟨fun _ => ⟨e, rfl, h⟩, fun ⟨i, hi, _⟩ => absurd hi (Nat.not_lt_zero _)⟩
  | x :: xs, p, e, h, hs => by
    obtain ⟨h1, h2⟩ := hs 0 x e rfl h
    have un : forX b (x :: xs) e = (match b x e with | .nx e' => forX b xs e' | .ct e' => forX b xs e' | .bk e' => .nx e' | .rt t => .rt t | .exc x e' => .exc x e' | .bad => .bad) := rfl
    cases q : p 0 with
    | false =>
      refine ⟨fun z => ?_, fun _ => ?_⟩
      · have := z 0 (Nat.succ_pos _); rw [q] at this; cases this
      · obtain ⟨e', h3⟩ := h2 q
        exact ⟨e', by rw [un, h3]⟩
    | true =>
      obtain ⟨e', h3, h4⟩ := h1 q
      rw [un, h3]
      obtain ⟨k1, k2⟩ := forX_allE xs (fun i => p (i + 1)) e' h4 fun i y e2 hy hj => hs (i + 1) y e2 hy hj
      refine ⟨fun z => k1 fun i hi => z (i + 1) (Nat.succ_lt_succ hi), fun ⟨i, hi, hp⟩ => ?_⟩
      cases i with
      | zero => rw [q] at hp; cases hp
      | succ i => exact k2 ⟨i, Nat.lt_of_succ_lt_succ hi, hp⟩
/-- a place in a group: within, and not there before -/
def okAt (xs : List Int) (c : Int) (i : Nat) : Bool := match xs[i]? with
  | some x => (decide (0 ≤ x) && decide (x < c)) && !decide (x ∈ xs.take i)
  | none => true
def okG (xs : List Int) (c : Int) : Prop := (∀ x ∈ xs, 0 ≤ x ∧ x < c) ∧ xs.Nodup
instance (xs : List Int) (c : Int) : Decidable (okG xs c) := inferInstanceAs (Decidable (_ ∧ _))
theorem okG_at {xs : List Int} {c : Int} : okG xs c ↔ ∀ i, i < xs.length → okAt xs c i = true := by
  constructor
  · rintro ⟨h1, h2⟩ i hi
    have e : xs[i]? = some xs[i] := List.getElem?_eq_getElem hi
    have m := h1 _ (List.getElem_mem hi)
    unfold okAt
    rw [e]
    have nm : ¬ xs[i] ∈ xs.take i := by
      intro z
      obtain ⟨j, hj, q⟩ := List.getElem_of_mem z
      rw [List.length_take] at hj
      rw [List.getElem_take] at q
      have := (List.getElem_inj h2 (h₀ := by omega) (h₁ := hi)).mp q
      omega
    simp [m.1, m.2, nm]
  · intro h
    refine ⟨fun x hx => ?_, ?_⟩
    · obtain ⟨i, hi, rfl⟩ := List.getElem_of_mem hx
      have q := h i hi
      unfold okAt at q
      rw [List.getElem?_eq_getElem hi] at q
      simp at q
      exact q.1
    · refine List.pairwise_iff_getElem.mpr fun i j hi hj hij q => ?_
      have q2 := h j hj
      unfold okAt at q2
      rw [List.getElem?_eq_getElem hj] at q2
      simp at q2
      refine q2.2 ?_
      rw [List.mem_iff_getElem?]
      exact ⟨i, by rw [List.getElem?_take_of_lt hij, List.getElem?_eq_getElem hi, q]⟩
section
variable {P : Prog} {n : Nat}
def f_group_of_f576c1 : Fn := ⟨2, 4, [.forS (.many [2, 3]) .enum [(.var 0)] [.ifs (.or (.not (.cmp2 .le .lt (.int 0) (.var 3) (.var 1))) (.cmp .isin (.var 3) (.slice (.var 0) [] [(.var 2)]))) [.raise 1 [(.blt .tuple [(.var 0)])]] []] [0, 0, 0, 0],
  .ret (.blt .tuple [(.blt .sorted [(.var 0)])])]⟩
theorem group_ok {f : Nat} {b : Bool} {xs : List Int} {c : Int} (hf : P.fn f = some f_group_of_f576c1) (he : P.err 1 = some [(0, true)]) :
    run P (n + 1) f [sq b xs, .int c] = if okG xs c then .ok (.tup (tI (sortI xs))) else .exc (.ins 1 [0] [.tup (tI xs)]) := by
  have ht : blt1 P (run P n) .tuple (sq b xs) = .ok (.tup (tI xs)) := by
    show (ofO (items (sq b xs))).bnd _ = _
    rw [sq_items]
    rfl
  obtain ⟨k1, k2⟩ := forX_allE (t := .ins 1 [0] [.tup (tI xs)]) (b := forT P (run P n) (make P n) none (.many [2, 3]) [.ifs (.or (.not (.cmp2 .le .lt (.int 0) (.var 3) (.var 1))) (.cmp .isin (.var 3) (.slice (.var 0) [] [(.var 2)]))) [.raise 1 [(.blt .tuple [(.var 0)])]] []])
    (J := fun e => ∃ o p, e = [some (sq b xs), some (.int c), o, p]) (enumL 0 (tI xs)) (okAt xs c) [some (sq b xs), some (.int c), none, none] ⟨none, none, rfl⟩ fun i t e hx ⟨o, p, hee⟩ => by
      subst hee
      obtain ⟨y, hy, rfl⟩ := enum_at hx
      rw [List.getElem?_map, Option.map_eq_some_iff] at hy
      obtain ⟨x, hx2, rfl⟩ := hy
      have hi : i < xs.length := (List.getElem?_eq_some_iff.mp hx2).1
      rw [Nat.zero_add]
      have st : forT P (run P n) (make P n) none (.many [2, 3]) [.ifs (.or (.not (.cmp2 .le .lt (.int 0) (.var 3) (.var 1))) (.cmp .isin (.var 3) (.slice (.var 0) [] [(.var 2)]))) [.raise 1 [(.blt .tuple [(.var 0)])]] []] (.tup [.int (i : Nat), .int x]) [some (sq b xs), some (.int c), o, p] =
          exB P (run P n) (make P n) none [.ifs (.or (.not (.cmp2 .le .lt (.int 0) (.var 3) (.var 1))) (.cmp .isin (.var 3) (.slice (.var 0) [] [(.var 2)]))) [.raise 1 [(.blt .tuple [(.var 0)])]] []] [some (sq b xs), some (.int c), some (.int (i : Nat)), some (.int x)] := rfl
      have vs : evE P (run P n) (make P n) none (.slice (.var 0) [] [(.var 2)]) [some (sq b xs), some (.int c), some (.int (i : Nat)), some (.int x)] = .ok (sq b (xs.take i)) := by
        show sliceT (sq b xs) .non (.int (i : Nat)) = _
        exact sq_take (by omega)
      have vi : evE P (run P n) (make P n) none (.cmp .isin (.var 3) (.slice (.var 0) [] [(.var 2)])) [some (sq b xs), some (.int c), some (.int (i : Nat)), some (.int x)] = .ok (.bl (decide (x ∈ xs.take i))) := by
        unfold evE
        rw [vs]
        exact in_ints
      have vc : evE P (run P n) (make P n) none (.or (.not (.cmp2 .le .lt (.int 0) (.var 3) (.var 1))) (.cmp .isin (.var 3) (.slice (.var 0) [] [(.var 2)]))) [some (sq b xs), some (.int c), some (.int (i : Nat)), some (.int x)] = .ok (.bl (!okAt xs c i)) := by
        unfold evE
        rw [vi]
        unfold okAt
        rw [hx2]
        by_cases h1 : 0 ≤ x <;> by_cases h2 : x < c <;> simp [exB, exS, evE, evL, evP, evC, bltT, blt1, blt2, binT, cmpT, cmpI, chk, truth, R.st, R.bnd, SR.seq, SR.out, slot, slotL, ofO, putL, chkS, grd, intR, eqR, dataT, dataD, eqT, ixT, ixI, items, isaT, tyB, tyI, tyT, tyL, setAll, bindTg, args, pick, notR, noList, noLists, start, xfldT, xisaT, lookF, unset, errT, errT.go, toTup, h1, h2]
      rw [st, exB_cons]
      refine ⟨fun q => ?_, fun q => ?_⟩
      · rw [exS_ifF (vc.trans (by rw [q]; rfl)), exB_nil, SR.seq_nx, exB_nil]
        exact ⟨_, rfl, _, _, rfl⟩
      · rw [exS_ifT (vc.trans (by rw [q]; rfl))]
        refine ⟨[some (sq b xs), some (.int c), some (.int (i : Nat)), some (.int x)], ?_⟩
        have v1 : evL P (run P n) (make P n) none [(.blt .tuple [(.var 0)])] [some (sq b xs), some (.int c), some (.int (i : Nat)), some (.int x)] = .ok [.tup (tI xs)] := by
          unfold evL
          rw [ev_blt1]
          show ((blt1 P (run P n) .tuple (sq b xs)).bnd fun x => (R.ok []).bnd fun xs => R.ok (x :: xs)) = _
          rw [ht]
          rfl
        have v2 : exS P (run P n) (make P n) none (.raise 1 [(.blt .tuple [(.var 0)])]) [some (sq b xs), some (.int c), some (.int (i : Nat)), some (.int x)] = .exc (.ins 1 [0] [.tup (tI xs)]) [some (sq b xs), some (.int c), some (.int (i : Nat)), some (.int x)] := by
          unfold exS
          rw [he, v1]
          rfl
        rw [exB_cons, v2]
        rfl
  have hw : walk P (run P n) .enum [sq b xs] = .ok (enumL 0 (tI xs)) := by
    show (ofO (items (sq b xs))).bnd _ = _
    rw [sq_items]
    rfl
  have hl : (enumL 0 (tI xs)).length = xs.length := by rw [enumL_len, List.length_map]
  have hfor := exS_forT (P := P) (cl := run P n) (mk := make P n) (cx := none) (tg := .many [2, 3]) (its := [(.var 0)]) (body := [.ifs (.or (.not (.cmp2 .le .lt (.int 0) (.var 3) (.var 1))) (.cmp .isin (.var 3) (.slice (.var 0) [] [(.var 2)]))) [.raise 1 [(.blt .tuple [(.var 0)])]] []]) (own := [0, 0, 0, 0]) (k := .enum) (e := [some (sq b xs), some (.int c), none, none]) (ts := [sq b xs]) rfl hw
  by_cases h : okG xs c
  · rw [if_pos h]
    refine (run_of (r := .rt (.tup (tI (sortI xs)))) hf rfl ?_).trans rfl
    obtain ⟨e', q, o, p, rfl⟩ := k1 fun i hi => okG_at.mp h i (by rw [hl] at hi; exact hi)
    show exB P (run P n) (make P n) none [_, .ret (.blt .tuple [(.blt .sorted [(.var 0)])])] [some (sq b xs), some (.int c), none, none] = _
    have v1 : evE P (run P n) (make P n) none (.blt .tuple [(.blt .sorted [(.var 0)])]) [some (sq b xs), some (.int c), o, p] = .ok (.tup (tI (sortI xs))) := by
      rw [ev_blt1, ev_blt1]
      show (blt1 P (run P n) .sorted (sq b xs)).bnd _ = _
      rw [sorted_sq]
      rfl
    rw [exB_cons, hfor, q, SR.seq_nx, exB_cons, exS_ret v1, SR.seq_rt]
  · rw [if_neg h]
    have : ∃ i, i < xs.length ∧ okAt xs c i = false := by
      apply Classical.byContradiction
      intro z
      exact h (okG_at.mpr fun i hi => by
        cases q : okAt xs c i with
        | true => rfl
        | false => exact absurd ⟨i, hi, q⟩ z)
    obtain ⟨i, hi, q⟩ := this
    obtain ⟨e', q⟩ := k2 ⟨i, by rw [hl]; exact hi, q⟩
    refine (run_of (r := .exc (.ins 1 [0] [.tup (tI xs)]) e') hf rfl ?_).trans rfl
    show exB P (run P n) (make P n) none [_, .ret (.blt .tuple [(.blt .sorted [(.var 0)])])] [some (sq b xs), some (.int c), none, none] = _
    rw [exB_cons, hfor, q]
    rfl
end
end Wt

/-! Pure6: comprehensions over ints, what sorts. -/
namespace Wt
open PySem
theorem compL_ints {x : Nat} {cd : Env → R Bool} {el : Env → R T} {e : Env} {q : Int → Bool} {f : Int → T} : ∀ (xs : List Int), (∀ k ∈ xs, cd (e.set x (some (.int k))) = .ok (q k)) → (∀ k ∈ xs, el (e.set x (some (.int k))) = .ok (f k)) →
    compL (.one x) cd el e (tI xs) = .ok ((xs.filter q).map f)
  | [], _, _ => rfl
  | k :: xs, h1, h2 => by
    have ih := compL_ints xs (fun j hj => h1 j (List.mem_cons_of_mem _ hj)) fun j hj => h2 j (List.mem_cons_of_mem _ hj)
    have a := h1 k List.mem_cons_self
    have b := h2 k List.mem_cons_self
    show (match cd (e.set x (some (.int k))) with
      | .ok true => (match el (e.set x (some (.int k))) with
        | .ok t => (compL (.one x) cd el e (tI xs)).bnd fun r => .ok (t :: r)
        | _ => .bad)
      | .ok false => compL (.one x) cd el e (tI xs)
      | _ => .bad) = _
    rw [a, b, ih]
    cases h : q k with
    | true => rw [List.filter_cons_of_pos h]; rfl
    | false => rw [List.filter_cons_of_neg (by rw [h]; exact Bool.false_ne_true)]
theorem ev_compI {P : Prog} {cl mk : Nat → List T → R T} {cx : Option T} {e : Env} {x : Nat} {k : Ik} {its cds : List E} {el : E} {ts : List T} {xs : List Int} {q : Int → Bool} {f : Int → T}
    (h1 : evL P cl mk cx its e = .ok ts) (h2 : walk P cl k ts = .ok (tI xs)) (hl : xs.length ≤ 1000000) (h3 : ∀ k ∈ xs, evC P cl mk cx cds (e.set x (some (.int k))) = .ok (q k)) (h4 : ∀ k ∈ xs, evE P cl mk cx el (e.set x (some (.int k))) = .ok (f k)) :
    evE P cl mk cx (.comp el (.one x) k its cds) e = .ok (.lst ((xs.filter q).map f)) := by
  show (noX k (evL P cl mk cx its e)).bnd _ = _
  rw [h1, noX_ok]
  show (walk P cl k ts).bnd _ = _
  rw [h2]
  show chk (Nat.ble (tI xs).length LIM) ((compL (.one x) (fun e' => evC P cl mk cx cds e') (fun e' => evE P cl mk cx el e') e (tI xs)).bnd _) = _
  have b : Nat.ble (tI xs).length LIM = true := Nat.ble_eq_true_of_le (by rw [List.length_map]; unfold LIM; omega)
  rw [b, compL_ints xs h3 h4]
  rfl
section
variable {P : Prog} {cl mk : Nat → List T → R T} {cx : Option T} {e : Env} {a b : E}
theorem ev_orB {p q : Bool} (h1 : evE P cl mk cx a e = .ok (.bl p)) (h2 : p = false → evE P cl mk cx b e = .ok (.bl q)) : evE P cl mk cx (.or a b) e = .ok (.bl (p || q)) := by
  unfold evE
  rw [h1]
  cases p with
  | true => rfl
  | false => exact (h2 rfl)
theorem ev_andB {p q : Bool} (h1 : evE P cl mk cx a e = .ok (.bl p)) (h2 : p = true → evE P cl mk cx b e = .ok (.bl q)) : evE P cl mk cx (.and a b) e = .ok (.bl (p && q)) := by
  unfold evE
  rw [h1]
  cases p with
  | false => rfl
  | true => exact (h2 rfl)
theorem ev_notB {p : Bool} (h1 : evE P cl mk cx a e = .ok (.bl p)) : evE P cl mk cx (.not a) e = .ok (.bl (!p)) := by
  unfold evE
  rw [h1]
  rfl
theorem ev_cmpV {o : Cop} {t u : T} (h1 : evE P cl mk cx a e = .ok t) (h2 : evE P cl mk cx b e = .ok u) : evE P cl mk cx (.cmp o a b) e = cmpT P cl o t u := by
  show (evE P cl mk cx a e).bnd _ = _
  rw [h1]
  show (evE P cl mk cx b e).bnd _ = _
  rw [h2]
  rfl
theorem ev_binV {o : Bop} {t u : T} (h1 : evE P cl mk cx a e = .ok t) (h2 : evE P cl mk cx b e = .ok u) : evE P cl mk cx (.bin o a b) e = binT P cl o t u := by
  show (evE P cl mk cx a e).bnd _ = _
  rw [h1]
  show (evE P cl mk cx b e).bnd _ = _
  rw [h2]
  rfl
theorem ev_lt {x y : Int} (h1 : evE P cl mk cx a e = .ok (.int x)) (h2 : evE P cl mk cx b e = .ok (.int y)) : evE P cl mk cx (.cmp .lt a b) e = .ok (.bl (decide (x < y))) := ev_cmpV h1 h2
theorem ev_ge {x y : Int} (h1 : evE P cl mk cx a e = .ok (.int x)) (h2 : evE P cl mk cx b e = .ok (.int y)) : evE P cl mk cx (.cmp .ge a b) e = .ok (.bl (decide (y ≤ x))) := ev_cmpV h1 h2
theorem ev_eqI {x y : Int} (h1 : evE P cl mk cx a e = .ok (.int x)) (h2 : evE P cl mk cx b e = .ok (.int y)) : evE P cl mk cx (.cmp .eq a b) e = .ok (.bl (decide (x = y))) := ev_cmpV h1 h2
theorem ev_neI {x y : Int} (h1 : evE P cl mk cx a e = .ok (.int x)) (h2 : evE P cl mk cx b e = .ok (.int y)) : evE P cl mk cx (.cmp .ne a b) e = .ok (.bl (!decide (x = y))) := ev_cmpV h1 h2
theorem ev_inI {x : Int} {k : Bool} {ys : List Int} (h1 : evE P cl mk cx a e = .ok (.int x)) (h2 : evE P cl mk cx b e = .ok (sq k ys)) : evE P cl mk cx (.cmp .isin a b) e = .ok (.bl (decide (x ∈ ys))) := (ev_cmpV h1 h2).trans in_ints
theorem ev_callV {f : Nat} {es : List E} {ts : List T} (h : evL P cl mk cx es e = .ok ts) : evE P cl mk cx (.call f es []) e = cl f ts := by
  show (evL P cl mk cx es e).bnd _ = _
  rw [h]
  rfl
theorem evL_1 {t : T} (h : evE P cl mk cx a e = .ok t) : evL P cl mk cx [a] e = .ok [t] := by
  show (evE P cl mk cx a e).bnd _ = _
  rw [h]
  rfl
theorem evL_2 {t u : T} (h : evE P cl mk cx a e = .ok t) (h2 : evE P cl mk cx b e = .ok u) : evL P cl mk cx [a, b] e = .ok [t, u] := by
  show (evE P cl mk cx a e).bnd _ = _
  rw [h]
  show (evL P cl mk cx [b] e).bnd _ = _
  rw [evL_1 h2]
  rfl
theorem evL_3 {c : E} {t u v : T} (h : evE P cl mk cx a e = .ok t) (h2 : evE P cl mk cx b e = .ok u) (h3 : evE P cl mk cx c e = .ok v) : evL P cl mk cx [a, b, c] e = .ok [t, u, v] := by
  show (evE P cl mk cx a e).bnd _ = _
  rw [h]
  show (evL P cl mk cx [b, c] e).bnd _ = _
  rw [evL_2 h2 h3]
  rfl
theorem ev_eqS {x y : Str} (h1 : evE P cl mk cx a e = .ok (.str x)) (h2 : evE P cl mk cx b e = .ok (.str y)) (f1 : strFine x = true) (f2 : strFine y = true) : evE P cl mk cx (.cmp .eq a b) e = .ok (.bl (decide (x = y))) := by
  rw [ev_cmpV h1 h2]
  show chk (strFine x && strFine y) (R.ok (T.bl (decide (x = y)))) = _
  rw [f1, f2]
  rfl
theorem exS_asgG {x : Nat} {t : T} (h : evE P cl mk cx a e = .ok t) (hn : noList t = true) : exS P cl mk cx (.asg x a true) e = .nx (e.set x (some t)) := by
  show (evE P cl mk cx a e).st e _ = _
  rw [h]
  show (if (true && !noList t) = true then SR.bad else _) = _
  rw [hn]
  rfl
theorem evC_one {p : Bool} (h1 : evE P cl mk cx a e = .ok (.bl p)) : evC P cl mk cx [a] e = .ok p := by
  unfold evC
  rw [h1]
  rfl
end
/-- a part of a list of ints -/
def cut (xs : List Int) (i j : Nat) : List Int := (xs.drop (min i xs.length)).take (min j xs.length - min i xs.length)
theorem cut_len (xs : List Int) (i j : Nat) : (cut xs i j).length ≤ xs.length := by
  unfold cut
  rw [List.length_take, List.length_drop]
  omega
theorem slice_ints {b : Bool} {xs : List Int} {i j : Nat} : sliceT (sq b xs) (.int (i : Nat)) (.int (j : Nat)) = .ok (sq b (cut xs i j)) := by
  have m : ∀ (d k : Nat), cutI (tI xs).length d (.int (k : Nat)) = some (min k xs.length) := fun d k => by
    show some (if ((k : Nat) : Int) < 0 then _ else min (((k : Nat) : Int).toNat) (tI xs).length) = _
    rw [if_neg (by omega), Int.toNat_natCast, List.length_map]
  have e : ∀ l h : Nat, cutL (tI xs) l h = tI ((xs.drop l).take (h - l)) := fun l h => by
    unfold cutL tI
    rw [List.map_take, List.map_drop]
  cases b
  · show ((ofO (cutI (tI xs).length 0 (.int (i : Nat)))).bnd fun l => (ofO (cutI (tI xs).length (tI xs).length (.int (j : Nat)))).bnd fun h => R.ok (T.tup (cutL (tI xs) l h))) = _
    rw [m, m]
    show R.ok (T.tup (cutL (tI xs) _ _)) = _
    rw [e]
    rfl
  · show ((ofO (cutI (tI xs).length 0 (.int (i : Nat)))).bnd fun l => (ofO (cutI (tI xs).length (tI xs).length (.int (j : Nat)))).bnd fun h => R.ok (T.lst (cutL (tI xs) l h))) = _
    rw [m, m]
    show R.ok (T.lst (cutL (tI xs) _ _)) = _
    rw [e]
    rfl
section
variable {P : Prog} {cl mk : Nat → List T → R T} {cx : Option T} {e : Env} {a u v : E}
theorem ev_sliceII {b : Bool} {xs : List Int} {i j : Int} {i' j' : Nat} (h1 : evE P cl mk cx a e = .ok (sq b xs)) (h2 : evE P cl mk cx u e = .ok (.int i)) (h3 : evE P cl mk cx v e = .ok (.int j)) (hi : i = (i' : Int)) (hj : j = (j' : Int)) :
    evE P cl mk cx (.slice a [u] [v]) e = .ok (sq b (cut xs i' j')) := by
  subst hi hj
  show (evE P cl mk cx a e).bnd (fun x => (partR (onlyI (evE P cl mk cx u e))).bnd fun y => (partR (onlyI (evE P cl mk cx v e))).bnd fun z => sliceT x y z) = _
  rw [h1, h2, h3]
  exact slice_ints
theorem ev_sliceTo {b : Bool} {xs : List Int} {j : Int} {j' : Nat} (h1 : evE P cl mk cx a e = .ok (sq b xs)) (h3 : evE P cl mk cx v e = .ok (.int j)) (hj : j = (j' : Int)) (hl : j' ≤ xs.length) :
    evE P cl mk cx (.slice a [] [v]) e = .ok (sq b (xs.take j')) := by
  subst hj
  show (evE P cl mk cx a e).bnd (fun x => (partR (R.ok .non)).bnd fun y => (partR (onlyI (evE P cl mk cx v e))).bnd fun z => sliceT x y z) = _
  rw [h1, h3]
  exact sq_take hl
end
/-- a group in order -/
theorem ordered_eq {xs : List Int} {c : Nat} (h : okG xs c) : (upTo c).filter (fun k => decide (k ∈ xs)) = sortI xs := by
  have s1 : ((upTo c).filter fun k => decide (k ∈ xs)).Pairwise (· ≤ ·) := ((upTo_sorted c).imp fun h => Int.le_of_lt h).filter _
  have n1 : ((upTo c).filter fun k => decide (k ∈ xs)).Nodup := ((upTo_sorted c).imp fun h => by omega).filter _
  refine sorted_eq (.trans ?_ (sortI_perm xs).symm) s1 (sortI_sorted xs)
  refine (List.perm_ext_iff_of_nodup n1 h.2).mpr fun k => ?_
  rw [List.mem_filter, upTo_mem]
  constructor
  · exact fun z => of_decide_eq_true z.2
  · exact fun z => ⟨h.1 k z, decide_eq_true z⟩
end Wt

/-! Pure7: more of lists of ints. -/
namespace Wt
open PySem
theorem eqL_ints : ∀ xs ys : List Int, eqL (tI xs) (tI ys) = decide (xs = ys)
  | [], [] => rfl
  | [], y :: ys => by simp [eqL]
  | x :: xs, [] => by simp [eqL]
  | x :: xs, y :: ys => by
    show (decide (x = y) && eqL (tI xs) (tI ys)) = _
    rw [eqL_ints xs ys]
    by_cases h : x = y <;> by_cases h2 : xs = ys <;> simp [h, h2]
theorem eqR_lst {P : Prog} {cl : Nat → List T → R T} {xs ys : List Int} : eqR P cl (.lst (tI xs)) (.lst (tI ys)) = .ok (.bl (decide (xs = ys))) := by
  show chk (dataL (tI xs) && dataL (tI ys)) (R.ok (T.bl (eqL (tI xs) (tI ys)))) = _
  rw [dataL_ints, dataL_ints, eqL_ints]
  rfl
theorem eqR_tup {P : Prog} {cl : Nat → List T → R T} {xs ys : List Int} : eqR P cl (.tup (tI xs)) (.tup (tI ys)) = .ok (.bl (decide (xs = ys))) := by
  show chk (dataL (tI xs) && dataL (tI ys)) (R.ok (T.bl (eqL (tI xs) (tI ys)))) = _
  rw [dataL_ints, dataL_ints, eqL_ints]
  rfl
theorem slice_from {b : Bool} {xs : List Int} {i : Nat} : sliceT (sq b xs) (.int (i : Nat)) .non = .ok (sq b (cut xs i xs.length)) := by
  have m : cutI (tI xs).length 0 (.int (i : Nat)) = some (min i xs.length) := by
    show some (if ((i : Nat) : Int) < 0 then _ else min (((i : Nat) : Int).toNat) (tI xs).length) = _
    rw [if_neg (by omega), Int.toNat_natCast, List.length_map]
  have e : ∀ l h : Nat, cutL (tI xs) l h = tI ((xs.drop l).take (h - l)) := fun l h => by
    unfold cutL tI
    rw [List.map_take, List.map_drop]
  have k : (tI xs).length = min xs.length xs.length := by rw [List.length_map, Nat.min_self]
  cases b
  · show ((ofO (cutI (tI xs).length 0 (.int (i : Nat)))).bnd fun l => R.ok (T.tup (cutL (tI xs) l (tI xs).length))) = _
    rw [m]
    show R.ok (T.tup (cutL (tI xs) _ _)) = _
    rw [e, k]
    rfl
  · show ((ofO (cutI (tI xs).length 0 (.int (i : Nat)))).bnd fun l => R.ok (T.lst (cutL (tI xs) l (tI xs).length))) = _
    rw [m]
    show R.ok (T.lst (cutL (tI xs) _ _)) = _
    rw [e, k]
    rfl
/-- places in a list that is told -/
theorem nodup_part : ∀ (l xs : List Int), l.Nodup → (∀ a ∈ l, a ∈ xs) → ∃ r, xs.Perm (l ++ r)
  | [], xs, _, _ => ⟨xs, .refl _⟩
  | a :: l, xs, h, hs => by
    rw [List.nodup_cons] at h
    have ha := List.perm_cons_erase (hs a List.mem_cons_self)
    obtain ⟨r, hr⟩ := nodup_part l (xs.erase a) h.2 fun b hb => (List.mem_erase_of_ne (fun z => h.1 (by rw [← z]; exact hb))).mpr (hs b (List.mem_cons_of_mem _ hb))
    exact ⟨r, ha.trans (hr.cons a)⟩
theorem upTo_nodup (c : Nat) : (upTo c).Nodup := (upTo_sorted c).imp fun h => by omega
/-- an order, told by its length and its numbers -/
theorem order_iff {xs : List Int} {c : Nat} : sortI xs = upTo c ↔ xs.length = c ∧ ((upTo c).filter fun k => decide (k ∈ xs)).length = c := by
  constructor
  · intro h
    have p : xs.Perm (upTo c) := by rw [← h]; exact (sortI_perm xs).symm
    have l : xs.length = c := by rw [p.length_eq, upTo_len]
    refine ⟨l, ?_⟩
    rw [List.filter_eq_self.mpr fun k hk => decide_eq_true (p.mem_iff.mpr hk), upTo_len]
  · rintro ⟨h1, h2⟩
    have hf : (upTo c).filter (fun k => decide (k ∈ xs)) = upTo c := by
      exact List.filter_eq_self.mpr (List.length_filter_eq_length_iff.mp (by rw [h2, upTo_len]))
    have hs : ∀ a ∈ upTo c, a ∈ xs := fun a ha => by
      rw [← hf] at ha
      exact of_decide_eq_true (List.mem_filter.mp ha).2
    obtain ⟨r, hr⟩ := nodup_part (upTo c) xs (upTo_nodup c) hs
    have : r = [] := by
      have := hr.length_eq
      rw [List.length_append, upTo_len] at this
      exact List.length_eq_zero_iff.mp (by omega)
    subst this
    rw [List.append_nil] at hr
    exact sorted_eq ((sortI_perm xs).trans hr) (sortI_sorted xs) ((upTo_sorted c).imp fun h => by omega)
section
variable {P : Prog} {cl mk : Nat → List T → R T} {cx : Option T} {e : Env} {a b u v : E}
theorem ev_sliceFr {k : Bool} {xs : List Int} {i : Int} {i' : Nat} (h1 : evE P cl mk cx a e = .ok (sq k xs)) (h2 : evE P cl mk cx u e = .ok (.int i)) (hi : i = (i' : Int)) :
    evE P cl mk cx (.slice a [u] []) e = .ok (sq k (cut xs i' xs.length)) := by
  subst hi
  show (evE P cl mk cx a e).bnd (fun x => (partR (onlyI (evE P cl mk cx u e))).bnd fun y => (partR (R.ok .non)).bnd fun z => sliceT x y z) = _
  rw [h1, h2]
  exact slice_from
theorem ev_addL {xs ys : List Int} (h1 : evE P cl mk cx a e = .ok (.lst (tI xs))) (h2 : evE P cl mk cx b e = .ok (.lst (tI ys))) (hl : xs.length + ys.length ≤ 1000000) : evE P cl mk cx (.bin .add a b) e = .ok (.lst (tI (xs ++ ys))) := by
  rw [ev_binV h1 h2]
  show chk (Nat.ble ((tI xs).length + (tI ys).length) LIM) (R.ok (T.lst (tI xs ++ tI ys))) = _
  have k : Nat.ble ((tI xs).length + (tI ys).length) LIM = true := Nat.ble_eq_true_of_le (by rw [List.length_map, List.length_map]; unfold LIM; omega)
  have k2 : tI xs ++ tI ys = tI (xs ++ ys) := by unfold tI; rw [List.map_append]
  rw [k, k2]
  rfl
theorem ev_modI {x y : Int} (h1 : evE P cl mk cx a e = .ok (.int x)) (h2 : evE P cl mk cx b e = .ok (.int y)) (hy : 0 < y) : evE P cl mk cx (.bin .mod (.blt .int [a]) b) e = .ok (.int (x % y)) := by
  have h3 : evE P cl mk cx (.blt .int [a]) e = .ok (.int x) := by rw [ev_blt1, h1]; rfl
  rw [ev_binV h3 h2]
  show chk (decide (0 < y)) _ = _
  rw [decide_eq_true hy]
  rfl
theorem ev_iteB {c : E} {p : Bool} {t w : T} (h : evE P cl mk cx c e = .ok (.bl p)) (h1 : p = true → evE P cl mk cx a e = .ok t) (h2 : p = false → evE P cl mk cx b e = .ok w) : evE P cl mk cx (.ite c a b) e = .ok (if p then t else w) := by
  show (truth (evE P cl mk cx c e)).bnd _ = _
  rw [h]
  cases p with
  | true => exact h1 rfl
  | false => exact h2 rfl
theorem exS_setIx {x j : Nat} {i : E} {t : T} {xs : List T} {k : Int} (h : evE P cl mk cx a e = .ok t) (hx : slotL e x = .ok xs) (hi : evE P cl mk cx i e = .ok (.int k)) (hj : ixI xs.length k = some j) : exS P cl mk cx (.setIx x i a false) e = .nx (putL e x (xs.set j t)) := by
  unfold exS
  rw [h, R.st_ok, hx, R.st_ok, hi]
  show (ofO (ixI xs.length k)).st e _ = _
  rw [hj, ofO_some, R.st_ok, grd_false]
theorem ixI_nat {n j : Nat} (h : j < n) : ixI n ((j : Nat) : Int) = some j := by
  unfold ixI
  rw [if_pos (by omega), if_pos (by omega)]
  rfl
theorem map_set : ∀ (xs : List Int) (j : Nat) (v : Int), (tI xs).set j (.int v) = tI (xs.set j v)
  | [], j, v => rfl
  | x :: xs, 0, v => rfl
  | x :: xs, j + 1, v => by
    show T.int x :: (tI xs).set j (.int v) = T.int x :: tI (xs.set j v)
    rw [map_set xs j v]
end
section
variable {P : Prog} {n : Nat}
def f_order_of_e91fc9 : Fn := ⟨2, 2, [.ifs (.cmp .ne (.blt .sorted [(.var 0)]) (.blt .rangeL [(.var 1)])) [.raise 2 [(.blt .tuple [(.var 0)])]] [],
  .ret (.blt .tuple [(.var 0)])]⟩
theorem orderof_ok {f c : Nat} {b : Bool} {xs : List Int} (hf : P.fn f = some f_order_of_e91fc9) (he : P.err 2 = some [(2, true)]) (hc : c ≤ 1000) :
    run P (n + 1) f [sq b xs, .int (c : Nat)] = if sortI xs = upTo c then .ok (.tup (tI xs)) else .exc (.ins 2 [2] [.tup (tI xs)]) := by
  have ht : evE P (run P n) (make P n) none (.blt .tuple [(.var 0)]) [some (sq b xs), some (.int (c : Nat))] = .ok (.tup (tI xs)) := by
    rw [ev_blt1]
    show (ofO (items (sq b xs))).bnd _ = _
    rw [sq_items]
    rfl
  have v0 : evE P (run P n) (make P n) none (.blt .sorted [(.var 0)]) [some (sq b xs), some (.int (c : Nat))] = .ok (.lst (tI (sortI xs))) := by
    rw [ev_blt1]
    exact sorted_sq (P := P) (cl := run P n)
  have v1 : evE P (run P n) (make P n) none (.blt .rangeL [(.var 1)]) [some (sq b xs), some (.int (c : Nat))] = .ok (.lst (tI (upTo c))) := by
    rw [ev_blt1]
    show chk (decide (-1000000 ≤ ((c : Nat) : Int)) && decide (((c : Nat) : Int) ≤ 1000000)) (R.ok (T.lst ((rangeI 0 (c : Nat)).map T.int))) = _
    rw [decide_eq_true (by omega), decide_eq_true (by omega), range_nat, ← upTo_T]
    rfl
  have vc : evE P (run P n) (make P n) none (.cmp .ne (.blt .sorted [(.var 0)]) (.blt .rangeL [(.var 1)])) [some (sq b xs), some (.int (c : Nat))] = .ok (.bl (!decide (sortI xs = upTo c))) := by
    rw [ev_cmpV v0 v1]
    show notR (eqR P (run P n) (.lst (tI (sortI xs))) (.lst (tI (upTo c)))) = _
    rw [eqR_lst]
    rfl
  by_cases h : sortI xs = upTo c
  · rw [if_pos h]
    refine (run_of (r := .rt (.tup (tI xs))) hf rfl ?_).trans rfl
    show exB P (run P n) (make P n) none [.ifs _ _ _, .ret (.blt .tuple [(.var 0)])] [some (sq b xs), some (.int (c : Nat))] = _
    rw [exB_cons, exS_ifF (vc.trans (by rw [decide_eq_true h]; rfl)), exB_nil, SR.seq_nx, exB_cons, exS_ret ht, SR.seq_rt]
  · rw [if_neg h]
    refine (run_of (r := .exc (.ins 2 [2] [.tup (tI xs)]) [some (sq b xs), some (.int (c : Nat))]) hf rfl ?_).trans rfl
    show exB P (run P n) (make P n) none [.ifs _ [.raise 2 [(.blt .tuple [(.var 0)])]] _, .ret (.blt .tuple [(.var 0)])] [some (sq b xs), some (.int (c : Nat))] = _
    have v2 : exS P (run P n) (make P n) none (.raise 2 [(.blt .tuple [(.var 0)])]) [some (sq b xs), some (.int (c : Nat))] = .exc (.ins 2 [2] [.tup (tI xs)]) [some (sq b xs), some (.int (c : Nat))] := by
      unfold exS
      rw [he, evL_1 ht]
      rfl
    rw [exB_cons, exS_ifT (vc.trans (by rw [decide_eq_false h]; rfl)), exB_cons, v2]
    rfl
end
end Wt

/-! PureB: tables, by the rules of PureA. -/
namespace Wt
open PySem
/-- a table -/
def tbl (c : Int) (rows : List (List Int)) : T := .ins 15 [0, 1] [.int c, .tup (tU rows)]
theorem tbl_0 {P : Prog} {c : Int} {rows : List (List Int)} (h : (P.ini 15).isSome = true) : fldT P (tbl c rows) 0 = .ok (.int c) := l_fld h rfl
theorem tbl_1 {P : Prog} {c : Int} {rows : List (List Int)} (h : (P.ini 15).isSome = true) : fldT P (tbl c rows) 1 = .ok (.tup (tU rows)) := l_fld h rfl
def n_Table0 : Ini := ⟨3, 7, [.asg 3 (.comp (.blt .tuple [(.var 5)]) (.one 5) .seq [(.var 2)] []) false,
  .forS (.many [4, 5]) .enum [(.var 3)] [.ifs (.or (.cmp .ne (.blt .len [(.var 5)]) (.var 1)) (.blt .any [(.comp (.cmp .lt (.var 6) (.int 0)) (.one 6) .seq [(.var 5)] [])])) [.raise 3 [(.var 4)]] []] [0, 0, 0, 0, 0, 0, 0]], [(0, false, (.var 1)), (1, false, (.blt .tuple [(.var 3)]))]⟩
local macro_rules | `(tactic| top_caught) => `(tactic| (simp only [args, List.map_cons, List.map_nil, List.getD_cons_zero, List.getD_cons_succ]; try exact rfl))
local macro_rules | `(tactic| fin_places) => `(tactic| first | exact tbl_0 (by first | assumption | rfl) | exact tbl_1 (by first | assumption | rfl))
local macro_rules | `(tactic| nest_room) => `(tactic| (dsimp only [bindTg, setAll, List.set, up, List.foldl, List.cons_append, List.nil_append]))
local macro_rules | `(tactic| fold_depth) => `(tactic| first | assumption | omega | ((simp only [List.length_map, List.length_append, List.length_set, List.length_cons, List.length_nil, List.length_zipIdx, List.length_zip, List.length_take, List.length_drop, List.length_replicate, rng_length]); omega) | grind)
local macro_rules | `(tactic| reads_via_all) => `(tactic| first | exact rfl | exact nl_I)
local macro_rules | `(tactic| leaf_len) => `(tactic| first | with_reducible exact w_seq | with_reducible exact w_seqU | ((with_reducible apply w_rng) <;> try fold_depth) | ((with_reducible apply w_rng2) <;> try fold_depth) | ((with_reducible apply w_rng3) <;> try fold_depth) | with_reducible exact w_enum | with_reducible exact w_enumU | with_reducible exact w_zip | with_reducible exact w_zip1 | with_reducible exact w_zip2 | with_reducible exact w_zip3 | with_reducible exact w_rev | with_reducible exact w_revU | with_reducible exact w_seqA)
local macro_rules | `(tactic| mem_news) => `(tactic| first
  | with_reducible exact t_len | with_reducible exact t_lenU | with_reducible exact t_sum | with_reducible exact t_sumU | with_reducible exact t_sort | with_reducible exact t_sortU
  | with_reducible exact t_rev | ((with_reducible apply t_min); assumption) | with_reducible exact t_any | with_reducible exact t_all
  | with_reducible exact t_eqL | with_reducible exact t_eqLL | with_reducible exact t_eqLU | with_reducible exact t_eqUU | with_reducible exact t_neLL | with_reducible exact t_eqU | with_reducible exact t_neL | with_reducible exact t_neU | with_reducible exact t_in | with_reducible exact t_inU | with_reducible exact t_notin | with_reducible exact t_notinU
  | ((with_reducible apply t_ixN) <;> try fold_depth) | ((with_reducible apply t_ixNU) <;> try fold_depth)
  | ((with_reducible apply t_ix) <;> try fold_depth) | ((with_reducible apply t_ixU) <;> try fold_depth)
  | ((with_reducible apply t_mul); first | exact rfl | exact mulOk64 (by fold_depth) | skip) | ((with_reducible apply t_div); first | exact divOk64 (by fold_depth) (by fold_depth) | skip) | ((with_reducible apply t_mod); try fold_depth)
  | ((with_reducible apply t_rep) <;> try fold_depth) | ((with_reducible apply t_addM); try fold_depth) | ((with_reducible apply t_addU); try fold_depth)
  | ((with_reducible apply t_rangeL) <;> try fold_depth) | ((with_reducible apply t_rangeT) <;> try fold_depth)
  | ((with_reducible apply t_slc) <;> try fold_depth) | ((with_reducible apply t_slcU) <;> try fold_depth) | ((with_reducible apply t_slcT); try fold_depth) | ((with_reducible apply t_slcTU); try fold_depth) | ((with_reducible apply t_slcF); try fold_depth) | ((with_reducible apply t_slcFU); try fold_depth)
  | with_reducible exact t_lt | with_reducible exact t_le | with_reducible exact t_gt | with_reducible exact t_ge | with_reducible exact t_eqI | with_reducible exact t_neI | with_reducible exact t_is1 | with_reducible exact t_is2 | with_reducible exact t_is3 | with_reducible exact t_is4 | with_reducible exact t_is5 | with_reducible exact t_is6
  | exact rfl)
local macro_rules | `(tactic| top_args) => `(tactic| first | with_reducible assumption | with_reducible exact isint_ok rfl | with_reducible exact isint_ok (by assumption) | apply_assumption (transparency := .reducible))
local macro_rules | `(tactic| nest_cls) => `(tactic| first
  | ((with_reducible apply v_var); exact rfl)
  | with_reducible exact v_int | with_reducible exact v_bl | with_reducible exact v_non | with_reducible exact v_str | with_reducible exact l_nil
  | ((with_reducible apply l_cons); (case' h1 => nest_cls); (case' h2 => nest_cls))
  | ((with_reducible apply v_bin); (case' h1 => nest_cls); (case' h2 => nest_cls); (case' h3 => mem_news))
  | ((with_reducible apply v_cmp); (case' h1 => nest_cls); (case' h2 => nest_cls); (case' h3 => mem_news))
  | ((with_reducible apply v_ix); (case' h1 => nest_cls); (case' h2 => nest_cls); (case' h3 => mem_news))
  | ((with_reducible apply v_fld); (case' h1 => nest_cls); (case' h2 => fin_places))
  | ((with_reducible apply v_blt1); (case' h1 => nest_cls); (case' h2 => mem_news))
  | ((with_reducible apply v_blt2); (case' h1 => nest_cls); (case' h2 => nest_cls); (case' h3 => mem_news))
  | ((with_reducible apply v_call0); (case' h1 => nest_cls); (case' h2 => top_args))
  | ((with_reducible apply v_not); nest_cls)
  | ((with_reducible apply v_neg); nest_cls)
  | ((with_reducible apply v_and); (case' h1 => nest_cls); (case' h2 => (intro _; nest_cls)))
  | ((with_reducible apply v_or); (case' h1 => nest_cls); (case' h2 => (intro _; nest_cls)))
  | ((with_reducible apply v_cmp2); (case' h1 => nest_cls); (case' h2 => nest_cls); (case' h3 => mem_news); (case' h4 => (intro _; nest_cls)); (case' h5 => (intro _; mem_news)))
  | ((with_reducible apply v_ite); (case' h1 => nest_cls); (case' h2 => (intro _; nest_cls)); (case' h3 => (intro _; nest_cls)); (case' h4 => pre_facts))
  | ((with_reducible apply v_rev); (case' h1 => nest_cls); (case' h2 => mem_news))
  | ((with_reducible apply v_tupI); units_room) | ((with_reducible apply v_tupU); units_room) | ((with_reducible apply v_tup); nest_cls)
  | with_reducible exact v_nil0 | with_reducible exact v_nilI
  | ((with_reducible apply v_lstI); units_room) | ((with_reducible apply v_lstL); units_room) | ((with_reducible apply v_lstU); units_room) | ((with_reducible apply v_lst); nest_cls)
  | ((with_reducible apply v_slice); (case' h1 => nest_cls); (case' h2 => nest_cls); (case' h3 => nest_cls); (case' h4 => mem_news))
  | with_reducible exact p_nil | ((with_reducible apply p_one); nest_cls)
  | ((with_reducible apply v_comp0); (case' h1 => nest_cls); (case' h2 => leaf_len); (case' h3 => (refine LIM_of ?_; try fold_depth)); (case' h4 => (intro _ _; nest_room; try exact rfl)); (case' h6 => (intro _ _; nest_cls)); (case' h7 => first | with_reducible exact m_id | with_reducible exact m_idL | with_reducible exact m_idU | with_reducible exact m_int | with_reducible exact m_lst | with_reducible exact m_tup | exact rfl))
  | ((with_reducible apply v_comp); (case' h1 => nest_cls); (case' h2 => leaf_len); (case' h3 => (refine LIM_of ?_; try fold_depth)); (case' h4 => (intro _ _; nest_room; try exact rfl)); (case' h5 => (intro _ _; nest_cls)); (case' h6 => (intro _ _ _; nest_cls)); (case' h7 => first | with_reducible exact m_id | with_reducible exact m_idL | with_reducible exact m_idU | with_reducible exact m_int | with_reducible exact m_lst | with_reducible exact m_tup | exact rfl))
  | ((with_reducible apply v_xisa); exact rfl) | ((with_reducible apply v_xfld); exact rfl)
  | ((with_reducible apply c_one); nest_cls)
  | ((with_reducible apply v_meth0); (case' h1 => nest_cls); (case' h2 => first | assumption | exact rfl); (case' h3 => nest_cls); (case' h5 => top_args))
  | ((with_reducible apply v_make0); (case' h1 => nest_cls); (case' h3 => top_args))
  | ((with_reducible apply v_meth); (case' h1 => nest_cls); (case' h2 => first | assumption | exact rfl); (case' h3 => nest_cls); (case' h4 => top_caught); (case' h5 => top_args))
  | ((with_reducible apply v_make); (case' h1 => nest_cls); (case' h2 => top_caught); (case' h3 => top_args))
  | ((with_reducible apply v_call); (case' h1 => nest_cls); (case' h2 => top_caught); (case' h3 => top_args)))
local macro_rules | `(tactic| units_room) => `(tactic| first
  | with_reducible exact l_nilM
  | ((with_reducible apply l_consI); (case' h1 => nest_cls); (case' h2 => units_room))
  | ((with_reducible apply l_consL); (case' h1 => nest_cls); (case' h2 => units_room))
  | ((with_reducible apply l_consU); (case' h1 => nest_cls); (case' h2 => units_room)))
local macro_rules | `(tactic| pre_facts) => `(tactic| first | with_reducible exact i_int | with_reducible exact i_lstI | with_reducible exact i_tupI | with_reducible exact i_bl | with_reducible exact i_lst | exact rfl)
local macro_rules | `(tactic| one_sign) => `(tactic| first | exact rfl | assumption | (simp only [*, decide_true, decide_false, Bool.not_true, Bool.not_false, Bool.or_false, Bool.or_true, Bool.and_true, Bool.and_false, Bool.true_and, Bool.false_and, Bool.true_or, Bool.false_or]; done))
local macro_rules | `(tactic| got_up) => `(tactic| first | with_reducible exact y_map | exact rfl)
local macro_rules | `(tactic| isplit) => `(tactic| first | exact rfl | exact wp_rt rfl | exact wp_out rfl | exact wp_nx rfl | exact wp_x rfl | exact wp_exc rfl | skip)
local macro_rules | `(tactic| fold_lay) => `(tactic| first
  | ((with_reducible apply b_asg); (case' h => nest_cls); (case' k => nest_room))
  | ((with_reducible apply b_asgG); (case' h => nest_cls); (case' hn => reads_via_all); (case' k => nest_room))
  | ((with_reducible apply b_ret); (case' h => nest_cls); (case' k => isplit))
  | ((with_reducible apply b_ifA); (case' h => nest_cls); (case' h1 => (intro _; nest_cls)); (case' h2 => exact rfl); (case' h3 => pre_facts); (case' k => nest_room))
  | ((with_reducible apply b_ifAG); (case' h => nest_cls); (case' h1 => (intro _; nest_cls)); (case' hn => reads_via_all); (case' h2 => exact rfl); (case' h3 => pre_facts); (case' k => nest_room))
  | ((with_reducible apply b_ifE); (case' h => nest_cls); (case' h1 => (intro _; nest_cls)); (case' h2 => (intro _; nest_cls)); (case' h3 => pre_facts); (case' k => nest_room))
  | ((with_reducible apply b_ifs); (case' h => nest_cls); (case' k => first | ((with_reducible apply k_F); (case' h => one_sign); (case' k => nest_room)) | ((with_reducible apply k_T); (case' h => one_sign); (case' k => nest_room)) | skip))
  | ((with_reducible apply b_app); (case' h => exact rfl); (case' h2 => nest_cls); (case' h3 => (refine LIM_lt ?_; try fold_depth)); (case' hy => got_up); (case' k => nest_room))
  | ((with_reducible apply b_appG); (case' h => exact rfl); (case' h2 => nest_cls); (case' hn => reads_via_all); (case' h3 => (refine LIM_lt ?_; try fold_depth)); (case' hy => got_up); (case' k => nest_room))
  | ((with_reducible apply b_par); (case' h => nest_cls); (case' h2 => (nest_room; try exact rfl)))
  | ((with_reducible apply b_asgT); (case' h => nest_cls); (case' h2 => (nest_room; try exact rfl)))
  | ((with_reducible apply b_aug); (case' h => exact rfl); (case' h2 => nest_cls); (case' h3 => mem_news); (case' k => nest_room))
  | ((with_reducible apply b_expr); (case' h => nest_cls))
  | ((with_reducible apply b_setIx); (case' h2 => nest_cls); (case' h => exact rfl); (case' h3 => nest_cls); (case' h4 => try fold_depth); (case' h5 => try fold_depth); (case' hy => first | with_reducible exact y_set | exact rfl); (case' k => nest_room))
  | ((with_reducible apply b_setIxG); (case' h2 => nest_cls); (case' hn => reads_via_all); (case' h => exact rfl); (case' h3 => nest_cls); (case' h4 => try fold_depth); (case' h5 => try fold_depth); (case' hy => first | with_reducible exact y_set | exact rfl); (case' k => nest_room))
  | ((with_reducible apply b_raise); (case' h => exact rfl); (case' h2 => nest_cls); (case' h3 => exact rfl); (case' k => isplit))
  | ((with_reducible apply b_clear); (case' h => exact rfl); (case' k => nest_room))
  | with_reducible apply b_doc | with_reducible apply b_pass | with_reducible apply b_cont | with_reducible apply b_brk | ((with_reducible apply b_retN); isplit)
  | ((with_reducible apply b_nil); isplit))
local macro_rules | `(tactic| one_place) => `(tactic| first
  | ((with_reducible apply v_call0X); (case' h1 => nest_cls); (case' h2 => top_args))
  | ((with_reducible apply v_meth0X); (case' h1 => nest_cls); (case' h2 => first | assumption | exact rfl); (case' h3 => nest_cls); (case' h5 => top_args))
  | ((with_reducible apply v_make0X); (case' h1 => nest_cls); (case' h3 => top_args))
  | ((with_reducible apply v_methX); (case' h1 => nest_cls); (case' h2 => first | assumption | exact rfl); (case' h3 => nest_cls); (case' h4 => top_caught); (case' h5 => top_args))
  | ((with_reducible apply v_makeX); (case' h1 => nest_cls); (case' h2 => top_caught); (case' h3 => top_args))
  | ((with_reducible apply v_call0L); one_place)
  | ((with_reducible apply v_lstX); one_place) | ((with_reducible apply v_tupX); one_place) | ((with_reducible apply v_blt1X); one_place)
  | ((with_reducible apply l_consX); one_place)
  | ((with_reducible apply l_consY); (case' h1 => nest_cls); (case' h2 => one_place)))
local macro_rules | `(tactic| one_item) => `(tactic| first
  | ((with_reducible apply b_retX); (case' h => one_place); (case' k => first | exact wp_x rfl | exact wp_exc rfl | skip))
  | ((with_reducible apply b_asgX); (case' h => one_place); (case' k => first | exact wp_x rfl | exact wp_exc rfl | skip))
  | ((with_reducible apply b_exprX); (case' h => one_place); (case' k => first | exact wp_x rfl | exact wp_exc rfl | skip)))
section
variable {P : Prog} {n : Nat}
theorem zip_get {α : Type} [Inhabited α] {xs : List α} {i : Nat} {p : α × Nat} (h : xs.zipIdx[i]? = some p) : p = (gD xs i, i) ∧ i < xs.length := by
  rw [List.getElem?_zipIdx] at h
  cases q : xs[i]? with
  | none => rw [q] at h; cases h
  | some x =>
    rw [q] at h
    have h : some (x, 0 + i) = some p := h
    cases h
    have := (List.getElem?_eq_some_iff.mp q).1
    rw [gD_get q]
    exact ⟨by simp, this⟩
/-- a row of a table is right -/
def rowOk (c : Int) (r : List Int) : Bool := decide ((r.length : Int) = c) && r.all fun v => decide (0 ≤ v)
/-- the table's rows are right -/
def tabOk (c : Int) (rows : List (List Int)) : Prop := ∀ r ∈ rows, (r.length : Int) = c ∧ ∀ v ∈ r, 0 ≤ v
theorem make_tab {b : Bool} {c : Int} {rows : List (List Int)} (hP : P.ini 15 = some n_Table0) (hr : tabOk c rows) (hl : rows.length ≤ 1000) (hl2 : c ≤ 1000) :
    make P (n + 1) 15 [.int c, .lst (if b then tL rows else tU rows)] = .ok (tbl c rows) := by
  refine mk_wp hP rfl ?_ rfl ?_
  · cases b
    · show (noClsL (tU rows) && true) = true
      rw [nc_U]; rfl
    · show (noClsL (tL rows) && true) = true
      rw [nc_L]; rfl
  · dsimp only [n_Table0, startI, List.map, List.length_cons, List.length_nil, Nat.reduceAdd, Nat.reduceSub, List.replicate, List.cons_append, List.nil_append]
    have key : ∀ e', e' = [some (.cls 1000), some (.int c), some (.lst (if b then tL rows else tU rows)), some (.lst (tU rows)), none, none, none] → Wp (fun q => ∃ e', q = .nx e' ∧ isC0 e' = true ∧ fillF (evE P (run P n) (make P n) none) 15 [(0, false, (.var 1)), (1, false, (.blt .tuple [(.var 3)]))] [] [] e' = .ok (tbl c rows) ∧ noCls (tbl c rows) = true) (exB P (run P n) (make P n) none [.forS (.many [4, 5]) .enum [(.var 3)] [.ifs (.or (.cmp .ne (.blt .len [(.var 5)]) (.var 1)) (.blt .any [(.comp (.cmp .lt (.var 6) (.int 0)) (.one 6) .seq [(.var 5)] [])])) [.raise 3 [(.var 4)]] []] [0, 0, 0, 0, 0, 0, 0]] e') := by
      rintro e' rfl
      refine b_for (σ := Option T × Option T) (fun s => [(4, s.1), (5, s.2)]) (fun i _ => True) (none, none) (by nest_cls) (by leaf_len) (by nest_room) (by intro x s; nest_room) trivial ?_ ?_
      · intro i x s hx hI
        obtain ⟨rfl, hi⟩ := zip_get hx
        have hm := hr _ (gD_mem (xs := rows) (k := i) (by omega) (by omega))
        have hm1 : (gD rows (i : Int)).length ≤ 1000 := by omega
        fold_lay
        fold_lay
        exact lp_nx ⟨(_, _), rfl, trivial⟩
      · intro s hI
        nest_room
        refine b_nil ⟨_, rfl, rfl, ?_, ?_⟩
        · refine f_cons (by nest_room; nest_cls) (f_cons (by nest_room; nest_cls) f_nil)
        · show (!((15 : Nat) == 1000) && (noCls (.int c) && (noClsL (tU rows) && noClsL []))) = true
          rw [nc_U]; rfl
    cases b
    · refine b_asg (v_comp0 (xs := rows) (it := fun r => T.tup (tI r)) (by nest_cls) rfl (LIM_of (by omega)) (by intro _ _; nest_room) (by intro _ _; nest_cls) rfl) ?_
      exact key _ rfl
    · refine b_asg (v_comp0 (xs := rows) (it := fun r => T.lst (tI r)) (by nest_cls) rfl (LIM_of (by omega)) (by intro _ _; nest_room) (by intro _ _; nest_cls) rfl) ?_
      exact key _ rfl

def f_Table_arrivals_def93f : Fn := ⟨2, 5, [.asg 2 (.call 9 [(.var 1), (.fld (.var 0) 0)] []) false,
  .ret (.comp (.blt .sum [(.comp (.ix (.var 3) (.var 4)) (.one 4) .seq [(.var 2)] [])]) (.one 3) .seq [(.fld (.var 0) 1)] [])]⟩
def f_everyone_238e5f : Fn := ⟨1, 1, [.ret (.blt .rangeT [(.var 0)])]⟩
def f_table_backlogs_884ca8 : Fn := ⟨2, 5, [.asg 2 (.int 0) false,
  .asg 3 (.lst []) false,
  .forS (.one 4) .seq [(.meth 10 (.var 0) [(.var 1)] [])] [.asg 2 (.blt .max2 [(.bin .sub (.bin .add (.var 2) (.var 4)) (.int 1)), (.int 0)]) false, .app 3 (.var 2) false] [0, 0, 0, 1, 0],
  .ret (.var 3)]⟩
def f_run_length_2b7204 : Fn := ⟨1, 2, [.asg 1 (.call 23 [(.var 0), (.call 22 [(.fld (.var 0) 0)] [])] []) false,
  .ifs (.cmp .eq (.blt .len [(.var 1)]) (.int 0)) [.ret (.int 0)] [],
  .ret (.bin .add (.blt .len [(.var 1)]) (.ix (.var 1) (.neg (.int 1))))]⟩
/-- the program holds group_of -/
structure HGrp (P : Prog) : Prop where
  f9 : P.fn 9 = some f_group_of_f576c1
  e1 : P.err 1 = some [(0, true)]
/-- and Table -/
structure HTab (P : Prog) : Prop extends HGrp P where
  i15 : P.ini 15 = some n_Table0
  m10 : P.meth 15 10 = some 72
  f72 : P.fn 72 = some f_Table_arrivals_def93f
/-- and run_length -/
structure HRun (P : Prog) : Prop extends HTab P where
  f22 : P.fn 22 = some f_everyone_238e5f
  f23 : P.fn 23 = some f_table_backlogs_884ca8
  f24 : P.fn 24 = some f_run_length_2b7204
theorem some_of {α : Type} {o : Option α} {a : α} (h : o = some a) : o.isSome = true := by rw [h]; rfl
theorem grp_L (H : HGrp P) {g : List Int} {c : Int} (h : okG g c) : run P (n + 1) 9 [.lst (tI g), .int c] = .ok (.tup (tI (sortI g))) := by
  have := group_ok (P := P) (n := n) (f := 9) (b := true) (xs := g) (c := c) H.f9 H.e1
  rw [if_pos h] at this
  exact this
theorem grp_U (H : HGrp P) {g : List Int} {c : Int} (h : okG g c) : run P (n + 1) 9 [.tup (tI g), .int c] = .ok (.tup (tI (sortI g))) := by
  have := group_ok (P := P) (n := n) (f := 9) (b := false) (xs := g) (c := c) H.f9 H.e1
  rw [if_pos h] at this
  exact this
theorem grp_XL (H : HGrp P) {g : List Int} {c : Int} (h : ¬ okG g c) : run P (n + 1) 9 [.lst (tI g), .int c] = .exc (.ins 1 [0] [.tup (tI g)]) := by
  have := group_ok (P := P) (n := n) (f := 9) (b := true) (xs := g) (c := c) H.f9 H.e1
  rw [if_neg h] at this
  exact this
theorem grp_XU (H : HGrp P) {g : List Int} {c : Int} (h : ¬ okG g c) : run P (n + 1) 9 [.tup (tI g), .int c] = .exc (.ins 1 [0] [.tup (tI g)]) := by
  have := group_ok (P := P) (n := n) (f := 9) (b := false) (xs := g) (c := c) H.f9 H.e1
  rw [if_neg h] at this
  exact this
theorem okG_mem {g : List Int} {c : Int} (h : okG g c) : ∀ k ∈ sortI g, 0 ≤ k ∧ k < c := fun k hk => h.1 k ((sortI_perm g).mem_iff.mp hk)
theorem sum_perm {xs ys : List Int} (h : xs.Perm ys) : xs.sum = ys.sum := by
  induction h with
  | nil => rfl
  | cons x _ ih => rw [List.sum_cons, List.sum_cons, ih]
  | swap x y l => rw [List.sum_cons, List.sum_cons, List.sum_cons, List.sum_cons]; omega
  | trans _ _ h1 h2 => exact h1.trans h2
/-- the jobs of a group in a row -/
def rsum (g r : List Int) : Int := (g.map fun k => gD r k).sum
/-- the jobs of a group in each slot -/
def arr (g : List Int) (rows : List (List Int)) : List Int := rows.map (rsum g)
theorem rsum_perm {g h r : List Int} (q : g.Perm h) : rsum g r = rsum h r := sum_perm (q.map _)
theorem arr_sort (g : List Int) (rows : List (List Int)) : arr (sortI g) rows = arr g rows := by
  unfold arr
  exact List.map_congr_left fun r _ => rsum_perm (sortI_perm g)
/-- shapes: rows of c numbers -/
def wide (c : Int) (rows : List (List Int)) : Prop := ∀ r ∈ rows, (r.length : Int) = c
theorem arrivals_at (H : HTab P) {c : Int} {rows : List (List Int)} {g : List Int} {b : Bool} (hg : okG g c) (hw : wide c rows) (hl : rows.length ≤ 1000) (hl2 : g.length ≤ 1000) :
    run P (n + 2) 72 [tbl c rows, sq b g] = .ok (.lst (tI (arr g rows))) := by
  have hi := some_of H.i15
  have hgr : run P (n + 1) 9 [sq b g, .int c] = .ok (.tup (tI (sortI g))) := by
    cases b
    · exact grp_U H.toHGrp hg
    · exact grp_L H.toHGrp hg
  have hm := okG_mem hg
  have hs : (sortI g).length ≤ 1000 := by rw [(sortI_perm g).length_eq]; exact hl2
  have hw : ∀ r ∈ rows, (r.length : Int) = c := hw
  refine run_ok H.f72 rfl rfl ?_
  dsimp only [f_Table_arrivals_def93f, start, List.map, List.length_cons, List.length_nil, Nat.reduceAdd, Nat.reduceSub, List.replicate, List.cons_append, List.nil_append]
  fold_lay
  fold_lay
  refine wp_rt ?_
  rw [← arr_sort]; rfl
/-- the backlog behind i slots -/
def bk (as : List Int) : Nat → Int
  | 0 => 0
  | i + 1 => if bk as i + gD as i - 1 < 0 then 0 else bk as i + gD as i - 1
/-- the backlogs of all slots -/
def bkL (as : List Int) : List Int := (List.range as.length).map fun i => bk as (i + 1)
theorem bk_nn (as : List Int) : ∀ i, 0 ≤ bk as i
  | 0 => Int.le_refl 0
  | i + 1 => by
    show 0 ≤ if bk as i + gD as i - 1 < 0 then 0 else bk as i + gD as i - 1
    split <;> omega
theorem bkL_len (as : List Int) : (bkL as).length = as.length := by unfold bkL; rw [List.length_map, List.length_range]
theorem bkL_at {as : List Int} {k : Int} (h0 : 0 ≤ k) (h1 : k < as.length) : gD (bkL as) k = bk as (k.toNat + 1) := by
  have h : k.toNat < as.length := by omega
  unfold gD bkL
  rw [List.getD_eq_getElem?_getD, List.getElem?_map, List.getElem?_range h]; rfl
theorem meth_t {m f : Nat} {c : Int} {rows : List (List Int)} (h : P.meth 15 m = some f) : methOf P m (tbl c rows) = some f := h
theorem backlogs_at (H : HRun P) {c : Int} {rows : List (List Int)} {g : List Int} {b : Bool} (hg : okG g c) (hw : wide c rows) (hl : rows.length ≤ 1000) (hl2 : g.length ≤ 1000) :
    run P (n + 3) 23 [tbl c rows, sq b g] = .ok (.lst (tI (bkL (arr g rows)))) := by
  have ha := arrivals_at (n := n) H.toHTab (b := b) hg hw hl hl2
  have hm := H.m10
  have hl3 : (arr g rows).length ≤ 1000 := by unfold arr; rw [List.length_map]; exact hl
  generalize hA : arr g rows = A at ha hl3
  refine run_ok H.f23 rfl rfl ?_
  dsimp only [f_table_backlogs_884ca8, start, List.map, List.length_cons, List.length_nil, Nat.reduceAdd, Nat.reduceSub, List.replicate, List.cons_append, List.nil_append]
  fold_lay
  fold_lay
  refine b_for (σ := Int × List Int × Option T) (fun s => [(2, some (.int s.1)), (3, some (.lst (tI s.2.1))), (4, s.2.2)]) (fun i s => s.1 = bk A i ∧ s.2.1 = (List.range i).map fun j => bk A (j + 1)) (0, [], none) (by nest_cls) (by leaf_len) (by nest_room; rfl) (by intro x s; nest_room) ⟨rfl, rfl⟩ ?_ ?_
  · rintro i x ⟨w, bs, o⟩ hx ⟨h1, h2⟩
    have h1 : w = bk A i := h1
    have h2 : bs = (List.range i).map fun j => bk A (j + 1) := h2
    have hb : bs.length = i := by rw [h2, List.length_map, List.length_range]
    have hi := (List.getElem?_eq_some_iff.mp hx).1
    fold_lay
    fold_lay
    fold_lay
    refine lp_nx ⟨(_, _, _), rfl, ?_, ?_⟩
    · rw [← gD_get hx, h1]; rfl
    · rw [List.range_succ, List.map_append, ← h2, ← gD_get hx, h1]; rfl
  · rintro ⟨w, bs, o⟩ ⟨h1, h2⟩
    nest_room
    fold_lay
    refine wp_rt ?_
    have h2 : bs = (List.range A.length).map fun j => bk A (j + 1) := h2
    rw [h2]; rfl
/-- how long the server runs -/
def runLen (c : Int) (rows : List (List Int)) : Int := rows.length + bk (arr (rangeI 0 c) rows) rows.length
theorem okG_all {c : Int} : okG (rangeI 0 c) c := by
  refine ⟨fun x hx => mem_rng.mp hx, ?_⟩
  unfold rangeI List.Nodup
  rw [List.pairwise_map]
  exact List.nodup_range.imp fun h => by omega
theorem everyone_at {c : Int} (h22 : P.fn 22 = some f_everyone_238e5f) (h0 : 0 ≤ c) (h1 : c ≤ 1000) : run P (n + 1) 22 [.int c] = .ok (.tup (tI (rangeI 0 c))) := by
  refine run_ok h22 rfl rfl ?_
  dsimp only [f_everyone_238e5f, start, List.map, List.length_cons, List.length_nil, Nat.reduceAdd, Nat.reduceSub, List.replicate, List.cons_append, List.nil_append]
  fold_lay
theorem runlen_at (H : HRun P) {c : Int} {rows : List (List Int)} (hw : wide c rows) (hl : rows.length ≤ 1000) (h0 : 0 ≤ c) (h1 : c ≤ 1000) :
    run P (n + 4) 24 [tbl c rows] = .ok (.int (runLen c rows)) := by
  have hi := some_of H.i15
  have he := everyone_at (n := n + 2) H.f22 h0 h1
  have hb : run P (n + 3) 23 [tbl c rows, .tup (tI (rangeI 0 c))] = _ := backlogs_at (n := n) H (b := false) (g := rangeI 0 c) okG_all hw hl (by rw [rng_length]; omega)
  have hB := bkL_len (arr (rangeI 0 c) rows)
  have hA : (arr (rangeI 0 c) rows).length = rows.length := by unfold arr; rw [List.length_map]
  refine run_ok H.f24 rfl rfl ?_
  dsimp only [f_run_length_2b7204, start, List.map, List.length_cons, List.length_nil, Nat.reduceAdd, Nat.reduceSub, List.replicate, List.cons_append, List.nil_append]
  fold_lay
  fold_lay
  refine k_split ?_ ?_ <;> intro hc <;> nest_room
  · fold_lay
    refine wp_rt ?_
    have : rows.length = 0 := by simp at hc; rw [hc] at hB; simp at hB; omega
    unfold runLen
    rw [this]; rfl
  · have hpos : 0 < rows.length := by
      have : ¬ (bkL (arr (rangeI 0 c) rows)).length = 0 := by simp at hc; simp [hc]
      omega
    fold_lay
    refine wp_rt ?_
    unfold runLen
    rw [hB, hA, bkL_at (by omega) (by omega), show ((rows.length : Int) - 1).toNat + 1 = rows.length by omega]

/-! the law's helpers -/
def f_law_table_18170e : Fn := ⟨2, 10, [.asg 2 (.call 6 [(.var 0), (.bin .add (.lst [(.int 8), (.int 12), (.int 8)]) (.bin .mul (.lst [(.int 10)]) (.int 55)))] []) false,
  .asg 3 (.ix (.lst [(.int 1), (.int 2), (.int 3), (.int 3), (.int 4), (.int 4), (.int 5), (.int 5)]) (.ix (.var 2) (.int 0))) true,
  .asg 4 (.ix (.var 2) (.int 2)) true,
  .ifs (.var 1) [.asg 4 (.int 0) false] [],
  .asg 5 (.lst []) false,
  .forS (.one 6) .rng [(.ix (.var 2) (.int 1))] [.asg 7 (.lst []) false, .forS (.one 8) .rng [(.var 3)] [.asg 9 (.ix (.var 2) (.bin .add (.bin .add (.int 3) (.bin .mul (.int 5) (.var 6))) (.var 8))) true, .ifs (.or (.cmp .isin (.var 4) (.tup [(.int 2), (.int 3)])) (.and (.cmp .eq (.var 4) (.int 1)) (.cmp .gt (.var 6) (.int 1)))) [.asg 9 (.bin .fdiv (.var 9) (.int 7)) false] [], .ifs (.cmp .eq (.var 4) (.int 4)) [.asg 9 (.bin .fdiv (.var 9) (.int 5)) false] [], .ifs (.cmp .isin (.var 4) (.tup [(.int 5), (.int 6)])) [.asg 9 (.blt .max2 [(.int 0), (.bin .sub (.var 9) (.int 7))]) false] [], .ifs (.cmp .eq (.var 4) (.int 7)) [.asg 9 (.bin .fdiv (.var 9) (.int 9)) false] [], .app 7 (.var 9) false] [0, 0, 1, 0, 0, 1, 0, 1, 0, 0], .app 5 (.var 7) false] [0, 0, 1, 0, 0, 1, 0, 0, 0, 0],
  .ret (.lst [(.var 3), (.var 5)])]⟩
/-- the draws, by places -/
theorem draws_at {f : Nat} {c : Int} {sz : List Int} (hf : P.fn f = some drawsF) (hs : ∀ s ∈ sz, 0 < s ∧ s < 18446744073709551616) (hl : sz.length ≤ 1000) :
    ∃ ds : List Int, ds.length = sz.length ∧ (∀ k : Int, 0 ≤ k → k < sz.length → 0 ≤ gD ds k ∧ gD ds k < gD sz k) ∧ run P (n + 1) f [.int c, .lst (tI sz)] = .ok (.lst (tI ds)) := by
  obtain ⟨ds, h1, h2, h3⟩ := draws_ok (n := n) (c := c) hf hs hl
  refine ⟨ds, h1, fun k h0 h4 => ?_, h3⟩
  have a := get_gD (xs := ds) (i := k.toNat) (by omega)
  have b := get_gD (xs := sz) (i := k.toNat) (by omega)
  rw [Int.toNat_of_nonneg h0] at a b
  exact h2 _ _ _ a b
/-- a drawn table -/
structure TabD (c : Int) (rows : List (List Int)) : Prop where
  c1 : 1 ≤ c
  c5 : c ≤ 5
  l : rows.length ≤ 11
  w : ∀ r ∈ rows, (r.length : Int) = c
  d : ∀ r ∈ rows, ∀ v ∈ r, 0 ≤ v ∧ v ≤ 9
theorem table_at {f : Nat} {x : Int} {full : Bool} (hf : P.fn f = some f_law_table_18170e) (h6 : P.fn 6 = some drawsF) :
    ∃ c rows, TabD c rows ∧ run P (n + 2) f [.int x, .bl full] = .ok (.lst [.int c, .lst (tL rows)]) := by
  obtain ⟨ds, hl, hb, hd⟩ := draws_at (P := P) (n := n) (f := 6) (c := x) (sz := [8, 12, 8] ++ rep 55 [10]) h6 (by decide) (by decide)
  have hl : ds.length = 58 := hl
  have b0 : 0 ≤ gD ds 0 ∧ gD ds 0 < 8 := hb 0 (by decide) (by decide)
  have b1 : 0 ≤ gD ds 1 ∧ gD ds 1 < 12 := hb 1 (by decide) (by decide)
  have b3 : ∀ k : Int, 3 ≤ k → k < 58 → 0 ≤ gD ds k ∧ gD ds k ≤ 9 := fun k h0 h1 => by
    have := hb k (by omega) (by exact h1)
    have e : gD ([(8 : Int), 12, 8] ++ rep 55 [10]) k = 10 := by
      rw [gD_app (by omega), if_neg (by simp; omega)]
      exact gD_rep (by simp; omega) (by simp; omega)
    rw [e] at this
    omega
  have hc : 1 ≤ gD [(1 : Int), 2, 3, 3, 4, 4, 5, 5] (gD ds 0) ∧ gD [(1 : Int), 2, 3, 3, 4, 4, 5, 5] (gD ds 0) ≤ 5 := by
    have := gD_mem (xs := [(1 : Int), 2, 3, 3, 4, 4, 5, 5]) (k := gD ds 0) (by omega) (by simp; omega)
    generalize gD [(1 : Int), 2, 3, 3, 4, 4, 5, 5] (gD ds 0) = z at this
    simp at this
    omega
  have hl2 : [(1 : Int), 2, 3, 3, 4, 4, 5, 5].length = 8 := rfl
  refine run_wp (Q := fun q => ∃ c rows, TabD c rows ∧ q = .ok (.lst [.int c, .lst (tL rows)])) hf rfl rfl ?_
  dsimp only [f_law_table_18170e, start, List.map, List.length_cons, List.length_nil, Nat.reduceAdd, Nat.reduceSub, List.replicate, List.cons_append, List.nil_append]
  fold_lay
  fold_lay
  generalize gD [(1 : Int), 2, 3, 3, 4, 4, 5, 5] (gD ds 0) = c at *
  fold_lay
  fold_lay
  generalize cond full (0 : Int) (gD ds 2) = m
  fold_lay
  refine b_for (σ := List (List Int) × Option T × Option T × Option T × Option T) (fun s => [(5, some (.lst (tL s.1))), (6, s.2.1), (7, s.2.2.1), (8, s.2.2.2.1), (9, s.2.2.2.2)]) (fun i s => s.1.length = i ∧ (∀ r ∈ s.1, (r.length : Int) = c) ∧ ∀ r ∈ s.1, ∀ v ∈ r, 0 ≤ v ∧ v ≤ 9) ([], none, none, none, none) (by nest_cls) (by leaf_len) rfl (by intro x s; nest_room) ⟨rfl, by simp, by simp⟩ ?_ ?_
  · rintro i x ⟨rows, o6, o7, o8, o9⟩ hx ⟨h1, h2, h3⟩
    obtain ⟨rfl, hi⟩ := rng0_get hx
    dsimp only at h1 h2 h3
    fold_lay
    refine b_for (σ := List Int × Option T × Option T) (fun s => [(7, some (.lst (tI s.1))), (8, s.2.1), (9, s.2.2)]) (fun i s => s.1.length = i ∧ ∀ v ∈ s.1, 0 ≤ v ∧ v ≤ 9) ([], o8, o9) (by nest_cls) (by leaf_len) rfl (by intro x s; nest_room) ⟨rfl, by simp⟩ ?_ ?_
    · rintro j x ⟨row, p8, p9⟩ hx ⟨g1, g2⟩
      obtain ⟨rfl, hj⟩ := rng0_get hx
      dsimp only at g1 g2
      have bv := b3 (3 + 5 * (i : Int) + (j : Int)) (by omega) (by omega)
      fold_lay
      generalize gD ds (3 + 5 * (i : Int) + (j : Int)) = v at bv
      fold_lay
      generalize hw : cond _ (v / 7) v = v1
      have bv1 : 0 ≤ v1 ∧ v1 ≤ 9 := by rw [← hw, Bool.cond_eq_ite]; split <;> omega
      fold_lay
      generalize hw2 : cond _ (v1 / 5) v1 = v2
      have bv2 : 0 ≤ v2 ∧ v2 ≤ 9 := by rw [← hw2, Bool.cond_eq_ite]; split <;> omega
      fold_lay
      generalize hw3 : cond _ _ v2 = v3
      have bv3 : 0 ≤ v3 ∧ v3 ≤ 9 := by rw [← hw3, Bool.cond_eq_ite]; split <;> (try split) <;> omega
      fold_lay
      generalize hw4 : cond _ (v3 / 9) v3 = v4
      have bv4 : 0 ≤ v4 ∧ v4 ≤ 9 := by rw [← hw4, Bool.cond_eq_ite]; split <;> omega
      fold_lay
      fold_lay
      refine lp_nx ⟨(_, _, _), rfl, by simp; exact g1, fun u hu => ?_⟩
      rcases List.mem_append.mp hu with hu | hu
      · exact g2 u hu
      · simp at hu; omega
    · rintro ⟨row, p8, p9⟩ ⟨g1, g2⟩
      nest_room
      dsimp only at g1 g2
      fold_lay
      fold_lay
      refine lp_nx ⟨(_, _, _, _, _), rfl, by simp; exact h1, fun r hr => ?_, fun r hr => ?_⟩
      · rcases List.mem_append.mp hr with hr | hr
        · exact h2 r hr
        · simp at hr; rw [hr, g1, rng_length]; omega
      · rcases List.mem_append.mp hr with hr | hr
        · exact h3 r hr
        · simp at hr; rw [hr]; exact g2
  · rintro ⟨rows, o6, o7, o8, o9⟩ ⟨h1, h2, h3⟩
    nest_room
    dsimp only at h1 h2 h3
    fold_lay
    rw [rng_length] at h1
    exact ⟨c, rows, ⟨by omega, by omega, by omega, h2, h3⟩, rfl⟩
end
end Wt

/-! PureC: sums. -/
namespace Wt
open PySem
/-- a sum of n -/
def sm (f : Nat → Int) : Nat → Int
  | 0 => 0
  | n + 1 => sm f n + f n
theorem sm_congr {f g : Nat → Int} : ∀ {n : Nat}, (∀ k, k < n → f k = g k) → sm f n = sm g n
  | 0, _ => rfl
  | n + 1, h => by
    show sm f n + f n = sm g n + g n
    rw [sm_congr fun k hk => h k (by omega), h n (by omega)]
theorem sm_add {f g : Nat → Int} : ∀ {n : Nat}, sm (fun k => f k + g k) n = sm f n + sm g n
  | 0 => rfl
  | n + 1 => by
    show sm (fun k => f k + g k) n + (f n + g n) = sm f n + f n + (sm g n + g n)
    rw [sm_add]; omega
theorem sm_sub {f g : Nat → Int} : ∀ {n : Nat}, sm (fun k => f k - g k) n = sm f n - sm g n
  | 0 => rfl
  | n + 1 => by
    show sm (fun k => f k - g k) n + (f n - g n) = sm f n + f n - (sm g n + g n)
    rw [sm_sub]; omega
theorem sm_mul {f : Nat → Int} {c : Int} : ∀ {n : Nat}, sm (fun k => c * f k) n = c * sm f n
  | 0 => by show (0 : Int) = c * 0; rw [Int.mul_zero]
  | n + 1 => by
    show sm (fun k => c * f k) n + c * f n = c * (sm f n + f n)
    rw [sm_mul, Int.mul_add]
theorem sm_zero : ∀ {n : Nat}, sm (fun _ => 0) n = 0
  | 0 => rfl
  | n + 1 => by
    show sm (fun _ => 0) n + 0 = 0
    rw [sm_zero]; rfl
theorem sm_one {v : Int} {j : Int} : ∀ {n : Nat}, sm (fun k => if j = (k : Int) then v else 0) n = if 0 ≤ j ∧ j < n then v else 0
  | 0 => by
    rw [if_neg (by omega)]; rfl
  | n + 1 => by
    show sm (fun k => if j = (k : Int) then v else 0) n + (if j = (n : Int) then v else 0) = _
    rw [sm_one]
    by_cases h : j = n
    · rw [if_neg (by omega), if_pos h, if_pos (by omega)]; omega
    · rw [if_neg h]
      by_cases h2 : 0 ≤ j ∧ j < n
      · rw [if_pos h2, if_pos (by omega)]; omega
      · rw [if_neg h2, if_neg (by omega)]; omega
theorem sm_nn {f : Nat → Int} : ∀ {n : Nat}, (∀ k, k < n → 0 ≤ f k) → 0 ≤ sm f n
  | 0, _ => Int.le_refl 0
  | n + 1, h => by
    have := sm_nn (f := f) (n := n) fun k hk => h k (by omega)
    have := h n (by omega)
    show 0 ≤ sm f n + f n
    omega
theorem sm_le {f g : Nat → Int} : ∀ {n : Nat}, (∀ k, k < n → f k ≤ g k) → sm f n ≤ sm g n
  | 0, _ => Int.le_refl 0
  | n + 1, h => by
    have := sm_le (f := f) (g := g) (n := n) fun k hk => h k (by omega)
    have := h n (by omega)
    show sm f n + f n ≤ sm g n + g n
    omega
theorem sm_z {f : Nat → Int} : ∀ {n : Nat}, (∀ k, k < n → 0 ≤ f k) → sm f n = 0 → ∀ k, k < n → f k = 0
  | 0, _, _, k, hk => by omega
  | n + 1, h, h2, k, hk => by
    have a := sm_nn (f := f) (n := n) fun k hk => h k (by omega)
    have b := h n (by omega)
    have h2 : sm f n + f n = 0 := h2
    by_cases e : k = n
    · rw [e]; omega
    · have h3 : sm f n = 0 := by omega
      have hk3 : k < n := by omega
      exact sm_z (n := n) (fun k hk => h k (by omega)) h3 k hk3
theorem sum_take {xs : List Int} : ∀ n : Nat, n ≤ xs.length → (xs.take n).sum = sm (fun k => gD xs k) n
  | 0, _ => rfl
  | n + 1, h => by
    rw [List.take_add_one, get_gD (by omega), List.sum_append, sum_take n (by omega)]
    show _ + ([gD xs (n : Int)].sum) = sm (fun k => gD xs k) n + gD xs n
    rw [List.sum_cons, List.sum_nil, Int.add_zero]
theorem sum_sm (xs : List Int) : xs.sum = sm (fun k => gD xs k) xs.length := by
  rw [← sum_take xs.length (Nat.le_refl _), List.take_length]
theorem map_rng_sm {f : Int → Int} {c : Int} : ((rangeI 0 c).map f).sum = sm (fun k => f k) c.toNat := by
  rw [sum_sm, List.length_map, rng_length, Int.sub_zero]
  refine sm_congr fun k hk => ?_
  rw [gD_map (by omega) (by rw [rng_length]; omega), gD_rng (by omega) (by omega), Int.zero_add]
theorem rsum_all {c : Int} {r : List Int} (h : (r.length : Int) = c) : rsum (rangeI 0 c) r = r.sum := by
  unfold rsum
  rw [map_rng_sm, sum_sm r]
  rw [show c.toNat = r.length by omega]
theorem arr_all {c : Int} {rows : List (List Int)} (h : ∀ r ∈ rows, (r.length : Int) = c) : arr (rangeI 0 c) rows = rows.map List.sum := by
  unfold arr
  exact List.map_congr_left fun r hr => rsum_all (h r hr)
/-- the backlog behind the arrivals -/
theorem bk_after {as : List Int} : ∀ j : Nat, bk as (as.length + j) = if bk as as.length ≤ j then 0 else bk as as.length - j
  | 0 => by
    have := bk_nn as as.length
    split <;> simp <;> omega
  | j + 1 => by
    show (if bk as (as.length + j) + gD as ((as.length + j : Nat) : Int) - 1 < 0 then 0 else bk as (as.length + j) + gD as ((as.length + j : Nat) : Int) - 1) = _
    have : gD as ((as.length + j : Nat) : Int) = 0 := by
      unfold gD
      rw [List.getD_eq_getElem?_getD, List.getElem?_eq_none (by omega)]; rfl
    rw [this, bk_after j]
    have := bk_nn as as.length
    split <;> split <;> omega
theorem bk_le {as : List Int} (h : ∀ a ∈ as, 0 ≤ a) : ∀ i : Nat, i ≤ as.length → bk as i ≤ (as.take i).sum
  | 0, _ => Int.le_refl 0
  | i + 1, hi => by
    have ih := bk_le h i (by omega)
    have nn := bk_nn as i
    have := h (gD as i) (gD_mem (by omega) (by omega))
    rw [sum_take _ hi]
    rw [sum_take _ (by omega)] at ih
    show (if bk as i + gD as i - 1 < 0 then 0 else bk as i + gD as i - 1) ≤ sm (fun k => gD as k) i + gD as i
    split <;> omega
theorem gD_out {α : Type} [Inhabited α] {xs : List α} {k : Int} (h : xs.length ≤ k) : gD xs k = default := by
  unfold gD
  rw [List.getD_eq_getElem?_getD, List.getElem?_eq_none (by omega)]; rfl
/-! runs -/
/-- a schedule's entry -/
def oT : Option Int → T
  | none => .non
  | some k => .int k
/-- the arrivals of a class in a slot -/
def aA (rows : List (List Int)) (t : Nat) (k : Int) : Int := gD (gD rows t) k
/-- what waits behind t slots -/
def wv (rows : List (List Int)) (sc : List (Option Int)) : Nat → Int → Int
  | 0, _ => 0
  | t + 1, k => wv rows sc t k + aA rows t k - (if gD sc t = some k then 1 else 0)
/-- the waits so far: slots in which jobs are done minus slots in which they arrive -/
def wt (rows : List (List Int)) (sc : List (Option Int)) : Nat → Int → Int
  | 0, _ => 0
  | t + 1, k => wt rows sc t k - t * aA rows t k + (if gD sc t = some k then (t : Int) else 0)
/-- the entry of a slot is right -/
def okS (c : Int) (rows : List (List Int)) (sc : List (Option Int)) (t : Nat) : Prop :=
  match gD sc t with
  | some k => 0 ≤ k ∧ k < c ∧ 0 < wv rows sc t k + aA rows t k
  | none => ∀ k, 0 ≤ k → k < c → wv rows sc t k + aA rows t k = 0
/-- a run -/
structure IsRun (c : Int) (rows : List (List Int)) (sc : List (Option Int)) : Prop where
  len : (sc.length : Int) = runLen c rows
  ok : ∀ t : Nat, t < sc.length → okS c rows sc t
  fin : ∀ k, 0 ≤ k → k < c → wv rows sc sc.length k = 0
theorem wv_app {rows : List (List Int)} {sc tl : List (Option Int)} : ∀ {t : Nat} {k : Int}, t ≤ sc.length → wv rows (sc ++ tl) t k = wv rows sc t k
  | 0, k, _ => rfl
  | t + 1, k, h => by
    show wv rows (sc ++ tl) t k + aA rows t k - (if gD (sc ++ tl) t = some k then 1 else 0) = wv rows sc t k + aA rows t k - (if gD sc t = some k then 1 else 0)
    rw [wv_app (by omega), gD_app (by omega), if_pos (show ((t : Nat) : Int) < sc.length by omega)]
theorem wt_app {rows : List (List Int)} {sc tl : List (Option Int)} : ∀ {t : Nat} {k : Int}, t ≤ sc.length → wt rows (sc ++ tl) t k = wt rows sc t k
  | 0, k, _ => rfl
  | t + 1, k, h => by
    show wt rows (sc ++ tl) t k - t * aA rows t k + (if gD (sc ++ tl) t = some k then (t : Int) else 0) = wt rows sc t k - t * aA rows t k + (if gD sc t = some k then (t : Int) else 0)
    rw [wt_app (by omega), gD_app (by omega), if_pos (show ((t : Nat) : Int) < sc.length by omega)]
theorem gD_last {α : Type} [Inhabited α] {xs : List α} {x : α} : gD (xs ++ [x]) xs.length = x := by
  rw [gD_app (by omega), if_neg (by omega), Int.sub_self]; rfl
theorem okS_app {c : Int} {rows : List (List Int)} {sc tl : List (Option Int)} {t : Nat} (h : t < sc.length) : okS c rows (sc ++ tl) t ↔ okS c rows sc t := by
  unfold okS
  rw [gD_app (by omega), if_pos (show ((t : Nat) : Int) < sc.length by omega)]
  simp only [wv_app (Nat.le_of_lt h)]
end Wt

/-! PureD: the law's run. -/
namespace Wt
open PySem
def f_law_run_b59af8 : Fn := ⟨4, 12, [.asg 4 (.comp (.int 0) (.one 8) .rng [(.var 1)] []) false,
  .asg 5 (.comp (.int 0) (.one 8) .rng [(.var 1)] []) false,
  .asg 6 (.lst []) false,
  .forS (.one 7) .rng [(.bin .add (.blt .len [(.var 0)]) (.blt .sum [(.comp (.blt .sum [(.var 11)]) (.one 11) .seq [(.var 0)] [])]))] [.ifs (.cmp .lt (.var 7) (.blt .len [(.var 0)])) [.forS (.one 8) .rng [(.var 1)] [.setIx 4 (.var 8) (.bin .add (.ix (.var 4) (.var 8)) (.ix (.ix (.var 0) (.var 7)) (.var 8))) true, .setIx 5 (.var 8) (.bin .sub (.ix (.var 5) (.var 8)) (.bin .mul (.var 7) (.ix (.ix (.var 0) (.var 7)) (.var 8)))) true] [0, 0, 0, 0, 1, 1, 1, 0, 0, 0, 0, 0]] [], .ifs (.or (.cmp .lt (.var 7) (.blt .len [(.var 0)])) (.cmp .gt (.blt .sum [(.var 4)]) (.int 0))) [.asg 9 (.comp (.var 8) (.one 8) .seq [(.var 2)] [(.cmp .gt (.ix (.var 4) (.var 8)) (.int 0))]) false, .asg 10 .non false, .ifs (.cmp .gt (.blt .len [(.var 9)]) (.int 0)) [.asg 10 (.ix (.var 9) (.bin .mod (.blt .int [(.ix (.var 3) (.bin .mod (.blt .int [(.var 7)]) (.blt .len [(.var 3)])))]) (.blt .len [(.var 9)]))) true, .setIx 4 (.var 10) (.bin .sub (.ix (.var 4) (.var 10)) (.int 1)) true, .setIx 5 (.var 10) (.bin .add (.ix (.var 5) (.var 10)) (.var 7)) true] [], .app 6 (.var 10) false] []] [0, 0, 0, 0, 1, 1, 1, 0, 0, 0, 0, 0],
  .ret (.lst [(.var 6), (.var 5)])]⟩
local macro_rules | `(tactic| top_caught) => `(tactic| (simp only [args, List.map_cons, List.map_nil, List.getD_cons_zero, List.getD_cons_succ]; try exact rfl))
local macro_rules | `(tactic| fin_places) => `(tactic| first | exact tbl_0 (by first | assumption | rfl) | exact tbl_1 (by first | assumption | rfl))
local macro_rules | `(tactic| nest_room) => `(tactic| (dsimp only [bindTg, setAll, List.set, up, List.foldl, List.cons_append, List.nil_append]))
local macro_rules | `(tactic| fold_depth) => `(tactic| first | assumption | omega | ((simp only [List.length_map, List.length_append, List.length_set, List.length_cons, List.length_nil, List.length_zipIdx, List.length_zip, List.length_take, List.length_drop, List.length_replicate, rng_length]); omega) | grind)
local macro_rules | `(tactic| reads_via_all) => `(tactic| first | exact rfl | exact nl_I)
local macro_rules | `(tactic| leaf_len) => `(tactic| first | with_reducible exact w_seq | with_reducible exact w_seqU | ((with_reducible apply w_rng) <;> try fold_depth) | ((with_reducible apply w_rng2) <;> try fold_depth) | ((with_reducible apply w_rng3) <;> try fold_depth) | with_reducible exact w_enum | with_reducible exact w_enumU | with_reducible exact w_zip | with_reducible exact w_zip1 | with_reducible exact w_zip2 | with_reducible exact w_zip3 | with_reducible exact w_rev | with_reducible exact w_revU | with_reducible exact w_seqA)
local macro_rules | `(tactic| mem_news) => `(tactic| first
  | with_reducible exact t_len | with_reducible exact t_lenU | with_reducible exact t_sum | with_reducible exact t_sumU | with_reducible exact t_sort | with_reducible exact t_sortU
  | with_reducible exact t_rev | ((with_reducible apply t_min); assumption) | with_reducible exact t_any | with_reducible exact t_all
  | with_reducible exact t_eqL | with_reducible exact t_eqLL | with_reducible exact t_eqLU | with_reducible exact t_eqUU | with_reducible exact t_neLL | with_reducible exact t_eqU | with_reducible exact t_neL | with_reducible exact t_neU | with_reducible exact t_in | with_reducible exact t_inU | with_reducible exact t_notin | with_reducible exact t_notinU
  | ((with_reducible apply t_ixN) <;> try fold_depth) | ((with_reducible apply t_ixNU) <;> try fold_depth)
  | ((with_reducible apply t_ix) <;> try fold_depth) | ((with_reducible apply t_ixU) <;> try fold_depth)
  | ((with_reducible apply t_mul); first | exact rfl | exact mulOk64 (by fold_depth) | skip) | ((with_reducible apply t_div); first | exact divOk64 (by fold_depth) (by fold_depth) | skip) | ((with_reducible apply t_mod); try fold_depth)
  | ((with_reducible apply t_rep) <;> try fold_depth) | ((with_reducible apply t_addM); try fold_depth) | ((with_reducible apply t_addU); try fold_depth)
  | ((with_reducible apply t_rangeL) <;> try fold_depth) | ((with_reducible apply t_rangeT) <;> try fold_depth)
  | ((with_reducible apply t_slc) <;> try fold_depth) | ((with_reducible apply t_slcU) <;> try fold_depth) | ((with_reducible apply t_slcT); try fold_depth) | ((with_reducible apply t_slcTU); try fold_depth) | ((with_reducible apply t_slcF); try fold_depth) | ((with_reducible apply t_slcFU); try fold_depth)
  | with_reducible exact t_lt | with_reducible exact t_le | with_reducible exact t_gt | with_reducible exact t_ge | with_reducible exact t_eqI | with_reducible exact t_neI | with_reducible exact t_is1 | with_reducible exact t_is2 | with_reducible exact t_is3 | with_reducible exact t_is4 | with_reducible exact t_is5 | with_reducible exact t_is6
  | exact rfl)
local macro_rules | `(tactic| top_args) => `(tactic| first | with_reducible assumption | with_reducible exact isint_ok rfl | with_reducible exact isint_ok (by assumption) | apply_assumption (transparency := .reducible))
local macro_rules | `(tactic| nest_cls) => `(tactic| first
  | ((with_reducible apply v_var); exact rfl)
  | with_reducible exact v_int | with_reducible exact v_bl | with_reducible exact v_non | with_reducible exact v_str | with_reducible exact l_nil
  | ((with_reducible apply l_cons); (case' h1 => nest_cls); (case' h2 => nest_cls))
  | ((with_reducible apply v_bin); (case' h1 => nest_cls); (case' h2 => nest_cls); (case' h3 => mem_news))
  | ((with_reducible apply v_cmp); (case' h1 => nest_cls); (case' h2 => nest_cls); (case' h3 => mem_news))
  | ((with_reducible apply v_ix); (case' h1 => nest_cls); (case' h2 => nest_cls); (case' h3 => mem_news))
  | ((with_reducible apply v_fld); (case' h1 => nest_cls); (case' h2 => fin_places))
  | ((with_reducible apply v_blt1); (case' h1 => nest_cls); (case' h2 => mem_news))
  | ((with_reducible apply v_blt2); (case' h1 => nest_cls); (case' h2 => nest_cls); (case' h3 => mem_news))
  | ((with_reducible apply v_call0); (case' h1 => nest_cls); (case' h2 => top_args))
  | ((with_reducible apply v_not); nest_cls)
  | ((with_reducible apply v_neg); nest_cls)
  | ((with_reducible apply v_and); (case' h1 => nest_cls); (case' h2 => (intro _; nest_cls)))
  | ((with_reducible apply v_or); (case' h1 => nest_cls); (case' h2 => (intro _; nest_cls)))
  | ((with_reducible apply v_cmp2); (case' h1 => nest_cls); (case' h2 => nest_cls); (case' h3 => mem_news); (case' h4 => (intro _; nest_cls)); (case' h5 => (intro _; mem_news)))
  | ((with_reducible apply v_ite); (case' h1 => nest_cls); (case' h2 => (intro _; nest_cls)); (case' h3 => (intro _; nest_cls)); (case' h4 => pre_facts))
  | ((with_reducible apply v_rev); (case' h1 => nest_cls); (case' h2 => mem_news))
  | ((with_reducible apply v_tupI); units_room) | ((with_reducible apply v_tupU); units_room) | ((with_reducible apply v_tup); nest_cls)
  | with_reducible exact v_nil0 | with_reducible exact v_nilI
  | ((with_reducible apply v_lstI); units_room) | ((with_reducible apply v_lstL); units_room) | ((with_reducible apply v_lstU); units_room) | ((with_reducible apply v_lst); nest_cls)
  | ((with_reducible apply v_slice); (case' h1 => nest_cls); (case' h2 => nest_cls); (case' h3 => nest_cls); (case' h4 => mem_news))
  | with_reducible exact p_nil | ((with_reducible apply p_one); nest_cls)
  | ((with_reducible apply v_comp0); (case' h1 => nest_cls); (case' h2 => leaf_len); (case' h3 => (refine LIM_of ?_; try fold_depth)); (case' h4 => (intro _ _; nest_room; try exact rfl)); (case' h6 => (intro _ _; nest_cls)); (case' h7 => first | with_reducible exact m_id | with_reducible exact m_idL | with_reducible exact m_idU | with_reducible exact m_int | with_reducible exact m_lst | with_reducible exact m_tup | exact rfl))
  | ((with_reducible apply v_comp); (case' h1 => nest_cls); (case' h2 => leaf_len); (case' h3 => (refine LIM_of ?_; try fold_depth)); (case' h4 => (intro _ _; nest_room; try exact rfl)); (case' h5 => (intro _ _; nest_cls)); (case' h6 => (intro _ _ _; nest_cls)); (case' h7 => first | with_reducible exact m_id | with_reducible exact m_idL | with_reducible exact m_idU | with_reducible exact m_int | with_reducible exact m_lst | with_reducible exact m_tup | exact rfl))
  | ((with_reducible apply v_xisa); exact rfl) | ((with_reducible apply v_xfld); exact rfl)
  | ((with_reducible apply c_one); nest_cls)
  | ((with_reducible apply v_meth0); (case' h1 => nest_cls); (case' h2 => first | assumption | exact rfl); (case' h3 => nest_cls); (case' h5 => top_args))
  | ((with_reducible apply v_make0); (case' h1 => nest_cls); (case' h3 => top_args))
  | ((with_reducible apply v_meth); (case' h1 => nest_cls); (case' h2 => first | assumption | exact rfl); (case' h3 => nest_cls); (case' h4 => top_caught); (case' h5 => top_args))
  | ((with_reducible apply v_make); (case' h1 => nest_cls); (case' h2 => top_caught); (case' h3 => top_args))
  | ((with_reducible apply v_call); (case' h1 => nest_cls); (case' h2 => top_caught); (case' h3 => top_args)))
local macro_rules | `(tactic| units_room) => `(tactic| first
  | with_reducible exact l_nilM
  | ((with_reducible apply l_consI); (case' h1 => nest_cls); (case' h2 => units_room))
  | ((with_reducible apply l_consL); (case' h1 => nest_cls); (case' h2 => units_room))
  | ((with_reducible apply l_consU); (case' h1 => nest_cls); (case' h2 => units_room)))
local macro_rules | `(tactic| pre_facts) => `(tactic| first | with_reducible exact i_int | with_reducible exact i_lstI | with_reducible exact i_tupI | with_reducible exact i_bl | with_reducible exact i_lst | exact rfl)
local macro_rules | `(tactic| one_sign) => `(tactic| first | exact rfl | assumption | (simp only [*, decide_true, decide_false, Bool.not_true, Bool.not_false, Bool.or_false, Bool.or_true, Bool.and_true, Bool.and_false, Bool.true_and, Bool.false_and, Bool.true_or, Bool.false_or]; done))
local macro_rules | `(tactic| got_up) => `(tactic| first | with_reducible exact y_map | exact rfl)
local macro_rules | `(tactic| isplit) => `(tactic| first | exact rfl | exact wp_rt rfl | exact wp_out rfl | exact wp_nx rfl | exact wp_x rfl | exact wp_exc rfl | skip)
local macro_rules | `(tactic| fold_lay) => `(tactic| first
  | ((with_reducible apply b_asg); (case' h => nest_cls); (case' k => nest_room))
  | ((with_reducible apply b_asgG); (case' h => nest_cls); (case' hn => reads_via_all); (case' k => nest_room))
  | ((with_reducible apply b_ret); (case' h => nest_cls); (case' k => isplit))
  | ((with_reducible apply b_ifA); (case' h => nest_cls); (case' h1 => (intro _; nest_cls)); (case' h2 => exact rfl); (case' h3 => pre_facts); (case' k => nest_room))
  | ((with_reducible apply b_ifAG); (case' h => nest_cls); (case' h1 => (intro _; nest_cls)); (case' hn => reads_via_all); (case' h2 => exact rfl); (case' h3 => pre_facts); (case' k => nest_room))
  | ((with_reducible apply b_ifE); (case' h => nest_cls); (case' h1 => (intro _; nest_cls)); (case' h2 => (intro _; nest_cls)); (case' h3 => pre_facts); (case' k => nest_room))
  | ((with_reducible apply b_ifs); (case' h => nest_cls); (case' k => first | ((with_reducible apply k_F); (case' h => one_sign); (case' k => nest_room)) | ((with_reducible apply k_T); (case' h => one_sign); (case' k => nest_room)) | skip))
  | ((with_reducible apply b_app); (case' h => exact rfl); (case' h2 => nest_cls); (case' h3 => (refine LIM_lt ?_; try fold_depth)); (case' hy => got_up); (case' k => nest_room))
  | ((with_reducible apply b_appG); (case' h => exact rfl); (case' h2 => nest_cls); (case' hn => reads_via_all); (case' h3 => (refine LIM_lt ?_; try fold_depth)); (case' hy => got_up); (case' k => nest_room))
  | ((with_reducible apply b_par); (case' h => nest_cls); (case' h2 => (nest_room; try exact rfl)))
  | ((with_reducible apply b_asgT); (case' h => nest_cls); (case' h2 => (nest_room; try exact rfl)))
  | ((with_reducible apply b_aug); (case' h => exact rfl); (case' h2 => nest_cls); (case' h3 => mem_news); (case' k => nest_room))
  | ((with_reducible apply b_expr); (case' h => nest_cls))
  | ((with_reducible apply b_setIx); (case' h2 => nest_cls); (case' h => exact rfl); (case' h3 => nest_cls); (case' h4 => try fold_depth); (case' h5 => try fold_depth); (case' hy => first | with_reducible exact y_set | exact rfl); (case' k => nest_room))
  | ((with_reducible apply b_setIxG); (case' h2 => nest_cls); (case' hn => reads_via_all); (case' h => exact rfl); (case' h3 => nest_cls); (case' h4 => try fold_depth); (case' h5 => try fold_depth); (case' hy => first | with_reducible exact y_set | exact rfl); (case' k => nest_room))
  | ((with_reducible apply b_raise); (case' h => exact rfl); (case' h2 => nest_cls); (case' h3 => exact rfl); (case' k => isplit))
  | ((with_reducible apply b_clear); (case' h => exact rfl); (case' k => nest_room))
  | with_reducible apply b_doc | with_reducible apply b_pass | with_reducible apply b_cont | with_reducible apply b_brk | ((with_reducible apply b_retN); isplit)
  | ((with_reducible apply b_nil); isplit))
local macro_rules | `(tactic| one_place) => `(tactic| first
  | ((with_reducible apply v_call0X); (case' h1 => nest_cls); (case' h2 => top_args))
  | ((with_reducible apply v_meth0X); (case' h1 => nest_cls); (case' h2 => first | assumption | exact rfl); (case' h3 => nest_cls); (case' h5 => top_args))
  | ((with_reducible apply v_make0X); (case' h1 => nest_cls); (case' h3 => top_args))
  | ((with_reducible apply v_methX); (case' h1 => nest_cls); (case' h2 => first | assumption | exact rfl); (case' h3 => nest_cls); (case' h4 => top_caught); (case' h5 => top_args))
  | ((with_reducible apply v_makeX); (case' h1 => nest_cls); (case' h2 => top_caught); (case' h3 => top_args))
  | ((with_reducible apply v_call0L); one_place)
  | ((with_reducible apply v_lstX); one_place) | ((with_reducible apply v_tupX); one_place) | ((with_reducible apply v_blt1X); one_place)
  | ((with_reducible apply l_consX); one_place)
  | ((with_reducible apply l_consY); (case' h1 => nest_cls); (case' h2 => one_place)))
local macro_rules | `(tactic| one_item) => `(tactic| first
  | ((with_reducible apply b_retX); (case' h => one_place); (case' k => first | exact wp_x rfl | exact wp_exc rfl | skip))
  | ((with_reducible apply b_asgX); (case' h => one_place); (case' k => first | exact wp_x rfl | exact wp_exc rfl | skip))
  | ((with_reducible apply b_exprX); (case' h => one_place); (case' k => first | exact wp_x rfl | exact wp_exc rfl | skip)))
/-- what the law's run keeps -/
structure RunI (c : Int) (rows : List (List Int)) (ord picks : List Int) (i : Nat) (w ws : List Int) (sc : List (Option Int)) : Prop where
  wl : (w.length : Int) = c
  sl : (ws.length : Int) = c
  wk : ∀ k : Int, 0 ≤ k → k < c → gD w k = wv rows sc sc.length k
  sk : ∀ k : Int, 0 ≤ k → k < c → gD ws k = wt rows sc sc.length k
  nn : ∀ k : Int, 0 ≤ k → k < c → 0 ≤ wv rows sc sc.length k
  sm : w.sum = bk (rows.map List.sum) sc.length
  ln : sc.length = i ∨ (rows.length ≤ sc.length ∧ sc.length ≤ i ∧ w.sum = 0)
  lo : ∀ t : Nat, rows.length ≤ t → t < sc.length → 0 < bk (rows.map List.sum) t
  ok : ∀ t : Nat, t < sc.length → okS c rows sc t
  pr : picks = [0] → ∀ t : Nat, t < sc.length → gD sc t = (ord.filter fun k => decide (0 < wv rows sc t k + aA rows t k)).head?
/-- what the law's run answers -/
def RunQ (c : Int) (rows : List (List Int)) (ord picks : List Int) (q : R T) : Prop :=
  ∃ (sc : List (Option Int)) (ws : List Int), q = .ok (.lst [.lst (sc.map oT), .lst (tI ws)]) ∧ IsRun c rows sc ∧
      (ws.length : Int) = c ∧ (∀ k : Int, 0 ≤ k → k < c → gD ws k = wt rows sc sc.length k) ∧
      (picks = [0] → ∀ t : Nat, t < sc.length → gD sc t = (ord.filter fun k => decide (0 < wv rows sc t k + aA rows t k)).head?)
theorem aA_sum {c : Int} {rows : List (List Int)} (hc : 0 ≤ c) (hw : ∀ r ∈ rows, (r.length : Int) = c) (i : Nat) : sm (fun k => aA rows i k) c.toNat = gD (rows.map List.sum) i := by
  by_cases hi : i < rows.length
  · have hm := gD_mem (xs := rows) (k := i) (by omega) (by omega)
    rw [gD_map (by omega) (by omega), sum_sm, show (gD rows (i : Int)).length = c.toNat by have := hw _ hm; omega]
    rfl
  · rw [gD_out (xs := rows.map List.sum) (by rw [List.length_map]; omega)]
    refine (sm_congr (g := fun _ => 0) fun k _ => ?_).trans sm_zero
    unfold aA
    rw [gD_out (xs := rows) (by omega)]
    exact gD_out (by show (0 : Int) ≤ k; omega)
theorem sum_of {c : Int} {w : List Int} {f : Int → Int} (h : (w.length : Int) = c) (h2 : ∀ k : Int, 0 ≤ k → k < c → gD w k = f k) : w.sum = sm (fun k => f k) c.toNat := by
  rw [sum_sm, show w.length = c.toNat by omega]
  exact sm_congr fun k hk => h2 k (by omega) (by omega)
theorem wv_in {rows : List (List Int)} {sc : List (Option Int)} {o : Option Int} {k : Int} : wv rows (sc ++ [o]) (sc ++ [o]).length k = wv rows sc sc.length k + aA rows sc.length k - (if o = some k then 1 else 0) := by
  rw [List.length_append]
  show wv rows (sc ++ [o]) sc.length k + aA rows sc.length k - (if gD (sc ++ [o]) sc.length = some k then 1 else 0) = _
  rw [gD_last, wv_app (Nat.le_refl _)]
theorem wt_in {rows : List (List Int)} {sc : List (Option Int)} {o : Option Int} {k : Int} : wt rows (sc ++ [o]) (sc ++ [o]).length k = wt rows sc sc.length k - sc.length * aA rows sc.length k + (if o = some k then (sc.length : Int) else 0) := by
  rw [List.length_append]
  show wt rows (sc ++ [o]) sc.length k - sc.length * aA rows sc.length k + (if gD (sc ++ [o]) sc.length = some k then (sc.length : Int) else 0) = _
  rw [gD_last, wt_app (Nat.le_refl _)]
/-- a slot's entry may stand there -/
def okE (c : Int) (w : List Int) : Option Int → Prop
  | some k => 0 ≤ k ∧ k < c ∧ 0 < gD w k
  | none => ∀ k : Int, 0 ≤ k → k < c → gD w k = 0
theorem sum_bd {M : Int} : ∀ {xs : List Int}, (∀ x ∈ xs, 0 ≤ x ∧ x ≤ M) → 0 ≤ xs.sum ∧ xs.sum ≤ xs.length * M
  | [], _ => by simp
  | x :: xs, h => by
    have := sum_bd (xs := xs) fun y hy => h y (List.mem_cons_of_mem _ hy)
    have := h x List.mem_cons_self
    rw [List.sum_cons, List.length_cons]
    have e : ((xs.length + 1 : Nat) : Int) * M = xs.length * M + M := by rw [Int.natCast_add, Int.add_mul]; simp
    omega
theorem runI_step {c : Int} {rows : List (List Int)} {ord picks w ws w2 w3 ws3 : List Int} {sc : List (Option Int)} {i : Nat} {o : Option Int} (hc0 : 0 ≤ c) (hw : ∀ r ∈ rows, (r.length : Int) = c) (ha : ∀ k : Int, 0 ≤ k → k < c → 0 ≤ aA rows i k) (I : RunI c rows ord picks i w ws sc) (hl : sc.length = i)
    (hm : ∀ k ∈ ord, 0 ≤ k ∧ k < c)
    (l2 : (w2.length : Int) = c) (g2 : ∀ k : Int, 0 ≤ k → k < c → gD w2 k = gD w k + aA rows i k) (hlo : i < rows.length ∨ 0 < w2.sum)
    (l3 : (w3.length : Int) = c) (g3 : ∀ k : Int, 0 ≤ k → k < c → gD w3 k = gD w2 k - if o = some k then 1 else 0) (s3 : (ws3.length : Int) = c) (q3 : ∀ k : Int, 0 ≤ k → k < c → gD ws3 k = gD ws k - i * aA rows i k + if o = some k then (i : Int) else 0)
    (ho : okE c w2 o)
    (hp : picks = [0] → o = (ord.filter fun k => decide (0 < gD w2 k)).head?) : RunI c rows ord picks (i + 1) w3 ws3 (sc ++ [o]) := by
  have hg : ∀ k : Int, 0 ≤ k → k < c → gD w2 k = wv rows sc sc.length k + aA rows i k := fun k h0 h1 => by rw [g2 k h0 h1, I.wk k h0 h1]
  have hb : gD (sc ++ [o]) (i : Nat) = o := by rw [← hl]; exact gD_last
  have hsum : w2.sum = w.sum + gD (rows.map List.sum) i := by
    rw [sum_of l2 g2, sm_add, aA_sum hc0 hw, sum_of I.wl (f := fun k => gD w k) (fun _ _ _ => rfl)]
  have hsum3 : w3.sum = w2.sum - if o.isSome then 1 else 0 := by
    rw [sum_of l3 g3, sm_sub, sum_of l2 (f := fun k => gD w2 k) (fun _ _ _ => rfl)]
    congr 1
    cases o with
    | none => exact (sm_congr fun k _ => if_neg (by simp)).trans sm_zero
    | some v =>
      have := sm_one (v := 1) (j := v) (n := c.toNat)
      rw [if_pos (by have h1 := ho.1; have h2 := ho.2.1; omega)] at this
      refine (sm_congr fun k _ => ?_).trans this
      by_cases e : v = (k : Int)
      · rw [if_pos e, if_pos (by rw [e])]
      · rw [if_neg e, if_neg (by simpa using e)]
  have hnn : 0 ≤ w2.sum := by
    rw [sum_of l2 hg]
    exact sm_nn fun k hk => by have := I.nn k (by omega) (by omega); have := ha k (by omega) (by omega); omega
  refine ⟨l3, s3, fun k h0 h1 => ?_, fun k h0 h1 => ?_, fun k h0 h1 => ?_, ?_, .inl (by simp; exact hl), fun t h0 h1 => ?_, fun t h1 => ?_, fun h t h1 => ?_⟩
  · rw [wv_in, g3 k h0 h1, hg k h0 h1, hl]
  · rw [wt_in, q3 k h0 h1, I.sk k h0 h1, hl]
  · rw [wv_in]
    have e := hg k h0 h1
    rw [← hl] at e
    have a := ha k h0 h1
    rw [← hl] at a
    have b := I.nn k h0 h1
    by_cases hk : o = some k
    · rw [hk] at ho
      have := ho.2.2
      rw [if_pos hk]; omega
    · rw [if_neg hk]; omega
  · rw [List.length_append, hl]
    show _ = if bk (rows.map List.sum) i + gD (rows.map List.sum) i - 1 < 0 then 0 else bk (rows.map List.sum) i + gD (rows.map List.sum) i - 1
    have hs := I.sm
    rw [hl] at hs
    rw [← hs, ← hsum, hsum3]
    cases o with
    | none =>
      have : w2.sum = 0 := by rw [sum_of l2 ho]; exact sm_zero
      rw [this]; rfl
    | some v =>
      have h2 := ho.2.2
      have h3 := ho.1
      have h4 := ho.2.1
      have : 0 < w2.sum := by
        apply Classical.byContradiction
        intro z
        have hz : sm (fun k => gD w2 k) c.toNat = 0 := by rw [← sum_of l2 (f := fun k => gD w2 k) (fun _ _ _ => rfl)]; omega
        have := sm_z (n := c.toNat) (fun k hk => by
          have e := hg k (by omega) (by omega)
          have := I.nn k (by omega) (by omega); have := ha k (by omega) (by omega); show 0 ≤ gD w2 k; omega) hz v.toNat (by omega)
        have : gD w2 (v.toNat : Int) = 0 := this
        rw [Int.toNat_of_nonneg h3] at this
        omega
      show w2.sum - 1 = _
      rw [if_neg (by omega)]
  · by_cases h2 : t < sc.length
    · exact I.lo t h0 h2
    · have : t = i := by rw [List.length_append] at h1; simp at h1; omega
      subst this
      have h3 : 0 < w2.sum := by omega
      rw [hsum, gD_out (xs := rows.map List.sum) (by rw [List.length_map]; omega)] at h3
      have hs := I.sm
      rw [hl] at hs
      rw [← hs]
      exact (by simpa using h3)
  · by_cases h2 : t < sc.length
    · exact (okS_app h2).mpr (I.ok t h2)
    · have : t = i := by rw [List.length_append] at h1; simp at h1; omega
      subst this
      unfold okS
      rw [hb]
      cases o with
      | none =>
        intro k h0 h1
        have := ho k h0 h1
        rw [hg k h0 h1] at this
        rw [wv_app (by omega), ← hl, hl]
        rw [hl] at this
        exact this
      | some v =>
        refine ⟨ho.1, ho.2.1, ?_⟩
        have := ho.2.2
        rw [hg v ho.1 ho.2.1, hl] at this
        rw [wv_app (by omega)]
        exact this
  · by_cases h2 : t < sc.length
    · rw [gD_app (by omega), if_pos (by omega), I.pr h t h2]
      simp only [wv_app (Nat.le_of_lt h2)]
    · have : t = i := by rw [List.length_append] at h1; simp at h1; omega
      subst this
      rw [hb, hp h]
      congr 1
      refine List.filter_congr fun k hk => ?_
      obtain ⟨h0, h1⟩ := hm k hk
      rw [hg k h0 h1, wv_app (by omega), hl]
section
variable {P : Prog} {n : Nat}
theorem run_at {f : Nat} {c : Int} {rows : List (List Int)} {ord picks : List Int} (hf : P.fn f = some f_law_run_b59af8) (hc0 : 0 ≤ c) (hc : c ≤ 100) (hw : ∀ r ∈ rows, (r.length : Int) = c) (hl : rows.length ≤ 100) (hd : ∀ r ∈ rows, ∀ v ∈ r, 0 ≤ v ∧ v ≤ 100)
    (ho : ord.Perm (rangeI 0 c)) (hp : 0 < picks.length) (hp2 : picks.length ≤ 1000) :
    RunQ c rows ord picks (run P (n + 1) f [.lst (tL rows), .int c, .lst (tI ord), .lst (tI picks)]) := by
  have hol : ord.length = c.toNat := by rw [ho.length_eq, rng_length]; omega
  have hom : ∀ k ∈ ord, 0 ≤ k ∧ k < c := fun k hk => mem_rng.mp (ho.mem_iff.mp hk)
  have hS : 0 ≤ (rows.map List.sum).sum ∧ (rows.map List.sum).sum ≤ 1000000 := by
    have h := sum_bd (M := 10000) (xs := rows.map List.sum) fun x hx => by
      obtain ⟨r, hr, rfl⟩ := List.mem_map.mp hx
      have := sum_bd (M := 100) (xs := r) (hd r hr)
      have := hw r hr
      omega
    rw [List.length_map] at h
    omega
  refine run_wp (Q := RunQ c rows ord picks) hf rfl rfl ?_
  dsimp only [f_law_run_b59af8, start, List.map, List.length_cons, List.length_nil, Nat.reduceAdd, Nat.reduceSub, List.replicate, List.cons_append, List.nil_append]
  fold_lay
  fold_lay
  fold_lay
  refine b_for (σ := List Int × List Int × List (Option Int) × Option T × Option T × Option T × Option T) (fun s => [(4, some (.lst (tI s.1))), (5, some (.lst (tI s.2.1))), (6, some (.lst (s.2.2.1.map oT))), (7, s.2.2.2.1), (8, s.2.2.2.2.1), (9, s.2.2.2.2.2.1), (10, s.2.2.2.2.2.2)])
    (fun i s => RunI c rows ord picks i s.1 s.2.1 s.2.2.1) (List.map (fun k => 0) (rangeI 0 c), List.map (fun k => 0) (rangeI 0 c), [], none, none, none, none) (by nest_cls) (by leaf_len) rfl (by intro x s; nest_room) ?_ ?_ ?_
  · have hz : ∀ k : Int, 0 ≤ k → k < c → gD (List.map (fun k => (0 : Int)) (rangeI 0 c)) k = 0 := fun k h0 h1 => by rw [gD_map h0 (by rw [rng_length]; omega)]
    have hzl : (((List.map (fun k => (0 : Int)) (rangeI 0 c)).length : Nat) : Int) = c := by rw [List.length_map, rng_length]; omega
    exact ⟨hzl, hzl, hz, hz, fun k _ _ => Int.le_refl 0, by show _ = (0 : Int); rw [sum_of hzl hz]; exact sm_zero, .inl rfl, fun t _ h => absurd h (Nat.not_lt_zero _), fun t h => absurd h (Nat.not_lt_zero _), fun _ t h => absurd h (Nat.not_lt_zero _)⟩
  · rintro i x ⟨w, ws, sc, o7, o8, o9, o10⟩ hx hI
    obtain ⟨rfl, hi⟩ := rng0_get hx
    dsimp only at hI ⊢
    have h1 := hI.wl
    have h2 := hI.sl
    have ha : ∀ k : Int, 0 ≤ k → k < c → 0 ≤ aA rows i k := fun k h0 h1 => by
      unfold aA
      by_cases hi : i < rows.length
      · have hm := gD_mem (xs := rows) (k := i) (by omega) (by omega)
        exact (hd _ hm _ (gD_mem h0 (by rw [hw _ hm]; exact h1))).1
      · rw [gD_out (xs := rows) (by omega), show gD (default : List Int) k = 0 from gD_out (by show (0 : Int) ≤ k; omega)]; exact Int.le_refl 0
    nest_room
    refine b_ifU (σ := List Int × List Int × Option T) (fun s => [(4, some (.lst (tI s.1))), (5, some (.lst (tI s.2.1))), (8, s.2.2)]) (fun s => (s.1.length : Int) = c ∧ (s.2.1.length : Int) = c ∧ (∀ k : Int, 0 ≤ k → k < c → gD s.1 k = gD w k + aA rows i k) ∧ (∀ k : Int, 0 ≤ k → k < c → gD s.2.1 k = gD ws k - i * aA rows i k)) (by nest_cls) ?_ ?_ ?_
    · intro hc
      have hc : i < rows.length := by simpa using hc
      have hr := hw _ (gD_mem (xs := rows) (k := i) (by omega) (by omega))
      refine b_for (σ := List Int × List Int × Option T) (fun s => [(4, some (.lst (tI s.1))), (5, some (.lst (tI s.2.1))), (8, s.2.2)]) (fun j s => (s.1.length : Int) = c ∧ (s.2.1.length : Int) = c ∧ (∀ k : Int, 0 ≤ k → k < c → gD s.1 k = gD w k + if k < j then aA rows i k else 0) ∧ (∀ k : Int, 0 ≤ k → k < c → gD s.2.1 k = gD ws k - if k < j then i * aA rows i k else 0)) (w, ws, o8) (by nest_cls) (by leaf_len) rfl (by intro x s; nest_room) ?_ ?_ ?_
      · exact ⟨h1, h2, fun k h0 _ => by rw [if_neg (by omega)]; exact (Int.add_zero _).symm, fun k h0 _ => by rw [if_neg (by omega)]; exact (Int.sub_zero _).symm⟩
      · rintro j x ⟨w2, ws2, p8⟩ hx ⟨g1, g2, g3, g4⟩
        obtain ⟨rfl, hj⟩ := rng0_get hx
        dsimp only at g1 g2 g3 g4
        nest_room
        fold_lay
        fold_lay
        refine b_nil (lp_nx ⟨(_, _, _), rfl, by simp; exact g1, by simp; exact g2, fun k h0 h1 => ?_, fun k h0 h1 => ?_⟩)
        · show gD (List.set _ _ _) k = _
          rw [gD_set h0 (by omega)]
          by_cases e : k = j
          · rw [if_pos (by omega), if_pos (by omega), ← e, g3 k h0 h1, if_neg (by omega), Int.add_zero]; rfl
          · rw [if_neg (by omega), g3 k h0 h1]
            by_cases e2 : k < j
            · rw [if_pos e2, if_pos (by omega)]
            · rw [if_neg e2, if_neg (by omega)]
        · show gD (List.set _ _ _) k = _
          rw [gD_set h0 (by omega)]
          by_cases e : k = j
          · rw [if_pos (by omega), if_pos (by omega), ← e, g4 k h0 h1, if_neg (by omega), Int.sub_zero]; rfl
          · rw [if_neg (by omega), g4 k h0 h1]
            by_cases e2 : k < j
            · rw [if_pos e2, if_pos (by omega)]
            · rw [if_neg e2, if_neg (by omega)]
      · rintro ⟨w2, ws2, p8⟩ ⟨g1, g2, g3, g4⟩
        dsimp only at g1 g2 g3 g4
        rw [rng_length] at g3 g4
        nest_room
        refine b_nil ⟨(_, _, _), rfl, g1, g2, fun k h0 h1 => ?_, fun k h0 h1 => ?_⟩
        · rw [g3 k h0 h1, if_pos (by omega)]
        · rw [g4 k h0 h1, if_pos (by omega)]
    · intro hc
      have hc : rows.length ≤ i := by simpa using hc
      have h0 : ∀ k : Int, 0 ≤ k → aA rows i k = 0 := fun k h0 => by
        unfold aA
        rw [gD_out (xs := rows) (by omega)]
        exact gD_out (by show (0 : Int) ≤ k; omega)
      refine b_nil ⟨(w, ws, _), rfl, h1, h2, fun k h _ => ?_, fun k h _ => ?_⟩
      · rw [h0 k h]; exact (Int.add_zero _).symm
      · rw [h0 k h, Int.mul_zero]; exact (Int.sub_zero _).symm
    · rintro ⟨w2, ws2, p8⟩ ⟨g1, g2, g3, g4⟩
      dsimp only at g1 g2 g3 g4
      nest_room
      fold_lay
      have hw2 : w2.sum = w.sum + gD (rows.map List.sum) i := by
        rw [sum_of g1 g3, sm_add, aA_sum hc0 hw, sum_of h1 (f := fun k => gD w k) (fun _ _ _ => rfl)]
      refine k_split ?_ ?_ <;> intro hq <;> nest_room
      · have hlo : i < rows.length ∨ 0 < w2.sum := by simpa using hq
        have hlen : sc.length = i := by
          rcases hI.ln with h | ⟨h3, h4, h5⟩
          · exact h
          · rw [h5, gD_out (xs := rows.map List.sum) (by rw [List.length_map]; omega)] at hw2
            have hw2 : w2.sum = 0 := hw2
            omega
        fold_lay
        fold_lay
        fold_lay
        generalize hR : (ord.filter fun k => decide (0 < gD w2 k)) = R
        have hRl : R.length ≤ 1000 := by rw [← hR]; have := List.length_filter_le (fun k => decide (0 < gD w2 k)) ord; omega
        have hRm : ∀ k ∈ R, 0 ≤ k ∧ k < c ∧ 0 < gD w2 k := fun k hk => by
          rw [← hR] at hk
          obtain ⟨h3, h4⟩ := List.mem_filter.mp hk
          have := hom k h3
          simp at h4
          exact ⟨this.1, this.2, h4⟩
        refine k_split ?_ ?_ <;> intro hr <;> nest_room
        · have hr : 0 < R.length := by simpa using hr
          have hz0 := Int.emod_nonneg (i : Int) (b := (picks.length : Int)) (by omega)
          have hz1 := Int.emod_lt_of_pos (i : Int) (b := (picks.length : Int)) (by omega)
          generalize hP : gD picks ((i : Int) % (picks.length : Int)) = pk
          have hy0 := Int.emod_nonneg pk (b := (R.length : Int)) (by omega)
          have hy1 := Int.emod_lt_of_pos pk (b := (R.length : Int)) (by omega)
          fold_lay
          rw [hP]
          have hv := hRm _ (gD_mem hy0 hy1)
          have hvp : picks = [0] → some (gD R (pk % (R.length : Int))) = R.head? := fun e => by
            have : pk = 0 := by
              rw [← hP, e]
              show gD [0] ((i : Int) % ((1 : Nat) : Int)) = 0
              rw [show (i : Int) % ((1 : Nat) : Int) = 0 by omega]; rfl
            rw [this, Int.zero_emod]
            cases R with
            | nil => simp at hr
            | cons a R => rfl
          generalize gD R (pk % (R.length : Int)) = v at hv hvp
          fold_lay
          fold_lay
          refine b_app rfl (by nest_cls) (LIM_lt (by rw [List.length_map]; omega)) (ys := (sc ++ [some v]).map oT) (by rw [List.map_append]; rfl) ?_
          nest_room
          refine b_nil (lp_nx ⟨(w2.set v.toNat (gD w2 v - 1), ws2.set v.toNat (gD ws2 v + i), sc ++ [some v], _, _, _, _), rfl, ?_⟩)
          refine runI_step hc0 hw ha hI hlen hom g1 g3 hlo (by rw [List.length_set]; exact g1) (fun k h0 h1 => ?_) (by rw [List.length_set]; exact g2) (fun k h0 h1 => ?_) hv (fun e => by rw [hR]; exact hvp e)
          · rw [gD_set h0 (by omega)]
            by_cases e : k = v
            · rw [if_pos (by omega), if_pos (by rw [e]), e]
            · rw [if_neg (by omega), if_neg (by simp; omega), Int.sub_zero]
          · rw [gD_set h0 (by omega)]
            by_cases e : k = v
            · rw [if_pos (by omega), if_pos (by rw [e]), e, g4 v hv.1 hv.2.1]
            · rw [if_neg (by omega), if_neg (by simp; omega), Int.add_zero, g4 k h0 h1]
        · have hr : R = [] := by simp at hr; exact hr
          refine b_app rfl (by nest_cls) (LIM_lt (by rw [List.length_map]; omega)) (ys := (sc ++ [none]).map oT) (by rw [List.map_append]; rfl) ?_
          nest_room
          refine b_nil (lp_nx ⟨(w2, ws2, sc ++ [none], _, _, _, _), rfl, ?_⟩)
          refine runI_step hc0 hw ha hI hlen hom g1 g3 hlo g1 (fun k h0 h1 => by simp) g2 (fun k h0 h1 => by rw [g4 k h0 h1]; simp) (fun k h0 h1 => ?_) (fun e => by rw [hR, hr]; rfl)
          apply Classical.byContradiction
          intro z
          have h5 : 0 < gD w2 k := by
            have := ha k h0 h1; have h6 := hI.nn k h0 h1; have := g3 k h0 h1; rw [hI.wk k h0 h1] at this; omega
          have : k ∈ R := by rw [← hR]; exact List.mem_filter.mpr ⟨ho.mem_iff.mpr (mem_rng.mpr ⟨h0, h1⟩), by simpa using h5⟩
          rw [hr] at this
          cases this
      · have hq : rows.length ≤ i ∧ w2.sum ≤ 0 := by simpa using hq
        have e0 : gD (rows.map List.sum) i = 0 := gD_out (by rw [List.length_map]; omega)
        have nn := bk_nn (rows.map List.sum) sc.length
        have hsm := hI.sm
        have hz : ∀ k : Int, 0 ≤ k → k < c → aA rows i k = 0 := fun k h0 _ => by
          unfold aA
          rw [gD_out (xs := rows) (by omega)]
          exact gD_out (by show (0 : Int) ≤ k; omega)
        refine b_nil (lp_nx ⟨(_, _, sc, _, _, _, _), rfl, g1, g2, fun k h0 h1 => ?_, fun k h0 h1 => ?_, hI.nn, ?_, ?_, hI.lo, hI.ok, hI.pr⟩)
        · rw [g3 k h0 h1, hz k h0 h1, hI.wk k h0 h1, Int.add_zero]
        · rw [g4 k h0 h1, hz k h0 h1, hI.sk k h0 h1, Int.mul_zero, Int.sub_zero]
        · show w2.sum = bk (rows.map List.sum) sc.length
          omega
        · refine .inr ⟨?_, ?_, ?_⟩
          · show rows.length ≤ sc.length
            rcases hI.ln with h | h
            · omega
            · exact h.1
          · show sc.length ≤ i + 1
            rcases hI.ln with h | h
            · omega
            · omega
          · show w2.sum = 0
            omega
  · rintro ⟨w, ws, sc, o7, o8, o9, o10⟩ hI
    dsimp only at hI
    rw [rng_length, Int.sub_zero] at hI
    nest_room
    fold_lay
    have hA : arr (rangeI 0 c) rows = rows.map List.sum := arr_all hw
    have hml : (rows.map List.sum).length = rows.length := List.length_map ..
    have nn := bk_nn (rows.map List.sum) rows.length
    have hbl : bk (rows.map List.sum) rows.length ≤ (rows.map List.sum).sum := by
      have := bk_le (as := rows.map List.sum) (fun a ha => by
        obtain ⟨r, hr, rfl⟩ := List.mem_map.mp ha
        rw [sum_sm]
        exact sm_nn fun k hk => (hd r hr _ (gD_mem (by omega) (by omega))).1) rows.length (by omega)
      rwa [List.take_of_length_le (by omega)] at this
    have aft := fun j => bk_after (as := rows.map List.sum) j
    rw [hml] at aft
    have hle : rows.length ≤ sc.length := by
      rcases hI.ln with h | h
      · omega
      · exact h.1
    have hsm := hI.sm
    have h0 : w.sum = 0 := by
      rcases hI.ln with h | h
      · rw [hsm, h, show ((rows.length : Int) + (rows.map List.sum).sum).toNat = rows.length + (rows.map List.sum).sum.toNat by omega, aft]
        rw [if_pos (by omega)]
      · exact h.2.2
    have hlen : (sc.length : Int) = rows.length + bk (rows.map List.sum) rows.length := by
      have e := aft (sc.length - rows.length)
      rw [show rows.length + (sc.length - rows.length) = sc.length by omega, ← hsm, h0] at e
      have e1 : bk (rows.map List.sum) rows.length ≤ ((sc.length - rows.length : Nat) : Int) := by
        apply Classical.byContradiction
        intro z
        rw [if_neg z] at e
        omega
      by_cases q : rows.length < sc.length
      · have e2 := hI.lo (sc.length - 1) (by omega) (by omega)
        rw [show sc.length - 1 = rows.length + (sc.length - 1 - rows.length) by omega, aft] at e2
        have : ¬ bk (rows.map List.sum) rows.length ≤ ((sc.length - 1 - rows.length : Nat) : Int) := fun z => by rw [if_pos z] at e2; omega
        omega
      · omega
    refine ⟨sc, ws, rfl, ⟨by unfold runLen; rw [hA]; exact hlen, hI.ok, fun k h1 h2 => ?_⟩, hI.sl, hI.sk, hI.pr⟩
    rw [sum_of hI.wl hI.wk] at h0
    have := sm_z (n := c.toNat) (fun k hk => hI.nn k (by omega) (by omega)) h0 k.toNat (by omega)
    rwa [Int.toNat_of_nonneg h1] at this
end
end Wt

/-! PureE: the laws' small helpers. -/
namespace Wt
open PySem
local macro_rules | `(tactic| top_caught) => `(tactic| (simp only [args, List.map_cons, List.map_nil, List.getD_cons_zero, List.getD_cons_succ]; try exact rfl))
local macro_rules | `(tactic| fin_places) => `(tactic| first | exact tbl_0 (by first | assumption | rfl) | exact tbl_1 (by first | assumption | rfl))
local macro_rules | `(tactic| nest_room) => `(tactic| (dsimp only [bindTg, setAll, List.set, up, List.foldl, List.cons_append, List.nil_append]))
local macro_rules | `(tactic| fold_depth) => `(tactic| first | assumption | omega | ((simp only [List.length_map, List.length_append, List.length_set, List.length_cons, List.length_nil, List.length_zipIdx, List.length_zip, List.length_take, List.length_drop, List.length_replicate, rng_length]); omega) | grind)
local macro_rules | `(tactic| reads_via_all) => `(tactic| first | exact rfl | exact nl_I)
local macro_rules | `(tactic| leaf_len) => `(tactic| first | with_reducible exact w_seq | with_reducible exact w_seqU | ((with_reducible apply w_rng) <;> try fold_depth) | ((with_reducible apply w_rng2) <;> try fold_depth) | ((with_reducible apply w_rng3) <;> try fold_depth) | with_reducible exact w_enum | with_reducible exact w_enumU | with_reducible exact w_zip | with_reducible exact w_zip1 | with_reducible exact w_zip2 | with_reducible exact w_zip3 | with_reducible exact w_rev | with_reducible exact w_revU | with_reducible exact w_seqA)
local macro_rules | `(tactic| mem_news) => `(tactic| first
  | with_reducible exact t_len | with_reducible exact t_lenU | with_reducible exact t_sum | with_reducible exact t_sumU | with_reducible exact t_sort | with_reducible exact t_sortU
  | with_reducible exact t_rev | ((with_reducible apply t_min); assumption) | with_reducible exact t_any | with_reducible exact t_all
  | with_reducible exact t_eqL | with_reducible exact t_eqLL | with_reducible exact t_eqLU | with_reducible exact t_eqUU | with_reducible exact t_neLL | with_reducible exact t_eqU | with_reducible exact t_neL | with_reducible exact t_neU | with_reducible exact t_in | with_reducible exact t_inU | with_reducible exact t_notin | with_reducible exact t_notinU
  | ((with_reducible apply t_ixN) <;> try fold_depth) | ((with_reducible apply t_ixNU) <;> try fold_depth)
  | ((with_reducible apply t_ix) <;> try fold_depth) | ((with_reducible apply t_ixU) <;> try fold_depth)
  | ((with_reducible apply t_mul); first | exact rfl | exact mulOk64 (by fold_depth) | skip) | ((with_reducible apply t_div); first | exact divOk64 (by fold_depth) (by fold_depth) | skip) | ((with_reducible apply t_mod); try fold_depth)
  | ((with_reducible apply t_rep) <;> try fold_depth) | ((with_reducible apply t_addM); try fold_depth) | ((with_reducible apply t_addU); try fold_depth)
  | ((with_reducible apply t_rangeL) <;> try fold_depth) | ((with_reducible apply t_rangeT) <;> try fold_depth)
  | ((with_reducible apply t_slc) <;> try fold_depth) | ((with_reducible apply t_slcU) <;> try fold_depth) | ((with_reducible apply t_slcT); try fold_depth) | ((with_reducible apply t_slcTU); try fold_depth) | ((with_reducible apply t_slcF); try fold_depth) | ((with_reducible apply t_slcFU); try fold_depth)
  | with_reducible exact t_lt | with_reducible exact t_le | with_reducible exact t_gt | with_reducible exact t_ge | with_reducible exact t_eqI | with_reducible exact t_neI | with_reducible exact t_is1 | with_reducible exact t_is2 | with_reducible exact t_is3 | with_reducible exact t_is4 | with_reducible exact t_is5 | with_reducible exact t_is6
  | exact rfl)
local macro_rules | `(tactic| top_args) => `(tactic| first | with_reducible assumption | with_reducible exact isint_ok rfl | with_reducible exact isint_ok (by assumption) | apply_assumption (transparency := .reducible))
local macro_rules | `(tactic| nest_cls) => `(tactic| first
  | ((with_reducible apply v_var); exact rfl)
  | with_reducible exact v_int | with_reducible exact v_bl | with_reducible exact v_non | with_reducible exact v_str | with_reducible exact l_nil
  | ((with_reducible apply l_cons); (case' h1 => nest_cls); (case' h2 => nest_cls))
  | ((with_reducible apply v_bin); (case' h1 => nest_cls); (case' h2 => nest_cls); (case' h3 => mem_news))
  | ((with_reducible apply v_cmp); (case' h1 => nest_cls); (case' h2 => nest_cls); (case' h3 => mem_news))
  | ((with_reducible apply v_ix); (case' h1 => nest_cls); (case' h2 => nest_cls); (case' h3 => mem_news))
  | ((with_reducible apply v_fld); (case' h1 => nest_cls); (case' h2 => fin_places))
  | ((with_reducible apply v_blt1); (case' h1 => nest_cls); (case' h2 => mem_news))
  | ((with_reducible apply v_blt2); (case' h1 => nest_cls); (case' h2 => nest_cls); (case' h3 => mem_news))
  | ((with_reducible apply v_call0); (case' h1 => nest_cls); (case' h2 => top_args))
  | ((with_reducible apply v_not); nest_cls)
  | ((with_reducible apply v_neg); nest_cls)
  | ((with_reducible apply v_and); (case' h1 => nest_cls); (case' h2 => (intro _; nest_cls)))
  | ((with_reducible apply v_or); (case' h1 => nest_cls); (case' h2 => (intro _; nest_cls)))
  | ((with_reducible apply v_cmp2); (case' h1 => nest_cls); (case' h2 => nest_cls); (case' h3 => mem_news); (case' h4 => (intro _; nest_cls)); (case' h5 => (intro _; mem_news)))
  | ((with_reducible apply v_ite); (case' h1 => nest_cls); (case' h2 => (intro _; nest_cls)); (case' h3 => (intro _; nest_cls)); (case' h4 => pre_facts))
  | ((with_reducible apply v_rev); (case' h1 => nest_cls); (case' h2 => mem_news))
  | ((with_reducible apply v_tupI); units_room) | ((with_reducible apply v_tupU); units_room) | ((with_reducible apply v_tup); nest_cls)
  | with_reducible exact v_nil0 | with_reducible exact v_nilI
  | ((with_reducible apply v_lstI); units_room) | ((with_reducible apply v_lstL); units_room) | ((with_reducible apply v_lstU); units_room) | ((with_reducible apply v_lst); nest_cls)
  | ((with_reducible apply v_slice); (case' h1 => nest_cls); (case' h2 => nest_cls); (case' h3 => nest_cls); (case' h4 => mem_news))
  | with_reducible exact p_nil | ((with_reducible apply p_one); nest_cls)
  | ((with_reducible apply v_comp0); (case' h1 => nest_cls); (case' h2 => leaf_len); (case' h3 => (refine LIM_of ?_; try fold_depth)); (case' h4 => (intro _ _; nest_room; try exact rfl)); (case' h6 => (intro _ _; nest_cls)); (case' h7 => first | with_reducible exact m_id | with_reducible exact m_idL | with_reducible exact m_idU | with_reducible exact m_int | with_reducible exact m_lst | with_reducible exact m_tup | exact rfl))
  | ((with_reducible apply v_comp); (case' h1 => nest_cls); (case' h2 => leaf_len); (case' h3 => (refine LIM_of ?_; try fold_depth)); (case' h4 => (intro _ _; nest_room; try exact rfl)); (case' h5 => (intro _ _; nest_cls)); (case' h6 => (intro _ _ _; nest_cls)); (case' h7 => first | with_reducible exact m_id | with_reducible exact m_idL | with_reducible exact m_idU | with_reducible exact m_int | with_reducible exact m_lst | with_reducible exact m_tup | exact rfl))
  | ((with_reducible apply v_xisa); exact rfl) | ((with_reducible apply v_xfld); exact rfl)
  | ((with_reducible apply c_one); nest_cls)
  | ((with_reducible apply v_meth0); (case' h1 => nest_cls); (case' h2 => first | assumption | exact rfl); (case' h3 => nest_cls); (case' h5 => top_args))
  | ((with_reducible apply v_make0); (case' h1 => nest_cls); (case' h3 => top_args))
  | ((with_reducible apply v_meth); (case' h1 => nest_cls); (case' h2 => first | assumption | exact rfl); (case' h3 => nest_cls); (case' h4 => top_caught); (case' h5 => top_args))
  | ((with_reducible apply v_make); (case' h1 => nest_cls); (case' h2 => top_caught); (case' h3 => top_args))
  | ((with_reducible apply v_call); (case' h1 => nest_cls); (case' h2 => top_caught); (case' h3 => top_args)))
local macro_rules | `(tactic| units_room) => `(tactic| first
  | with_reducible exact l_nilM
  | ((with_reducible apply l_consI); (case' h1 => nest_cls); (case' h2 => units_room))
  | ((with_reducible apply l_consL); (case' h1 => nest_cls); (case' h2 => units_room))
  | ((with_reducible apply l_consU); (case' h1 => nest_cls); (case' h2 => units_room)))
local macro_rules | `(tactic| pre_facts) => `(tactic| first | with_reducible exact i_int | with_reducible exact i_lstI | with_reducible exact i_tupI | with_reducible exact i_bl | with_reducible exact i_lst | exact rfl)
local macro_rules | `(tactic| one_sign) => `(tactic| first | exact rfl | assumption | (simp only [*, decide_true, decide_false, Bool.not_true, Bool.not_false, Bool.or_false, Bool.or_true, Bool.and_true, Bool.and_false, Bool.true_and, Bool.false_and, Bool.true_or, Bool.false_or]; done))
local macro_rules | `(tactic| got_up) => `(tactic| first | with_reducible exact y_map | exact rfl)
local macro_rules | `(tactic| isplit) => `(tactic| first | exact rfl | exact wp_rt rfl | exact wp_out rfl | exact wp_nx rfl | exact wp_x rfl | exact wp_exc rfl | skip)
local macro_rules | `(tactic| fold_lay) => `(tactic| first
  | ((with_reducible apply b_asg); (case' h => nest_cls); (case' k => nest_room))
  | ((with_reducible apply b_asgG); (case' h => nest_cls); (case' hn => reads_via_all); (case' k => nest_room))
  | ((with_reducible apply b_ret); (case' h => nest_cls); (case' k => isplit))
  | ((with_reducible apply b_ifA); (case' h => nest_cls); (case' h1 => (intro _; nest_cls)); (case' h2 => exact rfl); (case' h3 => pre_facts); (case' k => nest_room))
  | ((with_reducible apply b_ifAG); (case' h => nest_cls); (case' h1 => (intro _; nest_cls)); (case' hn => reads_via_all); (case' h2 => exact rfl); (case' h3 => pre_facts); (case' k => nest_room))
  | ((with_reducible apply b_ifE); (case' h => nest_cls); (case' h1 => (intro _; nest_cls)); (case' h2 => (intro _; nest_cls)); (case' h3 => pre_facts); (case' k => nest_room))
  | ((with_reducible apply b_ifs); (case' h => nest_cls); (case' k => first | ((with_reducible apply k_F); (case' h => one_sign); (case' k => nest_room)) | ((with_reducible apply k_T); (case' h => one_sign); (case' k => nest_room)) | skip))
  | ((with_reducible apply b_app); (case' h => exact rfl); (case' h2 => nest_cls); (case' h3 => (refine LIM_lt ?_; try fold_depth)); (case' hy => got_up); (case' k => nest_room))
  | ((with_reducible apply b_appG); (case' h => exact rfl); (case' h2 => nest_cls); (case' hn => reads_via_all); (case' h3 => (refine LIM_lt ?_; try fold_depth)); (case' hy => got_up); (case' k => nest_room))
  | ((with_reducible apply b_par); (case' h => nest_cls); (case' h2 => (nest_room; try exact rfl)))
  | ((with_reducible apply b_asgT); (case' h => nest_cls); (case' h2 => (nest_room; try exact rfl)))
  | ((with_reducible apply b_aug); (case' h => exact rfl); (case' h2 => nest_cls); (case' h3 => mem_news); (case' k => nest_room))
  | ((with_reducible apply b_expr); (case' h => nest_cls))
  | ((with_reducible apply b_setIx); (case' h2 => nest_cls); (case' h => exact rfl); (case' h3 => nest_cls); (case' h4 => try fold_depth); (case' h5 => try fold_depth); (case' hy => first | with_reducible exact y_set | exact rfl); (case' k => nest_room))
  | ((with_reducible apply b_setIxG); (case' h2 => nest_cls); (case' hn => reads_via_all); (case' h => exact rfl); (case' h3 => nest_cls); (case' h4 => try fold_depth); (case' h5 => try fold_depth); (case' hy => first | with_reducible exact y_set | exact rfl); (case' k => nest_room))
  | ((with_reducible apply b_raise); (case' h => exact rfl); (case' h2 => nest_cls); (case' h3 => exact rfl); (case' k => isplit))
  | ((with_reducible apply b_clear); (case' h => exact rfl); (case' k => nest_room))
  | with_reducible apply b_doc | with_reducible apply b_pass | with_reducible apply b_cont | with_reducible apply b_brk | ((with_reducible apply b_retN); isplit)
  | ((with_reducible apply b_nil); isplit))
local macro_rules | `(tactic| one_place) => `(tactic| first
  | ((with_reducible apply v_call0X); (case' h1 => nest_cls); (case' h2 => top_args))
  | ((with_reducible apply v_meth0X); (case' h1 => nest_cls); (case' h2 => first | assumption | exact rfl); (case' h3 => nest_cls); (case' h5 => top_args))
  | ((with_reducible apply v_make0X); (case' h1 => nest_cls); (case' h3 => top_args))
  | ((with_reducible apply v_methX); (case' h1 => nest_cls); (case' h2 => first | assumption | exact rfl); (case' h3 => nest_cls); (case' h4 => top_caught); (case' h5 => top_args))
  | ((with_reducible apply v_makeX); (case' h1 => nest_cls); (case' h2 => top_caught); (case' h3 => top_args))
  | ((with_reducible apply v_call0L); one_place)
  | ((with_reducible apply v_lstX); one_place) | ((with_reducible apply v_tupX); one_place) | ((with_reducible apply v_blt1X); one_place)
  | ((with_reducible apply l_consX); one_place)
  | ((with_reducible apply l_consY); (case' h1 => nest_cls); (case' h2 => one_place)))
local macro_rules | `(tactic| one_item) => `(tactic| first
  | ((with_reducible apply b_retX); (case' h => one_place); (case' k => first | exact wp_x rfl | exact wp_exc rfl | skip))
  | ((with_reducible apply b_asgX); (case' h => one_place); (case' k => first | exact wp_x rfl | exact wp_exc rfl | skip))
  | ((with_reducible apply b_exprX); (case' h => one_place); (case' k => first | exact wp_x rfl | exact wp_exc rfl | skip)))
section
variable {P : Prog} {n : Nat}
theorem cell_at {ns : List Int} {k : Int} (h : P.fn 5 = some cellF) (hk : 0 ≤ k) : ∃ v : Int, run P (n + 1) 5 [.scr ns, .int k] = .ok (.int v) := by
  have := cell_ok (P := P) (n := n) (f := 5) (ns := ns) (k := k.toNat) h
  rw [Int.toNat_of_nonneg hk] at this
  exact ⟨_, this⟩
theorem up_rng {c : Int} : upTo c.toNat = rangeI 0 c := by
  unfold upTo rangeI
  rw [Int.sub_zero, ← List.range_eq_range']
  exact List.map_congr_left fun k _ => (Int.zero_add _).symm
theorem order_at {ps : List Int} {c : Int} (h : P.fn 12 = some f_law_order_084f70) (h0 : 0 ≤ c) (hp : c ≤ ps.length) (hc : c ≤ 1000) : ∃ os : List Int, os.Perm (rangeI 0 c) ∧ run P (n + 1) 12 [.lst (tI ps), .int c] = .ok (.lst (tI os)) := by
  obtain ⟨os, h1, h2⟩ := order_ok (P := P) (n := n) (f := 12) (c := c.toNat) (ps := ps) h (by omega) (by omega)
  rw [Int.toNat_of_nonneg h0] at h2
  rw [up_rng] at h1
  exact ⟨os, h1, h2⟩
def f_law_kept_888cbe : Fn := ⟨2, 3, [.ifs (.or (.not (.blt (.isa .tuple) [(.fld (.var 0) 1)])) (.cmp .ne (.blt .len [(.fld (.var 0) 1)]) (.blt .len [(.var 1)]))) [.ret (.bl false)] [],
  .forS (.one 2) .rng [(.blt .len [(.var 1)])] [.ifs (.not (.call 11 [(.ix (.fld (.var 0) 1) (.var 2)), (.ix (.var 1) (.var 2))] [])) [.ret (.bl false)] []] [0, 0, 0],
  .ret (.bl true)]⟩
theorem kept_at {f : Nat} {c : Int} {rows : List (List Int)} (hf : P.fn f = some f_law_kept_888cbe) (hi : (P.ini 15).isSome = true) (h3 : P.fn 3 = some f_law_is_integer_8a6384) (h11 : P.fn 11 = some f_law_is_tuple_1ddc4d) (hl : rows.length ≤ 1000) (hw : ∀ r ∈ rows, (r.length : Int) ≤ 1000) :
    run P (n + 3) f [tbl c rows, .lst (tL rows)] = .ok (.bl true) := by
  refine run_ok hf rfl rfl ?_
  dsimp only [f_law_kept_888cbe, start, List.map, List.length_cons, List.length_nil, Nat.reduceAdd, Nat.reduceSub, List.replicate, List.cons_append, List.nil_append]
  fold_lay
  refine b_for (σ := Option T) (fun o => [(2, o)]) (fun i _ => True) none (by nest_cls) (by leaf_len) rfl (by intro x s; nest_room) trivial ?_ ?_
  · intro i x s hx hI
    obtain ⟨rfl, hi⟩ := rng0_get hx
    have hr := hw _ (gD_mem (xs := rows) (k := i) (by omega) (by omega))
    have ht := istuple_ok (P := P) (n := n) (f := 11) (xs := gD rows i) (ys := gD rows i) h11 h3 (by omega)
    rw [decide_eq_true rfl] at ht
    fold_lay
    exact b_nil (lp_nx ⟨_, rfl, trivial⟩)
  · intro s hI
    nest_room
    fold_lay
theorem mkT_L {c : Int} {rows : List (List Int)} (hP : P.ini 15 = some n_Table0) (hr : tabOk c rows) (hl : rows.length ≤ 1000) (hc : c ≤ 1000) : make P (n + 1) 15 [.int c, .lst (tL rows)] = .ok (tbl c rows) := make_tab (b := true) hP hr hl hc
theorem mkT_U {c : Int} {rows : List (List Int)} (hP : P.ini 15 = some n_Table0) (hr : tabOk c rows) (hl : rows.length ≤ 1000) (hc : c ≤ 1000) : make P (n + 1) 15 [.int c, .lst (tU rows)] = .ok (tbl c rows) := make_tab (b := false) hP hr hl hc
theorem TabD.ok {c : Int} {rows : List (List Int)} (D : TabD c rows) : tabOk c rows := fun r hr => ⟨D.w r hr, fun v hv => (D.d r hr v hv).1⟩
theorem bk_pre {as bs : List Int} : ∀ {i : Nat}, i ≤ as.length → bk (as ++ bs) i = bk as i
  | 0, _ => rfl
  | i + 1, h => by
    show (if bk (as ++ bs) i + gD (as ++ bs) i - 1 < 0 then 0 else bk (as ++ bs) i + gD (as ++ bs) i - 1) = if bk as i + gD as i - 1 < 0 then 0 else bk as i + gD as i - 1
    rw [bk_pre (by omega), gD_app (by omega), if_pos (show ((i : Nat) : Int) < as.length by omega)]
theorem runLen_nil {c : Int} : runLen c [] = 0 := rfl
theorem runLen_row {c : Int} {rows : List (List Int)} {z : List Int} (hw : ∀ r ∈ rows, (r.length : Int) = c) (hz : (z.length : Int) = c) (h0 : z.sum = 0) : runLen c (rows ++ [z]) = if runLen c rows < rows.length + 1 then (rows.length : Int) + 1 else runLen c rows := by
  have hw2 : ∀ r ∈ rows ++ [z], (r.length : Int) = c := fun r hr => by
    rcases List.mem_append.mp hr with h | h
    · exact hw r h
    · simp at h; rw [h]; exact hz
  unfold runLen
  rw [arr_all hw, arr_all hw2, List.map_append, List.length_append]
  have hl : (rows.map List.sum).length = rows.length := List.length_map ..
  show ((rows.length + 1 : Nat) : Int) + (if bk (rows.map List.sum ++ [z].map List.sum) rows.length + gD (rows.map List.sum ++ [z].map List.sum) rows.length - 1 < 0 then 0 else bk (rows.map List.sum ++ [z].map List.sum) rows.length + gD (rows.map List.sum ++ [z].map List.sum) rows.length - 1) = _
  have e : gD (rows.map List.sum ++ [z].map List.sum) rows.length = 0 := by
    rw [← hl, ← h0]; exact gD_last
  rw [e, bk_pre (by omega)]
  have := bk_nn (rows.map List.sum) rows.length
  split <;> split <;> omega
end
end Wt

/-! PureF: groups drawn, a run's length by a walk. -/
namespace Wt
open PySem
local macro_rules | `(tactic| top_caught) => `(tactic| (simp only [args, List.map_cons, List.map_nil, List.getD_cons_zero, List.getD_cons_succ]; try exact rfl))
local macro_rules | `(tactic| fin_places) => `(tactic| first | exact tbl_0 (by first | assumption | rfl) | exact tbl_1 (by first | assumption | rfl))
local macro_rules | `(tactic| nest_room) => `(tactic| (dsimp only [bindTg, setAll, List.set, up, List.foldl, List.cons_append, List.nil_append]))
local macro_rules | `(tactic| fold_depth) => `(tactic| first | assumption | omega | ((simp only [List.length_map, List.length_append, List.length_set, List.length_cons, List.length_nil, List.length_zipIdx, List.length_zip, List.length_take, List.length_drop, List.length_replicate, rng_length]); omega) | grind)
local macro_rules | `(tactic| reads_via_all) => `(tactic| first | exact rfl | exact nl_I)
local macro_rules | `(tactic| leaf_len) => `(tactic| first | with_reducible exact w_seq | with_reducible exact w_seqU | ((with_reducible apply w_rng) <;> try fold_depth) | ((with_reducible apply w_rng2) <;> try fold_depth) | ((with_reducible apply w_rng3) <;> try fold_depth) | with_reducible exact w_enum | with_reducible exact w_enumU | with_reducible exact w_zip | with_reducible exact w_zip1 | with_reducible exact w_zip2 | with_reducible exact w_zip3 | with_reducible exact w_rev | with_reducible exact w_revU | with_reducible exact w_seqA)
local macro_rules | `(tactic| mem_news) => `(tactic| first
  | with_reducible exact t_len | with_reducible exact t_lenU | with_reducible exact t_sum | with_reducible exact t_sumU | with_reducible exact t_sort | with_reducible exact t_sortU
  | with_reducible exact t_rev | ((with_reducible apply t_min); assumption) | with_reducible exact t_any | with_reducible exact t_all
  | with_reducible exact t_eqL | with_reducible exact t_eqLL | with_reducible exact t_eqLU | with_reducible exact t_eqUU | with_reducible exact t_neLL | with_reducible exact t_eqU | with_reducible exact t_neL | with_reducible exact t_neU | with_reducible exact t_in | with_reducible exact t_inU | with_reducible exact t_notin | with_reducible exact t_notinU
  | ((with_reducible apply t_ixN) <;> try fold_depth) | ((with_reducible apply t_ixNU) <;> try fold_depth)
  | ((with_reducible apply t_ix) <;> try fold_depth) | ((with_reducible apply t_ixU) <;> try fold_depth)
  | ((with_reducible apply t_mul); first | exact rfl | exact mulOk64 (by fold_depth) | skip) | ((with_reducible apply t_div); first | exact divOk64 (by fold_depth) (by fold_depth) | skip) | ((with_reducible apply t_mod); try fold_depth)
  | ((with_reducible apply t_rep) <;> try fold_depth) | ((with_reducible apply t_addM); try fold_depth) | ((with_reducible apply t_addU); try fold_depth)
  | ((with_reducible apply t_rangeL) <;> try fold_depth) | ((with_reducible apply t_rangeT) <;> try fold_depth)
  | ((with_reducible apply t_slc) <;> try fold_depth) | ((with_reducible apply t_slcU) <;> try fold_depth) | ((with_reducible apply t_slcT); try fold_depth) | ((with_reducible apply t_slcTU); try fold_depth) | ((with_reducible apply t_slcF); try fold_depth) | ((with_reducible apply t_slcFU); try fold_depth)
  | with_reducible exact t_lt | with_reducible exact t_le | with_reducible exact t_gt | with_reducible exact t_ge | with_reducible exact t_eqI | with_reducible exact t_neI | with_reducible exact t_is1 | with_reducible exact t_is2 | with_reducible exact t_is3 | with_reducible exact t_is4 | with_reducible exact t_is5 | with_reducible exact t_is6
  | exact rfl)
local macro_rules | `(tactic| top_args) => `(tactic| first | with_reducible assumption | with_reducible exact isint_ok rfl | with_reducible exact isint_ok (by assumption) | apply_assumption (transparency := .reducible))
local macro_rules | `(tactic| nest_cls) => `(tactic| first
  | ((with_reducible apply v_var); exact rfl)
  | with_reducible exact v_int | with_reducible exact v_bl | with_reducible exact v_non | with_reducible exact v_str | with_reducible exact l_nil
  | ((with_reducible apply l_cons); (case' h1 => nest_cls); (case' h2 => nest_cls))
  | ((with_reducible apply v_bin); (case' h1 => nest_cls); (case' h2 => nest_cls); (case' h3 => mem_news))
  | ((with_reducible apply v_cmp); (case' h1 => nest_cls); (case' h2 => nest_cls); (case' h3 => mem_news))
  | ((with_reducible apply v_ix); (case' h1 => nest_cls); (case' h2 => nest_cls); (case' h3 => mem_news))
  | ((with_reducible apply v_fld); (case' h1 => nest_cls); (case' h2 => fin_places))
  | ((with_reducible apply v_blt1); (case' h1 => nest_cls); (case' h2 => mem_news))
  | ((with_reducible apply v_blt2); (case' h1 => nest_cls); (case' h2 => nest_cls); (case' h3 => mem_news))
  | ((with_reducible apply v_call0); (case' h1 => nest_cls); (case' h2 => top_args))
  | ((with_reducible apply v_not); nest_cls)
  | ((with_reducible apply v_neg); nest_cls)
  | ((with_reducible apply v_and); (case' h1 => nest_cls); (case' h2 => (intro _; nest_cls)))
  | ((with_reducible apply v_or); (case' h1 => nest_cls); (case' h2 => (intro _; nest_cls)))
  | ((with_reducible apply v_cmp2); (case' h1 => nest_cls); (case' h2 => nest_cls); (case' h3 => mem_news); (case' h4 => (intro _; nest_cls)); (case' h5 => (intro _; mem_news)))
  | ((with_reducible apply v_ite); (case' h1 => nest_cls); (case' h2 => (intro _; nest_cls)); (case' h3 => (intro _; nest_cls)); (case' h4 => pre_facts))
  | ((with_reducible apply v_rev); (case' h1 => nest_cls); (case' h2 => mem_news))
  | ((with_reducible apply v_tupI); units_room) | ((with_reducible apply v_tupU); units_room) | ((with_reducible apply v_tup); nest_cls)
  | with_reducible exact v_nil0 | with_reducible exact v_nilI
  | ((with_reducible apply v_lstI); units_room) | ((with_reducible apply v_lstL); units_room) | ((with_reducible apply v_lstU); units_room) | ((with_reducible apply v_lst); nest_cls)
  | ((with_reducible apply v_slice); (case' h1 => nest_cls); (case' h2 => nest_cls); (case' h3 => nest_cls); (case' h4 => mem_news))
  | with_reducible exact p_nil | ((with_reducible apply p_one); nest_cls)
  | ((with_reducible apply v_comp0); (case' h1 => nest_cls); (case' h2 => leaf_len); (case' h3 => (refine LIM_of ?_; try fold_depth)); (case' h4 => (intro _ _; nest_room; try exact rfl)); (case' h6 => (intro _ _; nest_cls)); (case' h7 => first | with_reducible exact m_id | with_reducible exact m_idL | with_reducible exact m_idU | with_reducible exact m_int | with_reducible exact m_lst | with_reducible exact m_tup | exact rfl))
  | ((with_reducible apply v_comp); (case' h1 => nest_cls); (case' h2 => leaf_len); (case' h3 => (refine LIM_of ?_; try fold_depth)); (case' h4 => (intro _ _; nest_room; try exact rfl)); (case' h5 => (intro _ _; nest_cls)); (case' h6 => (intro _ _ _; nest_cls)); (case' h7 => first | with_reducible exact m_id | with_reducible exact m_idL | with_reducible exact m_idU | with_reducible exact m_int | with_reducible exact m_lst | with_reducible exact m_tup | exact rfl))
  | ((with_reducible apply v_xisa); exact rfl) | ((with_reducible apply v_xfld); exact rfl)
  | ((with_reducible apply c_one); nest_cls)
  | ((with_reducible apply v_meth0); (case' h1 => nest_cls); (case' h2 => first | assumption | exact rfl); (case' h3 => nest_cls); (case' h5 => top_args))
  | ((with_reducible apply v_make0); (case' h1 => nest_cls); (case' h3 => top_args))
  | ((with_reducible apply v_meth); (case' h1 => nest_cls); (case' h2 => first | assumption | exact rfl); (case' h3 => nest_cls); (case' h4 => top_caught); (case' h5 => top_args))
  | ((with_reducible apply v_make); (case' h1 => nest_cls); (case' h2 => top_caught); (case' h3 => top_args))
  | ((with_reducible apply v_call); (case' h1 => nest_cls); (case' h2 => top_caught); (case' h3 => top_args)))
local macro_rules | `(tactic| units_room) => `(tactic| first
  | with_reducible exact l_nilM
  | ((with_reducible apply l_consI); (case' h1 => nest_cls); (case' h2 => units_room))
  | ((with_reducible apply l_consL); (case' h1 => nest_cls); (case' h2 => units_room))
  | ((with_reducible apply l_consU); (case' h1 => nest_cls); (case' h2 => units_room)))
local macro_rules | `(tactic| pre_facts) => `(tactic| first | with_reducible exact i_int | with_reducible exact i_lstI | with_reducible exact i_tupI | with_reducible exact i_bl | with_reducible exact i_lst | exact rfl)
local macro_rules | `(tactic| one_sign) => `(tactic| first | exact rfl | assumption | (simp only [*, decide_true, decide_false, Bool.not_true, Bool.not_false, Bool.or_false, Bool.or_true, Bool.and_true, Bool.and_false, Bool.true_and, Bool.false_and, Bool.true_or, Bool.false_or]; done))
local macro_rules | `(tactic| got_up) => `(tactic| first | with_reducible exact y_map | exact rfl)
local macro_rules | `(tactic| isplit) => `(tactic| first | exact rfl | exact wp_rt rfl | exact wp_out rfl | exact wp_nx rfl | exact wp_x rfl | exact wp_exc rfl | skip)
local macro_rules | `(tactic| fold_lay) => `(tactic| first
  | ((with_reducible apply b_asg); (case' h => nest_cls); (case' k => nest_room))
  | ((with_reducible apply b_asgG); (case' h => nest_cls); (case' hn => reads_via_all); (case' k => nest_room))
  | ((with_reducible apply b_ret); (case' h => nest_cls); (case' k => isplit))
  | ((with_reducible apply b_ifA); (case' h => nest_cls); (case' h1 => (intro _; nest_cls)); (case' h2 => exact rfl); (case' h3 => pre_facts); (case' k => nest_room))
  | ((with_reducible apply b_ifAG); (case' h => nest_cls); (case' h1 => (intro _; nest_cls)); (case' hn => reads_via_all); (case' h2 => exact rfl); (case' h3 => pre_facts); (case' k => nest_room))
  | ((with_reducible apply b_ifE); (case' h => nest_cls); (case' h1 => (intro _; nest_cls)); (case' h2 => (intro _; nest_cls)); (case' h3 => pre_facts); (case' k => nest_room))
  | ((with_reducible apply b_ifs); (case' h => nest_cls); (case' k => first | ((with_reducible apply k_F); (case' h => one_sign); (case' k => nest_room)) | ((with_reducible apply k_T); (case' h => one_sign); (case' k => nest_room)) | skip))
  | ((with_reducible apply b_app); (case' h => exact rfl); (case' h2 => nest_cls); (case' h3 => (refine LIM_lt ?_; try fold_depth)); (case' hy => got_up); (case' k => nest_room))
  | ((with_reducible apply b_appG); (case' h => exact rfl); (case' h2 => nest_cls); (case' hn => reads_via_all); (case' h3 => (refine LIM_lt ?_; try fold_depth)); (case' hy => got_up); (case' k => nest_room))
  | ((with_reducible apply b_par); (case' h => nest_cls); (case' h2 => (nest_room; try exact rfl)))
  | ((with_reducible apply b_asgT); (case' h => nest_cls); (case' h2 => (nest_room; try exact rfl)))
  | ((with_reducible apply b_aug); (case' h => exact rfl); (case' h2 => nest_cls); (case' h3 => mem_news); (case' k => nest_room))
  | ((with_reducible apply b_expr); (case' h => nest_cls))
  | ((with_reducible apply b_setIx); (case' h2 => nest_cls); (case' h => exact rfl); (case' h3 => nest_cls); (case' h4 => try fold_depth); (case' h5 => try fold_depth); (case' hy => first | with_reducible exact y_set | exact rfl); (case' k => nest_room))
  | ((with_reducible apply b_setIxG); (case' h2 => nest_cls); (case' hn => reads_via_all); (case' h => exact rfl); (case' h3 => nest_cls); (case' h4 => try fold_depth); (case' h5 => try fold_depth); (case' hy => first | with_reducible exact y_set | exact rfl); (case' k => nest_room))
  | ((with_reducible apply b_raise); (case' h => exact rfl); (case' h2 => nest_cls); (case' h3 => exact rfl); (case' k => isplit))
  | ((with_reducible apply b_clear); (case' h => exact rfl); (case' k => nest_room))
  | with_reducible apply b_doc | with_reducible apply b_pass | with_reducible apply b_cont | with_reducible apply b_brk | ((with_reducible apply b_retN); isplit)
  | ((with_reducible apply b_nil); isplit))
local macro_rules | `(tactic| one_place) => `(tactic| first
  | ((with_reducible apply v_call0X); (case' h1 => nest_cls); (case' h2 => top_args))
  | ((with_reducible apply v_meth0X); (case' h1 => nest_cls); (case' h2 => first | assumption | exact rfl); (case' h3 => nest_cls); (case' h5 => top_args))
  | ((with_reducible apply v_make0X); (case' h1 => nest_cls); (case' h3 => top_args))
  | ((with_reducible apply v_methX); (case' h1 => nest_cls); (case' h2 => first | assumption | exact rfl); (case' h3 => nest_cls); (case' h4 => top_caught); (case' h5 => top_args))
  | ((with_reducible apply v_makeX); (case' h1 => nest_cls); (case' h2 => top_caught); (case' h3 => top_args))
  | ((with_reducible apply v_call0L); one_place)
  | ((with_reducible apply v_lstX); one_place) | ((with_reducible apply v_tupX); one_place) | ((with_reducible apply v_blt1X); one_place)
  | ((with_reducible apply l_consX); one_place)
  | ((with_reducible apply l_consY); (case' h1 => nest_cls); (case' h2 => one_place)))
local macro_rules | `(tactic| one_item) => `(tactic| first
  | ((with_reducible apply b_retX); (case' h => one_place); (case' k => first | exact wp_x rfl | exact wp_exc rfl | skip))
  | ((with_reducible apply b_asgX); (case' h => one_place); (case' k => first | exact wp_x rfl | exact wp_exc rfl | skip))
  | ((with_reducible apply b_exprX); (case' h => one_place); (case' k => first | exact wp_x rfl | exact wp_exc rfl | skip)))
/-- all groups in their order -/
def grps : Nat → List (List Int)
  | 0 => [[]]
  | n + 1 => grps n ++ (grps n).map (· ++ [(n : Int)])
theorem grps_len : ∀ n, (grps n).length = 2 ^ n
  | 0 => rfl
  | n + 1 => by
    show (grps n ++ (grps n).map (· ++ [(n : Int)])).length = _
    rw [List.length_append, List.length_map, grps_len n, Nat.pow_succ]; omega
theorem grps_ok : ∀ n, ∀ g ∈ grps n, okG g n ∧ g.Pairwise (· < ·) ∧ g.length ≤ n
  | 0, g, h => by
    have : g = [] := by simpa [grps] using h
    subst this
    exact ⟨⟨fun x h => (by cases h), List.Pairwise.nil⟩, List.Pairwise.nil, Nat.le_refl _⟩
  | n + 1, g, h => by
    rcases List.mem_append.mp h with h | h
    · obtain ⟨⟨h1, h2⟩, h3, h4⟩ := grps_ok n g h
      exact ⟨⟨fun x hx => by have := h1 x hx; omega, h2⟩, h3, by omega⟩
    · obtain ⟨g, hg, rfl⟩ := List.mem_map.mp h
      obtain ⟨⟨h1, h2⟩, h3, h4⟩ := grps_ok n g hg
      refine ⟨⟨fun x hx => ?_, ?_⟩, ?_, ?_⟩
      · rcases List.mem_append.mp hx with hx | hx
        · have := h1 x hx; omega
        · simp at hx; omega
      · exact List.nodup_append.mpr ⟨h2, by simp, fun a ha b hb => by have := h1 a ha; simp at hb; omega⟩
      · exact List.pairwise_append.mpr ⟨h3, by simp, fun a ha b hb => by have := h1 a ha; simp at hb; omega⟩
      · simp; exact h4
theorem grps_le (n : Nat) (h : n ≤ 10) : (grps n).length ≤ 1024 := by
  rw [grps_len]
  exact Nat.pow_le_pow_right (by decide) h
section
variable {P : Prog} {n : Nat}
def f_law_groups_220b50 : Fn := ⟨1, 4, [.asg 1 (.lst [(.lst [])]) false,
  .forS (.one 2) .rng [(.var 0)] [.asg 1 (.bin .add (.var 1) (.comp (.bin .add (.var 3) (.lst [(.var 2)])) (.one 3) .seq [(.var 1)] [])) false] [0, 1, 0, 0],
  .ret (.var 1)]⟩
theorem groups_at {f : Nat} {c : Int} (hf : P.fn f = some f_law_groups_220b50) (h0 : 0 ≤ c) (h1 : c ≤ 10) : run P (n + 1) f [.int c] = .ok (.lst (tL (grps c.toNat))) := by
  refine run_ok hf rfl rfl ?_
  dsimp only [f_law_groups_220b50, start, List.map, List.length_cons, List.length_nil, Nat.reduceAdd, Nat.reduceSub, List.replicate, List.cons_append, List.nil_append]
  fold_lay
  refine b_for (σ := List (List Int) × Option T) (fun s => [(1, some (.lst (tL s.1))), (2, s.2)]) (fun i s => s.1 = grps i) ([[]], none) (by nest_cls) (by leaf_len) rfl (by intro x s; nest_room) rfl ?_ ?_
  · rintro i x ⟨gs, o⟩ hx h
    obtain ⟨rfl, hi⟩ := rng0_get hx
    dsimp only at h ⊢
    have hl := grps_le i (by omega)
    rw [← h] at hl
    have hg : ∀ g ∈ gs, g.length ≤ i := fun g hg => by rw [h] at hg; exact (grps_ok i g hg).2.2
    fold_lay
    · exact b_nil (lp_nx ⟨(_, _), rfl, by show gs ++ _ = grps i ++ _; rw [h]⟩)
    all_goals (have := hg _ ‹_›; simp; omega)
  · rintro ⟨gs, o⟩ h
    nest_room
    fold_lay
    have h : gs = grps (rangeI 0 c).length := h
    rw [h, rng_length, Int.sub_zero]; exact wp_rt rfl
def f_law_group_c33e43 : Fn := ⟨2, 6, [.asg 2 (.call 6 [(.var 0), (.bin .add (.lst [(.int 32)]) (.bin .mul (.lst [(.int 5)]) (.int 5)))] []) false,
  .asg 3 (.call 17 [(.var 1)] []) false,
  .asg 4 (.ix (.var 3) (.bin .mod (.blt .int [(.ix (.var 2) (.int 0))]) (.blt .len [(.var 3)]))) false,
  .ret (.comp (.var 5) (.one 5) .seq [(.call 12 [(.slice (.var 2) [(.int 1)] []), (.var 1)] [])] [(.cmp .isin (.var 5) (.var 4))])]⟩
theorem okG_filter {g : List Int} {c : Int} (q : Int → Bool) (h : okG g c) : okG (g.filter q) c := ⟨fun x hx => h.1 x (List.mem_filter.mp hx).1, h.2.filter q⟩
theorem okG_len {g : List Int} {c : Int} (h : okG g c) (h0 : 0 ≤ c) : (g.length : Int) ≤ c := by
  obtain ⟨r, hr⟩ := nodup_part g (rangeI 0 c) h.2 fun x hx => mem_rng.mpr (h.1 x hx)
  have := hr.length_eq
  rw [rng_length, List.length_append] at this
  omega
theorem okG_perm {g h : List Int} {c : Int} (q : g.Perm h) (k : okG h c) : okG g c := ⟨fun x hx => k.1 x (q.mem_iff.mp hx), q.nodup_iff.mpr k.2⟩
theorem group_at {f : Nat} {c x : Int} (hf : P.fn f = some f_law_group_c33e43) (h6 : P.fn 6 = some drawsF) (h12 : P.fn 12 = some f_law_order_084f70) (h17 : P.fn 17 = some f_law_groups_220b50) (h0 : 1 ≤ c) (h1 : c ≤ 5) : ∃ g : List Int, okG g c ∧ run P (n + 2) f [.int x, .int c] = .ok (.lst (tI g)) := by
  obtain ⟨ds, hl, hb, hd⟩ := draws_at (P := P) (n := n) (f := 6) (c := x) (sz := [32] ++ rep 5 [5]) h6 (by decide) (by decide)
  have hl : ds.length = 6 := hl
  have hg := groups_at (P := P) (n := n) (f := 17) h17 (c := c) (by omega) (by omega)
  obtain ⟨os, ho, hos⟩ := order_at (P := P) (n := n) (ps := ds.drop 1) (c := c) h12 (by omega) (by rw [List.length_drop]; omega) (by omega)
  have hol : os.length = c.toNat := by rw [ho.length_eq, rng_length, Int.sub_zero]
  have hgl := grps_len c.toNat
  have hgp : 0 < (grps c.toNat).length := by rw [hgl]; exact Nat.pow_pos (by decide)
  have hz0 := Int.emod_nonneg (gD ds 0) (b := ((grps c.toNat).length : Int)) (by omega)
  have hz1 := Int.emod_lt_of_pos (gD ds 0) (b := ((grps c.toNat).length : Int)) (by omega)
  have hos : run P (n + 1) 12 [.lst (tI (List.drop (Int.toNat 1) ds)), .int c] = .ok (.lst (tI os)) := hos
  refine run_wp (Q := fun q => ∃ g : List Int, okG g c ∧ q = .ok (.lst (tI g))) hf rfl rfl ?_
  dsimp only [f_law_group_c33e43, start, List.map, List.length_cons, List.length_nil, Nat.reduceAdd, Nat.reduceSub, List.replicate, List.cons_append, List.nil_append]
  fold_lay
  fold_lay
  fold_lay
  fold_lay
  exact ⟨_, okG_filter _ (okG_perm ho okG_all), rfl⟩
def f_law_length_c38c6b : Fn := ⟨1, 4, [.asg 1 (.int 0) false,
  .asg 2 (.int 0) false,
  .forS (.one 3) .seq [(.var 0)] [.asg 1 (.bin .sub (.bin .add (.var 1) (.blt .sum [(.var 3)])) (.int 1)) false, .asg 2 (.blt .min2 [(.var 2), (.var 1)]) false] [0, 0, 2, 0],
  .ret (.bin .sub (.bin .add (.blt .len [(.var 0)]) (.var 1)) (.var 2))]⟩
/-- the walk and its lowest value -/
def wk (as : List Int) : Nat → Int
  | 0 => 0
  | i + 1 => wk as i + gD as i - 1
def lo (as : List Int) : Nat → Int
  | 0 => 0
  | i + 1 => if wk as (i + 1) < lo as i then wk as (i + 1) else lo as i
theorem bk_wk (as : List Int) : ∀ i, bk as i = wk as i - lo as i
  | 0 => rfl
  | i + 1 => by
    show (if bk as i + gD as i - 1 < 0 then 0 else bk as i + gD as i - 1) = wk as i + gD as i - 1 - (if wk as i + gD as i - 1 < lo as i then wk as i + gD as i - 1 else lo as i)
    rw [bk_wk as i]
    split <;> split <;> omega
theorem length_at {f : Nat} {c : Int} {rows : List (List Int)} (hf : P.fn f = some f_law_length_c38c6b) (hw : ∀ r ∈ rows, (r.length : Int) = c) : run P (n + 1) f [.lst (tL rows)] = .ok (.int (runLen c rows)) := by
  refine run_ok hf rfl rfl ?_
  dsimp only [f_law_length_c38c6b, start, List.map, List.length_cons, List.length_nil, Nat.reduceAdd, Nat.reduceSub, List.replicate, List.cons_append, List.nil_append]
  fold_lay
  fold_lay
  refine b_for (σ := Int × Int × Option T) (fun s => [(1, some (.int s.1)), (2, some (.int s.2.1)), (3, s.2.2)]) (fun i s => s.1 = wk (rows.map List.sum) i ∧ s.2.1 = lo (rows.map List.sum) i) (0, 0, none) (by nest_cls) (by leaf_len) rfl (by intro x s; nest_room) ⟨rfl, rfl⟩ ?_ ?_
  · rintro i x ⟨w, l, o⟩ hx ⟨h1, h2⟩
    dsimp only at h1 h2 ⊢
    have hi := (List.getElem?_eq_some_iff.mp hx).1
    have e : gD (rows.map List.sum) i = x.sum := by rw [gD_map (by omega) (by omega), gD_get hx]
    fold_lay
    fold_lay
    refine b_nil (lp_nx ⟨(_, _, _), rfl, ?_, ?_⟩)
    · show _ = wk (rows.map List.sum) i + gD (rows.map List.sum) i - 1
      rw [e, h1]
    · show (if w + x.sum - 1 < l then w + x.sum - 1 else l) = if wk (rows.map List.sum) i + gD (rows.map List.sum) i - 1 < lo (rows.map List.sum) i then wk (rows.map List.sum) i + gD (rows.map List.sum) i - 1 else lo (rows.map List.sum) i
      rw [e, h1, h2]
  · rintro ⟨w, l, o⟩ ⟨h1, h2⟩
    dsimp only at h1 h2
    nest_room
    fold_lay
    refine wp_rt ?_
    unfold runLen
    rw [arr_all hw, bk_wk, h1, h2]
    congr 1
    omega
end
end Wt

/-! PureG: backlogs of a run. -/
namespace Wt
open PySem
local macro_rules | `(tactic| top_caught) => `(tactic| (simp only [args, List.map_cons, List.map_nil, List.getD_cons_zero, List.getD_cons_succ]; try exact rfl))
local macro_rules | `(tactic| fin_places) => `(tactic| first | exact tbl_0 (by first | assumption | rfl) | exact tbl_1 (by first | assumption | rfl))
local macro_rules | `(tactic| nest_room) => `(tactic| (dsimp only [bindTg, setAll, List.set, up, List.foldl, List.cons_append, List.nil_append]))
local macro_rules | `(tactic| fold_depth) => `(tactic| first | assumption | omega | ((simp only [List.length_map, List.length_append, List.length_set, List.length_cons, List.length_nil, List.length_zipIdx, List.length_zip, List.length_take, List.length_drop, List.length_replicate, rng_length]); omega) | grind)
local macro_rules | `(tactic| reads_via_all) => `(tactic| first | exact rfl | exact nl_I)
local macro_rules | `(tactic| leaf_len) => `(tactic| first | with_reducible exact w_seq | with_reducible exact w_seqU | ((with_reducible apply w_rng) <;> try fold_depth) | ((with_reducible apply w_rng2) <;> try fold_depth) | ((with_reducible apply w_rng3) <;> try fold_depth) | with_reducible exact w_enum | with_reducible exact w_enumU | with_reducible exact w_zip | with_reducible exact w_zip1 | with_reducible exact w_zip2 | with_reducible exact w_zip3 | with_reducible exact w_rev | with_reducible exact w_revU | with_reducible exact w_seqA)
local macro_rules | `(tactic| mem_news) => `(tactic| first
  | with_reducible exact t_len | with_reducible exact t_lenU | with_reducible exact t_sum | with_reducible exact t_sumU | with_reducible exact t_sort | with_reducible exact t_sortU
  | with_reducible exact t_rev | ((with_reducible apply t_min); assumption) | with_reducible exact t_any | with_reducible exact t_all
  | with_reducible exact t_eqL | with_reducible exact t_eqLL | with_reducible exact t_eqLU | with_reducible exact t_eqUU | with_reducible exact t_neLL | with_reducible exact t_eqU | with_reducible exact t_neL | with_reducible exact t_neU | with_reducible exact t_in | with_reducible exact t_inU | with_reducible exact t_notin | with_reducible exact t_notinU
  | ((with_reducible apply t_ixN) <;> try fold_depth) | ((with_reducible apply t_ixNU) <;> try fold_depth)
  | ((with_reducible apply t_ix) <;> try fold_depth) | ((with_reducible apply t_ixU) <;> try fold_depth)
  | ((with_reducible apply t_mul); first | exact rfl | exact mulOk64 (by fold_depth) | skip) | ((with_reducible apply t_div); first | exact divOk64 (by fold_depth) (by fold_depth) | skip) | ((with_reducible apply t_mod); try fold_depth)
  | ((with_reducible apply t_rep) <;> try fold_depth) | ((with_reducible apply t_addM); try fold_depth) | ((with_reducible apply t_addU); try fold_depth)
  | ((with_reducible apply t_rangeL) <;> try fold_depth) | ((with_reducible apply t_rangeT) <;> try fold_depth)
  | ((with_reducible apply t_slc) <;> try fold_depth) | ((with_reducible apply t_slcU) <;> try fold_depth) | ((with_reducible apply t_slcT); try fold_depth) | ((with_reducible apply t_slcTU); try fold_depth) | ((with_reducible apply t_slcF); try fold_depth) | ((with_reducible apply t_slcFU); try fold_depth)
  | with_reducible exact t_lt | with_reducible exact t_le | with_reducible exact t_gt | with_reducible exact t_ge | with_reducible exact t_eqI | with_reducible exact t_neI | with_reducible exact t_is1 | with_reducible exact t_is2 | with_reducible exact t_is3 | with_reducible exact t_is4 | with_reducible exact t_is5 | with_reducible exact t_is6
  | exact rfl)
local macro_rules | `(tactic| top_args) => `(tactic| first | with_reducible assumption | with_reducible exact isint_ok rfl | with_reducible exact isint_ok (by assumption) | apply_assumption (transparency := .reducible))
local macro_rules | `(tactic| nest_cls) => `(tactic| first
  | ((with_reducible apply v_var); exact rfl)
  | with_reducible exact v_int | with_reducible exact v_bl | with_reducible exact v_non | with_reducible exact v_str | with_reducible exact l_nil
  | ((with_reducible apply l_cons); (case' h1 => nest_cls); (case' h2 => nest_cls))
  | ((with_reducible apply v_bin); (case' h1 => nest_cls); (case' h2 => nest_cls); (case' h3 => mem_news))
  | ((with_reducible apply v_cmp); (case' h1 => nest_cls); (case' h2 => nest_cls); (case' h3 => mem_news))
  | ((with_reducible apply v_ix); (case' h1 => nest_cls); (case' h2 => nest_cls); (case' h3 => mem_news))
  | ((with_reducible apply v_fld); (case' h1 => nest_cls); (case' h2 => fin_places))
  | ((with_reducible apply v_blt1); (case' h1 => nest_cls); (case' h2 => mem_news))
  | ((with_reducible apply v_blt2); (case' h1 => nest_cls); (case' h2 => nest_cls); (case' h3 => mem_news))
  | ((with_reducible apply v_call0); (case' h1 => nest_cls); (case' h2 => top_args))
  | ((with_reducible apply v_not); nest_cls)
  | ((with_reducible apply v_neg); nest_cls)
  | ((with_reducible apply v_and); (case' h1 => nest_cls); (case' h2 => (intro _; nest_cls)))
  | ((with_reducible apply v_or); (case' h1 => nest_cls); (case' h2 => (intro _; nest_cls)))
  | ((with_reducible apply v_cmp2); (case' h1 => nest_cls); (case' h2 => nest_cls); (case' h3 => mem_news); (case' h4 => (intro _; nest_cls)); (case' h5 => (intro _; mem_news)))
  | ((with_reducible apply v_ite); (case' h1 => nest_cls); (case' h2 => (intro _; nest_cls)); (case' h3 => (intro _; nest_cls)); (case' h4 => pre_facts))
  | ((with_reducible apply v_rev); (case' h1 => nest_cls); (case' h2 => mem_news))
  | ((with_reducible apply v_tupI); units_room) | ((with_reducible apply v_tupU); units_room) | ((with_reducible apply v_tup); nest_cls)
  | with_reducible exact v_nil0 | with_reducible exact v_nilI
  | ((with_reducible apply v_lstI); units_room) | ((with_reducible apply v_lstL); units_room) | ((with_reducible apply v_lstU); units_room) | ((with_reducible apply v_lst); nest_cls)
  | ((with_reducible apply v_slice); (case' h1 => nest_cls); (case' h2 => nest_cls); (case' h3 => nest_cls); (case' h4 => mem_news))
  | with_reducible exact p_nil | ((with_reducible apply p_one); nest_cls)
  | ((with_reducible apply v_comp0); (case' h1 => nest_cls); (case' h2 => leaf_len); (case' h3 => (refine LIM_of ?_; try fold_depth)); (case' h4 => (intro _ _; nest_room; try exact rfl)); (case' h6 => (intro _ _; nest_cls)); (case' h7 => first | with_reducible exact m_id | with_reducible exact m_idL | with_reducible exact m_idU | with_reducible exact m_int | with_reducible exact m_lst | with_reducible exact m_tup | exact rfl))
  | ((with_reducible apply v_comp); (case' h1 => nest_cls); (case' h2 => leaf_len); (case' h3 => (refine LIM_of ?_; try fold_depth)); (case' h4 => (intro _ _; nest_room; try exact rfl)); (case' h5 => (intro _ _; nest_cls)); (case' h6 => (intro _ _ _; nest_cls)); (case' h7 => first | with_reducible exact m_id | with_reducible exact m_idL | with_reducible exact m_idU | with_reducible exact m_int | with_reducible exact m_lst | with_reducible exact m_tup | exact rfl))
  | ((with_reducible apply v_xisa); exact rfl) | ((with_reducible apply v_xfld); exact rfl)
  | ((with_reducible apply c_one); nest_cls)
  | ((with_reducible apply v_meth0); (case' h1 => nest_cls); (case' h2 => first | assumption | exact rfl); (case' h3 => nest_cls); (case' h5 => top_args))
  | ((with_reducible apply v_make0); (case' h1 => nest_cls); (case' h3 => top_args))
  | ((with_reducible apply v_meth); (case' h1 => nest_cls); (case' h2 => first | assumption | exact rfl); (case' h3 => nest_cls); (case' h4 => top_caught); (case' h5 => top_args))
  | ((with_reducible apply v_make); (case' h1 => nest_cls); (case' h2 => top_caught); (case' h3 => top_args))
  | ((with_reducible apply v_call); (case' h1 => nest_cls); (case' h2 => top_caught); (case' h3 => top_args)))
local macro_rules | `(tactic| units_room) => `(tactic| first
  | with_reducible exact l_nilM
  | ((with_reducible apply l_consI); (case' h1 => nest_cls); (case' h2 => units_room))
  | ((with_reducible apply l_consL); (case' h1 => nest_cls); (case' h2 => units_room))
  | ((with_reducible apply l_consU); (case' h1 => nest_cls); (case' h2 => units_room)))
local macro_rules | `(tactic| pre_facts) => `(tactic| first | with_reducible exact i_int | with_reducible exact i_lstI | with_reducible exact i_tupI | with_reducible exact i_bl | with_reducible exact i_lst | exact rfl)
local macro_rules | `(tactic| one_sign) => `(tactic| first | exact rfl | assumption | (simp only [*, decide_true, decide_false, Bool.not_true, Bool.not_false, Bool.or_false, Bool.or_true, Bool.and_true, Bool.and_false, Bool.true_and, Bool.false_and, Bool.true_or, Bool.false_or]; done))
local macro_rules | `(tactic| got_up) => `(tactic| first | with_reducible exact y_map | exact rfl)
local macro_rules | `(tactic| isplit) => `(tactic| first | exact rfl | exact wp_rt rfl | exact wp_out rfl | exact wp_nx rfl | exact wp_x rfl | exact wp_exc rfl | skip)
local macro_rules | `(tactic| fold_lay) => `(tactic| first
  | ((with_reducible apply b_asg); (case' h => nest_cls); (case' k => nest_room))
  | ((with_reducible apply b_asgG); (case' h => nest_cls); (case' hn => reads_via_all); (case' k => nest_room))
  | ((with_reducible apply b_ret); (case' h => nest_cls); (case' k => isplit))
  | ((with_reducible apply b_ifA); (case' h => nest_cls); (case' h1 => (intro _; nest_cls)); (case' h2 => exact rfl); (case' h3 => pre_facts); (case' k => nest_room))
  | ((with_reducible apply b_ifAG); (case' h => nest_cls); (case' h1 => (intro _; nest_cls)); (case' hn => reads_via_all); (case' h2 => exact rfl); (case' h3 => pre_facts); (case' k => nest_room))
  | ((with_reducible apply b_ifE); (case' h => nest_cls); (case' h1 => (intro _; nest_cls)); (case' h2 => (intro _; nest_cls)); (case' h3 => pre_facts); (case' k => nest_room))
  | ((with_reducible apply b_ifs); (case' h => nest_cls); (case' k => first | ((with_reducible apply k_F); (case' h => one_sign); (case' k => nest_room)) | ((with_reducible apply k_T); (case' h => one_sign); (case' k => nest_room)) | skip))
  | ((with_reducible apply b_app); (case' h => exact rfl); (case' h2 => nest_cls); (case' h3 => (refine LIM_lt ?_; try fold_depth)); (case' hy => got_up); (case' k => nest_room))
  | ((with_reducible apply b_appG); (case' h => exact rfl); (case' h2 => nest_cls); (case' hn => reads_via_all); (case' h3 => (refine LIM_lt ?_; try fold_depth)); (case' hy => got_up); (case' k => nest_room))
  | ((with_reducible apply b_par); (case' h => nest_cls); (case' h2 => (nest_room; try exact rfl)))
  | ((with_reducible apply b_asgT); (case' h => nest_cls); (case' h2 => (nest_room; try exact rfl)))
  | ((with_reducible apply b_aug); (case' h => exact rfl); (case' h2 => nest_cls); (case' h3 => mem_news); (case' k => nest_room))
  | ((with_reducible apply b_expr); (case' h => nest_cls))
  | ((with_reducible apply b_setIx); (case' h2 => nest_cls); (case' h => exact rfl); (case' h3 => nest_cls); (case' h4 => try fold_depth); (case' h5 => try fold_depth); (case' hy => first | with_reducible exact y_set | exact rfl); (case' k => nest_room))
  | ((with_reducible apply b_setIxG); (case' h2 => nest_cls); (case' hn => reads_via_all); (case' h => exact rfl); (case' h3 => nest_cls); (case' h4 => try fold_depth); (case' h5 => try fold_depth); (case' hy => first | with_reducible exact y_set | exact rfl); (case' k => nest_room))
  | ((with_reducible apply b_raise); (case' h => exact rfl); (case' h2 => nest_cls); (case' h3 => exact rfl); (case' k => isplit))
  | ((with_reducible apply b_clear); (case' h => exact rfl); (case' k => nest_room))
  | with_reducible apply b_doc | with_reducible apply b_pass | with_reducible apply b_cont | with_reducible apply b_brk | ((with_reducible apply b_retN); isplit)
  | ((with_reducible apply b_nil); isplit))
local macro_rules | `(tactic| one_place) => `(tactic| first
  | ((with_reducible apply v_call0X); (case' h1 => nest_cls); (case' h2 => top_args))
  | ((with_reducible apply v_meth0X); (case' h1 => nest_cls); (case' h2 => first | assumption | exact rfl); (case' h3 => nest_cls); (case' h5 => top_args))
  | ((with_reducible apply v_make0X); (case' h1 => nest_cls); (case' h3 => top_args))
  | ((with_reducible apply v_methX); (case' h1 => nest_cls); (case' h2 => first | assumption | exact rfl); (case' h3 => nest_cls); (case' h4 => top_caught); (case' h5 => top_args))
  | ((with_reducible apply v_makeX); (case' h1 => nest_cls); (case' h2 => top_caught); (case' h3 => top_args))
  | ((with_reducible apply v_call0L); one_place)
  | ((with_reducible apply v_lstX); one_place) | ((with_reducible apply v_tupX); one_place) | ((with_reducible apply v_blt1X); one_place)
  | ((with_reducible apply l_consX); one_place)
  | ((with_reducible apply l_consY); (case' h1 => nest_cls); (case' h2 => one_place)))
local macro_rules | `(tactic| one_item) => `(tactic| first
  | ((with_reducible apply b_retX); (case' h => one_place); (case' k => first | exact wp_x rfl | exact wp_exc rfl | skip))
  | ((with_reducible apply b_asgX); (case' h => one_place); (case' k => first | exact wp_x rfl | exact wp_exc rfl | skip))
  | ((with_reducible apply b_exprX); (case' h => one_place); (case' k => first | exact wp_x rfl | exact wp_exc rfl | skip)))
theorem cond_or {α : Type} {p : Bool} {x y z : α} (h : p = true → x = z) (k : p = false → y = z) : (bif p then x else y) = z := by
  cases p with
  | true => exact h rfl
  | false => exact k rfl
theorem runLen_nn {c : Int} {rows : List (List Int)} : (rows.length : Int) ≤ runLen c rows := by
  unfold runLen
  have := bk_nn (arr (rangeI 0 c) rows) rows.length
  omega
theorem runLen_le {c : Int} {rows : List (List Int)} (D : TabD c rows) : runLen c rows ≤ 506 := by
  unfold runLen
  rw [arr_all D.w]
  have hb := bk_le (as := rows.map List.sum) (fun a ha => by
    obtain ⟨r, hr, rfl⟩ := List.mem_map.mp ha
    exact (sum_bd (M := 9) (D.d r hr)).1) rows.length (by rw [List.length_map]; exact Nat.le_refl _)
  rw [List.take_of_length_le (by rw [List.length_map]; exact Nat.le_refl _)] at hb
  have := sum_bd (M := 45) (xs := rows.map List.sum) fun x hx => by
    obtain ⟨r, hr, rfl⟩ := List.mem_map.mp hx
    have := sum_bd (M := 9) (xs := r) (D.d r hr)
    have := D.w r hr
    have := D.c5
    omega
  rw [List.length_map] at this
  have := D.l
  omega
/-- the backlogs of a run -/
def bkR (as : List Int) (n : Int) : List Int := (rangeI 0 n).map fun t => bk as (t.toNat + 1)
theorem bkR_eq {as : List Int} {n : Int} (h : (as.length : Int) ≤ n) : bkL as ++ (rangeI 0 (n - as.length)).map (fun k => if bk as as.length - 1 - k < 0 then 0 else bk as as.length - 1 - k) = bkR as n := by
  have hl : (bkL as ++ (rangeI 0 (n - as.length)).map (fun k => if bk as as.length - 1 - k < 0 then 0 else bk as as.length - 1 - k)).length = n.toNat := by
    rw [List.length_append, bkL_len, List.length_map, rng_length]; omega
  refine gD_ext (by rw [hl]; unfold bkR; rw [List.length_map, rng_length, Int.sub_zero]) fun k hk => ?_
  rw [hl] at hk
  unfold bkR
  rw [gD_map (by omega) (by rw [rng_length]; omega), gD_rng (by omega) (by omega), gD_app (by omega), bkL_len]
  by_cases h : (k : Int) < as.length
  · rw [if_pos h, bkL_at (by omega) h]
    congr 2; omega
  · rw [if_neg h, gD_map (by omega) (by rw [rng_length]; omega), gD_rng (by omega) (by omega)]
    have := bk_after (as := as) (k - as.length + 1)
    rw [show (0 + (k : Int)).toNat + 1 = as.length + (k - as.length + 1) by omega, this]
    have := bk_nn as as.length
    split <;> split <;> omega
section
variable {P : Prog} {n : Nat}
def f_backlogs_69d7e2 : Fn := ⟨2, 5, [.asg 2 (.call 23 [(.var 0), (.var 1)] []) false,
  .asg 3 (.int 0) false,
  .ifs (.cmp .gt (.blt .len [(.var 2)]) (.int 0)) [.asg 3 (.ix (.var 2) (.neg (.int 1))) true] [],
  .ret (.bin .add (.var 2) (.comp (.blt .max2 [(.bin .sub (.bin .sub (.var 3) (.int 1)) (.var 4)), (.int 0)]) (.one 4) .rng [(.bin .sub (.call 24 [(.var 0)] []) (.blt .len [(.var 2)]))] []))]⟩
theorem backs_at (H : HRun P) {f : Nat} {c : Int} {rows : List (List Int)} {g : List Int} {b : Bool} (hf : P.fn f = some f_backlogs_69d7e2) (D : TabD c rows) (hg : okG g c) :
    run P (n + 5) f [tbl c rows, sq b g] = .ok (.lst (tI (bkR (arr g rows) (runLen c rows)))) := by
  have hc1 := D.c1
  have hc5 := D.c5
  have hl := D.l
  have hgl := okG_len hg (by omega)
  have h1 := backlogs_at (n := n + 1) H (b := b) hg D.w (by omega) (by omega)
  have h2 := runlen_at (n := n) H D.w (by omega) (by omega) (by omega)
  have hb := bkL_len (arr g rows)
  have ha : (arr g rows).length = rows.length := List.length_map ..
  have hr := runLen_le D
  have hr0 := runLen_nn (c := c) (rows := rows)
  generalize arr g rows = as at *
  refine run_ok hf rfl rfl ?_
  dsimp only [f_backlogs_69d7e2, start, List.map, List.length_cons, List.length_nil, Nat.reduceAdd, Nat.reduceSub, List.replicate, List.cons_append, List.nil_append]
  fold_lay
  fold_lay
  fold_lay
  have e : (bif decide (0 < ((bkL as).length : Int)) then gD (bkL as) (((bkL as).length : Int) - 1) else 0) = bk as as.length := by
    refine cond_or (fun h => ?_) fun h => ?_
    · have h : 0 < (bkL as).length := by simpa using h
      rw [bkL_at (by omega) (by omega)]
      congr 1; omega
    · have h : (bkL as).length = 0 := by simpa using h
      rw [show as.length = 0 by omega]; rfl
  rw [e]
  fold_lay
  · refine wp_rt ?_
    rw [← bkR_eq (as := as) (by omega), hb]
  all_goals (simp [rng_length]; omega)
end
end Wt

/-! PureH: windows. -/
namespace Wt
open PySem
local macro_rules | `(tactic| top_caught) => `(tactic| (simp only [args, List.map_cons, List.map_nil, List.getD_cons_zero, List.getD_cons_succ]; try exact rfl))
local macro_rules | `(tactic| fin_places) => `(tactic| first | exact tbl_0 (by first | assumption | rfl) | exact tbl_1 (by first | assumption | rfl))
local macro_rules | `(tactic| nest_room) => `(tactic| (dsimp only [bindTg, setAll, List.set, up, List.foldl, List.cons_append, List.nil_append]))
local macro_rules | `(tactic| fold_depth) => `(tactic| first | assumption | omega | ((simp only [List.length_map, List.length_append, List.length_set, List.length_cons, List.length_nil, List.length_zipIdx, List.length_zip, List.length_take, List.length_drop, List.length_replicate, rng_length]); omega) | grind)
local macro_rules | `(tactic| reads_via_all) => `(tactic| first | exact rfl | exact nl_I)
local macro_rules | `(tactic| leaf_len) => `(tactic| first | with_reducible exact w_seq | with_reducible exact w_seqU | ((with_reducible apply w_rng) <;> try fold_depth) | ((with_reducible apply w_rng2) <;> try fold_depth) | ((with_reducible apply w_rng3) <;> try fold_depth) | with_reducible exact w_enum | with_reducible exact w_enumU | with_reducible exact w_zip | with_reducible exact w_zip1 | with_reducible exact w_zip2 | with_reducible exact w_zip3 | with_reducible exact w_rev | with_reducible exact w_revU | with_reducible exact w_seqA)
local macro_rules | `(tactic| mem_news) => `(tactic| first
  | with_reducible exact t_len | with_reducible exact t_lenU | with_reducible exact t_sum | with_reducible exact t_sumU | with_reducible exact t_sort | with_reducible exact t_sortU
  | with_reducible exact t_rev | ((with_reducible apply t_min); assumption) | with_reducible exact t_any | with_reducible exact t_all
  | with_reducible exact t_eqL | with_reducible exact t_eqLL | with_reducible exact t_eqLU | with_reducible exact t_eqUU | with_reducible exact t_neLL | with_reducible exact t_eqU | with_reducible exact t_neL | with_reducible exact t_neU | with_reducible exact t_in | with_reducible exact t_inU | with_reducible exact t_notin | with_reducible exact t_notinU
  | ((with_reducible apply t_ixN) <;> try fold_depth) | ((with_reducible apply t_ixNU) <;> try fold_depth)
  | ((with_reducible apply t_ix) <;> try fold_depth) | ((with_reducible apply t_ixU) <;> try fold_depth)
  | ((with_reducible apply t_mul); first | exact rfl | exact mulOk64 (by fold_depth) | skip) | ((with_reducible apply t_div); first | exact divOk64 (by fold_depth) (by fold_depth) | skip) | ((with_reducible apply t_mod); try fold_depth)
  | ((with_reducible apply t_rep) <;> try fold_depth) | ((with_reducible apply t_addM); try fold_depth) | ((with_reducible apply t_addU); try fold_depth)
  | ((with_reducible apply t_rangeL) <;> try fold_depth) | ((with_reducible apply t_rangeT) <;> try fold_depth)
  | ((with_reducible apply t_slc) <;> try fold_depth) | ((with_reducible apply t_slcU) <;> try fold_depth) | ((with_reducible apply t_slcT); try fold_depth) | ((with_reducible apply t_slcTU); try fold_depth) | ((with_reducible apply t_slcF); try fold_depth) | ((with_reducible apply t_slcFU); try fold_depth)
  | with_reducible exact t_lt | with_reducible exact t_le | with_reducible exact t_gt | with_reducible exact t_ge | with_reducible exact t_eqI | with_reducible exact t_neI | with_reducible exact t_is1 | with_reducible exact t_is2 | with_reducible exact t_is3 | with_reducible exact t_is4 | with_reducible exact t_is5 | with_reducible exact t_is6
  | exact rfl)
local macro_rules | `(tactic| top_args) => `(tactic| first | with_reducible assumption | with_reducible exact isint_ok rfl | with_reducible exact isint_ok (by assumption) | apply_assumption (transparency := .reducible))
local macro_rules | `(tactic| nest_cls) => `(tactic| first
  | ((with_reducible apply v_var); exact rfl)
  | with_reducible exact v_int | with_reducible exact v_bl | with_reducible exact v_non | with_reducible exact v_str | with_reducible exact l_nil
  | ((with_reducible apply l_cons); (case' h1 => nest_cls); (case' h2 => nest_cls))
  | ((with_reducible apply v_bin); (case' h1 => nest_cls); (case' h2 => nest_cls); (case' h3 => mem_news))
  | ((with_reducible apply v_cmp); (case' h1 => nest_cls); (case' h2 => nest_cls); (case' h3 => mem_news))
  | ((with_reducible apply v_ix); (case' h1 => nest_cls); (case' h2 => nest_cls); (case' h3 => mem_news))
  | ((with_reducible apply v_fld); (case' h1 => nest_cls); (case' h2 => fin_places))
  | ((with_reducible apply v_blt1); (case' h1 => nest_cls); (case' h2 => mem_news))
  | ((with_reducible apply v_blt2); (case' h1 => nest_cls); (case' h2 => nest_cls); (case' h3 => mem_news))
  | ((with_reducible apply v_call0); (case' h1 => nest_cls); (case' h2 => top_args))
  | ((with_reducible apply v_not); nest_cls)
  | ((with_reducible apply v_neg); nest_cls)
  | ((with_reducible apply v_and); (case' h1 => nest_cls); (case' h2 => (intro _; nest_cls)))
  | ((with_reducible apply v_or); (case' h1 => nest_cls); (case' h2 => (intro _; nest_cls)))
  | ((with_reducible apply v_cmp2); (case' h1 => nest_cls); (case' h2 => nest_cls); (case' h3 => mem_news); (case' h4 => (intro _; nest_cls)); (case' h5 => (intro _; mem_news)))
  | ((with_reducible apply v_ite); (case' h1 => nest_cls); (case' h2 => (intro _; nest_cls)); (case' h3 => (intro _; nest_cls)); (case' h4 => pre_facts))
  | ((with_reducible apply v_rev); (case' h1 => nest_cls); (case' h2 => mem_news))
  | ((with_reducible apply v_tupI); units_room) | ((with_reducible apply v_tupU); units_room) | ((with_reducible apply v_tup); nest_cls)
  | with_reducible exact v_nil0 | with_reducible exact v_nilI
  | ((with_reducible apply v_lstI); units_room) | ((with_reducible apply v_lstL); units_room) | ((with_reducible apply v_lstU); units_room) | ((with_reducible apply v_lst); nest_cls)
  | ((with_reducible apply v_slice); (case' h1 => nest_cls); (case' h2 => nest_cls); (case' h3 => nest_cls); (case' h4 => mem_news))
  | with_reducible exact p_nil | ((with_reducible apply p_one); nest_cls)
  | ((with_reducible apply v_comp0); (case' h1 => nest_cls); (case' h2 => leaf_len); (case' h3 => (refine LIM_of ?_; try fold_depth)); (case' h4 => (intro _ _; nest_room; try exact rfl)); (case' h6 => (intro _ _; nest_cls)); (case' h7 => first | with_reducible exact m_id | with_reducible exact m_idL | with_reducible exact m_idU | with_reducible exact m_int | with_reducible exact m_lst | with_reducible exact m_tup | exact rfl))
  | ((with_reducible apply v_comp); (case' h1 => nest_cls); (case' h2 => leaf_len); (case' h3 => (refine LIM_of ?_; try fold_depth)); (case' h4 => (intro _ _; nest_room; try exact rfl)); (case' h5 => (intro _ _; nest_cls)); (case' h6 => (intro _ _ _; nest_cls)); (case' h7 => first | with_reducible exact m_id | with_reducible exact m_idL | with_reducible exact m_idU | with_reducible exact m_int | with_reducible exact m_lst | with_reducible exact m_tup | exact rfl))
  | ((with_reducible apply v_xisa); exact rfl) | ((with_reducible apply v_xfld); exact rfl)
  | ((with_reducible apply c_one); nest_cls)
  | ((with_reducible apply v_meth0); (case' h1 => nest_cls); (case' h2 => first | assumption | exact rfl); (case' h3 => nest_cls); (case' h5 => top_args))
  | ((with_reducible apply v_make0); (case' h1 => nest_cls); (case' h3 => top_args))
  | ((with_reducible apply v_meth); (case' h1 => nest_cls); (case' h2 => first | assumption | exact rfl); (case' h3 => nest_cls); (case' h4 => top_caught); (case' h5 => top_args))
  | ((with_reducible apply v_make); (case' h1 => nest_cls); (case' h2 => top_caught); (case' h3 => top_args))
  | ((with_reducible apply v_call); (case' h1 => nest_cls); (case' h2 => top_caught); (case' h3 => top_args)))
local macro_rules | `(tactic| units_room) => `(tactic| first
  | with_reducible exact l_nilM
  | ((with_reducible apply l_consI); (case' h1 => nest_cls); (case' h2 => units_room))
  | ((with_reducible apply l_consL); (case' h1 => nest_cls); (case' h2 => units_room))
  | ((with_reducible apply l_consU); (case' h1 => nest_cls); (case' h2 => units_room)))
local macro_rules | `(tactic| pre_facts) => `(tactic| first | with_reducible exact i_int | with_reducible exact i_lstI | with_reducible exact i_tupI | with_reducible exact i_bl | with_reducible exact i_lst | exact rfl)
local macro_rules | `(tactic| one_sign) => `(tactic| first | exact rfl | assumption | (simp only [*, decide_true, decide_false, Bool.not_true, Bool.not_false, Bool.or_false, Bool.or_true, Bool.and_true, Bool.and_false, Bool.true_and, Bool.false_and, Bool.true_or, Bool.false_or]; done))
local macro_rules | `(tactic| got_up) => `(tactic| first | with_reducible exact y_map | exact rfl)
local macro_rules | `(tactic| isplit) => `(tactic| first | exact rfl | exact wp_rt rfl | exact wp_out rfl | exact wp_nx rfl | exact wp_x rfl | exact wp_exc rfl | skip)
local macro_rules | `(tactic| fold_lay) => `(tactic| first
  | ((with_reducible apply b_asg); (case' h => nest_cls); (case' k => nest_room))
  | ((with_reducible apply b_asgG); (case' h => nest_cls); (case' hn => reads_via_all); (case' k => nest_room))
  | ((with_reducible apply b_ret); (case' h => nest_cls); (case' k => isplit))
  | ((with_reducible apply b_ifA); (case' h => nest_cls); (case' h1 => (intro _; nest_cls)); (case' h2 => exact rfl); (case' h3 => pre_facts); (case' k => nest_room))
  | ((with_reducible apply b_ifAG); (case' h => nest_cls); (case' h1 => (intro _; nest_cls)); (case' hn => reads_via_all); (case' h2 => exact rfl); (case' h3 => pre_facts); (case' k => nest_room))
  | ((with_reducible apply b_ifE); (case' h => nest_cls); (case' h1 => (intro _; nest_cls)); (case' h2 => (intro _; nest_cls)); (case' h3 => pre_facts); (case' k => nest_room))
  | ((with_reducible apply b_ifs); (case' h => nest_cls); (case' k => first | ((with_reducible apply k_F); (case' h => one_sign); (case' k => nest_room)) | ((with_reducible apply k_T); (case' h => one_sign); (case' k => nest_room)) | skip))
  | ((with_reducible apply b_app); (case' h => exact rfl); (case' h2 => nest_cls); (case' h3 => (refine LIM_lt ?_; try fold_depth)); (case' hy => got_up); (case' k => nest_room))
  | ((with_reducible apply b_appG); (case' h => exact rfl); (case' h2 => nest_cls); (case' hn => reads_via_all); (case' h3 => (refine LIM_lt ?_; try fold_depth)); (case' hy => got_up); (case' k => nest_room))
  | ((with_reducible apply b_par); (case' h => nest_cls); (case' h2 => (nest_room; try exact rfl)))
  | ((with_reducible apply b_asgT); (case' h => nest_cls); (case' h2 => (nest_room; try exact rfl)))
  | ((with_reducible apply b_aug); (case' h => exact rfl); (case' h2 => nest_cls); (case' h3 => mem_news); (case' k => nest_room))
  | ((with_reducible apply b_expr); (case' h => nest_cls))
  | ((with_reducible apply b_setIx); (case' h2 => nest_cls); (case' h => exact rfl); (case' h3 => nest_cls); (case' h4 => try fold_depth); (case' h5 => try fold_depth); (case' hy => first | with_reducible exact y_set | exact rfl); (case' k => nest_room))
  | ((with_reducible apply b_setIxG); (case' h2 => nest_cls); (case' hn => reads_via_all); (case' h => exact rfl); (case' h3 => nest_cls); (case' h4 => try fold_depth); (case' h5 => try fold_depth); (case' hy => first | with_reducible exact y_set | exact rfl); (case' k => nest_room))
  | ((with_reducible apply b_raise); (case' h => exact rfl); (case' h2 => nest_cls); (case' h3 => exact rfl); (case' k => isplit))
  | ((with_reducible apply b_clear); (case' h => exact rfl); (case' k => nest_room))
  | with_reducible apply b_doc | with_reducible apply b_pass | with_reducible apply b_cont | with_reducible apply b_brk | ((with_reducible apply b_retN); isplit)
  | ((with_reducible apply b_nil); isplit))
local macro_rules | `(tactic| one_place) => `(tactic| first
  | ((with_reducible apply v_call0X); (case' h1 => nest_cls); (case' h2 => top_args))
  | ((with_reducible apply v_meth0X); (case' h1 => nest_cls); (case' h2 => first | assumption | exact rfl); (case' h3 => nest_cls); (case' h5 => top_args))
  | ((with_reducible apply v_make0X); (case' h1 => nest_cls); (case' h3 => top_args))
  | ((with_reducible apply v_methX); (case' h1 => nest_cls); (case' h2 => first | assumption | exact rfl); (case' h3 => nest_cls); (case' h4 => top_caught); (case' h5 => top_args))
  | ((with_reducible apply v_makeX); (case' h1 => nest_cls); (case' h2 => top_caught); (case' h3 => top_args))
  | ((with_reducible apply v_call0L); one_place)
  | ((with_reducible apply v_lstX); one_place) | ((with_reducible apply v_tupX); one_place) | ((with_reducible apply v_blt1X); one_place)
  | ((with_reducible apply l_consX); one_place)
  | ((with_reducible apply l_consY); (case' h1 => nest_cls); (case' h2 => one_place)))
local macro_rules | `(tactic| one_item) => `(tactic| first
  | ((with_reducible apply b_retX); (case' h => one_place); (case' k => first | exact wp_x rfl | exact wp_exc rfl | skip))
  | ((with_reducible apply b_asgX); (case' h => one_place); (case' k => first | exact wp_x rfl | exact wp_exc rfl | skip))
  | ((with_reducible apply b_exprX); (case' h => one_place); (case' k => first | exact wp_x rfl | exact wp_exc rfl | skip)))
theorem sum_take' {xs : List Int} : ∀ n : Nat, (xs.take n).sum = sm (fun k => gD xs k) n
  | 0 => rfl
  | n + 1 => by
    rw [List.take_add_one, List.sum_append, sum_take' n]
    show _ + xs[n]?.toList.sum = sm (fun k => gD xs k) n + gD xs n
    congr 1
    by_cases h : n < xs.length
    · rw [get_gD h]; show [gD xs (n : Int)].sum = _; rw [List.sum_cons, List.sum_nil, Int.add_zero]
    · rw [List.getElem?_eq_none (by omega), gD_out (xs := xs) (by omega)]; rfl
theorem gD_drop {α : Type} [Inhabited α] {xs : List α} {i : Nat} {k : Int} (h : 0 ≤ k) : gD (xs.drop i) k = gD xs (i + k) := by
  unfold gD
  rw [List.getD_eq_getElem?_getD, List.getD_eq_getElem?_getD, List.getElem?_drop, show i + k.toNat = ((i : Int) + k).toNat by omega]
theorem slc_sum {xs : List Int} {i j : Int} (h : 0 ≤ i) : (slc xs i j).sum = sm (fun k => gD xs (i + k)) (j.toNat - i.toNat) := by
  unfold slc
  rw [sum_take']
  refine sm_congr fun k _ => ?_
  rw [gD_drop (by omega)]
  congr 1; omega
/-- the arrivals of a window minus its slots -/
def wx (as : List Int) (st slot : Int) : Int := (slc as st (slot + 1)).sum - (slot + 1 - st)
section
variable {P : Prog} {n : Nat}
def f_check_slot_5c4f82 : Fn := ⟨2, 2, [.ifs (.not (.cmp2 .le .lt (.int 0) (.var 1) (.call 24 [(.var 0)] []))) [.raise 4 [(.var 1)]] []]⟩
def f_window_excess_fa8b40 : Fn := ⟨4, 5, [.asg 4 (.meth 10 (.var 0) [(.var 1)] []) false,
  .expr (.call 26 [(.var 0), (.var 3)] []),
  .ifs (.not (.cmp2 .le .le (.int 0) (.var 2) (.bin .add (.var 3) (.int 1)))) [.raise 4 [(.var 2)]] [],
  .ret (.bin .sub (.blt .sum [(.slice (.var 4) [(.var 2)] [(.bin .add (.var 3) (.int 1))])]) (.bin .sub (.bin .add (.var 3) (.int 1)) (.var 2)))]⟩
/-- and windows -/
structure HWin (P : Prog) : Prop extends HRun P where
  f26 : P.fn 26 = some f_check_slot_5c4f82
  e4 : P.err 4 = some [(3, false)]
theorem check_ok (H : HWin P) {c s : Int} {rows : List (List Int)} (D : TabD c rows) (h0 : 0 ≤ s) (h1 : s < runLen c rows) : run P (n + 5) 26 [tbl c rows, .int s] = .ok .non := by
  have hc1 := D.c1
  have hc5 := D.c5
  have hl := D.l
  have hr := runlen_at (n := n) H.toHRun D.w (by omega) (by omega) (by omega)
  refine run_non H.f26 rfl rfl ?_
  dsimp only [f_check_slot_5c4f82, start, List.map, List.length_cons, List.length_nil, Nat.reduceAdd, Nat.reduceSub, List.replicate, List.cons_append, List.nil_append]
  fold_lay
  exact b_nil rfl
theorem check_X (H : HWin P) {c s : Int} {rows : List (List Int)} (D : TabD c rows) (h : ¬ (0 ≤ s ∧ s < runLen c rows)) : run P (n + 5) 26 [tbl c rows, .int s] = .exc (.ins 4 [3] [.int s]) := by
  have hc1 := D.c1
  have hc5 := D.c5
  have hl := D.l
  have hr := runlen_at (n := n) H.toHRun D.w (by omega) (by omega) (by omega)
  have he := H.e4
  refine run_exc H.f26 rfl rfl ?_
  dsimp only [f_check_slot_5c4f82, start, List.map, List.length_cons, List.length_nil, Nat.reduceAdd, Nat.reduceSub, List.replicate, List.cons_append, List.nil_append]
  fold_lay
  exact b_raise he (by nest_cls) rfl rfl
theorem arrivals_X (H : HTab P) {c : Int} {rows : List (List Int)} {g : List Int} {b : Bool} (hg : ¬ okG g c) : run P (n + 2) 72 [tbl c rows, sq b g] = .exc (.ins 1 [0] [.tup (tI g)]) := by
  have hi := some_of H.i15
  have hgr : run P (n + 1) 9 [sq b g, .int c] = .exc (.ins 1 [0] [.tup (tI g)]) := by
    cases b
    · exact grp_XU H.toHGrp hg
    · exact grp_XL H.toHGrp hg
  refine run_exc H.f72 rfl rfl ?_
  dsimp only [f_Table_arrivals_def93f, start, List.map, List.length_cons, List.length_nil, Nat.reduceAdd, Nat.reduceSub, List.replicate, List.cons_append, List.nil_append]
  one_item
/-- what window_excess answers -/
def wxR (c : Int) (rows : List (List Int)) (g : List Int) (st slot : Int) : R T :=
  if okG g c then
    if 0 ≤ slot ∧ slot < runLen c rows then
      if 0 ≤ st ∧ st ≤ slot + 1 then .ok (.int (wx (arr g rows) st slot))
      else .exc (.ins 4 [3] [.int st])
    else .exc (.ins 4 [3] [.int slot])
  else .exc (.ins 1 [0] [.tup (tI g)])
theorem window_at (H : HWin P) {f : Nat} {c st slot : Int} {rows : List (List Int)} {g : List Int} {b : Bool} (hf : P.fn f = some f_window_excess_fa8b40) (D : TabD c rows) (hgl : g.length ≤ 1000) : run P (n + 6) f [tbl c rows, sq b g, .int st, .int slot] = wxR c rows g st slot := by
  have hm := H.m10
  have he := H.e4
  have hl := D.l
  unfold wxR
  by_cases hg : okG g c
  · rw [if_pos hg]
    have ha := arrivals_at (n := n + 3) H.toHTab (b := b) hg D.w (by omega) hgl
    by_cases hs : 0 ≤ slot ∧ slot < runLen c rows
    · rw [if_pos hs]
      have hc := check_ok (n := n) H D hs.1 hs.2
      by_cases hst : 0 ≤ st ∧ st ≤ slot + 1
      · rw [if_pos hst]
        refine run_ok hf rfl rfl ?_
        dsimp only [f_window_excess_fa8b40, start, List.map, List.length_cons, List.length_nil, Nat.reduceAdd, Nat.reduceSub, List.replicate, List.cons_append, List.nil_append]
        fold_lay
        fold_lay
        fold_lay
        fold_lay
      · rw [if_neg hst]
        refine run_exc hf rfl rfl ?_
        dsimp only [f_window_excess_fa8b40, start, List.map, List.length_cons, List.length_nil, Nat.reduceAdd, Nat.reduceSub, List.replicate, List.cons_append, List.nil_append]
        fold_lay
        fold_lay
        fold_lay
        exact b_raise he (by nest_cls) rfl rfl
    · rw [if_neg hs]
      have hc := check_X (n := n) H D hs
      refine run_exc hf rfl rfl ?_
      dsimp only [f_window_excess_fa8b40, start, List.map, List.length_cons, List.length_nil, Nat.reduceAdd, Nat.reduceSub, List.replicate, List.cons_append, List.nil_append]
      fold_lay
      one_item
  · rw [if_neg hg]
    have ha := arrivals_X (n := n + 3) H.toHTab (rows := rows) (b := b) hg
    refine run_exc hf rfl rfl ?_
    dsimp only [f_window_excess_fa8b40, start, List.map, List.length_cons, List.length_nil, Nat.reduceAdd, Nat.reduceSub, List.replicate, List.cons_append, List.nil_append]
    one_item
end
end Wt

/-! PureI: the waits of a schedule. -/
namespace Wt
open PySem
local macro_rules | `(tactic| top_caught) => `(tactic| (simp only [args, List.map_cons, List.map_nil, List.getD_cons_zero, List.getD_cons_succ]; try exact rfl))
local macro_rules | `(tactic| fin_places) => `(tactic| first | exact tbl_0 (by first | assumption | rfl) | exact tbl_1 (by first | assumption | rfl))
local macro_rules | `(tactic| nest_room) => `(tactic| (dsimp only [bindTg, setAll, List.set, up, List.foldl, List.cons_append, List.nil_append]))
local macro_rules | `(tactic| fold_depth) => `(tactic| first | assumption | omega | ((simp only [List.length_map, List.length_append, List.length_set, List.length_cons, List.length_nil, List.length_zipIdx, List.length_zip, List.length_take, List.length_drop, List.length_replicate, rng_length]); omega) | grind)
local macro_rules | `(tactic| reads_via_all) => `(tactic| first | exact rfl | exact nl_I)
local macro_rules | `(tactic| leaf_len) => `(tactic| first | with_reducible exact w_seq | with_reducible exact w_seqU | ((with_reducible apply w_rng) <;> try fold_depth) | ((with_reducible apply w_rng2) <;> try fold_depth) | ((with_reducible apply w_rng3) <;> try fold_depth) | with_reducible exact w_enum | with_reducible exact w_enumU | with_reducible exact w_zip | with_reducible exact w_zip1 | with_reducible exact w_zip2 | with_reducible exact w_zip3 | with_reducible exact w_rev | with_reducible exact w_revU | with_reducible exact w_seqA)
local macro_rules | `(tactic| mem_news) => `(tactic| first
  | with_reducible exact t_len | with_reducible exact t_lenU | with_reducible exact t_sum | with_reducible exact t_sumU | with_reducible exact t_sort | with_reducible exact t_sortU
  | with_reducible exact t_rev | ((with_reducible apply t_min); assumption) | with_reducible exact t_any | with_reducible exact t_all
  | with_reducible exact t_eqL | with_reducible exact t_eqLL | with_reducible exact t_eqLU | with_reducible exact t_eqUU | with_reducible exact t_neLL | with_reducible exact t_eqU | with_reducible exact t_neL | with_reducible exact t_neU | with_reducible exact t_in | with_reducible exact t_inU | with_reducible exact t_notin | with_reducible exact t_notinU
  | ((with_reducible apply t_ixN) <;> try fold_depth) | ((with_reducible apply t_ixNU) <;> try fold_depth)
  | ((with_reducible apply t_ix) <;> try fold_depth) | ((with_reducible apply t_ixU) <;> try fold_depth)
  | ((with_reducible apply t_mul); first | exact rfl | exact mulOk64 (by fold_depth) | skip) | ((with_reducible apply t_div); first | exact divOk64 (by fold_depth) (by fold_depth) | skip) | ((with_reducible apply t_mod); try fold_depth)
  | ((with_reducible apply t_rep) <;> try fold_depth) | ((with_reducible apply t_addM); try fold_depth) | ((with_reducible apply t_addU); try fold_depth)
  | ((with_reducible apply t_rangeL) <;> try fold_depth) | ((with_reducible apply t_rangeT) <;> try fold_depth)
  | ((with_reducible apply t_slc) <;> try fold_depth) | ((with_reducible apply t_slcU) <;> try fold_depth) | ((with_reducible apply t_slcT); try fold_depth) | ((with_reducible apply t_slcTU); try fold_depth) | ((with_reducible apply t_slcF); try fold_depth) | ((with_reducible apply t_slcFU); try fold_depth)
  | with_reducible exact t_lt | with_reducible exact t_le | with_reducible exact t_gt | with_reducible exact t_ge | with_reducible exact t_eqI | with_reducible exact t_neI | with_reducible exact t_is1 | with_reducible exact t_is2 | with_reducible exact t_is3 | with_reducible exact t_is4 | with_reducible exact t_is5 | with_reducible exact t_is6
  | exact rfl)
local macro_rules | `(tactic| top_args) => `(tactic| first | with_reducible assumption | with_reducible exact isint_ok rfl | with_reducible exact isint_ok (by assumption) | apply_assumption (transparency := .reducible))
local macro_rules | `(tactic| nest_cls) => `(tactic| first
  | ((with_reducible apply v_var); exact rfl)
  | with_reducible exact v_int | with_reducible exact v_bl | with_reducible exact v_non | with_reducible exact v_str | with_reducible exact l_nil
  | ((with_reducible apply l_cons); (case' h1 => nest_cls); (case' h2 => nest_cls))
  | ((with_reducible apply v_bin); (case' h1 => nest_cls); (case' h2 => nest_cls); (case' h3 => mem_news))
  | ((with_reducible apply v_cmp); (case' h1 => nest_cls); (case' h2 => nest_cls); (case' h3 => mem_news))
  | ((with_reducible apply v_ix); (case' h1 => nest_cls); (case' h2 => nest_cls); (case' h3 => mem_news))
  | ((with_reducible apply v_fld); (case' h1 => nest_cls); (case' h2 => fin_places))
  | ((with_reducible apply v_blt1); (case' h1 => nest_cls); (case' h2 => mem_news))
  | ((with_reducible apply v_blt2); (case' h1 => nest_cls); (case' h2 => nest_cls); (case' h3 => mem_news))
  | ((with_reducible apply v_call0); (case' h1 => nest_cls); (case' h2 => top_args))
  | ((with_reducible apply v_not); nest_cls)
  | ((with_reducible apply v_neg); nest_cls)
  | ((with_reducible apply v_and); (case' h1 => nest_cls); (case' h2 => (intro _; nest_cls)))
  | ((with_reducible apply v_or); (case' h1 => nest_cls); (case' h2 => (intro _; nest_cls)))
  | ((with_reducible apply v_cmp2); (case' h1 => nest_cls); (case' h2 => nest_cls); (case' h3 => mem_news); (case' h4 => (intro _; nest_cls)); (case' h5 => (intro _; mem_news)))
  | ((with_reducible apply v_ite); (case' h1 => nest_cls); (case' h2 => (intro _; nest_cls)); (case' h3 => (intro _; nest_cls)); (case' h4 => pre_facts))
  | ((with_reducible apply v_rev); (case' h1 => nest_cls); (case' h2 => mem_news))
  | ((with_reducible apply v_tupI); units_room) | ((with_reducible apply v_tupU); units_room) | ((with_reducible apply v_tup); nest_cls)
  | with_reducible exact v_nil0 | with_reducible exact v_nilI
  | ((with_reducible apply v_lstI); units_room) | ((with_reducible apply v_lstL); units_room) | ((with_reducible apply v_lstU); units_room) | ((with_reducible apply v_lst); nest_cls)
  | ((with_reducible apply v_slice); (case' h1 => nest_cls); (case' h2 => nest_cls); (case' h3 => nest_cls); (case' h4 => mem_news))
  | with_reducible exact p_nil | ((with_reducible apply p_one); nest_cls)
  | ((with_reducible apply v_comp0); (case' h1 => nest_cls); (case' h2 => leaf_len); (case' h3 => (refine LIM_of ?_; try fold_depth)); (case' h4 => (intro _ _; nest_room; try exact rfl)); (case' h6 => (intro _ _; nest_cls)); (case' h7 => first | with_reducible exact m_id | with_reducible exact m_idL | with_reducible exact m_idU | with_reducible exact m_int | with_reducible exact m_lst | with_reducible exact m_tup | exact rfl))
  | ((with_reducible apply v_comp); (case' h1 => nest_cls); (case' h2 => leaf_len); (case' h3 => (refine LIM_of ?_; try fold_depth)); (case' h4 => (intro _ _; nest_room; try exact rfl)); (case' h5 => (intro _ _; nest_cls)); (case' h6 => (intro _ _ _; nest_cls)); (case' h7 => first | with_reducible exact m_id | with_reducible exact m_idL | with_reducible exact m_idU | with_reducible exact m_int | with_reducible exact m_lst | with_reducible exact m_tup | exact rfl))
  | ((with_reducible apply v_xisa); exact rfl) | ((with_reducible apply v_xfld); exact rfl)
  | ((with_reducible apply c_one); nest_cls)
  | ((with_reducible apply v_meth0); (case' h1 => nest_cls); (case' h2 => first | assumption | exact rfl); (case' h3 => nest_cls); (case' h5 => top_args))
  | ((with_reducible apply v_make0); (case' h1 => nest_cls); (case' h3 => top_args))
  | ((with_reducible apply v_meth); (case' h1 => nest_cls); (case' h2 => first | assumption | exact rfl); (case' h3 => nest_cls); (case' h4 => top_caught); (case' h5 => top_args))
  | ((with_reducible apply v_make); (case' h1 => nest_cls); (case' h2 => top_caught); (case' h3 => top_args))
  | ((with_reducible apply v_call); (case' h1 => nest_cls); (case' h2 => top_caught); (case' h3 => top_args)))
local macro_rules | `(tactic| units_room) => `(tactic| first
  | with_reducible exact l_nilM
  | ((with_reducible apply l_consI); (case' h1 => nest_cls); (case' h2 => units_room))
  | ((with_reducible apply l_consL); (case' h1 => nest_cls); (case' h2 => units_room))
  | ((with_reducible apply l_consU); (case' h1 => nest_cls); (case' h2 => units_room)))
local macro_rules | `(tactic| pre_facts) => `(tactic| first | with_reducible exact i_int | with_reducible exact i_lstI | with_reducible exact i_tupI | with_reducible exact i_bl | with_reducible exact i_lst | exact rfl)
local macro_rules | `(tactic| one_sign) => `(tactic| first | exact rfl | assumption | (simp only [*, decide_true, decide_false, Bool.not_true, Bool.not_false, Bool.or_false, Bool.or_true, Bool.and_true, Bool.and_false, Bool.true_and, Bool.false_and, Bool.true_or, Bool.false_or]; done))
local macro_rules | `(tactic| got_up) => `(tactic| first | with_reducible exact y_map | exact rfl)
local macro_rules | `(tactic| isplit) => `(tactic| first | exact rfl | exact wp_rt rfl | exact wp_out rfl | exact wp_nx rfl | exact wp_x rfl | exact wp_exc rfl | skip)
local macro_rules | `(tactic| fold_lay) => `(tactic| first
  | ((with_reducible apply b_asg); (case' h => nest_cls); (case' k => nest_room))
  | ((with_reducible apply b_asgG); (case' h => nest_cls); (case' hn => reads_via_all); (case' k => nest_room))
  | ((with_reducible apply b_ret); (case' h => nest_cls); (case' k => isplit))
  | ((with_reducible apply b_ifA); (case' h => nest_cls); (case' h1 => (intro _; nest_cls)); (case' h2 => exact rfl); (case' h3 => pre_facts); (case' k => nest_room))
  | ((with_reducible apply b_ifAG); (case' h => nest_cls); (case' h1 => (intro _; nest_cls)); (case' hn => reads_via_all); (case' h2 => exact rfl); (case' h3 => pre_facts); (case' k => nest_room))
  | ((with_reducible apply b_ifE); (case' h => nest_cls); (case' h1 => (intro _; nest_cls)); (case' h2 => (intro _; nest_cls)); (case' h3 => pre_facts); (case' k => nest_room))
  | ((with_reducible apply b_ifs); (case' h => nest_cls); (case' k => first | ((with_reducible apply k_F); (case' h => one_sign); (case' k => nest_room)) | ((with_reducible apply k_T); (case' h => one_sign); (case' k => nest_room)) | skip))
  | ((with_reducible apply b_app); (case' h => exact rfl); (case' h2 => nest_cls); (case' h3 => (refine LIM_lt ?_; try fold_depth)); (case' hy => got_up); (case' k => nest_room))
  | ((with_reducible apply b_appG); (case' h => exact rfl); (case' h2 => nest_cls); (case' hn => reads_via_all); (case' h3 => (refine LIM_lt ?_; try fold_depth)); (case' hy => got_up); (case' k => nest_room))
  | ((with_reducible apply b_par); (case' h => nest_cls); (case' h2 => (nest_room; try exact rfl)))
  | ((with_reducible apply b_asgT); (case' h => nest_cls); (case' h2 => (nest_room; try exact rfl)))
  | ((with_reducible apply b_aug); (case' h => exact rfl); (case' h2 => nest_cls); (case' h3 => mem_news); (case' k => nest_room))
  | ((with_reducible apply b_expr); (case' h => nest_cls))
  | ((with_reducible apply b_setIx); (case' h2 => nest_cls); (case' h => exact rfl); (case' h3 => nest_cls); (case' h4 => try fold_depth); (case' h5 => try fold_depth); (case' hy => first | with_reducible exact y_set | exact rfl); (case' k => nest_room))
  | ((with_reducible apply b_setIxG); (case' h2 => nest_cls); (case' hn => reads_via_all); (case' h => exact rfl); (case' h3 => nest_cls); (case' h4 => try fold_depth); (case' h5 => try fold_depth); (case' hy => first | with_reducible exact y_set | exact rfl); (case' k => nest_room))
  | ((with_reducible apply b_raise); (case' h => exact rfl); (case' h2 => nest_cls); (case' h3 => exact rfl); (case' k => isplit))
  | ((with_reducible apply b_clear); (case' h => exact rfl); (case' k => nest_room))
  | with_reducible apply b_doc | with_reducible apply b_pass | with_reducible apply b_cont | with_reducible apply b_brk | ((with_reducible apply b_retN); isplit)
  | ((with_reducible apply b_nil); isplit))
local macro_rules | `(tactic| one_place) => `(tactic| first
  | ((with_reducible apply v_call0X); (case' h1 => nest_cls); (case' h2 => top_args))
  | ((with_reducible apply v_meth0X); (case' h1 => nest_cls); (case' h2 => first | assumption | exact rfl); (case' h3 => nest_cls); (case' h5 => top_args))
  | ((with_reducible apply v_make0X); (case' h1 => nest_cls); (case' h3 => top_args))
  | ((with_reducible apply v_methX); (case' h1 => nest_cls); (case' h2 => first | assumption | exact rfl); (case' h3 => nest_cls); (case' h4 => top_caught); (case' h5 => top_args))
  | ((with_reducible apply v_makeX); (case' h1 => nest_cls); (case' h2 => top_caught); (case' h3 => top_args))
  | ((with_reducible apply v_call0L); one_place)
  | ((with_reducible apply v_lstX); one_place) | ((with_reducible apply v_tupX); one_place) | ((with_reducible apply v_blt1X); one_place)
  | ((with_reducible apply l_consX); one_place)
  | ((with_reducible apply l_consY); (case' h1 => nest_cls); (case' h2 => one_place)))
local macro_rules | `(tactic| one_item) => `(tactic| first
  | ((with_reducible apply b_retX); (case' h => one_place); (case' k => first | exact wp_x rfl | exact wp_exc rfl | skip))
  | ((with_reducible apply b_asgX); (case' h => one_place); (case' k => first | exact wp_x rfl | exact wp_exc rfl | skip))
  | ((with_reducible apply b_exprX); (case' h => one_place); (case' k => first | exact wp_x rfl | exact wp_exc rfl | skip)))
theorem wt_sum {rows : List (List Int)} {sc : List (Option Int)} {k : Int} : ∀ t : Nat, sm (fun t => wv rows sc (t + 1) k) t = t * wv rows sc t k + wt rows sc t k
  | 0 => by show (0 : Int) = ((0 : Nat) : Int) * _ + 0; simp
  | t + 1 => by
    show sm (fun t => wv rows sc (t + 1) k) t + wv rows sc (t + 1) k = _
    rw [wt_sum t]
    have e : wv rows sc (t + 1) k = wv rows sc t k + aA rows t k - (if gD sc t = some k then 1 else 0) := rfl
    have e2 : wt rows sc (t + 1) k = wt rows sc t k - t * aA rows t k + (if gD sc t = some k then (t : Int) else 0) := rfl
    have e3 : ((t + 1 : Nat) : Int) * wv rows sc (t + 1) k = t * wv rows sc (t + 1) k + wv rows sc (t + 1) k := by
      rw [show ((t + 1 : Nat) : Int) = t + 1 by omega, Int.add_mul, Int.one_mul]
    rw [e3, e2]
    have e4 : (t : Int) * wv rows sc (t + 1) k = t * wv rows sc t k + t * aA rows t k - (if gD sc t = some k then (t : Int) else 0) := by
      rw [e, Int.mul_sub, Int.mul_add]
      congr 1
      split <;> simp
    rw [e4]; omega
section
variable {P : Prog} {n : Nat}
def f_with_arrivals_05e945 : Fn := ⟨3, 5, [.ifs (.cmp .ge (.var 1) (.blt .len [(.fld (.var 0) 1)])) [.ret (.blt .list [(.var 2)])] [],
  .ret (.comp (.bin .add (.var 3) (.var 4)) (.many [3, 4]) .zip [(.var 2), (.ix (.fld (.var 0) 1) (.var 1))] [])]⟩
def f_schedule_waits_b99122 : Fn := ⟨2, 9, [.asg 2 (.call 24 [(.var 0)] []) false,
  .ifs (.cmp .ne (.blt .len [(.var 1)]) (.var 2)) [.raise 6 [(.blt .min2 [(.blt .len [(.var 1)]), (.var 2)])]] [],
  .asg 3 (.comp (.int 0) (.one 7) .rng [(.fld (.var 0) 0)] []) false,
  .asg 4 (.comp (.int 0) (.one 7) .rng [(.fld (.var 0) 0)] []) false,
  .forS (.many [5, 6]) .enum [(.var 1)] [.asg 3 (.call 43 [(.var 0), (.var 5), (.var 3)] []) false, .ifs (.cmp .is (.var 6) .non) [.ifs (.cmp .gt (.blt .sum [(.var 3)]) (.int 0)) [.raise 7 [(.var 5)]] []] [.ifs (.or (.not (.cmp2 .le .lt (.int 0) (.var 6) (.fld (.var 0) 0))) (.cmp .eq (.ix (.var 3) (.var 6)) (.int 0))) [.raise 8 [(.var 5)]] [], .setIx 3 (.var 6) (.bin .sub (.ix (.var 3) (.var 6)) (.int 1)) true], .asg 4 (.comp (.bin .add (.var 8) (.var 7)) (.many [8, 7]) .zip [(.var 4), (.var 3)] []) false] [0, 0, 1, 0, 2, 0, 0, 0, 0],
  .ret (.blt .tuple [(.var 4)])]⟩
/-- sums place by place -/
def addL (w r : List Int) : List Int := (w.zip r).map fun p => p.1 + p.2
theorem addL_len {w r : List Int} : (addL w r).length = min w.length r.length := by
  unfold addL
  rw [List.length_map, List.length_zip]
theorem addL_at {w r : List Int} {k : Int} (h0 : 0 ≤ k) (h1 : k < w.length) (h2 : k < r.length) : gD (addL w r) k = gD w k + gD r k := by
  have e1 : k.toNat < w.length := by omega
  have e2 : k.toNat < r.length := by omega
  unfold addL gD
  rw [List.getD_eq_getElem?_getD, List.getD_eq_getElem?_getD, List.getD_eq_getElem?_getD, List.getElem?_map, List.getElem?_eq_getElem (by rw [List.length_zip]; omega), List.getElem?_eq_getElem e1, List.getElem?_eq_getElem e2, List.getElem_zip]; rfl
/-- what waits with the arrivals of a slot -/
def wA (rows : List (List Int)) (t : Int) (w : List Int) : List Int := if rows.length ≤ t then w else addL w (gD rows t)
theorem wA_len {c t : Int} {rows : List (List Int)} {w : List Int} (hw : ∀ r ∈ rows, (r.length : Int) = c) (h : (w.length : Int) = c) (ht : 0 ≤ t) : ((wA rows t w).length : Int) = c := by
  unfold wA
  split
  · exact h
  · have := hw _ (gD_mem (xs := rows) (k := t) ht (by omega))
    rw [addL_len]; omega
theorem wA_at {c k : Int} {t : Nat} {rows : List (List Int)} {w : List Int} (hw : ∀ r ∈ rows, (r.length : Int) = c) (h : (w.length : Int) = c) (h0 : 0 ≤ k) (h1 : k < c) : gD (wA rows t w) k = gD w k + aA rows t k := by
  unfold wA aA
  split
  · rename_i h2
    rw [gD_out (xs := rows) h2, show gD (default : List Int) k = 0 from gD_out (by show (0 : Int) ≤ k; omega)]
    exact (Int.add_zero _).symm
  · have := hw _ (gD_mem (xs := rows) (k := t) (by omega) (by omega))
    rw [addL_at h0 (by omega) (by omega)]
theorem warr_at {c t : Int} {rows : List (List Int)} {w : List Int} (hi : (P.ini 15).isSome = true) (h43 : P.fn 43 = some f_with_arrivals_05e945) (ht : 0 ≤ t) (hl : w.length ≤ 1000) : run P (n + 1) 43 [tbl c rows, .int t, .lst (tI w)] = .ok (.lst (tI (wA rows t w))) := by
  refine run_ok h43 rfl rfl ?_
  dsimp only [f_with_arrivals_05e945, start, List.map, List.length_cons, List.length_nil, Nat.reduceAdd, Nat.reduceSub, List.replicate, List.cons_append, List.nil_append]
  (with_reducible apply b_ifs); (case' h => nest_cls)
  refine k_split ?_ ?_ <;> intro hq <;> nest_room
  · have hq : rows.length ≤ t := by simpa using hq
    fold_lay
    refine wp_rt ?_
    unfold wA
    rw [if_pos hq]
  · have hq : t < rows.length := by simpa using hq
    fold_lay
    refine wp_rt ?_
    unfold wA
    rw [if_neg (by omega)]; rfl
/-- the program holds schedule_waits -/
structure HSch (P : Prog) : Prop extends HRun P where
  f43 : P.fn 43 = some f_with_arrivals_05e945
  f45 : P.fn 45 = some f_schedule_waits_b99122
def sqO (b : Bool) (sc : List (Option Int)) : T := if b then .lst (sc.map oT) else .tup (sc.map oT)
/-- the waits of a run -/
def runW (c : Int) (rows : List (List Int)) (sc : List (Option Int)) : List Int := (rangeI 0 c).map fun k => wt rows sc sc.length k
theorem runW_eq {c : Int} {rows : List (List Int)} {sc : List (Option Int)} {ws : List Int} (hl : (ws.length : Int) = c) (h : ∀ k : Int, 0 ≤ k → k < c → gD ws k = wt rows sc sc.length k) : ws = runW c rows sc := by
  refine gD_ext (by unfold runW; rw [List.length_map, rng_length]; omega) fun k hk => ?_
  unfold runW
  rw [gD_map (by omega) (by rw [rng_length]; omega), gD_rng (by omega) (by omega), h k (by omega) (by omega), Int.zero_add]
theorem sched_at (H : HSch P) {c : Int} {rows : List (List Int)} {sc : List (Option Int)} {b : Bool} (hw : ∀ r ∈ rows, (r.length : Int) = c) (hc0 : 0 ≤ c) (hc : c ≤ 100) (hl : rows.length ≤ 1000) (hnn : ∀ r ∈ rows, ∀ v ∈ r, 0 ≤ v) (R : IsRun c rows sc) (hsl : sc.length ≤ 1000000) :
    run P (n + 5) 45 [tbl c rows, sqO b sc] = .ok (.tup (tI (runW c rows sc))) := by
  have hi := some_of H.i15
  have hr := runlen_at (n := n) H.toHRun (c := c) (rows := rows) hw hl hc0 (by omega)
  rw [← R.len] at hr
  have key : ∀ i : Nat, i < sc.length → (∀ k : Int, 0 ≤ k → k < c → 0 ≤ wv rows sc i k) → ∀ k : Int, 0 ≤ k → k < c → 0 ≤ wv rows sc (i + 1) k := fun i hi hk k h0 h1 => by
    have := hk k h0 h1
    have ho := R.ok i hi
    have ha : 0 ≤ aA rows i k := by
      unfold aA
      by_cases hi : i < rows.length
      · have hm := gD_mem (xs := rows) (k := i) (by omega) (by omega)
        exact hnn _ hm _ (gD_mem h0 (by rw [hw _ hm]; exact h1))
      · rw [gD_out (xs := rows) (by omega), show gD (default : List Int) k = 0 from gD_out (by show (0 : Int) ≤ k; omega)]; exact Int.le_refl 0
    show 0 ≤ wv rows sc i k + aA rows i k - (if gD sc i = some k then 1 else 0)
    unfold okS at ho
    cases hg : gD sc (i : Int) with
    | none => simp; omega
    | some v =>
      rw [hg] at ho
      by_cases e : v = k
      · subst e; rw [if_pos rfl]; have := ho.2.2; omega
      · rw [if_neg (by simpa using e)]; omega
  have h43 : ∀ (t : Int) (w : List Int), 0 ≤ t → w.length ≤ 1000 → run P (n + 4) 43 [tbl c rows, .int t, .lst (tI w)] = .ok (.lst (tI (wA rows t w))) := fun t w h0 h1 => warr_at hi H.f43 h0 h1
  refine run_ok H.f45 rfl rfl ?_
  have hz : ∀ k : Int, 0 ≤ k → k < c → gD (List.map (fun k => (0 : Int)) (rangeI 0 c)) k = 0 := fun k h0 h1 => by rw [gD_map h0 (by rw [rng_length]; omega)]
  have hzl : (((List.map (fun k => (0 : Int)) (rangeI 0 c)).length : Nat) : Int) = c := by rw [List.length_map, rng_length]; omega
  have main : ∀ (e0 : Env) (S : T), (S = .lst (sc.map oT) ∨ S = .tup (sc.map oT)) → Wp (fun q => q = .rt (.tup (tI (runW c rows sc)))) (exB P (run P (n + 4)) (make P (n + 4)) none (f_schedule_waits_b99122.body.drop 2) [some (tbl c rows), some S, some (.int (sc.length : Nat)), none, none, none, none, none, none]) := fun e0 S hS => by
    dsimp only [f_schedule_waits_b99122, List.drop]
    fold_lay
    fold_lay
    have hwk : walk P (run P (n + 4)) .enum [S] = .ok (sc.zipIdx.map fun p => .tup [.int (p.2 : Nat), oT p.1]) := by
      rcases hS with rfl | rfl
      · exact w_enum
      · exact w_enumU
    refine b_for (σ := List Int × List Int × Option T × Option T) (fun s => [(3, some (.lst (tI s.1))), (4, some (.lst (tI s.2.1))), (5, s.2.2.1), (6, s.2.2.2)])
      (fun i s => (s.1.length : Int) = c ∧ (s.2.1.length : Int) = c ∧ (∀ k : Int, 0 ≤ k → k < c → gD s.1 k = wv rows sc i k) ∧ (∀ k : Int, 0 ≤ k → k < c → gD s.2.1 k = sm (fun t => wv rows sc (t + 1) k) i) ∧ ∀ k : Int, 0 ≤ k → k < c → 0 ≤ wv rows sc i k)
      ((List.map (fun k => (0 : Int)) (rangeI 0 c)), (List.map (fun k => (0 : Int)) (rangeI 0 c)), none, none) (by nest_cls) hwk rfl (by intro x s; nest_room) ⟨hzl, hzl, hz, hz, fun _ _ _ => Int.le_refl 0⟩ ?_ ?_
    · rintro i x ⟨w, ws, o5, o6⟩ hx ⟨h1, h2, h3, h4, h5⟩
      obtain ⟨rfl, hi2⟩ := zip_get hx
      dsimp only at h1 h2 h3 h4 h5 ⊢
      have a1 := wA_len (t := (i : Int)) hw h1 (by omega)
      have a2 := fun k h0 h6 => wA_at (t := i) (k := k) hw h1 h0 h6
      have ho := R.ok i hi2
      unfold okS at ho
      have hstep : ∀ k : Int, wv rows sc (i + 1) k = wv rows sc i k + aA rows i k - (if gD sc i = some k then 1 else 0) := fun _ => rfl
      have k5 := key i hi2 h5
      have fin : ∀ (w3 : List Int) (z : T), (w3.length : Int) = c → (∀ k : Int, 0 ≤ k → k < c → gD w3 k = wv rows sc (i + 1) k) → ∃ s', [some (tbl c rows), some S, some (.int (sc.length : Nat)), some (.lst (tI w3)), some (.lst (tI (addL ws w3))), some (.int (i : Nat)), some z, none, none] = up [some (tbl c rows), some S, some (.int (sc.length : Nat)), some (.lst (tI (List.map (fun k => (0 : Int)) (rangeI 0 c)))), some (.lst (tI (List.map (fun k => (0 : Int)) (rangeI 0 c)))), none, none, none, none] [(3, some (.lst (tI s'.1))), (4, some (.lst (tI s'.2.1))), (5, s'.2.2.1), (6, s'.2.2.2)] ∧ (((s' : List Int × List Int × Option T × Option T).1.length : Int) = c ∧ (s'.2.1.length : Int) = c ∧ (∀ k : Int, 0 ≤ k → k < c → gD s'.1 k = wv rows sc (i + 1) k) ∧ (∀ k : Int, 0 ≤ k → k < c → gD s'.2.1 k = sm (fun t => wv rows sc (t + 1) k) (i + 1)) ∧ ∀ k : Int, 0 ≤ k → k < c → 0 ≤ wv rows sc (i + 1) k) := fun w3 z b1 b2 => ⟨(w3, addL ws w3, _, _), rfl, b1, by rw [addL_len]; omega, b2, fun k h0 h6 => by
          show gD (addL ws w3) k = sm _ i + wv rows sc (i + 1) k
          rw [addL_at h0 (by omega) (by omega), h4 k h0 h6, b2 k h0 h6], k5⟩
      generalize hA : wA rows (i : Int) w = w2 at a1 a2
      have h43i := h43 i w (by omega) (by omega)
      rw [hA] at h43i
      fold_lay
      cases hg : gD sc (i : Int) with
      | none =>
        rw [hg] at ho
        have hall : ∀ k : Int, 0 ≤ k → k < c → gD w2 k = 0 := fun k h0 h6 => by rw [a2 k h0 h6, h3 k h0 h6]; exact ho k h0 h6
        have hs0 : w2.sum = 0 := by rw [sum_of a1 hall]; exact sm_zero
        refine b_ifs (p := true) (v_cmp (by nest_cls) (by nest_cls) rfl) ?_
        refine k_T rfl ?_
        nest_room
        fold_lay
        fold_lay
        exact b_nil (lp_nx (fin w2 _ a1 fun k h0 h6 => by rw [hall k h0 h6, hstep, hg, if_neg (by simp)]; have := ho k h0 h6; omega))
      | some v =>
        rw [hg] at ho
        have hv0 := ho.1
        have hv1 := ho.2.1
        have hv : 0 < gD w2 v := by rw [a2 v hv0 hv1, h3 v hv0 hv1]; exact ho.2.2
        refine b_ifs (p := false) (v_cmp (by nest_cls) (by nest_cls) rfl) ?_
        refine k_F rfl ?_
        nest_room
        dsimp only [oT]
        (with_reducible apply b_ifs); (case' h => nest_cls)
        refine k_F ?_ ?_
        · rw [decide_eq_true hv0, decide_eq_true hv1, decide_eq_false (by omega : ¬ gD w2 v = 0)]; rfl
        · nest_room
          fold_lay
          fold_lay
          exact b_nil (lp_nx (fin _ _ (by rw [List.length_set]; exact a1) fun k h0 h6 => by
            rw [gD_set h0 (by omega), hstep, hg]
            by_cases e : k = v
            · rw [if_pos (by omega), if_pos (by rw [e]), e, a2 v hv0 hv1, h3 v hv0 hv1]
            · rw [if_neg (by omega), if_neg (by simp; omega), a2 k h0 h6, h3 k h0 h6, Int.sub_zero]))
    · rintro ⟨w, ws, o5, o6⟩ ⟨h1, h2, h3, h4, h5⟩
      dsimp only at h1 h2 h3 h4 h5
      nest_room
      fold_lay
      refine wp_rt ?_
      rw [List.length_zipIdx] at h3 h4
      rw [runW_eq (ws := ws) h2 fun k h0 h6 => by rw [h4 k h0 h6, wt_sum, R.fin k h0 h6, Int.mul_zero, Int.zero_add]]
  cases b
  · show Wp _ (exB P (run P (n + 4)) (make P (n + 4)) none f_schedule_waits_b99122.body [some (tbl c rows), some (.tup (sc.map oT)), none, none, none, none, none, none, none])
    unfold f_schedule_waits_b99122
    fold_lay
    fold_lay
    exact main [] _ (.inr rfl)
  · show Wp _ (exB P (run P (n + 4)) (make P (n + 4)) none f_schedule_waits_b99122.body [some (tbl c rows), some (.lst (sc.map oT)), none, none, none, none, none, none, none])
    unfold f_schedule_waits_b99122
    fold_lay
    fold_lay
    exact main [] _ (.inl rfl)
end
end Wt

/-! PureJ: the best window. -/
namespace Wt
open PySem
local macro_rules | `(tactic| top_caught) => `(tactic| (simp only [args, List.map_cons, List.map_nil, List.getD_cons_zero, List.getD_cons_succ]; try exact rfl))
local macro_rules | `(tactic| fin_places) => `(tactic| first | exact tbl_0 (by first | assumption | rfl) | exact tbl_1 (by first | assumption | rfl))
local macro_rules | `(tactic| nest_room) => `(tactic| (dsimp only [bindTg, setAll, List.set, up, List.foldl, List.cons_append, List.nil_append]))
local macro_rules | `(tactic| fold_depth) => `(tactic| first | assumption | omega | ((simp only [List.length_map, List.length_append, List.length_set, List.length_cons, List.length_nil, List.length_zipIdx, List.length_zip, List.length_take, List.length_drop, List.length_replicate, rng_length]); omega) | grind)
local macro_rules | `(tactic| reads_via_all) => `(tactic| first | exact rfl | exact nl_I)
local macro_rules | `(tactic| leaf_len) => `(tactic| first | with_reducible exact w_seq | with_reducible exact w_seqU | ((with_reducible apply w_rng) <;> try fold_depth) | ((with_reducible apply w_rng2) <;> try fold_depth) | ((with_reducible apply w_rng3) <;> try fold_depth) | with_reducible exact w_enum | with_reducible exact w_enumU | with_reducible exact w_zip | with_reducible exact w_zip1 | with_reducible exact w_zip2 | with_reducible exact w_zip3 | with_reducible exact w_rev | with_reducible exact w_revU | with_reducible exact w_seqA)
local macro_rules | `(tactic| mem_news) => `(tactic| first
  | with_reducible exact t_len | with_reducible exact t_lenU | with_reducible exact t_sum | with_reducible exact t_sumU | with_reducible exact t_sort | with_reducible exact t_sortU
  | with_reducible exact t_rev | ((with_reducible apply t_min); assumption) | with_reducible exact t_any | with_reducible exact t_all
  | with_reducible exact t_eqL | with_reducible exact t_eqLL | with_reducible exact t_eqLU | with_reducible exact t_eqUU | with_reducible exact t_neLL | with_reducible exact t_eqU | with_reducible exact t_neL | with_reducible exact t_neU | with_reducible exact t_in | with_reducible exact t_inU | with_reducible exact t_notin | with_reducible exact t_notinU
  | ((with_reducible apply t_ixN) <;> try fold_depth) | ((with_reducible apply t_ixNU) <;> try fold_depth)
  | ((with_reducible apply t_ix) <;> try fold_depth) | ((with_reducible apply t_ixU) <;> try fold_depth)
  | ((with_reducible apply t_mul); first | exact rfl | exact mulOk64 (by fold_depth) | skip) | ((with_reducible apply t_div); first | exact divOk64 (by fold_depth) (by fold_depth) | skip) | ((with_reducible apply t_mod); try fold_depth)
  | ((with_reducible apply t_rep) <;> try fold_depth) | ((with_reducible apply t_addM); try fold_depth) | ((with_reducible apply t_addU); try fold_depth)
  | ((with_reducible apply t_rangeL) <;> try fold_depth) | ((with_reducible apply t_rangeT) <;> try fold_depth)
  | ((with_reducible apply t_slc) <;> try fold_depth) | ((with_reducible apply t_slcU) <;> try fold_depth) | ((with_reducible apply t_slcT); try fold_depth) | ((with_reducible apply t_slcTU); try fold_depth) | ((with_reducible apply t_slcF); try fold_depth) | ((with_reducible apply t_slcFU); try fold_depth)
  | with_reducible exact t_lt | with_reducible exact t_le | with_reducible exact t_gt | with_reducible exact t_ge | with_reducible exact t_eqI | with_reducible exact t_neI | with_reducible exact t_is1 | with_reducible exact t_is2 | with_reducible exact t_is3 | with_reducible exact t_is4 | with_reducible exact t_is5 | with_reducible exact t_is6
  | exact rfl)
local macro_rules | `(tactic| top_args) => `(tactic| first | with_reducible assumption | with_reducible exact isint_ok rfl | with_reducible exact isint_ok (by assumption) | apply_assumption (transparency := .reducible))
local macro_rules | `(tactic| nest_cls) => `(tactic| first
  | ((with_reducible apply v_var); exact rfl)
  | with_reducible exact v_int | with_reducible exact v_bl | with_reducible exact v_non | with_reducible exact v_str | with_reducible exact l_nil
  | ((with_reducible apply l_cons); (case' h1 => nest_cls); (case' h2 => nest_cls))
  | ((with_reducible apply v_bin); (case' h1 => nest_cls); (case' h2 => nest_cls); (case' h3 => mem_news))
  | ((with_reducible apply v_cmp); (case' h1 => nest_cls); (case' h2 => nest_cls); (case' h3 => mem_news))
  | ((with_reducible apply v_ix); (case' h1 => nest_cls); (case' h2 => nest_cls); (case' h3 => mem_news))
  | ((with_reducible apply v_fld); (case' h1 => nest_cls); (case' h2 => fin_places))
  | ((with_reducible apply v_blt1); (case' h1 => nest_cls); (case' h2 => mem_news))
  | ((with_reducible apply v_blt2); (case' h1 => nest_cls); (case' h2 => nest_cls); (case' h3 => mem_news))
  | ((with_reducible apply v_call0); (case' h1 => nest_cls); (case' h2 => top_args))
  | ((with_reducible apply v_not); nest_cls)
  | ((with_reducible apply v_neg); nest_cls)
  | ((with_reducible apply v_and); (case' h1 => nest_cls); (case' h2 => (intro _; nest_cls)))
  | ((with_reducible apply v_or); (case' h1 => nest_cls); (case' h2 => (intro _; nest_cls)))
  | ((with_reducible apply v_cmp2); (case' h1 => nest_cls); (case' h2 => nest_cls); (case' h3 => mem_news); (case' h4 => (intro _; nest_cls)); (case' h5 => (intro _; mem_news)))
  | ((with_reducible apply v_ite); (case' h1 => nest_cls); (case' h2 => (intro _; nest_cls)); (case' h3 => (intro _; nest_cls)); (case' h4 => pre_facts))
  | ((with_reducible apply v_rev); (case' h1 => nest_cls); (case' h2 => mem_news))
  | ((with_reducible apply v_tupI); units_room) | ((with_reducible apply v_tupU); units_room) | ((with_reducible apply v_tup); nest_cls)
  | with_reducible exact v_nil0 | with_reducible exact v_nilI
  | ((with_reducible apply v_lstI); units_room) | ((with_reducible apply v_lstL); units_room) | ((with_reducible apply v_lstU); units_room) | ((with_reducible apply v_lst); nest_cls)
  | ((with_reducible apply v_slice); (case' h1 => nest_cls); (case' h2 => nest_cls); (case' h3 => nest_cls); (case' h4 => mem_news))
  | with_reducible exact p_nil | ((with_reducible apply p_one); nest_cls)
  | ((with_reducible apply v_comp0); (case' h1 => nest_cls); (case' h2 => leaf_len); (case' h3 => (refine LIM_of ?_; try fold_depth)); (case' h4 => (intro _ _; nest_room; try exact rfl)); (case' h6 => (intro _ _; nest_cls)); (case' h7 => first | with_reducible exact m_id | with_reducible exact m_idL | with_reducible exact m_idU | with_reducible exact m_int | with_reducible exact m_lst | with_reducible exact m_tup | exact rfl))
  | ((with_reducible apply v_comp); (case' h1 => nest_cls); (case' h2 => leaf_len); (case' h3 => (refine LIM_of ?_; try fold_depth)); (case' h4 => (intro _ _; nest_room; try exact rfl)); (case' h5 => (intro _ _; nest_cls)); (case' h6 => (intro _ _ _; nest_cls)); (case' h7 => first | with_reducible exact m_id | with_reducible exact m_idL | with_reducible exact m_idU | with_reducible exact m_int | with_reducible exact m_lst | with_reducible exact m_tup | exact rfl))
  | ((with_reducible apply v_xisa); exact rfl) | ((with_reducible apply v_xfld); exact rfl)
  | ((with_reducible apply c_one); nest_cls)
  | ((with_reducible apply v_meth0); (case' h1 => nest_cls); (case' h2 => first | assumption | exact rfl); (case' h3 => nest_cls); (case' h5 => top_args))
  | ((with_reducible apply v_make0); (case' h1 => nest_cls); (case' h3 => top_args))
  | ((with_reducible apply v_meth); (case' h1 => nest_cls); (case' h2 => first | assumption | exact rfl); (case' h3 => nest_cls); (case' h4 => top_caught); (case' h5 => top_args))
  | ((with_reducible apply v_make); (case' h1 => nest_cls); (case' h2 => top_caught); (case' h3 => top_args))
  | ((with_reducible apply v_call); (case' h1 => nest_cls); (case' h2 => top_caught); (case' h3 => top_args)))
local macro_rules | `(tactic| units_room) => `(tactic| first
  | with_reducible exact l_nilM
  | ((with_reducible apply l_consI); (case' h1 => nest_cls); (case' h2 => units_room))
  | ((with_reducible apply l_consL); (case' h1 => nest_cls); (case' h2 => units_room))
  | ((with_reducible apply l_consU); (case' h1 => nest_cls); (case' h2 => units_room)))
local macro_rules | `(tactic| pre_facts) => `(tactic| first | with_reducible exact i_int | with_reducible exact i_lstI | with_reducible exact i_tupI | with_reducible exact i_bl | with_reducible exact i_lst | exact rfl)
local macro_rules | `(tactic| one_sign) => `(tactic| first | exact rfl | assumption | (simp only [*, decide_true, decide_false, Bool.not_true, Bool.not_false, Bool.or_false, Bool.or_true, Bool.and_true, Bool.and_false, Bool.true_and, Bool.false_and, Bool.true_or, Bool.false_or]; done))
local macro_rules | `(tactic| got_up) => `(tactic| first | with_reducible exact y_map | exact rfl)
local macro_rules | `(tactic| isplit) => `(tactic| first | exact rfl | exact wp_rt rfl | exact wp_out rfl | exact wp_nx rfl | exact wp_x rfl | exact wp_exc rfl | skip)
local macro_rules | `(tactic| fold_lay) => `(tactic| first
  | ((with_reducible apply b_asg); (case' h => nest_cls); (case' k => nest_room))
  | ((with_reducible apply b_asgG); (case' h => nest_cls); (case' hn => reads_via_all); (case' k => nest_room))
  | ((with_reducible apply b_ret); (case' h => nest_cls); (case' k => isplit))
  | ((with_reducible apply b_ifA); (case' h => nest_cls); (case' h1 => (intro _; nest_cls)); (case' h2 => exact rfl); (case' h3 => pre_facts); (case' k => nest_room))
  | ((with_reducible apply b_ifAG); (case' h => nest_cls); (case' h1 => (intro _; nest_cls)); (case' hn => reads_via_all); (case' h2 => exact rfl); (case' h3 => pre_facts); (case' k => nest_room))
  | ((with_reducible apply b_ifE); (case' h => nest_cls); (case' h1 => (intro _; nest_cls)); (case' h2 => (intro _; nest_cls)); (case' h3 => pre_facts); (case' k => nest_room))
  | ((with_reducible apply b_ifs); (case' h => nest_cls); (case' k => first | ((with_reducible apply k_F); (case' h => one_sign); (case' k => nest_room)) | ((with_reducible apply k_T); (case' h => one_sign); (case' k => nest_room)) | skip))
  | ((with_reducible apply b_app); (case' h => exact rfl); (case' h2 => nest_cls); (case' h3 => (refine LIM_lt ?_; try fold_depth)); (case' hy => got_up); (case' k => nest_room))
  | ((with_reducible apply b_appG); (case' h => exact rfl); (case' h2 => nest_cls); (case' hn => reads_via_all); (case' h3 => (refine LIM_lt ?_; try fold_depth)); (case' hy => got_up); (case' k => nest_room))
  | ((with_reducible apply b_par); (case' h => nest_cls); (case' h2 => (nest_room; try exact rfl)))
  | ((with_reducible apply b_asgT); (case' h => nest_cls); (case' h2 => (nest_room; try exact rfl)))
  | ((with_reducible apply b_aug); (case' h => exact rfl); (case' h2 => nest_cls); (case' h3 => mem_news); (case' k => nest_room))
  | ((with_reducible apply b_expr); (case' h => nest_cls))
  | ((with_reducible apply b_setIx); (case' h2 => nest_cls); (case' h => exact rfl); (case' h3 => nest_cls); (case' h4 => try fold_depth); (case' h5 => try fold_depth); (case' hy => first | with_reducible exact y_set | exact rfl); (case' k => nest_room))
  | ((with_reducible apply b_setIxG); (case' h2 => nest_cls); (case' hn => reads_via_all); (case' h => exact rfl); (case' h3 => nest_cls); (case' h4 => try fold_depth); (case' h5 => try fold_depth); (case' hy => first | with_reducible exact y_set | exact rfl); (case' k => nest_room))
  | ((with_reducible apply b_raise); (case' h => exact rfl); (case' h2 => nest_cls); (case' h3 => exact rfl); (case' k => isplit))
  | ((with_reducible apply b_clear); (case' h => exact rfl); (case' k => nest_room))
  | with_reducible apply b_doc | with_reducible apply b_pass | with_reducible apply b_cont | with_reducible apply b_brk | ((with_reducible apply b_retN); isplit)
  | ((with_reducible apply b_nil); isplit))
local macro_rules | `(tactic| one_place) => `(tactic| first
  | ((with_reducible apply v_call0X); (case' h1 => nest_cls); (case' h2 => top_args))
  | ((with_reducible apply v_meth0X); (case' h1 => nest_cls); (case' h2 => first | assumption | exact rfl); (case' h3 => nest_cls); (case' h5 => top_args))
  | ((with_reducible apply v_make0X); (case' h1 => nest_cls); (case' h3 => top_args))
  | ((with_reducible apply v_methX); (case' h1 => nest_cls); (case' h2 => first | assumption | exact rfl); (case' h3 => nest_cls); (case' h4 => top_caught); (case' h5 => top_args))
  | ((with_reducible apply v_makeX); (case' h1 => nest_cls); (case' h2 => top_caught); (case' h3 => top_args))
  | ((with_reducible apply v_call0L); one_place)
  | ((with_reducible apply v_lstX); one_place) | ((with_reducible apply v_tupX); one_place) | ((with_reducible apply v_blt1X); one_place)
  | ((with_reducible apply l_consX); one_place)
  | ((with_reducible apply l_consY); (case' h1 => nest_cls); (case' h2 => one_place)))
local macro_rules | `(tactic| one_item) => `(tactic| first
  | ((with_reducible apply b_retX); (case' h => one_place); (case' k => first | exact wp_x rfl | exact wp_exc rfl | skip))
  | ((with_reducible apply b_asgX); (case' h => one_place); (case' k => first | exact wp_x rfl | exact wp_exc rfl | skip))
  | ((with_reducible apply b_exprX); (case' h => one_place); (case' k => first | exact wp_x rfl | exact wp_exc rfl | skip)))
theorem lo_le (as : List Int) : ∀ (i s : Nat), s ≤ i → lo as i ≤ wk as s
  | 0, s, h => by
    have : s = 0 := by omega
    subst this; exact Int.le_refl 0
  | i + 1, s, h => by
    show (if wk as (i + 1) < lo as i then wk as (i + 1) else lo as i) ≤ wk as s
    by_cases e : s = i + 1
    · subst e; split <;> omega
    · have := lo_le as i s (by omega)
      split <;> omega
theorem lo_is (as : List Int) : ∀ i : Nat, ∃ s, s ≤ i ∧ lo as i = wk as s
  | 0 => ⟨0, Nat.le_refl _, rfl⟩
  | i + 1 => by
    obtain ⟨s, h1, h2⟩ := lo_is as i
    show ∃ s, s ≤ i + 1 ∧ (if wk as (i + 1) < lo as i then wk as (i + 1) else lo as i) = wk as s
    split
    · exact ⟨i + 1, Nat.le_refl _, rfl⟩
    · exact ⟨s, by omega, h2⟩
/-- the excess of the window from s to the slot -/
def wex (as : List Int) (s sl : Int) : Int := wk as (sl + 1).toNat - wk as s.toNat
theorem wk_sm (as : List Int) : ∀ i : Nat, wk as i = sm (fun k => gD as k) i - i
  | 0 => rfl
  | i + 1 => by
    show wk as i + gD as i - 1 = sm (fun k => gD as k) i + gD as i - ((i + 1 : Nat) : Int)
    rw [wk_sm as i]; omega
theorem sm_split {f : Nat → Int} {m : Nat} : ∀ n : Nat, sm f (m + n) = sm f m + sm (fun k => f (m + k)) n
  | 0 => (Int.add_zero _).symm
  | n + 1 => by
    show sm f (m + n) + f (m + n) = sm f m + (sm (fun k => f (m + k)) n + f (m + n))
    rw [sm_split n]; omega
theorem wx_wex {as : List Int} {s sl : Int} (h0 : 0 ≤ s) (h1 : s ≤ sl + 1) : wx as s sl = wex as s sl := by
  unfold wx wex
  rw [slc_sum h0, wk_sm, wk_sm]
  have := sm_split (f := fun k => gD as (k : Int)) (m := s.toNat) ((sl + 1).toNat - s.toNat)
  rw [show s.toNat + ((sl + 1).toNat - s.toNat) = (sl + 1).toNat by omega] at this
  rw [this]
  have e : sm (fun k => gD as ((s.toNat + k : Nat) : Int)) ((sl + 1).toNat - s.toNat) = sm (fun k => gD as (s + (k : Int))) ((sl + 1).toNat - s.toNat) := sm_congr fun k _ => by congr 1; omega
  rw [e]; omega
/-- the shortest best window of a slot -/
structure Best (as : List Int) (sl st e : Int) : Prop where
  s0 : 0 ≤ st
  s1 : st ≤ sl + 1
  ee : e = wex as st sl
  mx : ∀ s : Int, 0 ≤ s → s ≤ sl + 1 → wex as s sl < e ∨ (wex as s sl = e ∧ s ≤ st)
theorem best_bk {as : List Int} {sl st e : Int} (h0 : 0 ≤ sl) (B : Best as sl st e) : e = bk as (sl.toNat + 1) := by
  rw [bk_wk]
  have h1 : (sl + 1).toNat = sl.toNat + 1 := by omega
  have h2 := lo_le as (sl.toNat + 1) st.toNat (by have := B.s1; omega)
  obtain ⟨s, h3, h4⟩ := lo_is as (sl.toNat + 1)
  have h5 := B.mx s (by omega) (by omega)
  have h6 := B.ee
  unfold wex at h5 h6
  rw [h1] at h5 h6
  rw [show ((s : Nat) : Int).toNat = s by omega] at h5
  omega
theorem best_uniq {as : List Int} {sl s1 e1 s2 e2 : Int} (A : Best as sl s1 e1) (B : Best as sl s2 e2) : s1 = s2 ∧ e1 = e2 := by
  have a := A.mx s2 B.s0 B.s1
  have b := B.mx s1 A.s0 A.s1
  have := A.ee
  have := B.ee
  omega
section
variable {P : Prog} {n : Nat}
def f_greatest_window_bec2eb : Fn := ⟨3, 7, [.asg 3 (.meth 10 (.var 0) [(.var 1)] []) false,
  .expr (.call 26 [(.var 0), (.var 2)] []),
  .asg 4 (.tup [(.bin .add (.var 2) (.int 1)), (.int 0)]) false,
  .asg 5 (.int 0) false,
  .forS (.one 6) .rng [(.var 2), (.neg (.int 1)), (.neg (.int 1))] [.asg 5 (.bin .sub (.var 5) (.int 1)) false, .ifs (.cmp .lt (.var 6) (.blt .len [(.var 3)])) [.asg 5 (.bin .add (.var 5) (.ix (.var 3) (.var 6))) true] [], .ifs (.cmp .gt (.var 5) (.ix (.var 4) (.int 1))) [.asg 4 (.tup [(.var 6), (.var 5)]) false] []] [0, 0, 0, 1, 2, 0, 0],
  .ret (.var 4)]⟩
theorem greatest_at (H : HWin P) {f : Nat} {c sl : Int} {rows : List (List Int)} {g : List Int} {b : Bool} (hf : P.fn f = some f_greatest_window_bec2eb) (D : TabD c rows) (hg : okG g c) (hgl : g.length ≤ 1000) (h0 : 0 ≤ sl) (h1 : sl < runLen c rows) :
    ∃ st e : Int, Best (arr g rows) sl st e ∧ run P (n + 6) f [tbl c rows, sq b g, .int sl] = .ok (.tup (tI [st, e])) := by
  have hm := H.m10
  have hl := D.l
  have hr := runLen_le D
  have ha := arrivals_at (n := n + 3) H.toHTab (b := b) hg D.w (by omega) hgl
  have hc := check_ok (n := n) H D h0 h1
  refine run_wp (Q := fun q => ∃ st e : Int, Best (arr g rows) sl st e ∧ q = .ok (.tup (tI [st, e]))) hf rfl rfl ?_
  generalize arr g rows = as at ha
  dsimp only [f_greatest_window_bec2eb, start, List.map, List.length_cons, List.length_nil, Nat.reduceAdd, Nat.reduceSub, List.replicate, List.cons_append, List.nil_append]
  fold_lay
  fold_lay
  fold_lay
  fold_lay
  refine b_for (σ := Int × Int × Int × Option T) (fun s => [(4, some (.tup (tI [s.1, s.2.1]))), (5, some (.int s.2.2.1)), (6, s.2.2.2)])
    (fun i s => s.2.2.1 = wex as (sl + 1 - i) sl ∧ (sl + 1 - i ≤ s.1 ∧ s.1 ≤ sl + 1 ∧ s.2.1 = wex as s.1 sl) ∧ ∀ t : Int, 0 ≤ t → sl + 1 - i ≤ t → t ≤ sl + 1 → wex as t sl < s.2.1 ∨ (wex as t sl = s.2.1 ∧ t ≤ s.1)) (sl + 1, 0, 0, none) (by nest_cls) (by leaf_len) rfl (by intro x s; nest_room) ?_ ?_ ?_
  · have e0 : wex as (sl + 1) sl = 0 := by unfold wex; omega
    refine ⟨?_, ⟨?_, ?_, e0.symm⟩, fun t h2 h3 h4 => ?_⟩
    · show (0 : Int) = wex as (sl + 1 - 0) sl
      rw [Int.sub_zero, e0]
    · show sl + 1 - 0 ≤ sl + 1; omega
    · exact Int.le_refl _
    · have : t = sl + 1 := by have h3 : sl + 1 - 0 ≤ t := h3; omega
      subst this
      exact .inr ⟨e0, Int.le_refl _⟩
  · rintro i x ⟨st, e, w, o⟩ hx ⟨g1, ⟨g2, g3, g4⟩, g5⟩
    obtain ⟨rfl, hi⟩ := down_get hx
    dsimp only at g1 g2 g3 g4 g5 ⊢
    have e1 : wex as (sl - i) sl = w - 1 + gD as (sl - i) := by
      rw [g1]
      unfold wex
      rw [show (sl + 1 - (i : Int)).toNat = (sl - i).toNat + 1 by omega]
      show _ = wk as (sl + 1).toNat - (wk as (sl - i).toNat + gD as ((sl - (i : Int)).toNat : Int) - 1) - 1 + gD as (sl - i)
      rw [Int.toNat_of_nonneg (by omega)]; omega
    fold_lay
    fold_lay
    have e2 : (bif decide (sl - (i : Int) < (as.length : Int)) then w - 1 + gD as (sl - i) else w - 1) = wex as (sl - i) sl := by
      rw [e1]
      refine cond_or (fun _ => rfl) fun h => ?_
      have h : as.length ≤ sl - (i : Int) := by simpa using h
      rw [gD_out h]
      exact (Int.add_zero _).symm
    rw [e2]
    generalize hv : wex as (sl - i) sl = v at e1 e2
    refine b_ifU (σ := Int × Int) (fun s => [(4, some (.tup (tI [s.1, s.2])))]) (fun s => (s.1 = sl - i ∧ s.2 = v ∧ e < v) ∨ (s.1 = st ∧ s.2 = e ∧ v ≤ e)) (by nest_cls) ?_ ?_ ?_
    · intro hq
      have hq : e < v := of_decide_eq_true hq
      fold_lay
      exact b_nil ⟨(_, _), rfl, .inl ⟨rfl, rfl, hq⟩⟩
    · intro hq
      have hq : ¬ e < v := of_decide_eq_false hq
      exact b_nil ⟨(_, _), rfl, .inr ⟨rfl, rfl, by omega⟩⟩
    · rintro ⟨s2, e3⟩ hs
      dsimp only at hs
      nest_room
      refine b_nil (lp_nx ⟨(_, _, _, _), rfl, ?_, ⟨?_, ?_, ?_⟩, fun t h2 h3 h4 => ?_⟩)
      · show v = wex as (sl + 1 - ((i + 1 : Nat) : Int)) sl
        rw [show sl + 1 - ((i + 1 : Nat) : Int) = sl - i by omega, hv]
      · show sl + 1 - ((i + 1 : Nat) : Int) ≤ s2; omega
      · show s2 ≤ sl + 1; omega
      · show e3 = wex as s2 sl
        rcases hs with ⟨h5, h6, _⟩ | ⟨h5, h6, _⟩
        · rw [h5, h6, hv]
        · rw [h5, h6, g4]
      · show wex as t sl < e3 ∨ (wex as t sl = e3 ∧ t ≤ s2)
        by_cases h7 : t = sl - i
        · rw [h7, hv]; omega
        · have := g5 t h2 (by omega) h4
          omega
  · rintro ⟨st, e, w, o⟩ ⟨g1, ⟨g2, g3, g4⟩, g5⟩
    dsimp only at g1 g2 g3 g4 g5
    rw [down_len] at g1 g2 g5
    nest_room
    refine b_ret (by nest_cls) ?_
    exact ⟨st, e, ⟨by omega, g3, g4, fun s h2 h3 => g5 s h2 (by omega) h3⟩, rfl⟩
end
end Wt

namespace Wt
open PySem PySem.Spec PyProof.Rows L2

/-- padded -/
def f_padded_214de3 : Fn := ⟨3, 6, [.asg 3 (.blt .tuple [(.comp (.int 0) (.one 4) .rng [(.var 2)] [])]) false,
  .ret (.bin .add (.blt .list [(.var 0)]) (.comp (.var 3) (.one 5) .rng [(.bin .sub (.var 1) (.blt .len [(.var 0)]))] []))]⟩
/-- _law_cell -/
def f_law_cell_6a963b : Fn := ⟨2, 2, [.ifs (.cmp .lt (.var 1) (.blt .len [(.var 0)])) [.ret (.ix (.var 0) (.var 1))] [],
  .ret (.int 0)]⟩
/-- _law_draws -/
def f_law_draws_8a6957 : Fn := ⟨2, 6, [.asg 2 (.lst []) false,
  .asg 3 (.var 0) false,
  .forS (.one 4) .rng [(.blt .len [(.var 1)])] [.ifs (.cmp .ge (.var 0) (.int 1000000000000000000)) [.app 2 (.bin .mod (.blt .int [(.var 3)]) (.ix (.var 1) (.var 4))) false, .asg 3 (.bin .fdiv (.var 3) (.ix (.var 1) (.var 4))) false] [.asg 5 (.bin .mod (.blt .int [(.bin .add (.bin .add (.var 0) (.bin .mul (.int 7919) (.var 4))) (.int 13))]) (.int 2147483647)) false, .asg 5 (.bin .mod (.blt .int [(.bin .mul (.var 5) (.bin .add (.var 5) (.int 48271)))]) (.int 2147483629)) false, .asg 5 (.bin .mod (.blt .int [(.bin .add (.bin .mul (.var 5) (.bin .add (.var 5) (.int 69621))) (.bin .mul (.int 31) (.var 4)))]) (.int 2147483647)) false, .app 2 (.bin .mod (.blt .int [(.bin .fdiv (.var 5) (.int 9))]) (.ix (.var 1) (.var 4))) true]] [0, 0, 2, 0, 0, 0],
  .ret (.var 2)]⟩
/-- _law_same -/
def f_law_same_a944fc : Fn := ⟨2, 3, [.ifs (.cmp .ne (.blt .len [(.var 0)]) (.blt .len [(.var 1)])) [.ret (.bl false)] [],
  .forS (.one 2) .rng [(.blt .len [(.var 1)])] [.ifs (.cmp .is (.ix (.var 1) (.var 2)) .non) [.ifs (.cmp .isnot (.ix (.var 0) (.var 2)) .non) [.ret (.bl false)] []] [.ifs (.or (.not (.call 3 [(.ix (.var 0) (.var 2))] [])) (.cmp .ne (.ix (.var 0) (.var 2)) (.ix (.var 1) (.var 2)))) [.ret (.bl false)] []]] [0, 0, 0],
  .ret (.bl true)]⟩
/-- _law_stays -/
def f_law_stays_888cbe : Fn := ⟨2, 3, [.ifs (.or (.not (.blt (.isa .tuple) [(.fld (.var 0) 1)])) (.cmp .ne (.blt .len [(.fld (.var 0) 1)]) (.blt .len [(.var 1)]))) [.ret (.bl false)] [],
  .forS (.one 2) .rng [(.blt .len [(.var 1)])] [.ifs (.not (.call 11 [(.ix (.fld (.var 0) 1) (.var 2)), (.ix (.var 1) (.var 2))] [])) [.ret (.bl false)] []] [0, 0, 0],
  .ret (.bl true)]⟩
/-- law -/
def f_law_f03f33 : Fn := ⟨1, 14, [.asg 1 (.call 21 [(.call 5 [(.var 0), (.int 0)] []), (.bl false)] []) false,
  .asg 2 (.ix (.var 1) (.int 0)) true,
  .asg 3 (.ix (.var 1) (.int 1)) false,
  .asg 4 (.call 6 [(.call 5 [(.var 0), (.int 1)] []), (.bin .add (.bin .mul (.lst [(.int 5)]) (.int 5)) (.bin .mul (.lst [(.int 60)]) (.int 12)))] []) false,
  .asg 5 (.call 12 [(.slice (.var 4) [] [(.int 5)]), (.var 2)] []) false,
  .asg 6 (.call 25 [(.var 3), (.var 2), (.var 5), (.slice (.var 4) [(.int 5)] [])] []) false,
  .asg 7 (.call 25 [(.var 3), (.var 2), (.rev (.var 5)), (.lst [(.int 0)])] []) false,
  .asg 8 (.make 15 [(.var 2), (.comp (.blt .list [(.var 12)]) (.one 12) .seq [(.var 3)] [])] []) false,
  .forS (.one 9) .seq [(.lst [(.var 6), (.var 7), (.var 6)])] [.asg 11 (.blt .list [(.ix (.var 9) (.int 0))]) false, .ifs (.or (.not (.call 11 [(.call 45 [(.var 8), (.var 11)] []), (.ix (.var 9) (.int 1))] [])) (.not (.call 46 [(.var 11), (.ix (.var 9) (.int 0))] []))) [.ret (.bl false)] [], .ifs (.not (.call 11 [(.call 45 [(.var 8), (.blt .tuple [(.ix (.var 9) (.int 0))])] []), (.ix (.var 9) (.int 1))] [])) [.ret (.bl false)] []] [0, 0, 0, 0, 0, 0, 0, 0, 0, 0, 0, 0, 0, 0],
  .asg 10 (.make 15 [(.var 2), (.lst [])] []) false,
  .ret (.and (.call 11 [(.call 45 [(.var 10), (.lst [])] []), (.comp (.int 0) (.one 13) .rng [(.var 2)] [])] []) (.call 36 [(.var 8), (.var 3)] []))]⟩
/-- Table.__init__ -/
def n_Table : Ini := ⟨3, 7, [.asg 3 (.comp (.blt .tuple [(.var 5)]) (.one 5) .seq [(.var 2)] []) false,
  .forS (.many [4, 5]) .enum [(.var 3)] [.ifs (.or (.cmp .ne (.blt .len [(.var 5)]) (.var 1)) (.blt .any [(.comp (.cmp .lt (.var 6) (.int 0)) (.one 6) .seq [(.var 5)] [])])) [.raise 3 [(.var 4)]] []] [0, 0, 0, 0, 0, 0, 0]], [(0, false, (.var 1)), (1, false, (.blt .tuple [(.var 3)]))]⟩
def supL : List (Nat × List Nat) := [(0, [0]), (1, [1, 0]), (3, [3, 0]), (5, [5, 0]), (6, [6, 5, 0]), (7, [7, 5, 0]), (8, [8, 5, 0]), (14, [14, 0])]
def prog : Prog where
  fn := fun i => match i with
    | 9 => some f_group_of_f576c1
    | 22 => some f_everyone_238e5f
    | 23 => some f_table_backlogs_884ca8
    | 24 => some f_run_length_2b7204
    | 43 => some f_with_arrivals_05e945
    | 45 => some f_schedule_waits_b99122
    | 71 => some f_padded_214de3
    | 5 => some f_law_cell_6a963b
    | 6 => some f_law_draws_8a6957
    | 3 => some f_law_is_integer_8a6384
    | 11 => some f_law_is_tuple_1ddc4d
    | 12 => some f_law_order_084f70
    | 21 => some f_law_table_18170e
    | 25 => some f_law_run_b59af8
    | 46 => some f_law_same_a944fc
    | 36 => some f_law_stays_888cbe
    | 8 => some f_law_f03f33
    | 72 => some f_Table_arrivals_def93f
    | _ => none
  meth := fun c m => match c, m with
    | 15, 10 => some 72
    | _, _ => none
  ini := fun c => match c with
    | 15 => some n_Table
    | _ => none
  sup := supOf supL
  err := fun c => match c with
    | 1 => some [(0, true)]
    | 3 => some [(3, false)]
    | 6 => some [(3, false)]
    | 7 => some [(3, false)]
    | 8 => some [(3, false)]
    | _ => none
def edat : EDat where
  errs := [(1, "InvalidGroup", "InvalidGroup", [(0, true)]), (3, "InvalidTable", "InvalidTable", [(3, false)]), (6, "WrongLength", "InvalidSchedule", [(3, false)]), (7, "ServerIdle", "InvalidSchedule", [(3, false)]), (8, "NothingWaits", "InvalidSchedule", [(3, false)])]
  sup := supL
  xd := []
  cn := fun c => match c with
    | 0 => "WaitError"
    | 1 => "InvalidGroup"
    | 3 => "InvalidTable"
    | 5 => "InvalidSchedule"
    | 6 => "WrongLength"
    | 7 => "ServerIdle"
    | 8 => "NothingWaits"
    | 14 => "WrongCount"
    | 15 => "Table"
    | _ => ""
  fls := []
def dat : Dat where
  calls := [⟨"_law_cell", 5, 0, 2, [], []⟩,
    ⟨"_law_draws", 6, 1, 2, [], []⟩,
    ⟨"_law_is_integer", 3, 0, 1, [], []⟩,
    ⟨"_law_is_tuple", 11, 1, 2, [], []⟩,
    ⟨"_law_order", 12, 1, 2, [], []⟩,
    ⟨"_law_run", 25, 1, 4, [], []⟩,
    ⟨"_law_same", 46, 1, 2, [], []⟩,
    ⟨"_law_stays", 36, 1, 2, [], []⟩,
    ⟨"_law_table", 21, 1, 2, [], []⟩,
    ⟨"everyone", 22, 1, 1, [], []⟩,
    ⟨"group_of", 9, 1, 2, [], []⟩,
    ⟨"run_length", 24, 1, 1, [], []⟩,
    ⟨"schedule_waits", 45, 1, 2, [], []⟩,
    ⟨"table_backlogs", 23, 1, 2, [], []⟩,
    ⟨"with_arrivals", 43, 1, 3, [], []⟩]
  blts := ["any", "bool", "enumerate", "int", "isinstance", "len", "list", "max", "min", "range", "sorted", "sum", "super", "tuple", "zip"]
  tys := [("bool", .bool), ("int", .int), ("tuple", .tuple)]
  lvF := fun i => match i with
    | 9 => 1
    | 22 => 1
    | 23 => 1
    | 24 => 1
    | 43 => 1
    | 45 => 1
    | 71 => 1
    | 5 => 0
    | 6 => 1
    | 3 => 0
    | 11 => 1
    | 12 => 1
    | 21 => 1
    | 25 => 1
    | 46 => 1
    | 36 => 1
    | 8 => 0
    | 72 => 1
    | _ => 0
  an := an
  errs := edat.errs.map fun e => (e.2.1, e.1, e.2.2.2)
  xtys := []
  fls := edat.fls
  ifl := [0, 1]
  makes := [⟨"Table", 15, 0, 2, [], []⟩]
  meths := [⟨"arrivals", 10, 1, 1, [], []⟩]
  lvM := fun m => match m with
    | 10 => 1
    | _ => 0
end Wt
namespace Wt
open PySem
local macro_rules | `(tactic| top_caught) => `(tactic| (simp only [args, List.map_cons, List.map_nil, List.getD_cons_zero, List.getD_cons_succ]; try exact rfl))
local macro_rules | `(tactic| fin_places) => `(tactic| first | exact tbl_0 (by first | assumption | rfl) | exact tbl_1 (by first | assumption | rfl))
local macro_rules | `(tactic| nest_room) => `(tactic| (dsimp only [bindTg, setAll, List.set, up, List.foldl, List.cons_append, List.nil_append]))
local macro_rules | `(tactic| fold_depth) => `(tactic| first | assumption | omega | ((simp only [List.length_map, List.length_append, List.length_set, List.length_cons, List.length_nil, List.length_zipIdx, List.length_zip, List.length_take, List.length_drop, List.length_replicate, rng_length]); omega) | grind)
local macro_rules | `(tactic| reads_via_all) => `(tactic| first | exact rfl | exact nl_I)
local macro_rules | `(tactic| leaf_len) => `(tactic| first | with_reducible exact w_seq | with_reducible exact w_seqU | ((with_reducible apply w_rng) <;> try fold_depth) | ((with_reducible apply w_rng2) <;> try fold_depth) | ((with_reducible apply w_rng3) <;> try fold_depth) | with_reducible exact w_enum | with_reducible exact w_enumU | with_reducible exact w_zip | with_reducible exact w_zip1 | with_reducible exact w_zip2 | with_reducible exact w_zip3 | with_reducible exact w_rev | with_reducible exact w_revU | with_reducible exact w_seqA)
local macro_rules | `(tactic| mem_news) => `(tactic| first
  | with_reducible exact t_len | with_reducible exact t_lenU | with_reducible exact t_sum | with_reducible exact t_sumU | with_reducible exact t_sort | with_reducible exact t_sortU
  | with_reducible exact t_rev | ((with_reducible apply t_min); assumption) | with_reducible exact t_any | with_reducible exact t_all
  | with_reducible exact t_eqL | with_reducible exact t_eqLL | with_reducible exact t_eqLU | with_reducible exact t_eqUU | with_reducible exact t_neLL | with_reducible exact t_eqU | with_reducible exact t_neL | with_reducible exact t_neU | with_reducible exact t_in | with_reducible exact t_inU | with_reducible exact t_notin | with_reducible exact t_notinU
  | ((with_reducible apply t_ixN) <;> try fold_depth) | ((with_reducible apply t_ixNU) <;> try fold_depth)
  | ((with_reducible apply t_ix) <;> try fold_depth) | ((with_reducible apply t_ixU) <;> try fold_depth)
  | ((with_reducible apply t_mul); first | exact rfl | exact mulOk64 (by fold_depth) | skip) | ((with_reducible apply t_div); first | exact divOk64 (by fold_depth) (by fold_depth) | skip) | ((with_reducible apply t_mod); try fold_depth)
  | ((with_reducible apply t_rep) <;> try fold_depth) | ((with_reducible apply t_addM); try fold_depth) | ((with_reducible apply t_addU); try fold_depth)
  | ((with_reducible apply t_rangeL) <;> try fold_depth) | ((with_reducible apply t_rangeT) <;> try fold_depth)
  | ((with_reducible apply t_slc) <;> try fold_depth) | ((with_reducible apply t_slcU) <;> try fold_depth) | ((with_reducible apply t_slcT); try fold_depth) | ((with_reducible apply t_slcTU); try fold_depth) | ((with_reducible apply t_slcF); try fold_depth) | ((with_reducible apply t_slcFU); try fold_depth)
  | with_reducible exact t_lt | with_reducible exact t_le | with_reducible exact t_gt | with_reducible exact t_ge | with_reducible exact t_eqI | with_reducible exact t_neI | with_reducible exact t_is1 | with_reducible exact t_is2 | with_reducible exact t_is3 | with_reducible exact t_is4 | with_reducible exact t_is5 | with_reducible exact t_is6
  | exact rfl)
local macro_rules | `(tactic| top_args) => `(tactic| first | with_reducible assumption | with_reducible exact isint_ok rfl | with_reducible exact isint_ok (by assumption) | apply_assumption (transparency := .reducible))
local macro_rules | `(tactic| nest_cls) => `(tactic| first
  | ((with_reducible apply v_var); exact rfl)
  | with_reducible exact v_int | with_reducible exact v_bl | with_reducible exact v_non | with_reducible exact v_str | with_reducible exact l_nil
  | ((with_reducible apply l_cons); (case' h1 => nest_cls); (case' h2 => nest_cls))
  | ((with_reducible apply v_bin); (case' h1 => nest_cls); (case' h2 => nest_cls); (case' h3 => mem_news))
  | ((with_reducible apply v_cmp); (case' h1 => nest_cls); (case' h2 => nest_cls); (case' h3 => mem_news))
  | ((with_reducible apply v_ix); (case' h1 => nest_cls); (case' h2 => nest_cls); (case' h3 => mem_news))
  | ((with_reducible apply v_fld); (case' h1 => nest_cls); (case' h2 => fin_places))
  | ((with_reducible apply v_blt1); (case' h1 => nest_cls); (case' h2 => mem_news))
  | ((with_reducible apply v_blt2); (case' h1 => nest_cls); (case' h2 => nest_cls); (case' h3 => mem_news))
  | ((with_reducible apply v_call0); (case' h1 => nest_cls); (case' h2 => top_args))
  | ((with_reducible apply v_not); nest_cls)
  | ((with_reducible apply v_neg); nest_cls)
  | ((with_reducible apply v_and); (case' h1 => nest_cls); (case' h2 => (intro _; nest_cls)))
  | ((with_reducible apply v_or); (case' h1 => nest_cls); (case' h2 => (intro _; nest_cls)))
  | ((with_reducible apply v_cmp2); (case' h1 => nest_cls); (case' h2 => nest_cls); (case' h3 => mem_news); (case' h4 => (intro _; nest_cls)); (case' h5 => (intro _; mem_news)))
  | ((with_reducible apply v_ite); (case' h1 => nest_cls); (case' h2 => (intro _; nest_cls)); (case' h3 => (intro _; nest_cls)); (case' h4 => pre_facts))
  | ((with_reducible apply v_rev); (case' h1 => nest_cls); (case' h2 => mem_news))
  | ((with_reducible apply v_tupI); units_room) | ((with_reducible apply v_tupU); units_room) | ((with_reducible apply v_tup); nest_cls)
  | with_reducible exact v_nil0 | with_reducible exact v_nilI
  | ((with_reducible apply v_lstI); units_room) | ((with_reducible apply v_lstL); units_room) | ((with_reducible apply v_lstU); units_room) | ((with_reducible apply v_lst); nest_cls)
  | ((with_reducible apply v_slice); (case' h1 => nest_cls); (case' h2 => nest_cls); (case' h3 => nest_cls); (case' h4 => mem_news))
  | with_reducible exact p_nil | ((with_reducible apply p_one); nest_cls)
  | ((with_reducible apply v_comp0); (case' h1 => nest_cls); (case' h2 => leaf_len); (case' h3 => (refine LIM_of ?_; try fold_depth)); (case' h4 => (intro _ _; nest_room; try exact rfl)); (case' h6 => (intro _ _; nest_cls)); (case' h7 => first | with_reducible exact m_id | with_reducible exact m_idL | with_reducible exact m_idU | with_reducible exact m_int | with_reducible exact m_lst | with_reducible exact m_tup | exact rfl))
  | ((with_reducible apply v_comp); (case' h1 => nest_cls); (case' h2 => leaf_len); (case' h3 => (refine LIM_of ?_; try fold_depth)); (case' h4 => (intro _ _; nest_room; try exact rfl)); (case' h5 => (intro _ _; nest_cls)); (case' h6 => (intro _ _ _; nest_cls)); (case' h7 => first | with_reducible exact m_id | with_reducible exact m_idL | with_reducible exact m_idU | with_reducible exact m_int | with_reducible exact m_lst | with_reducible exact m_tup | exact rfl))
  | ((with_reducible apply v_xisa); exact rfl) | ((with_reducible apply v_xfld); exact rfl)
  | ((with_reducible apply c_one); nest_cls)
  | ((with_reducible apply v_meth0); (case' h1 => nest_cls); (case' h2 => first | assumption | exact rfl); (case' h3 => nest_cls); (case' h5 => top_args))
  | ((with_reducible apply v_make0); (case' h1 => nest_cls); (case' h3 => top_args))
  | ((with_reducible apply v_meth); (case' h1 => nest_cls); (case' h2 => first | assumption | exact rfl); (case' h3 => nest_cls); (case' h4 => top_caught); (case' h5 => top_args))
  | ((with_reducible apply v_make); (case' h1 => nest_cls); (case' h2 => top_caught); (case' h3 => top_args))
  | ((with_reducible apply v_call); (case' h1 => nest_cls); (case' h2 => top_caught); (case' h3 => top_args)))
local macro_rules | `(tactic| units_room) => `(tactic| first
  | with_reducible exact l_nilM
  | ((with_reducible apply l_consI); (case' h1 => nest_cls); (case' h2 => units_room))
  | ((with_reducible apply l_consL); (case' h1 => nest_cls); (case' h2 => units_room))
  | ((with_reducible apply l_consU); (case' h1 => nest_cls); (case' h2 => units_room)))
local macro_rules | `(tactic| pre_facts) => `(tactic| first | with_reducible exact i_int | with_reducible exact i_lstI | with_reducible exact i_tupI | with_reducible exact i_bl | with_reducible exact i_lst | exact rfl)
local macro_rules | `(tactic| one_sign) => `(tactic| first | exact rfl | assumption | (simp only [*, decide_true, decide_false, Bool.not_true, Bool.not_false, Bool.or_false, Bool.or_true, Bool.and_true, Bool.and_false, Bool.true_and, Bool.false_and, Bool.true_or, Bool.false_or]; done))
local macro_rules | `(tactic| got_up) => `(tactic| first | with_reducible exact y_map | exact rfl)
local macro_rules | `(tactic| isplit) => `(tactic| first | exact rfl | exact wp_rt rfl | exact wp_out rfl | exact wp_nx rfl | exact wp_x rfl | exact wp_exc rfl | skip)
local macro_rules | `(tactic| fold_lay) => `(tactic| first
  | ((with_reducible apply b_asg); (case' h => nest_cls); (case' k => nest_room))
  | ((with_reducible apply b_asgG); (case' h => nest_cls); (case' hn => reads_via_all); (case' k => nest_room))
  | ((with_reducible apply b_ret); (case' h => nest_cls); (case' k => isplit))
  | ((with_reducible apply b_ifA); (case' h => nest_cls); (case' h1 => (intro _; nest_cls)); (case' h2 => exact rfl); (case' h3 => pre_facts); (case' k => nest_room))
  | ((with_reducible apply b_ifAG); (case' h => nest_cls); (case' h1 => (intro _; nest_cls)); (case' hn => reads_via_all); (case' h2 => exact rfl); (case' h3 => pre_facts); (case' k => nest_room))
  | ((with_reducible apply b_ifE); (case' h => nest_cls); (case' h1 => (intro _; nest_cls)); (case' h2 => (intro _; nest_cls)); (case' h3 => pre_facts); (case' k => nest_room))
  | ((with_reducible apply b_ifs); (case' h => nest_cls); (case' k => first | ((with_reducible apply k_F); (case' h => one_sign); (case' k => nest_room)) | ((with_reducible apply k_T); (case' h => one_sign); (case' k => nest_room)) | skip))
  | ((with_reducible apply b_app); (case' h => exact rfl); (case' h2 => nest_cls); (case' h3 => (refine LIM_lt ?_; try fold_depth)); (case' hy => got_up); (case' k => nest_room))
  | ((with_reducible apply b_appG); (case' h => exact rfl); (case' h2 => nest_cls); (case' hn => reads_via_all); (case' h3 => (refine LIM_lt ?_; try fold_depth)); (case' hy => got_up); (case' k => nest_room))
  | ((with_reducible apply b_par); (case' h => nest_cls); (case' h2 => (nest_room; try exact rfl)))
  | ((with_reducible apply b_asgT); (case' h => nest_cls); (case' h2 => (nest_room; try exact rfl)))
  | ((with_reducible apply b_aug); (case' h => exact rfl); (case' h2 => nest_cls); (case' h3 => mem_news); (case' k => nest_room))
  | ((with_reducible apply b_expr); (case' h => nest_cls))
  | ((with_reducible apply b_setIx); (case' h2 => nest_cls); (case' h => exact rfl); (case' h3 => nest_cls); (case' h4 => try fold_depth); (case' h5 => try fold_depth); (case' hy => first | with_reducible exact y_set | exact rfl); (case' k => nest_room))
  | ((with_reducible apply b_setIxG); (case' h2 => nest_cls); (case' hn => reads_via_all); (case' h => exact rfl); (case' h3 => nest_cls); (case' h4 => try fold_depth); (case' h5 => try fold_depth); (case' hy => first | with_reducible exact y_set | exact rfl); (case' k => nest_room))
  | ((with_reducible apply b_raise); (case' h => exact rfl); (case' h2 => nest_cls); (case' h3 => exact rfl); (case' k => isplit))
  | ((with_reducible apply b_clear); (case' h => exact rfl); (case' k => nest_room))
  | with_reducible apply b_doc | with_reducible apply b_pass | with_reducible apply b_cont | with_reducible apply b_brk | ((with_reducible apply b_retN); isplit)
  | ((with_reducible apply b_nil); isplit))
local macro_rules | `(tactic| one_place) => `(tactic| first
  | ((with_reducible apply v_call0X); (case' h1 => nest_cls); (case' h2 => top_args))
  | ((with_reducible apply v_meth0X); (case' h1 => nest_cls); (case' h2 => first | assumption | exact rfl); (case' h3 => nest_cls); (case' h5 => top_args))
  | ((with_reducible apply v_make0X); (case' h1 => nest_cls); (case' h3 => top_args))
  | ((with_reducible apply v_methX); (case' h1 => nest_cls); (case' h2 => first | assumption | exact rfl); (case' h3 => nest_cls); (case' h4 => top_caught); (case' h5 => top_args))
  | ((with_reducible apply v_makeX); (case' h1 => nest_cls); (case' h2 => top_caught); (case' h3 => top_args))
  | ((with_reducible apply v_call0L); one_place)
  | ((with_reducible apply v_lstX); one_place) | ((with_reducible apply v_tupX); one_place) | ((with_reducible apply v_blt1X); one_place)
  | ((with_reducible apply l_consX); one_place)
  | ((with_reducible apply l_consY); (case' h1 => nest_cls); (case' h2 => one_place)))
local macro_rules | `(tactic| one_item) => `(tactic| first
  | ((with_reducible apply b_retX); (case' h => one_place); (case' k => first | exact wp_x rfl | exact wp_exc rfl | skip))
  | ((with_reducible apply b_asgX); (case' h => one_place); (case' k => first | exact wp_x rfl | exact wp_exc rfl | skip))
  | ((with_reducible apply b_exprX); (case' h => one_place); (case' k => first | exact wp_x rfl | exact wp_exc rfl | skip)))
theorem HS : HSch prog := ⟨⟨⟨⟨rfl, rfl⟩, rfl, rfl, rfl⟩, rfl, rfl, rfl⟩, rfl, rfl⟩
theorem same_at {n : Nat} {sc : List (Option Int)} (hl : sc.length ≤ 1000000) : run prog (n + 2) 46 [.lst (sc.map oT), .lst (sc.map oT)] = .ok (.bl true) := by
  refine run_ok (d := f_law_same_a944fc) rfl rfl rfl ?_
  dsimp only [f_law_same_a944fc, start, List.map, List.length_cons, List.length_nil, Nat.reduceAdd, Nat.reduceSub, List.replicate, List.cons_append, List.nil_append]
  fold_lay
  refine b_for (σ := Option T) (fun s => [(2, s)]) (fun i _ => True) none (by nest_cls) (by leaf_len) rfl (by intro x s; nest_room) trivial ?_ ?_
  · intro i x s hx _
    obtain ⟨rfl, hi⟩ := rng0_get hx
    have e : ∀ cx : Option T, ixT (.lst (sc.map oT)) (.int (i : Int)) = .ok (oT (gD sc (i : Int))) := fun _ => t_ix (by omega) (by omega)
    have e := e none
    have hint : ∀ a : Int, run prog (n + 1) 3 [.int a] = .ok (.bl true) := fun a => isint_ok rfl
    cases hg : gD sc (i : Int) with
    | none =>
      rw [hg] at e
      refine b_ifs (p := true) (v_cmp (v_ix (by nest_cls) (by nest_cls) e) (by nest_cls) rfl) (k_T rfl ?_)
      nest_room
      refine b_ifs (p := false) (v_cmp (v_ix (by nest_cls) (by nest_cls) e) (by nest_cls) rfl) (k_F rfl ?_)
      exact b_nil (lp_nx ⟨_, rfl, trivial⟩)
    | some v =>
      rw [hg] at e
      refine b_ifs (p := false) (v_cmp (v_ix (by nest_cls) (by nest_cls) e) (by nest_cls) rfl) (k_F rfl ?_)
      nest_room
      refine b_ifs (v_or (v_not (v_call0 (l_cons (v_ix (by nest_cls) (by nest_cls) e) l_nil) (hint v))) fun _ => v_cmp (v_ix (by nest_cls) (by nest_cls) e) (v_ix (by nest_cls) (by nest_cls) e) t_neI) ?_
      refine k_F (by simp) ?_
      exact b_nil (lp_nx ⟨_, rfl, trivial⟩)
  · intro s _
    nest_room
    fold_lay
theorem law_true (ns : List Int) (h : ns.length ≤ 63) : run prog 14 8 [.scr ns] = .ok (.bl true) := by
  obtain ⟨v0, hv0⟩ := cell_at (P := prog) (n := 12) (ns := ns) (k := 0) rfl (by decide)
  obtain ⟨v1, hv1⟩ := cell_at (P := prog) (n := 12) (ns := ns) (k := 1) rfl (by decide)
  obtain ⟨c, rows, D, ht⟩ := table_at (P := prog) (n := 11) (f := 21) (x := v0) (full := false) rfl rfl
  have hc1 := D.c1
  have hc5 := D.c5
  have hrl := D.l
  have hw := D.w
  obtain ⟨ds, hl, hb, hd⟩ := draws_at (P := prog) (n := 12) (f := 6) (c := v1) (sz := rep 5 [5] ++ rep 12 [60]) rfl (by decide) (by decide)
  have hl : ds.length = 17 := hl
  obtain ⟨os, ho, hos⟩ := order_at (P := prog) (n := 12) (ps := ds.take (Int.toNat 5)) (c := c) rfl (by omega) (by rw [List.length_take]; omega) (by omega)
  have hdd : ∀ r ∈ rows, ∀ v ∈ r, 0 ≤ v ∧ v ≤ 100 := fun r hr v hv => by have := D.d r hr v hv; omega
  have hd0 : ∀ r ∈ rows, ∀ v ∈ r, 0 ≤ v := fun r hr v hv => (hdd r hr v hv).1
  obtain ⟨sc, ws, hr1, R1, hs1, hk1, -⟩ := run_at (P := prog) (n := 12) (f := 25) (c := c) (rows := rows) (ord := os) (picks := ds.drop (Int.toNat 5)) rfl (by omega) (by omega) D.w (by omega) hdd ho (by rw [List.length_drop]; omega) (by rw [List.length_drop]; omega)
  obtain ⟨sc2, ws2, hr2, R2, hs2, hk2, -⟩ := run_at (P := prog) (n := 12) (f := 25) (c := c) (rows := rows) (ord := os.reverse) (picks := [0]) rfl (by omega) (by omega) D.w (by omega) hdd ((List.reverse_perm os).trans ho) (by decide) (by decide)
  have e1 := runW_eq hs1 hk1
  have e2 := runW_eq hs2 hk2
  subst e1 e2
  have m1 := mkT_L (P := prog) (n := 12) rfl D.ok (by omega) (by omega)
  have m2 : make prog 13 15 [.int c, .lst []] = _ := mkT_L (P := prog) (n := 12) (c := c) (rows := []) rfl (fun r hr => by cases hr) (by decide) (by omega)
  have k1 := kept_at (P := prog) (n := 10) (f := 36) (c := c) (rows := rows) rfl rfl rfl rfl (by omega) (fun r hr => by rw [hw r hr]; omega)
  have hr := runLen_le D
  refine run_ok (d := f_law_f03f33) rfl rfl rfl ?_
  dsimp only [f_law_f03f33, start, List.map, List.length_cons, List.length_nil, Nat.reduceAdd, Nat.reduceSub, List.replicate, List.cons_append, List.nil_append]
  fold_lay
  fold_lay
  fold_lay
  fold_lay
  fold_lay
  fold_lay
  fold_lay
  fold_lay
  refine b_for (σ := Option T × Option T) (fun s => [(9, s.1), (11, s.2)]) (fun i _ => True) (none, none) (by nest_cls) (by leaf_len) rfl (by intro x s; nest_room) trivial ?_ ?_
  · intro i x s hx _
    have hx := List.mem_of_getElem? hx
    obtain ⟨s3, R3, rfl⟩ : ∃ s3, IsRun c rows s3 ∧ x = .lst [.lst (s3.map oT), .lst (tI (runW c rows s3))] := by
      simp at hx
      rcases hx with rfl | rfl | rfl
      · exact ⟨sc, R1, rfl⟩
      · exact ⟨sc2, R2, rfl⟩
      · exact ⟨sc, R1, rfl⟩
    have hl3 := R3.len
    have q1 : run prog 13 45 [tbl c rows, .lst (s3.map oT)] = _ := sched_at (P := prog) (n := 8) HS (b := true) hw (by omega) (by omega) (by omega) hd0 R3 (by omega)
    have q2 : run prog 13 45 [tbl c rows, .tup (s3.map oT)] = _ := sched_at (P := prog) (n := 8) HS (b := false) hw (by omega) (by omega) (by omega) hd0 R3 (by omega)
    have q3 := same_at (n := 11) (sc := s3) (by omega)
    have hlw : (runW c rows s3).length = c.toNat := by unfold runW; rw [List.length_map, rng_length, Int.sub_zero]
    have q4 := istuple_ok (P := prog) (n := 11) (f := 11) (xs := runW c rows s3) (ys := runW c rows s3) rfl rfl (by omega)
    rw [decide_eq_true rfl] at q4
    fold_lay
    fold_lay
    fold_lay
    exact b_nil (lp_nx ⟨(_, _), rfl, trivial⟩)
  · intro s _
    nest_room
    have R0 : IsRun c [] [] := ⟨rfl, fun t h => absurd h (Nat.not_lt_zero _), fun _ _ _ => rfl⟩
    have q1 : run prog 13 45 [tbl c [], .lst []] = _ := sched_at (P := prog) (n := 8) HS (c := c) (rows := []) (sc := []) (b := true) (fun r hr => by cases hr) (by omega) (by omega) (by decide) (fun r hr => by cases hr) R0 (by decide)
    have e0 : runW c [] [] = List.map (fun _ => 0) (rangeI 0 c) := rfl
    rw [e0] at q1
    have q4 := istuple_ok (P := prog) (n := 11) (f := 11) (xs := List.map (fun _ => (0 : Int)) (rangeI 0 c)) (ys := List.map (fun _ => (0 : Int)) (rangeI 0 c)) rfl rfl (by rw [List.length_map, rng_length]; omega)
    rw [decide_eq_true rfl] at q4
    fold_lay
    fold_lay
end Wt
namespace Wt
open PySem PySem.Spec PyProof.Rows L2
def top (i : Nat) : Stmt := PySem.Challenge.pw_waitpromises_k21_waits_of_schedules.main.body.getD i (.Pass ⟨0, 0, 0, 0⟩)
def mth (i j : Nat) : Stmt := match top i with
  | .ClassDef _ _ _ b _ _ _ _ _ _ _ => b.getD j (.Pass ⟨0, 0, 0, 0⟩)
  | s => s
def i_9 : FnI := ⟨9, "group_of", "group_of", defArgs (top 11), defBody (top 11), defScope (top 11), ["classes", "count", "index", "number"], ["classes", "count"], 1⟩
def i_22 : FnI := ⟨22, "everyone", "everyone", defArgs (top 12), defBody (top 12), defScope (top 12), ["count"], ["count"], 1⟩
def i_23 : FnI := ⟨23, "table_backlogs", "table_backlogs", defArgs (top 14), defBody (top 14), defScope (top 14), ["table", "group", "waiting", "result", "number"], ["table", "group"], 1⟩
def i_24 : FnI := ⟨24, "run_length", "run_length", defArgs (top 15), defBody (top 15), defScope (top 15), ["table", "left"], ["table"], 1⟩
def i_43 : FnI := ⟨43, "with_arrivals", "with_arrivals", defArgs (top 17), defBody (top 17), defScope (top 17), ["table", "slot", "waiting", "number", "more"], ["table", "slot", "waiting"], 1⟩
def i_45 : FnI := ⟨45, "schedule_waits", "schedule_waits", defArgs (top 18), defBody (top 18), defScope (top 18), ["table", "schedule", "length", "waiting", "waits", "slot", "served", "number", "total"], ["table", "schedule"], 1⟩
def i_71 : FnI := ⟨71, "padded", "padded", defArgs (top 20), defBody (top 20), defScope (top 20), ["rows", "slots", "classes", "empty", "number", "slot"], ["rows", "slots", "classes"], 1⟩
def i_5 : FnI := ⟨5, "_law_cell", "_law_cell", defArgs (top 23), defBody (top 23), defScope (top 23), ["_law_script", "_law_k"], ["_law_script", "_law_k"], 0⟩
def i_6 : FnI := ⟨6, "_law_draws", "_law_draws", defArgs (top 24), defBody (top 24), defScope (top 24), ["_law_cell_here", "_law_sizes", "_law_drawn", "_law_rest", "_law_k", "_law_mixed"], ["_law_cell_here", "_law_sizes"], 1⟩
def i_3 : FnI := ⟨3, "_law_is_integer", "_law_is_integer", defArgs (top 25), defBody (top 25), defScope (top 25), ["_law_value"], ["_law_value"], 0⟩
def i_11 : FnI := ⟨11, "_law_is_tuple", "_law_is_tuple", defArgs (top 26), defBody (top 26), defScope (top 26), ["_law_value", "_law_expected", "_law_k"], ["_law_value", "_law_expected"], 1⟩
def i_12 : FnI := ⟨12, "_law_order", "_law_order", defArgs (top 27), defBody (top 27), defScope (top 27), ["_law_picks", "_law_classes", "_law_left", "_law_order_here", "_law_k"], ["_law_picks", "_law_classes"], 1⟩
def i_21 : FnI := ⟨21, "_law_table", "_law_table", defArgs (top 28), defBody (top 28), defScope (top 28), ["_law_cell_here", "_law_full", "_law_drawn", "_law_classes", "_law_manner", "_law_rows", "_law_slot", "_law_row", "_law_k", "_law_number"], ["_law_cell_here", "_law_full"], 1⟩
def i_25 : FnI := ⟨25, "_law_run", "_law_run", defArgs (top 29), defBody (top 29), defScope (top 29), ["_law_rows", "_law_classes", "_law_order_here", "_law_picks", "_law_waiting", "_law_waits", "_law_schedule", "_law_slot", "_law_number", "_law_ready", "_law_served", "_law_row"], ["_law_rows", "_law_classes", "_law_order_here", "_law_picks"], 1⟩
def i_46 : FnI := ⟨46, "_law_same", "_law_same", defArgs (top 30), defBody (top 30), defScope (top 30), ["_law_passed", "_law_schedule", "_law_k"], ["_law_passed", "_law_schedule"], 1⟩
def i_36 : FnI := ⟨36, "_law_stays", "_law_stays", defArgs (top 31), defBody (top 31), defScope (top 31), ["_law_table_here", "_law_rows", "_law_k"], ["_law_table_here", "_law_rows"], 1⟩
def i_8 : FnI := ⟨8, "law", "law", defArgs (top 32), defBody (top 32), defScope (top 32), ["_law_script", "_law_drawn", "_law_classes", "_law_rows", "_law_picked", "_law_order_here", "_law_first", "_law_second", "_law_table_here", "_law_run_here", "_law_empty", "_law_passed", "_law_row", "_law_number"], ["_law_script"], 0⟩
def i_72 : FnI := ⟨72, "arrivals", "Table.arrivals", defArgs (mth 21 5), defBody (mth 21 5), defScope (mth 21 5), ["self", "group", "kept", "row", "number"], ["self", "group"], 1⟩
def fns : List FnI := [i_9, i_22, i_23, i_24, i_43, i_45, i_71, i_5, i_6, i_3, i_11, i_12, i_21, i_25, i_46, i_36, i_8, i_72]
theorem ck_9 : fnB dat prog i_9 = true := by kernel_rfl
theorem ck_22 : fnB dat prog i_22 = true := by kernel_rfl
theorem ck_23 : fnB dat prog i_23 = true := by kernel_rfl
theorem ck_24 : fnB dat prog i_24 = true := by kernel_rfl
theorem ck_43 : fnB dat prog i_43 = true := by kernel_rfl
theorem ck_45 : fnB dat prog i_45 = true := by kernel_rfl
theorem ck_71 : fnB dat prog i_71 = true := by kernel_rfl
theorem ck_5 : fnB dat prog i_5 = true := by kernel_rfl
theorem ck_6 : fnB dat prog i_6 = true := by kernel_rfl
theorem ck_3 : fnB dat prog i_3 = true := by kernel_rfl
theorem ck_11 : fnB dat prog i_11 = true := by kernel_rfl
theorem ck_12 : fnB dat prog i_12 = true := by kernel_rfl
theorem ck_21 : fnB dat prog i_21 = true := by kernel_rfl
theorem ck_25 : fnB dat prog i_25 = true := by kernel_rfl
theorem ck_46 : fnB dat prog i_46 = true := by kernel_rfl
theorem ck_36 : fnB dat prog i_36 = true := by kernel_rfl
theorem ck_8 : fnB dat prog i_8 = true := by kernel_rfl
theorem ck_72 : fnB dat prog i_72 = true := by kernel_rfl
def j_Table : InI := ⟨15, "Table", "Table.__init__", defArgs (mth 21 0), defBody (mth 21 0), defScope (mth 21 0), ["self", "classes", "rows", "kept", "slot", "row", "number"], ["self", "classes", "rows"]⟩
theorem ckI_Table : inB dat prog j_Table = true := by kernel_rfl
def inis : List InI := [j_Table]
def y_InvalidGroup : IniX := ⟨"InvalidGroup", "InvalidGroup.__init__", defArgs (mth 3 0), defBody (mth 3 0), defScope (mth 3 0), ["self", "classes"], ["self", "classes"], [(0, true)]⟩
def y_InvalidTable : IniX := ⟨"InvalidTable", "InvalidTable.__init__", defArgs (mth 4 0), defBody (mth 4 0), defScope (mth 4 0), ["self", "slot"], ["self", "slot"], [(3, false)]⟩
def y_InvalidSchedule : IniX := ⟨"InvalidSchedule", "InvalidSchedule.__init__", defArgs (mth 5 0), defBody (mth 5 0), defScope (mth 5 0), ["self", "slot"], ["self", "slot"], [(3, false)]⟩
def ys : List IniX := [y_InvalidGroup, y_InvalidTable, y_InvalidSchedule]
theorem ck0 : exS0 edat ys = true := by kernel_rfl
def dd (i : FnI) : He.DefD := ⟨(i.x, none), i.x, i.qual, i.params, i.body, i.scope, [], []⟩
def ddM (c : Str) (i : FnI) : He.DefD := ⟨(c, some i.x), i.x, i.qual, i.params, i.body, i.scope, [], []⟩
def ddI (i : InI) : He.DefD := ⟨(i.cls, some "__init__"), "__init__", i.qual, i.params, i.body, i.scope, [], []⟩
def fn : List He.DefD := [dd i_9, dd i_22, dd i_23, dd i_24, dd i_43, dd i_45, dd i_71, dd i_5, dd i_6, dd i_3, dd i_11, dd i_12, dd i_21, dd i_25, dd i_46, dd i_36, dd i_8, ddM "Table" i_72, ddI j_Table]
def fa : List He.Fa := [.glo "group_of", .glo "everyone", .glo "table_backlogs", .glo "run_length", .glo "with_arrivals", .glo "schedule_waits", .glo "padded", .glo "_law_cell", .glo "_law_draws", .glo "_law_is_integer", .glo "_law_is_tuple", .glo "_law_order", .glo "_law_table", .glo "_law_run", .glo "_law_same", .glo "_law_stays", .glo "law", .meth "Table" "arrivals", .free "any", .free "bool", .free "enumerate", .free "int", .free "isinstance", .free "len", .free "list", .free "max", .free "min", .free "range", .free "sorted", .free "sum", .free "super", .free "tuple", .free "zip", .glo "Table", .cls "Table", .mkr "Table", .noat "Table" "classes", .noat "Table" "rows"]
abbrev Rw : PySem.W.OpenRow := PySem.W.OpenLaw.row PySem.Challenge.rw_waitpromises_k21_waits_of_schedules
def exI (K : PySem.W.Frag) : Bool := insX K "Table" ["bool", "int", "tuple"] []
def ex (K : PySem.W.Frag) : Bool := exE edat ys PySem.Challenge.pw_waitpromises_k21_waits_of_schedules.main.file K && exI K
abbrev hk : PySem.W.Hook := hookE 5 fa fn ys ex
def ob (s : PySem.W.SharedT) : AlE := obsE 5 fa fn ys ex (HandSHeadRun.getT s)
theorem ob_eq (s : PySem.W.SharedT) : ob s = hk.obs s.abs := obsE_eq (HandSHeadRun.getT_eq s)
theorem rn (w : World) : HandSHeadRun.RunEq Rw (PySem.W.view Rw.prog [32]) hk ob 5980 ["_wall", "WaitError", "InvalidGroup", "InvalidTable", "InvalidSchedule", "WrongLength", "ServerIdle", "NothingWaits", "WrongCount", "group_of", "everyone", "table_backlogs", "run_length", "with_arrivals", "schedule_waits", "padded", "Table", "_law_cell", "_law_draws", "_law_is_integer", "_law_is_tuple", "_law_order", "_law_table", "_law_run", "_law_same", "_law_stays"] w := by
  intro os
  kernel_rfl
section
variable {K : PySem.W.Frag} {h : Heap} {mg : Str → Option Value}
theorem ini_eq (k : Nat) : prog.ini k = (match k with
    | 15 => some n_Table
    | _ => none) := rfl
theorem meth_eq (k m : Nat) : prog.meth k m = (match k, m with
    | 15, 10 => some 72
    | _, _ => none) := rfl
theorem ini_c {k : Nat} (h : (prog.ini k).isSome = true) : k = 15 := by
  rw [ini_eq] at h
  split at h
  · simp
  · cases h
theorem insF (c : SaysE fa fn ys ex K) {x : Addr} : ∀ k, (prog.ini k).isSome = true → InsOk K ((pinC (cfgE edat K) x).C k) ∧ ∀ cn ∈ (["bool", "int", "tuple"] : List String), PySem.W.kitOne K (.ref ((pinC (cfgE edat K) x).C k)) (.type cn) = some false := by
  intro k hk
  rcases ini_c hk with rfl
  · exact ⟨(insX_ok (and2 c.2.2).2 (He.cls_ok (c.1.fact 34 (f := .cls "Table") rfl))).1, (insX_ok (and2 c.2.2).2 (He.cls_ok (c.1.fact 34 (f := .cls "Table") rfl))).2.1⟩
theorem pf (X : K.In h) (G : h.Ns mainGlobals mg) (c : SaysE fa fn ys ex K) (x : Addr) : PF PySem.Challenge.pw_waitpromises_k21_waits_of_schedules K mg (pinC (cfgE edat K) x) dat prog fns inis where
  hK := rfl
  er := rfl
  inj := an_inj
  meth := fun k m hm => by
    rw [meth_eq]
    split
    · omega
    · rfl
  ifl := fun f hf k hk => by
    simp only [dat, List.mem_cons, List.not_mem_nil, or_false] at hf
    rcases ini_c hk with rfl
    · rcases hf with rfl | rfl
      · exact ⟨He.cls_ok (c.1.fact 34 (f := .cls "Table") rfl), He.noat_ok (c.1.fact 36 (f := .noat "Table" "classes") rfl)⟩
      · exact ⟨He.cls_ok (c.1.fact 34 (f := .cls "Table") rfl), He.noat_ok (c.1.fact 37 (f := .noat "Table" "rows") rfl)⟩
  inisOk := fun i hi => by
    simp only [inis, List.mem_cons, List.not_mem_nil, or_false] at hi
    rcases hi with rfl
    · refine ⟨ckI_Table, by decide, He.cls_ok (c.1.fact 34 (f := .cls "Table") rfl), fun d hd p hp => ?_⟩
      have hd : some n_Table = some d := hd
      cases hd
      simp only [n_Table, List.mem_cons, List.not_mem_nil, or_false] at hp
      rcases hp with rfl | rfl
      · exact He.noat_ok (c.1.fact 36 (f := .noat "Table" "classes") rfl)
      · exact He.noat_ok (c.1.fact 37 (f := .noat "Table" "rows") rfl)
  makes := fun z hz => by
    simp only [dat, List.mem_cons, List.not_mem_nil, or_false] at hz
    rcases hz with rfl
    · obtain ⟨fd, F⟩ := c.1.def_ 18 (d := ddI j_Table) rfl
      exact ⟨j_Table, by simp [inis], _, fd, _, _, rfl, F, He.mkr_ok (c.1.fact 35 (f := .mkr "Table") rfl), He.glo_ok X G (c.1.fact 33 (f := .glo "Table") rfl), bnd_plain (FunD.bindsN F fun _ _ _ _ _ _ us hl => match us, hl with | [_, _, _], _ => rfl) rfl, rfl⟩
  meths := fun z hz => by
    simp only [dat, List.mem_cons, List.not_mem_nil, or_false] at hz
    rcases hz with rfl
    · refine ⟨an_ne (by decide +kernel) (by decide +kernel), fun k f hf => ?_⟩
      have hf : prog.meth k 10 = some f := hf
      rw [meth_eq] at hf
      split at hf
      · cases hf
        obtain ⟨fd, F⟩ := c.1.def_ 17 (d := ddM "Table" i_72) rfl
        exact ⟨i_72, by simp [fns], _, fd, _, _, rfl, F, He.cls_ok (c.1.fact 34 (f := .cls "Table") rfl), He.meth_ok (c.1.fact 17 (f := .meth "Table" "arrivals") rfl), by decide, bnd_plain (FunD.bindsN F fun _ _ _ _ _ _ us hl => match us, hl with | [_, _], _ => rfl) rfl, rfl⟩
      · cases hf
  blts := fun x hx => by
    simp only [dat, List.mem_cons, List.not_mem_nil, or_false] at hx
    rcases hx with rfl | rfl | rfl | rfl | rfl | rfl | rfl | rfl | rfl | rfl | rfl | rfl | rfl | rfl | rfl
    · exact He.free_ok X G (c.1.fact 18 (f := .free "any") rfl)
    · exact He.free_ok X G (c.1.fact 19 (f := .free "bool") rfl)
    · exact He.free_ok X G (c.1.fact 20 (f := .free "enumerate") rfl)
    · exact He.free_ok X G (c.1.fact 21 (f := .free "int") rfl)
    · exact He.free_ok X G (c.1.fact 22 (f := .free "isinstance") rfl)
    · exact He.free_ok X G (c.1.fact 23 (f := .free "len") rfl)
    · exact He.free_ok X G (c.1.fact 24 (f := .free "list") rfl)
    · exact He.free_ok X G (c.1.fact 25 (f := .free "max") rfl)
    · exact He.free_ok X G (c.1.fact 26 (f := .free "min") rfl)
    · exact He.free_ok X G (c.1.fact 27 (f := .free "range") rfl)
    · exact He.free_ok X G (c.1.fact 28 (f := .free "sorted") rfl)
    · exact He.free_ok X G (c.1.fact 29 (f := .free "sum") rfl)
    · exact He.free_ok X G (c.1.fact 30 (f := .free "super") rfl)
    · exact He.free_ok X G (c.1.fact 31 (f := .free "tuple") rfl)
    · exact He.free_ok X G (c.1.fact 32 (f := .free "zip") rfl)
  tys := fun x hx => by
    simp only [dat, List.mem_cons, List.not_mem_nil, or_false] at hx
    rcases hx with rfl | rfl | rfl
    · exact .inl ⟨He.free_ok X G (c.1.fact 19 (f := .free "bool") rfl), "bool", rfl, rfl, fun k hk => ⟨(insF c k hk).1, (insF c k hk).2 "bool" (by simp)⟩⟩
    · exact .inl ⟨He.free_ok X G (c.1.fact 21 (f := .free "int") rfl), "int", rfl, rfl, fun k hk => ⟨(insF c k hk).1, (insF c k hk).2 "int" (by simp)⟩⟩
    · exact .inl ⟨He.free_ok X G (c.1.fact 31 (f := .free "tuple") rfl), "tuple", rfl, rfl, fun k hk => ⟨(insF c k hk).1, (insF c k hk).2 "tuple" (by simp)⟩⟩
  calls := fun x hx => by
    simp only [dat, List.mem_cons, List.not_mem_nil, or_false] at hx
    rcases hx with rfl | rfl | rfl | rfl | rfl | rfl | rfl | rfl | rfl | rfl | rfl | rfl | rfl | rfl | rfl
    · obtain ⟨fd, F⟩ := c.1.def_ 7 (d := dd i_5) rfl
      exact ⟨i_5, by simp [fns], _, fd, _, _, rfl, rfl, F, He.glo_ok X G (c.1.fact 7 (f := .glo "_law_cell") rfl), bnd_plain (FunD.bindsN F fun _ _ _ _ _ _ us hl => match us, hl with | [_, _], _ => rfl) rfl, rfl⟩
    · obtain ⟨fd, F⟩ := c.1.def_ 8 (d := dd i_6) rfl
      exact ⟨i_6, by simp [fns], _, fd, _, _, rfl, rfl, F, He.glo_ok X G (c.1.fact 8 (f := .glo "_law_draws") rfl), bnd_plain (FunD.bindsN F fun _ _ _ _ _ _ us hl => match us, hl with | [_, _], _ => rfl) rfl, rfl⟩
    · obtain ⟨fd, F⟩ := c.1.def_ 9 (d := dd i_3) rfl
      exact ⟨i_3, by simp [fns], _, fd, _, _, rfl, rfl, F, He.glo_ok X G (c.1.fact 9 (f := .glo "_law_is_integer") rfl), bnd_plain (FunD.bindsN F fun _ _ _ _ _ _ us hl => match us, hl with | [_], _ => rfl) rfl, rfl⟩
    · obtain ⟨fd, F⟩ := c.1.def_ 10 (d := dd i_11) rfl
      exact ⟨i_11, by simp [fns], _, fd, _, _, rfl, rfl, F, He.glo_ok X G (c.1.fact 10 (f := .glo "_law_is_tuple") rfl), bnd_plain (FunD.bindsN F fun _ _ _ _ _ _ us hl => match us, hl with | [_, _], _ => rfl) rfl, rfl⟩
    · obtain ⟨fd, F⟩ := c.1.def_ 11 (d := dd i_12) rfl
      exact ⟨i_12, by simp [fns], _, fd, _, _, rfl, rfl, F, He.glo_ok X G (c.1.fact 11 (f := .glo "_law_order") rfl), bnd_plain (FunD.bindsN F fun _ _ _ _ _ _ us hl => match us, hl with | [_, _], _ => rfl) rfl, rfl⟩
    · obtain ⟨fd, F⟩ := c.1.def_ 13 (d := dd i_25) rfl
      exact ⟨i_25, by simp [fns], _, fd, _, _, rfl, rfl, F, He.glo_ok X G (c.1.fact 13 (f := .glo "_law_run") rfl), bnd_plain (FunD.bindsN F fun _ _ _ _ _ _ us hl => match us, hl with | [_, _, _, _], _ => rfl) rfl, rfl⟩
    · obtain ⟨fd, F⟩ := c.1.def_ 14 (d := dd i_46) rfl
      exact ⟨i_46, by simp [fns], _, fd, _, _, rfl, rfl, F, He.glo_ok X G (c.1.fact 14 (f := .glo "_law_same") rfl), bnd_plain (FunD.bindsN F fun _ _ _ _ _ _ us hl => match us, hl with | [_, _], _ => rfl) rfl, rfl⟩
    · obtain ⟨fd, F⟩ := c.1.def_ 15 (d := dd i_36) rfl
      exact ⟨i_36, by simp [fns], _, fd, _, _, rfl, rfl, F, He.glo_ok X G (c.1.fact 15 (f := .glo "_law_stays") rfl), bnd_plain (FunD.bindsN F fun _ _ _ _ _ _ us hl => match us, hl with | [_, _], _ => rfl) rfl, rfl⟩
    · obtain ⟨fd, F⟩ := c.1.def_ 12 (d := dd i_21) rfl
      exact ⟨i_21, by simp [fns], _, fd, _, _, rfl, rfl, F, He.glo_ok X G (c.1.fact 12 (f := .glo "_law_table") rfl), bnd_plain (FunD.bindsN F fun _ _ _ _ _ _ us hl => match us, hl with | [_, _], _ => rfl) rfl, rfl⟩
    · obtain ⟨fd, F⟩ := c.1.def_ 1 (d := dd i_22) rfl
      exact ⟨i_22, by simp [fns], _, fd, _, _, rfl, rfl, F, He.glo_ok X G (c.1.fact 1 (f := .glo "everyone") rfl), bnd_plain (FunD.bindsN F fun _ _ _ _ _ _ us hl => match us, hl with | [_], _ => rfl) rfl, rfl⟩
    · obtain ⟨fd, F⟩ := c.1.def_ 0 (d := dd i_9) rfl
      exact ⟨i_9, by simp [fns], _, fd, _, _, rfl, rfl, F, He.glo_ok X G (c.1.fact 0 (f := .glo "group_of") rfl), bnd_plain (FunD.bindsN F fun _ _ _ _ _ _ us hl => match us, hl with | [_, _], _ => rfl) rfl, rfl⟩
    · obtain ⟨fd, F⟩ := c.1.def_ 3 (d := dd i_24) rfl
      exact ⟨i_24, by simp [fns], _, fd, _, _, rfl, rfl, F, He.glo_ok X G (c.1.fact 3 (f := .glo "run_length") rfl), bnd_plain (FunD.bindsN F fun _ _ _ _ _ _ us hl => match us, hl with | [_], _ => rfl) rfl, rfl⟩
    · obtain ⟨fd, F⟩ := c.1.def_ 5 (d := dd i_45) rfl
      exact ⟨i_45, by simp [fns], _, fd, _, _, rfl, rfl, F, He.glo_ok X G (c.1.fact 5 (f := .glo "schedule_waits") rfl), bnd_plain (FunD.bindsN F fun _ _ _ _ _ _ us hl => match us, hl with | [_, _], _ => rfl) rfl, rfl⟩
    · obtain ⟨fd, F⟩ := c.1.def_ 2 (d := dd i_23) rfl
      exact ⟨i_23, by simp [fns], _, fd, _, _, rfl, rfl, F, He.glo_ok X G (c.1.fact 2 (f := .glo "table_backlogs") rfl), bnd_plain (FunD.bindsN F fun _ _ _ _ _ _ us hl => match us, hl with | [_, _], _ => rfl) rfl, rfl⟩
    · obtain ⟨fd, F⟩ := c.1.def_ 4 (d := dd i_43) rfl
      exact ⟨i_43, by simp [fns], _, fd, _, _, rfl, rfl, F, He.glo_ok X G (c.1.fact 4 (f := .glo "with_arrivals") rfl), bnd_plain (FunD.bindsN F fun _ _ _ _ _ _ us hl => match us, hl with | [_, _, _], _ => rfl) rfl, rfl⟩
  fnsOk := fun x hx => by
    simp only [fns, List.mem_cons, List.not_mem_nil, or_false] at hx
    rcases hx with rfl | rfl | rfl | rfl | rfl | rfl | rfl | rfl | rfl | rfl | rfl | rfl | rfl | rfl | rfl | rfl | rfl | rfl
    · exact ck_9
    · exact ck_22
    · exact ck_23
    · exact ck_24
    · exact ck_43
    · exact ck_45
    · exact ck_71
    · exact ck_5
    · exact ck_6
    · exact ck_3
    · exact ck_11
    · exact ck_12
    · exact ck_21
    · exact ck_25
    · exact ck_46
    · exact ck_36
    · exact ck_8
    · exact ck_72
  an := rfl
  errs := errs_of (ys := ys) X G rfl (fun e he => by
      simp only [edat, List.mem_cons, List.not_mem_nil, or_false] at he
      rcases he with rfl | rfl | rfl | rfl | rfl <;> rfl) (and2 c.2.2).1 ck0 c.2.1 (by kernel_rfl) (He.free_ok X G (c.1.fact 30 (f := .free "super") rfl)) (He.free_ok X G (c.1.fact 31 (f := .free "tuple") rfl)) (fun d hd => by
        simp only [ys, List.mem_cons, List.not_mem_nil, or_false] at hd
        rcases hd with rfl | rfl | rfl
        · exact fun _ _ _ _ _ _ _ us hl => match us, hl with | [_, _], _ => by kernel_rfl
        · exact fun _ _ _ _ _ _ _ us hl => match us, hl with | [_, _], _ => by kernel_rfl
        · exact fun _ _ _ _ _ _ _ us hl => match us, hl with | [_, _], _ => by kernel_rfl)
  xt := fun x hx => by simp [dat] at hx
  exm := fun n d hx => by simp [dat] at hx
  sui := sui_of (ys := ys) (fun _ => rfl) (and2 c.2.2).1 ck0
theorem lawMg (X : K.In h) (G : h.Ns mainGlobals mg) (c : SaysE fa fn ys ex K) : mg "law" = some (.ref (He.fAd K ("law", none))) := He.glo_ok X G (c.1.fact 16 (f := .glo "law") rfl)
end
end Wt
open PySem PySem.W PySem.Calls PyProof.Rows
theorem PySem.Challenge.cw_waitpromises_k21_waits_of_schedules_holds : PySem.Challenge.rw_waitpromises_k21_waits_of_schedules.Holds := by
  w_on; o_law
  refine HandSHeadRun.head_any (r := OpenLaw.row PySem.Challenge.rw_waitpromises_k21_waits_of_schedules) (q := view (OpenLaw.row PySem.Challenge.rw_waitpromises_k21_waits_of_schedules).prog [32]) (H := Wt.hk) (ob := Wt.ob) (M := 5980) (loose := ["_wall", "WaitError", "InvalidGroup", "InvalidTable", "InvalidSchedule", "WrongLength", "ServerIdle", "NothingWaits", "WrongCount", "group_of", "everyone", "table_backlogs", "run_length", "with_arrivals", "schedule_waits", "padded", "Table", "_law_cell", "_law_draws", "_law_is_integer", "_law_is_tuple", "_law_order", "_law_table", "_law_run", "_law_same", "_law_stays"]) (d := HandSHeadRun.topDef (OpenLaw.row PySem.Challenge.rw_waitpromises_k21_waits_of_schedules).prog 32) (kwd := []) Wt.ob_eq
    (by kernel_rfl) (fun s => by kernel_rfl) Wt.rn (by kernel_rfl) (by kernel_rfl) (by kernel_rfl) (by rfl) (by first | assumption | decide +kernel) (by decide +kernel) ⟨rfl, rfl, rfl, rfl, rfl, by decide +kernel⟩ ?hw ?hc
  case hw => w_witness2
  case hc =>
    refine Wt.walk_ofX (l := PySem.Challenge.rw_waitpromises_k21_waits_of_schedules) (n := 63) (k := 2 * 14 + 2) (x := "_law_script") rfl (by decide) (by kernel_rfl) ⟨rfl, by decide, by decide⟩ ?F
    intro w mg fa h Y G hmg0
    obtain ⟨K, KX, c⟩ := Y
    have hmg : mg ("law" : PySem.Str) = some (.ref fa) := by
      have e : (HandSHeadRun.topDef (OpenLaw.row PySem.Challenge.rw_waitpromises_k21_waits_of_schedules).prog 32).name = ("law" : PySem.Str) := by kernel_rfl
      rw [← e]
      exact hmg0
    have F := Wt.pf KX G c
    obtain ⟨fd, FD⟩ := c.1.def_ 16 (d := Wt.dd Wt.i_8) rfl
    have e := hmg.symm.trans (Wt.lawMg KX G c)
    cases e
    have b := L2.FunD.bindsA (ps := ["_law_script"]) FD fun _ _ _ _ _ _ us hl => match us, hl with | [_], _ => rfl
    exact ⟨K, fd, _, KX, fun s u => b s [u] rfl, fun H a ns hl hO hS => Wt.law_sp (F := F 0) hO hS rfl (Wt.law_true ns hl), fun base _ _ => (Wt.lvl F 14 0).2.1 Wt.i_8 (by simp [Wt.fns]) _ fd _ _ FD⟩
