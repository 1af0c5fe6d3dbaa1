import PyProof.Rows.All
import Wide.All
import OpenK.AllK
import Wide.FinOn
import HandS.ForMost
import HandS.More
import KE.SortData
import KE.DataEq
import KE.DataAny
import HandS.TupAny
import HandS.TupMul
import HandS.Wide
import HandS.Style
import PyProof.NeKinds
import HandS.Flow
import HandS.IsInst
import HandS.RaiseMore
import HandS.Iter
import PyProof.ReprRoads
import HandS.Text
import HandS.Conv
import HandS.SetFor
import PyProof.SeqRoads2
import PyProof.AutoSeq1
import HandS.Walk
import HandS.NoneIn
import HandS.Zip
import PyProof.EnumMake
import PyProof.Draws
import HandS.FStr
import HandS.Dict
import HandS.Steps
import KE.KUnpackStar
import HandS.Defaults
import HandS.Ends
import HandS.HeadEnd
import KE.KStateDown
import HandS.Head0
import HandS.Head1
import HandS.Head2
import HandS.HeadHook1
import HandS.HeadHook2
import HandS.HeadHook3
import Lean
import HandS.WordsExc
import HandS.Words
import PySem.Challenge.RW_spendproofs_k40_measures
set_option Elab.async false
set_option linter.all false
section
/-! EvA: a small deterministic language over pure data and mutable cells, into which a law's text is read; its evaluator. -/
namespace MP
open PySem

/-- a table's values -/
inductive Fl where
  | non | bl (b : Bool) | int (i : Int) | str (x : List Nat) | fn (f : Nat)
  deriving DecidableEq, Inhabited
/-- pure data; `ref n`: the n-th mutable cell; `fn f`: the f-th def; `row`: a list that is read alone -/
inductive D where
  | non | bl (b : Bool) | int (i : Int) | str (x : List Nat)
  | lst (xs : List D) | tup (xs : List D) | dct (kvs : List (D × D))
  | ref (n : Nat) | fn (f : Nat) | row (xs : List D) | tab (j : Nat) (kvs : List (List Nat × Fl))
  deriving Inhabited
def Fl.d : Fl → D
  | .non => .non
  | .bl b => .bl b
  | .int i => .int i
  | .str x => .str x
  | .fn f => .fn f

mutual
def D.py : D → PyData
  | .non => .none
  | .bl b => .bool b
  | .int i => .int i
  | .str x => .str ⟨x.toArray⟩
  | .lst xs => .list (pyAll xs)
  | .tup xs => .tuple (pyAll xs)
  | .dct kvs => .dict (pyKv kvs)
  | .ref _ => .none
  | .fn _ => .none
  | .row _ => .none
  | .tab _ _ => .none
def pyAll : List D → List PyData
  | [] => []
  | x :: xs => x.py :: pyAll xs
def pyKv : List (D × D) → List (PyData × PyData)
  | [] => []
  | (k, v) :: r => (k.py, v.py) :: pyKv r
end
mutual
/-- no cell, no def within -/
def D.data : D → Bool
  | .non => true
  | .bl _ => true
  | .int _ => true
  | .str _ => true
  | .lst xs => dataAll xs
  | .tup xs => dataAll xs
  | .dct kvs => dataKv kvs
  | .ref _ => false
  | .fn _ => false
  | .row _ => false
  | .tab _ _ => false
def dataAll : List D → Bool
  | [] => true
  | x :: xs => x.data && dataAll xs
def dataKv : List (D × D) → Bool
  | [] => true
  | (k, v) :: r => k.data && (v.data && dataKv r)
end
mutual
/-- no cell, no def, no dict within -/
def D.plain : D → Bool
  | .non => true
  | .bl _ => true
  | .int _ => true
  | .str _ => true
  | .lst xs => plainAll xs
  | .tup xs => plainAll xs
  | .dct _ => false
  | .ref _ => false
  | .fn _ => false
  | .row _ => false
  | .tab _ _ => false
def plainAll : List D → Bool
  | [] => true
  | x :: xs => x.plain && plainAll xs
end
mutual
def D.deep : D → Nat
  | .non => 0
  | .bl _ => 0
  | .int _ => 0
  | .str _ => 0
  | .lst xs => deepAll xs + 1
  | .tup xs => deepAll xs + 1
  | .dct kvs => deepKv kvs + 1
  | .ref _ => 0
  | .fn _ => 0
  | .row _ => 0
  | .tab _ _ => 0
def deepAll : List D → Nat
  | [] => 0
  | x :: xs => max x.deep (deepAll xs)
def deepKv : List (D × D) → Nat
  | [] => 0
  | (k, v) :: r => max (max k.deep v.deep) (deepKv r)
end
/-- == of data -/
def D.eqv (a b : D) : Bool := PyData.eqv a.py b.py
/-- repr of data, its codes -/
def D.shown (a : D) : List Nat := a.py.shown.cps.toList

/-- a mutable object -/
inductive Cell where
  | lst (xs : List D)
  | dct (kvs : List (D × D))
  deriving Inhabited

abbrev Store := List Cell
abbrev Env := List (Option D)
/-- an exception: its class, its fields -/
structure Ex where
  cls : Str
  flds : List (Str × D)

inductive R (α : Type) where
  | ok (a : α) (S : Store)
  | exc (x : Ex) (S : Store)
  | stuck
def R.bind {α β : Type} (r : R α) (f : α → Store → R β) : R β := match r with
  | .ok a S => f a S
  | .exc x S => .exc x S
  | .stuck => .stuck
@[simp] theorem R.bind_ok {α β : Type} (a : α) (S : Store) (f : α → Store → R β) : (R.ok a S).bind f = f a S := rfl
@[simp] theorem R.bind_exc {α β : Type} (x : Ex) (S : Store) (f : α → Store → R β) : (R.exc x S : R α).bind f = .exc x S := rfl
@[simp] theorem R.bind_stuck {α β : Type} (f : α → Store → R β) : (R.stuck : R α).bind f = .stuck := rfl

/-- no more items, signs than this in anything that is made -/
def most : Nat := 1000000
def mk? (c : Bool) (d : D) (S : Store) : R D := match c with
  | true => .ok d S
  | false => .stuck

/-- a list made: a cell, or for good -/
def mkL (m : Bool) (xs : List D) (S : Store) : R D := match m with
  | true => .ok (.ref S.length) (S ++ [.lst xs])
  | false => .ok (.lst xs) S

def truth (S : Store) : D → Option Bool
  | .non => some false
  | .bl b => some b
  | .int i => some (i != 0)
  | .str x => some (!x.isEmpty)
  | .lst xs => some (!xs.isEmpty)
  | .tup xs => some (!xs.isEmpty)
  | .dct kvs => some (!kvs.isEmpty)
  | .ref n => match S[n]? with
    | some (.lst xs) => some (!xs.isEmpty)
    | some (.dct kvs) => some (!kvs.isEmpty)
    | none => none
  | .fn _ => none
  | .row xs => some (!xs.isEmpty)
  | .tab _ _ => none
def test (d : D) (S : Store) : R Bool := match truth S d with
  | some b => .ok b S
  | none => .stuck
/-- the items of a list -/
def lsOf (S : Store) : D → Option (List D)
  | .lst xs => some xs
  | .ref n => match S[n]? with
    | some (.lst xs) => some xs
    | _ => none
  | _ => none
/-- the items of a list, a tuple -/
def sqOf (S : Store) : D → Option (List D)
  | .lst xs => some xs
  | .tup xs => some xs
  | .row xs => some xs
  | .ref n => match S[n]? with
    | some (.lst xs) => some xs
    | _ => none
  | _ => none
/-- the items of a list of any kind -/
def rwOf (S : Store) : D → Option (List D)
  | .lst xs => some xs
  | .row xs => some xs
  | .ref n => match S[n]? with
    | some (.lst xs) => some xs
    | _ => none
  | _ => none
/-- a place, from the end where it is below nought -/
def ixn (n : Nat) (i : Int) : Option Nat := if 0 ≤ i then (if i < n then some i.toNat else none) else if -(n : Int) ≤ i then some (i + n).toNat else none

inductive O2 where
  | add | sub | mul | fdiv | mod | pow | shl | shr | band
  deriving DecidableEq
inductive Cp where
  | eq | ne | lt | le | gt | ge | is | isnot | isin | notin
  deriving DecidableEq

def upText (x : List Nat) : List Nat := (Txt.upper ⟨x.toArray⟩).cps.toList
def okMul (i j : Int) : Bool := decide (i.natAbs < 2 ^ 64) || (decide (j.natAbs < 2 ^ 64) || (decide (i.natAbs < 2 ^ 2000) && decide (j.natAbs < 2 ^ 2000)))
def repL (k : Int) (xs : List D) : List D := (List.replicate k.toNat xs).flatten

def op2 (m : Bool) (op : O2) (x y : D) (S : Store) : R D := match op, x, y with
  | .add, .int i, .int j => .ok (.int (i + j)) S
  | .sub, .int i, .int j => .ok (.int (i - j)) S
  | .mul, .int i, .int j => mk? (okMul i j) (.int (i * j)) S
  | .fdiv, .int i, .int j => mk? (decide (0 < j) && decide (j < 1073741824)) (.int (i / j)) S
  | .mod, .int i, .int j => mk? (decide (0 < j)) (.int (i % j)) S
  | .pow, .int i, .int j => mk? (decide (0 ≤ j) && (decide (j ≤ 1000000) && decide (i.natAbs < 2 ^ 64) || decide (j ≤ 100) && decide (i.natAbs < 2 ^ 1000))) (.int (i ^ j.toNat)) S
  | .shl, .int i, .int j => mk? (decide (0 ≤ j) && (decide (j ≤ 1000000) && decide (i.natAbs < 2 ^ 64))) (.int (i * 2 ^ j.toNat)) S
  | .shr, .int i, .int j => mk? (decide (0 ≤ j)) (.int (i / 2 ^ j.toNat)) S
  | .band, .int i, .int j => .ok (.int (Builtin.bitAnd i j)) S
  | .add, .str a, .str b => mk? (decide (a.length + b.length ≤ most)) (.str (a ++ b)) S
  | .add, .tup a, .tup b => mk? (decide (a.length + b.length ≤ most)) (.tup (a ++ b)) S
  | .add, x, y => match lsOf S x, lsOf S y with
    | some a, some b => match decide (a.length + b.length ≤ most) with
      | true => mkL m (a ++ b) S
      | false => .stuck
    | _, _ => .stuck
  | .mul, .tup a, .int k => mk? (!a.isEmpty && (decide (a.length ≤ 1000) && (decide (2 ≤ k) && decide (k ≤ 1000)))) (.tup (repL k a)) S
  | .mul, x, .int k => match lsOf S x with
    | some a => match decide (a.length * k.toNat ≤ most) && decide (k.natAbs < 2 ^ 60) with
      | true => mkL m (repL k a) S
      | false => .stuck
    | _ => .stuck
  | _, _, _ => .stuck

/-- how deep may lie what is compared, shown -/
def far : Nat := 150
def eqOk (x y : D) : Bool := x.plain && (y.plain && decide (min x.deep y.deep ≤ far))
/-- a cell's list, or data, as data -/
def view (S : Store) : D → D
  | .ref n => match S[n]? with
    | some (.lst xs) => .lst xs
    | _ => .ref n
  | d => d
def isNone : D → Bool
  | .non => true
  | _ => false
/-- one text within another -/
def subText (x y : List Nat) : Bool := !(Builtin.Str.occurrences ⟨y.toArray⟩ ⟨x.toArray⟩ 0 y.length 1).isEmpty
def inKeys (x : D) (kvs : List (D × D)) : Bool := kvs.any fun p => p.1.eqv x
def dget (x : D) (kvs : List (D × D)) : Option D := match kvs.find? fun p => p.1.eqv x with
  | some p => some p.2
  | none => none
/-- a key of a dict of texts and numbers -/
def flatKey : D → Bool
  | .int _ => true
  | .str _ => true
  | _ => false
/-- in a written table -/
def inTab (kvs : List (List Nat × Fl)) (x : D) : Option Bool := match x with
  | .str k => some (kvs.lookup k).isSome
  | _ => none
/-- in a dict -/
def inDct (es : List (D × D)) (x : D) : Option Bool := match flatKey x with
  | true => some (dget x es).isSome
  | false => none
def inOf (S : Store) (x y : D) : Option Bool := match y with
  | .tab _ kvs => inTab kvs x
  | .dct es => inDct es x
  | .str b => match x with
    | .str a => some (subText a b)
    | _ => none
  | y => match sqOf S y with
    | some xs => match (view S x).plain && (plainAll xs && decide (min (view S x).deep (deepAll xs) ≤ far)) with
      | true => some (xs.any fun d => d.eqv (view S x))
      | false => none
    | none => none
/-- data that can be compared place by place -/
def D.alike (a b : D) : Bool := W.alike a.py b.py
def D.lt (a b : D) : Bool := W.dataLt a.py b.py
/-- == : of data; of any tuple and () -/
def eqD (S : Store) (x y : D) : Option Bool := match x, y with
  | .tup xs, .tup [] => some xs.isEmpty
  | x, y => match eqOk (view S x) (view S y) with
    | true => some ((view S x).eqv (view S y))
    | false => none
def isD (x y : D) : Option Bool := match y with
  | .non => some (isNone x)
  | .bl b => match x with
    | .bl a => some (a == b)
    | _ => none
  | _ => none
def cp2 (op : Cp) (x y : D) (S : Store) : R D := match op with
  | .eq => match eqD S x y with
    | some b => .ok (.bl b) S
    | none => .stuck
  | .ne => match eqD S x y with
    | some b => .ok (.bl (!b)) S
    | none => .stuck
  | .is => match isD x y with
    | some b => .ok (.bl b) S
    | none => .stuck
  | .isnot => match isD x y with
    | some b => .ok (.bl (!b)) S
    | none => .stuck
  | .isin => match inOf S x y with
    | some b => .ok (.bl b) S
    | none => .stuck
  | .notin => match inOf S x y with
    | some b => .ok (.bl (!b)) S
    | none => .stuck
  | .lt => match x, y with
    | .int i, .int j => .ok (.bl (decide (i < j))) S
    | _, _ => .stuck
  | .le => match x, y with
    | .int i, .int j => .ok (.bl (decide (i ≤ j))) S
    | _, _ => .stuck
  | .gt => match x, y with
    | .int i, .int j => .ok (.bl (decide (j < i))) S
    | _, _ => .stuck
  | .ge => match x, y with
    | .int i, .int j => .ok (.bl (decide (j ≤ i))) S
    | _, _ => .stuck

/-- a written table's value -/
def atTab (kvs : List (List Nat × Fl)) (i : D) (S : Store) : R D := match i with
  | .str k => match kvs.lookup k with
    | some f => .ok f.d S
    | none => .stuck
  | _ => .stuck
/-- a dict's value -/
def atDct (es : List (D × D)) (i : D) (S : Store) : R D := match flatKey i with
  | true => match dget i es with
    | some d => .ok d S
    | none => .stuck
  | false => .stuck
def atSeq (x i : D) (S : Store) : R D := match i with
  | .int k => match x with
    | .str a => match (ixn a.length k).bind fun j => a[j]? with
      | some c => .ok (.str [c]) S
      | none => .stuck
    | x => match sqOf S x with
      | some xs => match (ixn xs.length k).bind fun j => xs[j]? with
        | some d => .ok d S
        | none => .stuck
      | none => .stuck
  | _ => .stuck
def atD (x i : D) (S : Store) : R D := match x with
  | .tab _ kvs => atTab kvs i S
  | .dct es => atDct es i S
  | x => atSeq x i S
/-- a part's end, by Python's rules for a step of one -/
def cutAt (n d : Nat) : Option Int → Nat
  | none => d
  | some i => if i < 0 then (i + n).toNat else min i.toNat n
def cutL {α : Type} (xs : List α) (lo hi : Option Int) : List α := (xs.drop (cutAt xs.length 0 lo)).take (cutAt xs.length xs.length hi - cutAt xs.length 0 lo)
def slice (m : Bool) (x : D) (lo hi : Option Int) (S : Store) : R D := match x with
  | .str a => .ok (.str (cutL a lo hi)) S
  | .tup a => .ok (.tup (cutL a lo hi)) S
  | .row a => mkL m (cutL a lo hi) S
  | x => match lsOf S x with
    | some a => mkL m (cutL a lo hi) S
    | none => .stuck
def optI : Option D → Option (Option Int)
  | none => some none
  | some (.int i) => some (some i)
  | some _ => none

/-- built-in functions of values -/
inductive Bt where
  | len | all | any | sum | min2 | max2 | abs | int | str | repr | list | tuple | sorted
  deriving DecidableEq
def boolsOf : List D → Option (List Bool)
  | [] => some []
  | .bl b :: r => (boolsOf r).map (b :: ·)
  | _ :: _ => none
def intsOf : List D → Option (List Int)
  | [] => some []
  | .int i :: r => (intsOf r).map (i :: ·)
  | _ :: _ => none
def chars (x : List Nat) : List D := x.map fun c => .str [c]
def alikeAllB (xs : List D) : Bool := xs.all fun a => xs.all fun b => a.alike b
def isTupB : D → Bool
  | .tup (_ :: _) => true
  | _ => false
def isOtherB : D → Bool
  | .non => false
  | .tup _ => false
  | _ => true
def sortOk (xs : List D) : Bool := plainAll xs && (alikeAllB xs && ((xs.all isTupB || xs.all isOtherB) && decide (deepAll xs ≤ far)))
def sortL (xs : List D) : List D := xs.mergeSort (W.dataLe false D.py)
def toDec (i : Int) : List Nat := (toString i : Str).cps.toList
def bt (m : Bool) (f : Bt) (xs : List D) (S : Store) : R D := match f, xs with
  | .len, [.str a] => .ok (.int a.length) S
  | .len, [x] => match sqOf S x with
    | some a => .ok (.int a.length) S
    | none => .stuck
  | .all, [x] => match (lsOf S x).bind boolsOf with
    | some bs => .ok (.bl (bs.all id)) S
    | none => .stuck
  | .any, [x] => match (lsOf S x).bind boolsOf with
    | some bs => .ok (.bl (bs.any id)) S
    | none => .stuck
  | .sum, [x] => match (lsOf S x).bind intsOf with
    | some ns => .ok (.int ns.sum) S
    | none => .stuck
  | .min2, [.int i, .int j] => .ok (.int (if j < i then j else i)) S
  | .max2, [.int i, .int j] => .ok (.int (if j > i then j else i)) S
  | .min2, [x] => match (lsOf S x).bind intsOf with
    | some (n :: ns) => .ok (.int (ns.foldl min n)) S
    | _ => .stuck
  | .max2, [x] => match (lsOf S x).bind intsOf with
    | some (n :: ns) => .ok (.int (ns.foldl max n)) S
    | _ => .stuck
  | .abs, [.int i] => .ok (.int (if i < 0 then -i else i)) S
  | .int, [.int i] => .ok (.int i) S
  | .int, [.bl b] => .ok (.int (if b then 1 else 0)) S
  | .str, [.int i] => mk? (decide (i.natAbs.log2 < 1920) && decide ((toDec i).length ≤ most)) (.str (toDec i)) S
  | .str, [.str x] => .ok (.str x) S
  | .repr, [x] => mk? ((view S x).data && ((view S x).py.showable && (decide ((view S x).deep ≤ far) && decide ((view S x).shown.length ≤ most)))) (.str (view S x).shown) S
  | .list, [.str a] => mkL m (chars a) S
  | .list, [x] => match sqOf S x with
    | some a => mkL m a S
    | none => .stuck
  | .tuple, [.tup a] => .ok (.tup a) S
  | .tuple, [x] => match rwOf S x with
    | some a => .ok (.tup a) S
    | none => .stuck
  | .sorted, [x] => match lsOf S x with
    | some a => match sortOk a with
      | true => mkL m (sortL a) S
      | false => .stuck
    | none => .stuck
  | _, _ => .stuck

/-- built-in classes, for isinstance -/
inductive Ty where
  | str | int | bool | tuple | list | dict
  deriving DecidableEq
def tyOf (S : Store) : D → Option Ty
  | .bl _ => some .bool
  | .int _ => some .int
  | .str _ => some .str
  | .lst _ => some .list
  | .tup _ => some .tuple
  | .dct _ => some .dict
  | .ref n => match S[n]? with
    | some (.lst _) => some .list
    | some (.dct _) => some .dict
    | none => none
  | _ => none
def subTy : Ty → Ty → Bool
  | .bool, .int => true
  | a, b => decide (a = b)
def isiB (S : Store) (d : D) (t : Ty) : Option Bool := match d with
  | .non => some false
  | .fn _ => none
  | .tab _ _ => none
  | d => (tyOf S d).map fun a => subTy a t

def isStrB : D → Bool
  | .str _ => true
  | _ => false
/-- methods -/
inductive Mt where
  | append | extend | pop | popAt | join | upper | index | get | split | count | remove | insert
  deriving DecidableEq
def strsOf : List D → Option (List (List Nat))
  | [] => some []
  | .str x :: r => (strsOf r).map (x :: ·)
  | _ :: _ => none
def joinL (sep : List Nat) : List (List Nat) → List Nat
  | [] => []
  | [x] => x
  | x :: r => x ++ (sep ++ joinL sep r)
def setCell (S : Store) (n : Nat) (c : Cell) : Store := S.set n c
def isFlat : D → Bool
  | .non => true
  | .bl _ => true
  | .int _ => true
  | .str _ => true
  | _ => false
def isDctB : D → Bool
  | .tab _ _ => true
  | .dct _ => true
  | _ => false
/-- what is asked ahead of a method's arguments: the kind of its object -/
def mtRdy (f : Mt) (o : D) (S : Store) : Bool := match f with
  | .join => isStrB o
  | .upper => isStrB o
  | .get => isDctB o
  | .split => isStrB o
  | _ => (lsOf S o).isSome
def findD (x : D) (xs : List D) : Option Nat := xs.findIdx? fun d => d.eqv x
/-- what a list may be extended by -/
def exOf (S : Store) : D → Option (List D)
  | .tup xs => some xs
  | d => lsOf S d
def splitT (a b : List Nat) : List (List Nat) := (Txt.split ⟨a.toArray⟩ ⟨b.toArray⟩).map fun x => x.cps.toList
/-- d.get(k), d.get(k, e) -/
def getEnd (o : Option D) (r : List D) (S : Store) : R D := match r with
  | [] => .ok (o.getD .non) S
  | [e] => .ok (o.getD e) S
  | _ => .stuck
def mt (f : Mt) (o : D) (xs : List D) (S : Store) : R D := match f, o, xs with
  | .append, .ref n, [y] => match S[n]? with
    | some (.lst a) => match decide (a.length < most) with
      | true => .ok .non (S.set n (.lst (a ++ [y])))
      | false => .stuck
    | _ => .stuck
  | .extend, .ref n, [y] => match S[n]?, exOf S y with
    | some (.lst a), some b => match decide (a.length + b.length ≤ most) with
      | true => .ok .non (S.set n (.lst (a ++ b)))
      | false => .stuck
    | _, _ => .stuck
  | .pop, .ref n, [] => match S[n]? with
    | some (.lst a) => match a[a.length - 1]? with
      | some y => .ok y (S.set n (.lst a.dropLast))
      | none => .stuck
    | _ => .stuck
  | .popAt, .ref n, [.int i] => match S[n]? with
    | some (.lst a) => match ixn a.length i with
      | some k => match a[k]? with
        | some y => .ok y (S.set n (.lst (a.eraseIdx k)))
        | none => .stuck
      | none => .stuck
    | _ => .stuck
  | .join, .str sep, [x] => match (lsOf S x).bind strsOf with
    | some ss => mk? (decide (sep.length ≤ most) && decide ((joinL sep ss).length ≤ most)) (.str (joinL sep ss)) S
    | none => .stuck
  | .upper, .str x, [] => mk? (decide (x.length ≤ most)) (.str (upText x)) S
  | .index, o, [x] => match lsOf S o with
    | some a => match isFlat x && a.all isFlat with
      | true => match findD x a with
        | some j => .ok (.int j) S
        | none => .stuck
      | false => .stuck
    | none => .stuck
  | .split, .str a, [.str b] => mk? (!b.isEmpty && (decide (a.length ≤ most) && (splitT a b).all fun x => decide (x.length ≤ most))) (.lst ((splitT a b).map .str)) S
  | .get, .tab _ kvs, .str k :: r => getEnd ((kvs.lookup k).map Fl.d) r S
  | .get, .dct es, k :: r => match flatKey k with
    | true => getEnd (dget k es) r S
    | false => .stuck
  | .count, o, [x] => match lsOf S o with
    | some a => mk? (isFlat x && a.all isFlat) (.int ((a.countP fun d => d.eqv x : Nat) : Int)) S
    | none => .stuck
  | .remove, .ref n, [.str x] => match S[n]? with
    | some (.lst a) => match (strsOf a).bind fun ss => ss.findIdx? fun y => y == x with
      | some j => .ok .non (S.set n (.lst (a.eraseIdx j)))
      | none => .stuck
    | _ => .stuck
  | .insert, .ref n, [.int i, y] => match S[n]? with
    | some (.lst a) => match decide (a.length < most) && (decide (0 ≤ i) && decide (i ≤ most)) with
      | true => .ok .non (S.set n (.lst (a.take i.toNat ++ [y] ++ a.drop i.toNat)))
      | false => .stuck
    | _ => .stuck
  | _, _, _ => .stuck

/-- targets -/
inductive Tg where
  | nm (i : Nat)
  | tup (ts : List Tg)
  | star (is : List Nat) (k : Nat)

/-- where the parameters' values come from: the arguments, the keywords' values, the defaults -/
def pickN {α : Type} : List Nat → List α → Option (List α)
  | [], _ => some []
  | i :: r, xs => match xs[i]? with
    | some x => (pickN r xs).map (x :: ·)
    | none => none
inductive E where
  | var (i : Nat)
  | lit (d : D)
  | glob (x : Str) (d : D)
  | bin (m : Bool) (op : O2) (a b : E)
  | neg (a : E)
  | not (a : E)
  | and (a b : E)
  | or (a b : E)
  | cmp (op : Cp) (a b : E)
  | chain (op op' : Cp) (a b c : E)
  | ite (c a b : E)
  | tup (es : List E)
  | lst (m : Bool) (es : List E)
  | dict (m : Bool) (es : List E)
  | dict0 (m : Bool)
  | idx (a i : E)
  | slc (m : Bool) (a : E) (lo hi : Option E)
  | rev (m : Bool) (a : E)
  | call (f : Nat) (es : List E)
  | callk (f : Nat) (es kes : List E) (ks : List Str) (how : List Nat) (dv : List Fl)
  | callv (f : E) (es : List E)
  | blt (m : Bool) (f : Bt) (es : List E)
  | isi (a : E) (t : Ty)
  | meth (f : Mt) (o : E) (es : List E)
  | comp (m : Bool) (elt : E) (t : Tg) (it : E) (ifs : List E) (own : List Nat)
  | fstr (es : List E)
  | seq (a : E)
  | range1 (a : E)
  | range2 (a b : E)
  | enum (a : E)
  | zip (a b : E)

inductive C where
  | asg (t : Tg) (e : E)
  | par (is : List Nat) (es : List E)
  | aug (i : Nat) (op : O2) (e : E)
  | seti (o i e : E)
  | ife (c : E) (a b : List C)
  | for_ (t : Tg) (it : E) (b : List C)
  | while_ (c : E) (b : List C)
  | ret (e : E)
  | retn
  | ex (e : E)
  | pass
  | brk
  | cont
  | star (is : List Nat) (k : Nat) (e : E)
  | stk

/-- a, b, *c = row -/
def bindStar (is : List Nat) (k : Nat) (ds : List D) (env : Env) : Option Env := match decide (is.length ≤ ds.length) && decide (ds.length ≤ most) with
  | true => some (((is.zip ds).foldl (fun env p => env.set p.1 (some p.2)) env).set k (some (.lst (ds.drop is.length))))
  | false => none
/-! a row bound to a target -/
mutual
def bindT : Tg → D → Env → Option Env
  | .nm i, d, env => some (env.set i (some d))
  | .tup ts, d, env => match d with
    | .tup ds => bindTs ts ds env
    | .lst ds => bindTs ts ds env
    | _ => none
  | .star is k, d, env => match d with
    | .tup ds => bindStar is k ds env
    | .lst ds => bindStar is k ds env
    | _ => none
def bindTs : List Tg → List D → Env → Option Env
  | [], [], env => some env
  | t :: ts, d :: ds, env => (bindT t d env).bind fun env => bindTs ts ds env
  | _, _, _ => none
end

/-- what a statement comes to -/
inductive Q where
  | nxt (env : Env) (S : Store)
  | ret (v : D) (S : Store)
  | brk (env : Env) (S : Store)
  | cnt (env : Env) (S : Store)
  | exc (x : Ex) (env : Env) (S : Store)
  | stuck
def Q.of {α : Type} (env : Env) (r : R α) (f : α → Store → Q) : Q := match r with
  | .ok a S => f a S
  | .exc x S => .exc x env S
  | .stuck => .stuck
@[simp] theorem Q.of_ok {α : Type} (env : Env) (a : α) (S : Store) (f : α → Store → Q) : Q.of env (.ok a S) f = f a S := rfl
@[simp] theorem Q.of_exc {α : Type} (env : Env) (x : Ex) (S : Store) (f : α → Store → Q) : Q.of env (.exc x S) f = .exc x env S := rfl
@[simp] theorem Q.of_stuck {α : Type} (env : Env) (f : α → Store → Q) : Q.of env .stuck f = .stuck := rfl
def Q.then (q : Q) (f : Env → Store → Q) : Q := match q with
  | .nxt env S => f env S
  | q => q
@[simp] theorem Q.then_nxt (env : Env) (S : Store) (f : Env → Store → Q) : (Q.nxt env S).then f = f env S := rfl
@[simp] theorem Q.then_ret (v : D) (S : Store) (f : Env → Store → Q) : (Q.ret v S).then f = .ret v S := rfl
@[simp] theorem Q.then_brk (env : Env) (S : Store) (f : Env → Store → Q) : (Q.brk env S).then f = .brk env S := rfl
@[simp] theorem Q.then_cnt (env : Env) (S : Store) (f : Env → Store → Q) : (Q.cnt env S).then f = .cnt env S := rfl
@[simp] theorem Q.then_exc (x : Ex) (env : Env) (S : Store) (f : Env → Store → Q) : (Q.exc x env S).then f = .exc x env S := rfl
@[simp] theorem Q.then_stuck (f : Env → Store → Q) : Q.stuck.then f = .stuck := rfl

/-- what is walked: its items, the cells that must stay -/
structure Row where
  items : List D
  watch : List (Nat × List D) := []
open Classical in
noncomputable def Row.stays (w : Row) (S : Store) : Bool := w.watch.all fun p => decide (S[p.1]? = some (.lst p.2))
open Classical in
theorem stays_iff {w : Row} {S : Store} : w.stays S = true ↔ ∀ p ∈ w.watch, S[p.1]? = some (.lst p.2) := by
  unfold Row.stays
  rw [List.all_eq_true]
  exact ⟨fun h p hp => of_decide_eq_true (h p hp), fun h p hp => decide_eq_true (h p hp)⟩
/-- the cell of a list -/
def watchOf (S : Store) : D → List (Nat × List D)
  | .ref n => match S[n]? with
    | some (.lst xs) => [(n, xs)]
    | _ => []
  | _ => []
def seqRow (x : D) (S : Store) : R Row := match x with
  | .str a => .ok ⟨chars a, []⟩ S
  | x => match sqOf S x with
    | some xs => .ok ⟨xs, watchOf S x⟩ S
    | none => .stuck
def rangeL (lo : Int) (n : Nat) : List D := (List.range n).map fun (k : Nat) => .int (lo + (k : Int))
def rangeRow (lo hi : Int) (S : Store) : R Row := match decide (lo.natAbs ≤ most) && decide (hi.natAbs ≤ most) with
  | true => .ok ⟨rangeL lo (hi - lo).toNat, []⟩ S
  | false => .stuck
def enumL : Nat → List D → List D
  | _, [] => []
  | k, x :: xs => .tup [.int k, x] :: enumL (k + 1) xs
/-- what enumerate walks -/
def enRow (x : D) (S : Store) : R Row := match x with
  | .tup xs => .ok ⟨enumL 0 xs, []⟩ S
  | x => match rwOf S x with
    | some xs => .ok ⟨enumL 0 xs, watchOf S x⟩ S
    | none => .stuck
def zipL : List D → List D → List D
  | x :: xs, y :: ys => .tup [x, y] :: zipL xs ys
  | _, _ => []

def zipRow (x y : D) (S : Store) : R Row := match x, y with
  | .tup xs, .tup ys => .ok ⟨zipL xs ys, []⟩ S
  | x, y => match rwOf S x, rwOf S y with
    | some xs, some ys => .ok ⟨zipL xs ys, watchOf S x ++ watchOf S y⟩ S
    | _, _ => .stuck
mutual
/-- no cell from the n-th on -/
def D.und (n : Nat) : D → Bool
  | .non => true
  | .bl _ => true
  | .int _ => true
  | .str _ => true
  | .lst xs => undAll n xs
  | .tup xs => undAll n xs
  | .dct kvs => undKv n kvs
  | .ref m => decide (m < n)
  | .fn _ => true
  | .row xs => undAll n xs
  | .tab _ _ => true
def undAll (n : Nat) : List D → Bool
  | [] => true
  | x :: xs => x.und n && undAll n xs
def undKv (n : Nat) : List (D × D) → Bool
  | [] => true
  | (k, v) :: r => k.und n && (v.und n && undKv n r)
end
def Cell.und (n : Nat) : Cell → Bool
  | .lst xs => undAll n xs
  | .dct kvs => undKv n kvs
/-- what stood ahead of a call stands, or holds no cell of the call's -/
def Kept (S S' : Store) : Prop := ∀ i, i < S.length → S'[i]? = S[i]? ∨ ∃ c, S'[i]? = some c ∧ c.und S.length = true
section
variable (call : Nat → List D → Store → R D)
/-- a comprehension's turns; the list made so far lies in the cell k -/
noncomputable def compGo (w : Row) (k : Nat) (bind : D → Option Env) (ifs : Env → Store → R Bool) (elt : Env → Store → R D) : List D → Store → R (List D)
  | [], S => match w.stays S, S[k]? with
    | true, some (.lst acc) => .ok acc S
    | _, _ => .stuck
  | d :: ds, S => match w.stays S with
    | true => match bind d with
      | some env => (ifs env S).bind fun b S1 => match b with
        | false => compGo w k bind ifs elt ds S1
        | true => (elt env S1).bind fun y S2 => match S2[k]? with
          | some (.lst acc) => match decide (acc.length < most) with
            | true => compGo w k bind ifs elt ds (S2.set k (.lst (acc ++ [y])))
            | false => .stuck
          | _ => .stuck
      | none => .stuck
    | false => .stuck
open Classical in
/-- the new list handed out -/
noncomputable def compEnd (m : Bool) (S0 : Store) (acc : List D) (S : Store) : R D := match m || decide (S.length ≠ S0.length + 1) with
  | true => .ok (.ref S0.length) S
  | false => match undAll S0.length acc && decide (Kept S0 S) with
    | true => .ok (.lst acc) (S.take S0.length)
    | false => .stuck
def pairUp : List D → Option (List (D × D))
  | [] => some []
  | k :: r => match r with
    | v :: r => (pairUp r).map ((k, v) :: ·)
    | [] => none
def keySame : D → D → Bool
  | .int i, .int j => decide (i = j)
  | .str x, .str y => decide (x = y)
  | _, _ => false
/-- keys are numbers and texts, all apart -/
def keysOk : List (D × D) → Bool
  | [] => true
  | (k, _) :: r => flatKey k && (r.all (fun p => !keySame k p.1) && keysOk r)
open Classical in
/-- the new dict handed out -/
noncomputable def dictEnd (m : Bool) (S0 : Store) (kvs : List (D × D)) (S : Store) : R D := match m || decide (S.length ≠ S0.length + 1) with
  | true => .ok (.ref S0.length) S
  | false => match undKv S0.length kvs && decide (Kept S0 S) with
    | true => .ok (.dct kvs) (S.take S0.length)
    | false => .stuck
def wipeE (env : Env) : List Nat → Env
  | [] => env
  | v :: vs => (wipeE env vs).set v none

/-- {x}: a text, a number as a text -/
def txtOf : D → Option (List Nat)
  | .str x => some x
  | .int i => match decide (i.natAbs.log2 < 1920) with
    | true => some (toDec i)
    | false => none
  | _ => none
mutual
noncomputable def evE : E → Env → Store → R D
  | .var i, env, S => match env[i]? with
    | some (some d) => .ok d S
    | _ => .stuck
  | .lit d, _, S => .ok d S
  | .glob _ d, _, S => .ok d S
  | .bin m op a b, env, S => (evE a env S).bind fun x S => (evE b env S).bind fun y S => op2 m op x y S
  | .neg a, env, S => (evE a env S).bind fun x S => match x with
    | .int i => .ok (.int (-i)) S
    | _ => .stuck
  | .not a, env, S => (evE a env S).bind fun x S => (test x S).bind fun b S => .ok (.bl (!b)) S
  | .and a b, env, S => (evE a env S).bind fun x S => (test x S).bind fun t S => match t with
    | true => evE b env S
    | false => .ok x S
  | .or a b, env, S => (evE a env S).bind fun x S => (test x S).bind fun t S => match t with
    | true => .ok x S
    | false => evE b env S
  | .cmp op a b, env, S => (evE a env S).bind fun x S => (evE b env S).bind fun y S => cp2 op x y S
  | .chain op op' a b c, env, S => (evE a env S).bind fun x S => (evE b env S).bind fun y S => (cp2 op x y S).bind fun t S => match t with
    | .bl true => (evE c env S).bind fun z S => cp2 op' y z S
    | .bl false => .ok (.bl false) S
    | _ => .stuck
  | .ite c a b, env, S => (evE c env S).bind fun x S => (test x S).bind fun t S => match t with
    | true => evE a env S
    | false => evE b env S
  | .tup es, env, S => (evEs es env S).bind fun ds S => mk? (decide (ds.length ≤ most)) (.tup ds) S
  | .lst m es, env, S => (evEs es env S).bind fun ds S => match decide (ds.length ≤ most) with
    | true => mkL m ds S
    | false => .stuck
  | .dict m es, env, S => (evEs es env (S ++ [.dct []])).bind fun ds S' => match pairUp ds, S'[S.length]? with
    | some kvs, some (.dct []) => match keysOk kvs && decide (kvs.length ≤ 15) with
      | true => dictEnd m S kvs (S'.set S.length (.dct kvs))
      | false => .stuck
    | _, _ => .stuck
  | .dict0 m, _, S => match m with
    | true => .ok (.ref S.length) (S ++ [.dct []])
    | false => .ok (.dct []) S
  | .idx a i, env, S => (evE a env S).bind fun x S => (evE i env S).bind fun y S => atD x y S
  | .slc m a lo hi, env, S => (evE a env S).bind fun x S => (evO lo env S).bind fun l S => (evO hi env S).bind fun h S => slice m x l h S
  | .rev m a, env, S => (evE a env S).bind fun x S => match x with
    | .tup xs => .ok (.tup xs.reverse) S
    | x => match lsOf S x with
      | some xs => mkL m xs.reverse S
      | none => .stuck
  | .call f es, env, S => (evEs es env S).bind fun ds S => call f ds S
  | .callk f es kes _ how dv, env, S => (evEs es env S).bind fun ds S => (evEs kes env S).bind fun kds S => match pickN how (ds ++ kds ++ dv.map Fl.d) with
    | some vs => call f vs S
    | none => .stuck
  | .callv f es, env, S => (evE f env S).bind fun g S => (evEs es env S).bind fun ds S => match g with
    | .fn x => call x ds S
    | _ => .stuck
  | .blt m f es, env, S => (evEs es env S).bind fun ds S => bt m f ds S
  | .isi a t, env, S => (evE a env S).bind fun x S => match isiB S x t with
    | some b => .ok (.bl b) S
    | none => .stuck
  | .meth f o es, env, S => (evE o env S).bind fun x S => match mtRdy f x S with
    | true => (evEs es env S).bind fun ds S => mt f x ds S
    | false => .stuck
  | .comp m elt t it ifs own, env, S => (evI it env S).bind fun w S =>
    (compGo w S.length (fun d => bindT t d (wipeE env own)) (fun env S => evTs ifs env S) (fun env S => evE elt env S) w.items (S ++ [.lst []])).bind fun acc S' => compEnd m S acc S'
  | .fstr es, env, S => (evF es [] env S).bind fun x S => mk? (decide (x.length ≤ most)) (.str x) S
  | .seq _, _, _ => .stuck
  | .range1 _, _, _ => .stuck
  | .range2 _ _, _, _ => .stuck
  | .enum _, _, _ => .stuck
  | .zip _ _, _, _ => .stuck
noncomputable def evEs : List E → Env → Store → R (List D)
  | [], _, S => .ok [] S
  | e :: es, env, S => (evE e env S).bind fun d S => (evEs es env S).bind fun ds S => .ok (d :: ds) S
noncomputable def evO : Option E → Env → Store → R (Option Int)
  | none, _, S => .ok none S
  | some e, env, S => (evE e env S).bind fun d S => match d with
    | .int i => .ok (some i) S
    | _ => .stuck
/-- texts one behind the other -/
noncomputable def evF : List E → List Nat → Env → Store → R (List Nat)
  | [], acc, _, S => .ok acc S
  | e :: es, acc, env, S => (evE e env S).bind fun d S => match txtOf d with
    | some x => match decide (acc.length + x.length ≤ most) with
      | true => evF es (acc ++ x) env S
      | false => .stuck
    | none => .stuck
/-- a clause's tests -/
noncomputable def evTs : List E → Env → Store → R Bool
  | [], _, S => .ok true S
  | e :: es, env, S => (evE e env S).bind fun x S => (test x S).bind fun b S => match b with
    | true => evTs es env S
    | false => .ok false S
/-- what is walked -/
noncomputable def evI : E → Env → Store → R Row
  | .range1 a, env, S => (evE a env S).bind fun x S => match x with
    | .int n => rangeRow 0 n S
    | _ => .stuck
  | .range2 a b, env, S => (evE a env S).bind fun x S => (evE b env S).bind fun y S => match x, y with
    | .int i, .int j => rangeRow i j S
    | _, _ => .stuck
  | .enum a, env, S => (evE a env S).bind fun x S => enRow x S
  | .zip a b, env, S => (evE a env S).bind fun x S => (evE b env S).bind fun y S => zipRow x y S
  | .seq a, env, S => (evE a env S).bind seqRow
  | _, _, _ => .stuck
end
/-- a for's turns -/
noncomputable def forGo (w : Row) (bind : D → Env → Option Env) (body : Env → Store → Q) : List D → Env → Store → Q
  | [], env, S => match w.stays S with
    | true => .nxt env S
    | false => .stuck
  | d :: ds, env, S => match w.stays S with
    | true => match bind d env with
      | some env => match body env S with
        | .nxt env S => forGo w bind body ds env S
        | .cnt env S => forGo w bind body ds env S
        | .brk env S => .nxt env S
        | .ret v S => .ret v S
        | .exc x env S => .exc x env S
        | .stuck => .stuck
      | none => .stuck
    | false => .stuck
def whileGo (test : Env → Store → R Bool) (body : Env → Store → Q) : Nat → Env → Store → Q
  | 0, _, _ => .stuck
  | n + 1, env, S => Q.of env (test env S) fun b S => match b with
    | false => .nxt env S
    | true => match body env S with
      | .nxt env S => whileGo test body n env S
      | .cnt env S => whileGo test body n env S
      | .brk env S => .nxt env S
      | .ret v S => .ret v S
      | .exc x env S => .exc x env S
      | .stuck => .stuck
def setAt (o i d : D) (S : Store) : R Unit := match o with
  | .ref n => match S[n]? with
    | some (.lst xs) => match i with
      | .int k => match ixn xs.length k with
        | some j => .ok () (S.set n (.lst (xs.set j d)))
        | none => .stuck
      | _ => .stuck
    | _ => .stuck
  | _ => .stuck
def setMany : List Nat → List D → Env → Option Env
  | [], [], env => some env
  | i :: is, d :: ds, env => setMany is ds (env.set i (some d))
  | _, _, _ => none
/-- name op= -/
def aug2 (op : O2) (x y : D) (S : Store) : R D := match op, x, y with
  | .add, .int i, .int j => .ok (.int (i + j)) S
  | .sub, .int i, .int j => .ok (.int (i - j)) S
  | .add, .str a, .str b => mk? (decide (a.length + b.length ≤ most)) (.str (a ++ b)) S
  | _, _, _ => .stuck
/-- turns that a while may take -/
def turns : Nat := 100000
mutual
noncomputable def evC : C → Env → Store → Q
  | .asg t e, env, S => Q.of env (evE call e env S) fun d S => match bindT t d env with
    | some env => .nxt env S
    | none => .stuck
  | .par is es, env, S => Q.of env (evEs call es env S) fun ds S => match setMany is ds env with
    | some env => .nxt env S
    | none => .stuck
  | .aug i op e, env, S => match env[i]? with
    | some (some x) => Q.of env (evE call e env S) fun y S => Q.of env (aug2 op x y S) fun z S => .nxt (env.set i (some z)) S
    | _ => .stuck
  | .seti o i e, env, S => Q.of env (evE call e env S) fun d S => Q.of env (evE call o env S) fun x S => Q.of env (evE call i env S) fun y S => Q.of env (setAt x y d S) fun _ S => .nxt env S
  | .ife c a b, env, S => Q.of env (evE call c env S) fun x S => Q.of env (test x S) fun t S => match t with
    | true => evCs a env S
    | false => evCs b env S
  | .for_ t it b, env, S => Q.of env (evI call it env S) fun w S => forGo w (bindT t) (fun env S => evCs b env S) w.items env S
  | .while_ c b, env, S => whileGo (fun env S => (evE call c env S).bind test) (fun env S => evCs b env S) turns env S
  | .ret e, env, S => Q.of env (evE call e env S) fun d S => .ret d S
  | .retn, _, S => .ret .non S
  | .ex e, env, S => Q.of env (evE call e env S) fun _ S => .nxt env S
  | .pass, env, S => .nxt env S
  | .brk, env, S => .brk env S
  | .cont, env, S => .cnt env S
  | .star is k e, env, S => Q.of env (evE call e env S) fun d S => match d with
    | .tup ds => match bindStar is k ds env with
      | some env => .nxt env S
      | none => .stuck
    | _ => .stuck
  | .stk, _, _ => .stuck
noncomputable def evCs : List C → Env → Store → Q
  | [], env, S => .nxt env S
  | c :: cs, env, S => (evC c env S).then fun env S => evCs cs env S
end
end
mutual
/-- a def's own cells handed out for good -/
def fzD (S : Store) (n : Nat) : D → D
  | .non => .non
  | .bl b => .bl b
  | .int i => .int i
  | .str x => .str x
  | .lst xs => .lst (fzAll S n xs)
  | .tup xs => .tup (fzAll S n xs)
  | .dct kvs => .dct kvs
  | .ref m => match decide (n ≤ m) with
    | true => match S[m]? with
      | some (.lst xs) => .lst xs
      | _ => .ref m
    | false => .ref m
  | .fn f => .fn f
  | .row xs => .row xs
  | .tab j kvs => .tab j kvs
def fzAll (S : Store) (n : Nat) : List D → List D
  | [] => []
  | x :: xs => fzD S n x :: fzAll S n xs
end
structure Fn where
  np : Nat
  n : Nat
  leak : Bool
  body : List C
open Classical in
/-- a call's end -/
noncomputable def fin (leak : Bool) (S : Store) (v : D) (S' : Store) : R D := match leak || decide (S'.length = S.length) with
  | true => .ok v S'
  | false => match (fzD S' S.length v).und S.length && decide (Kept S S') with
    | true => .ok (fzD S' S.length v) (S'.take S.length)
    | false => .stuck
noncomputable def outQ (leak : Bool) (S : Store) : Q → R D
  | .ret v S' => fin leak S v S'
  | .nxt _ S' => fin leak S .non S'
  | .exc x _ S' => .exc x S'
  | _ => .stuck
noncomputable def callN (P : List Fn) : Nat → Nat → List D → Store → R D
  | 0, _, _, _ => .stuck
  | k + 1, f, ds, S => match P[f]? with
    | some F => match decide (ds.length = F.np) with
      | true => outQ F.leak S (evCs (callN P k) F.body (ds.map some ++ List.replicate (F.n - F.np) none) S)
      | false => .stuck
    | none => .stuck
end MP
end
section
set_option maxRecDepth 100000
/-! EvB: how the small language's data lie in the layer's heap; what a reading is to show. -/
namespace MP
open PySem L2

/-- a table's value lies so -/
def FlV (fa : Nat → Option Addr) (v : V) : Fl → Prop
  | .non => v = .non
  | .bl b => v = .bl b
  | .int i => v = .int i
  | .str x => v = .str ⟨x.toArray⟩ ∧ x.length ≤ sizeLine
  | .fn f => ∃ a, v = .ref a ∧ fa f = some a
/-- a written table -/
structure TabOk (K : PySem.W.Frag) (fa : Nat → Option Addr) (a : Addr) (kvs : List (List Nat × Fl)) : Prop where
  there : ∀ k f, kvs.lookup k = some f → ∃ u v, PySem.W.nsIn K a ⟨k.toArray⟩ = some (some u) ∧ RelV v u ∧ FlV fa v f
  miss : ∀ k, kvs.lookup k = none → PySem.W.nsIn K a ⟨k.toArray⟩ = some none
mutual
inductive Rp (K : PySem.W.Frag) (fa : Nat → Option Addr) (H : Hp) (ρ : List Addr) : V → D → Prop
  | non : Rp K fa H ρ .non .non
  | bl (b : Bool) : Rp K fa H ρ (.bl b) (.bl b)
  | int (i : Int) : Rp K fa H ρ (.int i) (.int i)
  | str (x : List Nat) : x.length ≤ sizeLine → Rp K fa H ρ (.str ⟨x.toArray⟩) (.str x)
  | lst {a : Addr} {vs : List V} {ds : List D} : H a = some (.lst vs) → a ∉ ρ → RpAll K fa H ρ vs ds → Rp K fa H ρ (.ref a) (.lst ds)
  | tup {a : Addr} {vs : List V} {ds : List D} : SqT K H a vs → a ∉ ρ → RpAll K fa H ρ vs ds → Rp K fa H ρ (.ref a) (.tup ds)
  | dct {a : Addr} {ks : List (Key × V)} {es : List (D × D)} : H a = some (.dK ks) → a ∉ ρ → RpKv K fa H ρ ks es → Rp K fa H ρ (.ref a) (.dct es)
  | ref {n : Nat} {a : Addr} : ρ[n]? = some a → Rp K fa H ρ (.ref a) (.ref n)
  | fn {f : Nat} {a : Addr} : fa f = some a → Rp K fa H ρ (.ref a) (.fn f)
  | row {a : Addr} {vs : List V} {ds : List D} : SqL K H a vs → a ∉ ρ → RpAll K fa H ρ vs ds → Rp K fa H ρ (.ref a) (.row ds)
  | tab {a : Addr} {j : Nat} {kvs : List (List Nat × Fl)} : fa (1000 + j) = some a → TabOk K fa a kvs → Rp K fa H ρ (.ref a) (.tab j kvs)
inductive RpAll (K : PySem.W.Frag) (fa : Nat → Option Addr) (H : Hp) (ρ : List Addr) : List V → List D → Prop
  | nil : RpAll K fa H ρ [] []
  | cons {v : V} {d : D} {vs : List V} {ds : List D} : Rp K fa H ρ v d → RpAll K fa H ρ vs ds → RpAll K fa H ρ (v :: vs) (d :: ds)
inductive RpKv (K : PySem.W.Frag) (fa : Nat → Option Addr) (H : Hp) (ρ : List Addr) : List (Key × V) → List (D × D) → Prop
  | nil : RpKv K fa H ρ [] []
  | cons {k : Key} {v : V} {kd d : D} {ks : List (Key × V)} {es : List (D × D)} : Rp K fa H ρ (kV k) kd → Rp K fa H ρ v d → RpKv K fa H ρ ks es → RpKv K fa H ρ ((k, v) :: ks) ((kd, d) :: es)
end

/-- a later heap: what is no cell stands, new cells are new -/
structure Ext (ρ : List Addr) (H : Hp) (ρ' : List Addr) (H' : Hp) : Prop where
  more : ∃ l, ρ' = ρ ++ l ∧ ∀ a ∈ l, H a = none
  keep : ∀ a o, H a = some o → a ∉ ρ → H' a = some o
  there : ∀ a, a ∈ ρ → H a ≠ none → H' a ≠ none
theorem Ext.refl (ρ : List Addr) (H : Hp) : Ext ρ H ρ H := ⟨⟨[], by simp, fun a h => nomatch h⟩, fun _ _ h _ => h, fun _ _ h => h⟩
theorem Ext.live {ρ ρ' : List Addr} {H H' : Hp} (e : Ext ρ H ρ' H') {a : Addr} (h : H a ≠ none) : H' a ≠ none := by
  by_cases m : a ∈ ρ
  · exact e.there a m h
  · cases q : H a with
    | none => exact absurd q h
    | some o => rw [e.keep a o q m]; simp
theorem Ext.trans {ρ ρ1 ρ2 : List Addr} {H H1 H2 : Hp} (e : Ext ρ H ρ1 H1) (f : Ext ρ1 H1 ρ2 H2) : Ext ρ H ρ2 H2 := by
  obtain ⟨l, rfl, hl⟩ := e.more
  obtain ⟨l', rfl, hl'⟩ := f.more
  refine ⟨⟨l ++ l', by simp, fun a ha => ?_⟩, fun a o h m => ?_, fun a m h => f.live (e.there a m h)⟩
  · rcases List.mem_append.mp ha with ha | ha
    · exact hl a ha
    · have := hl' a ha
      cases q : H a with
      | none => rfl
      | some o => exact absurd this (e.live (by rw [q]; simp))
  · have h1 := e.keep a o h m
    refine f.keep a o h1 fun hm => ?_
    rcases List.mem_append.mp hm with hm | hm
    · exact m hm
    · rw [hl a hm] at h; cases h
theorem Ext.get {ρ ρ' : List Addr} {H H' : Hp} (e : Ext ρ H ρ' H') {n : Nat} {a : Addr} (h : ρ[n]? = some a) : ρ'[n]? = some a := by
  obtain ⟨l, rfl, _⟩ := e.more
  rw [List.getElem?_append_left (List.getElem?_eq_some_iff.mp h).1]
  exact h
/-- a tracked address that is no cell stays none -/
theorem Ext.out {ρ ρ' : List Addr} {H H' : Hp} (e : Ext ρ H ρ' H') {a : Addr} (h : H a ≠ none) (m : a ∉ ρ) : a ∉ ρ' := by
  obtain ⟨l, rfl, hl⟩ := e.more
  intro hm
  rcases List.mem_append.mp hm with hm | hm
  · exact m hm
  · exact h (hl a hm)
/-- a new object that is no cell -/
theorem Ext.new {ρ : List Addr} {H : Hp} {p : Addr} (o : HO) (h : H p = none) : Ext ρ H ρ (upd H p o) := by
  refine ⟨⟨[], by simp, fun a h => nomatch h⟩, fun a u q _ => ?_, fun a _ q => ?_⟩
  · rw [upd_ne (ne_of_none q h)]; exact q
  · by_cases e : a = p
    · subst e; rw [upd_same]; simp
    · rw [upd_ne e]; exact q
/-- a new cell -/
theorem Ext.newCell {ρ : List Addr} {H : Hp} {p : Addr} (o : HO) (h : H p = none) : Ext ρ H (ρ ++ [p]) (upd H p o) := by
  refine ⟨⟨[p], rfl, fun a ha => ?_⟩, (Ext.new o h).keep, (Ext.new (ρ := ρ) o h).there⟩
  have : a = p := by simpa using ha
  rw [this]; exact h
/-- a cell written -/
theorem Ext.set {ρ : List Addr} {H : Hp} {p : Addr} {o : HO} (h : p ∈ ρ) : Ext ρ H ρ (upd H p o) := by
  refine ⟨⟨[], by simp, fun a h => nomatch h⟩, fun a u q m => ?_, fun a _ q => ?_⟩
  · rw [upd_ne (fun e => m (by rw [e]; exact h))]; exact q
  · by_cases e : a = p
    · subst e; rw [upd_same]; simp
    · rw [upd_ne e]; exact q

section
variable {K : PySem.W.Frag} {fa : Nat → Option Addr} {H H' : Hp} {ρ ρ' : List Addr}
theorem rd_some {a : Addr} {u : HO} (h : Rd H a u) : H a ≠ none := by
  rcases h with h | ⟨o, h⟩ <;> rw [h] <;> simp
/-- no written object of the module is a cell -/
def Clear (K : PySem.W.Frag) (ρ : List Addr) : Prop := ∀ a o, K.lookup a = some o → a ∉ ρ
theorem rd_ext (e : Ext ρ H ρ' H') {a : Addr} {u : HO} (h : Rd H a u) (m : a ∉ ρ) : Rd H' a u := by
  rcases h with h | ⟨o, h⟩
  · exact .inl (e.keep a _ h m)
  · exact .inr ⟨o, e.keep a _ h m⟩
theorem sqL_ext (e : Ext ρ H ρ' H') (c : Clear K ρ') {a : Addr} {vs : List V} (h : SqL K H a vs) (m : a ∉ ρ) : SqL K H' a vs ∧ a ∉ ρ' := by
  rcases h with h | h
  · refine ⟨?_, e.out (rd_some h) m⟩
    rcases h with h | ⟨o, h⟩
    · exact .inl (.inl (e.keep a _ h m))
    · exact .inl (.inr ⟨o, e.keep a _ h m⟩)
  · obtain ⟨o, its, n, hk, r⟩ := h
    exact ⟨.inr ⟨o, its, n, hk, r⟩, c a o hk⟩
theorem sqT_ext (e : Ext ρ H ρ' H') (c : Clear K ρ') {a : Addr} {vs : List V} (h : SqT K H a vs) (m : a ∉ ρ) : SqT K H' a vs ∧ a ∉ ρ' := by
  rcases h with h | h
  · refine ⟨?_, e.out (rd_some h) m⟩
    rcases h with h | ⟨o, h⟩
    · exact .inl (.inl (e.keep a _ h m))
    · exact .inl (.inr ⟨o, e.keep a _ h m⟩)
  · obtain ⟨o, its, n, hk, r⟩ := h
    exact ⟨.inr ⟨o, its, n, hk, r⟩, c a o hk⟩
mutual
theorem Rp.ext (e : Ext ρ H ρ' H') (c : Clear K ρ') : ∀ {d : D} {v : V}, Rp K fa H ρ v d → Rp K fa H' ρ' v d
  | .non, _, h => by cases h; exact .non
  | .bl b, _, h => by cases h; exact .bl b
  | .int i, _, h => by cases h; exact .int i
  | .str x, _, h => by
    cases h with
    | str _ z => exact .str x z
  | .lst ds, _, h => by
    cases h with
    | lst s m r =>
      exact .lst (e.keep _ _ s m) (e.out (by rw [s]; simp) m) (RpAll.ext e c r)
  | .tup ds, _, h => by
    cases h with
    | tup s m r =>
      obtain ⟨s', m'⟩ := sqT_ext e c s m
      exact .tup s' m' (RpAll.ext e c r)
  | .dct es, _, h => by
    cases h with
    | dct s m r => exact .dct (e.keep _ _ s m) (e.out (by rw [s]; simp) m) (RpKv.ext e c r)
  | .ref n, _, h => by
    cases h with
    | ref z => exact .ref (e.get z)
  | .fn f, _, h => by
    cases h with
    | fn z => exact .fn z
  | .row ds, _, h => by
    cases h with
    | row s m r =>
      obtain ⟨s', m'⟩ := sqL_ext e c s m
      exact .row s' m' (RpAll.ext e c r)
  | .tab j kvs, _, h => by
    cases h with
    | tab x t => exact .tab x t
theorem RpAll.ext (e : Ext ρ H ρ' H') (c : Clear K ρ') : ∀ {ds : List D} {vs : List V}, RpAll K fa H ρ vs ds → RpAll K fa H' ρ' vs ds
  | [], _, h => by cases h; exact .nil
  | _ :: _, _, h => by
    cases h with
    | cons a b => exact .cons (Rp.ext e c a) (RpAll.ext e c b)
theorem RpKv.ext (e : Ext ρ H ρ' H') (c : Clear K ρ') : ∀ {es : List (D × D)} {ks : List (Key × V)}, RpKv K fa H ρ ks es → RpKv K fa H' ρ' ks es
  | [], _, h => by cases h; exact .nil
  | (_, _) :: _, _, h => by
    cases h with
    | cons a b r => exact .cons (Rp.ext e c a) (Rp.ext e c b) (RpKv.ext e c r)
end
theorem FlV.rp {v : V} {f : Fl} (h : FlV fa v f) : Rp K fa H ρ v f.d := by
  cases f with
  | non => cases h; exact .non
  | bl b => cases h; exact .bl b
  | int i => cases h; exact .int i
  | str x => obtain ⟨rfl, z⟩ := h; exact .str x z
  | fn f => obtain ⟨a, rfl, z⟩ := h; exact .fn z
theorem RpAll.len : ∀ {ds : List D} {vs : List V}, RpAll K fa H ρ vs ds → vs.length = ds.length
  | [], _, h => by cases h; rfl
  | _ :: ds, _, h => by
    cases h with
    | cons _ r => exact congrArg Nat.succ (RpAll.len r)
theorem RpAll.get : ∀ {ds : List D} {vs : List V} {i : Nat} {d : D}, RpAll K fa H ρ vs ds → ds[i]? = some d → ∃ v, vs[i]? = some v ∧ Rp K fa H ρ v d
  | [], _, _, _, _, e => by simp at e
  | _ :: _, _, 0, _, h, e => by
    cases h with
    | cons a _ => simp at e; subst e; exact ⟨_, rfl, a⟩
  | _ :: ds, _, i + 1, d, h, e => by
    cases h with
    | cons _ r =>
      obtain ⟨v, h1, h2⟩ := RpAll.get (i := i) r (by simpa using e)
      exact ⟨v, by simpa using h1, h2⟩
theorem RpAll.get' : ∀ {ds : List D} {vs : List V} {i : Nat} {v : V}, RpAll K fa H ρ vs ds → vs[i]? = some v → ∃ d, ds[i]? = some d ∧ Rp K fa H ρ v d
  | [], _, _, _, h, e => by cases h; simp at e
  | _ :: _, _, 0, _, h, e => by
    cases h with
    | cons a _ => simp at e; subst e; exact ⟨_, rfl, a⟩
  | _ :: ds, _, i + 1, d, h, e => by
    cases h with
    | cons _ r =>
      obtain ⟨v, h1, h2⟩ := RpAll.get' (i := i) r (by simpa using e)
      exact ⟨v, by simpa using h1, h2⟩
theorem RpAll.append : ∀ {ds es : List D} {vs ws : List V}, RpAll K fa H ρ vs ds → RpAll K fa H ρ ws es → RpAll K fa H ρ (vs ++ ws) (ds ++ es)
  | [], _, _, _, h, r => by cases h; exact r
  | _ :: _, _, _, _, h, r => by
    cases h with
    | cons a b => exact .cons a (RpAll.append b r)
theorem RpAll.take : ∀ {ds : List D} {vs : List V} (n : Nat), RpAll K fa H ρ vs ds → RpAll K fa H ρ (vs.take n) (ds.take n)
  | _, _, 0, _ => .nil
  | [], _, _ + 1, h => by cases h; exact .nil
  | _ :: _, _, n + 1, h => by
    cases h with
    | cons a b => exact .cons a (RpAll.take n b)
theorem RpAll.drop : ∀ {ds : List D} {vs : List V} (n : Nat), RpAll K fa H ρ vs ds → RpAll K fa H ρ (vs.drop n) (ds.drop n)
  | _, _, 0, h => h
  | [], _, _ + 1, h => by cases h; exact .nil
  | _ :: _, _, n + 1, h => by
    cases h with
    | cons a b => exact RpAll.drop n b
theorem RpAll.set {v : V} {d : D} (r : Rp K fa H ρ v d) : ∀ {ds : List D} {vs : List V} (n : Nat), RpAll K fa H ρ vs ds → RpAll K fa H ρ (vs.set n v) (ds.set n d)
  | [], _, _, h => by cases h; exact .nil
  | _ :: _, _, 0, h => by
    cases h with
    | cons _ b => exact .cons r b
  | _ :: _, _, n + 1, h => by
    cases h with
    | cons a b => exact .cons a (RpAll.set r n b)
theorem RpAll.eraseIdx : ∀ {ds : List D} {vs : List V} (n : Nat), RpAll K fa H ρ vs ds → RpAll K fa H ρ (vs.eraseIdx n) (ds.eraseIdx n)
  | [], _, _, h => by cases h; exact .nil
  | _ :: _, _, 0, h => by
    cases h with
    | cons _ b => exact b
  | _ :: _, _, n + 1, h => by
    cases h with
    | cons a b => exact .cons a (RpAll.eraseIdx n b)
theorem RpAll.dropLast : ∀ {ds : List D} {vs : List V}, RpAll K fa H ρ vs ds → RpAll K fa H ρ vs.dropLast ds.dropLast
  | ds, vs, h => by
    rw [List.dropLast_eq_take, List.dropLast_eq_take, h.len]
    exact h.take _
theorem RpAll.rep {ds : List D} {vs : List V} (h : RpAll K fa H ρ vs ds) : ∀ k : Nat, RpAll K fa H ρ (List.replicate k vs).flatten (List.replicate k ds).flatten
  | 0 => .nil
  | k + 1 => by
    rw [List.replicate_succ, List.replicate_succ, List.flatten_cons, List.flatten_cons]
    exact h.append (RpAll.rep h k)

/-- a cell lies at an address -/
def CellAt' (K : PySem.W.Frag) (fa : Nat → Option Addr) (H : Hp) (ρ : List Addr) (a : Addr) : Cell → Prop
  | .lst ds => ∃ vs, H a = some (.lst vs) ∧ RpAll K fa H ρ vs ds
  | .dct es => ∃ ks, H a = some (.dK ks) ∧ RpKv K fa H ρ ks es
structure Rel (K : PySem.W.Frag) (fa : Nat → Option Addr) (ρ : List Addr) (S : Store) (H : Hp) : Prop where
  len : ρ.length = S.length
  nd : ρ.Nodup
  clear : Clear K ρ
  cell : ∀ (n : Nat) (c : Cell) (a : Addr), S[n]? = some c → ρ[n]? = some a → CellAt' K fa H ρ a c
def EnvR (K : PySem.W.Frag) (fa : Nat → Option Addr) (H : Hp) (ρ : List Addr) (σ : St) (env : Env) : Prop :=
  σ.length = env.length ∧ ∀ (i : Nat) (d : D), env[i]? = some (some d) → ∃ v : V, σ[i]? = some (some v) ∧ Rp K fa H ρ v d
theorem EnvR.ext {σ : St} {env : Env} (h : EnvR K fa H ρ σ env) (e : Ext ρ H ρ' H') (c : Clear K ρ') : EnvR K fa H' ρ' σ env :=
  ⟨h.1, fun i d q => let ⟨v, h1, h2⟩ := h.2 i d q; ⟨v, h1, h2.ext e c⟩⟩
theorem EnvR.set {σ : St} {env : Env} (h : EnvR K fa H ρ σ env) (i : Nat) {v : V} {d : D} (r : Rp K fa H ρ v d) : EnvR K fa H ρ (σ.set i (some v)) (env.set i (some d)) := by
  refine ⟨by simp [h.1], fun j e q => ?_⟩
  by_cases hij : j = i
  · subst hij
    rw [List.getElem?_set] at q ⊢
    simp only [if_true] at q ⊢
    by_cases hl : j < env.length
    · rw [if_pos hl] at q
      rw [if_pos (by rw [h.1]; exact hl)]
      cases q
      exact ⟨v, rfl, r⟩
    · rw [if_neg hl] at q; cases q
  · rw [List.getElem?_set_ne (Ne.symm hij)] at q
    rw [List.getElem?_set_ne (Ne.symm hij)]
    exact h.2 j e q
theorem wipeE_len (env : Env) : ∀ vs : List Nat, (wipeE env vs).length = env.length
  | [] => rfl
  | v :: vs => by unfold wipeE; rw [List.length_set, wipeE_len env vs]
theorem EnvR.wipe {σ : St} {env : Env} (h : EnvR K fa H ρ σ env) : ∀ vs : List Nat, EnvR K fa H ρ (L2.wipe σ vs) (wipeE env vs)
  | [] => h
  | w :: vs => by
    have ih := EnvR.wipe h vs
    refine ⟨by unfold L2.wipe wipeE; simp [ih.1], fun j e q => ?_⟩
    unfold wipeE at q
    unfold L2.wipe
    by_cases hij : j = w
    · subst hij
      rw [List.getElem?_set] at q
      simp only [if_true] at q
      split at q <;> cases q
    · rw [List.getElem?_set_ne (Ne.symm hij)] at q
      rw [List.getElem?_set_ne (Ne.symm hij)]
      exact ih.2 j e q
theorem Rel.at {S : Store} (h : Rel K fa ρ S H) {n : Nat} {c : Cell} (e : S[n]? = some c) : ∃ a, ρ[n]? = some a ∧ CellAt' K fa H ρ a c := by
  have hl := (List.getElem?_eq_some_iff.mp e).1
  have : ρ[n]? = some (ρ[n]'(by rw [h.len]; exact hl)) := List.getElem?_eq_getElem _
  exact ⟨_, this, h.cell n c _ e this⟩
theorem CellAt'.ext {a : Addr} {c : Cell} (e : Ext ρ H ρ' H') (cl : Clear K ρ') (hm : H' a = H a) (h : CellAt' K fa H ρ a c) : CellAt' K fa H' ρ' a c := by
  cases c with
  | lst ds =>
    obtain ⟨vs, h1, h2⟩ := h
    exact ⟨vs, by rw [hm]; exact h1, h2.ext e cl⟩
  | dct es =>
    obtain ⟨ks, h1, h2⟩ := h
    exact ⟨ks, by rw [hm]; exact h1, h2.ext e cl⟩
theorem CellAt'.live {a : Addr} {c : Cell} (h : CellAt' K fa H ρ a c) : H a ≠ none := by
  cases c with
  | lst ds => obtain ⟨vs, h1, _⟩ := h; rw [h1]; simp
  | dct es => obtain ⟨ks, h1, _⟩ := h; rw [h1]; simp
/-- a new object that is no cell -/
theorem Rel.new {S : Store} {p : Addr} {o : HO} (h : Rel K fa ρ S H) (hp : H p = none) : Rel K fa ρ S (upd H p o) :=
  ⟨h.len, h.nd, h.clear, fun n c a e1 e2 => by
    have z := h.cell n c a e1 e2
    exact z.ext (Ext.new o hp) h.clear (upd_ne fun e => z.live (e ▸ hp))⟩
/-- a new cell: c's parts lie in the heap ahead -/
theorem Rel.newCell {S : Store} {p : Addr} {o : HO} {c : Cell} (h : Rel K fa ρ S H) (hp : H p = none) (hK : K.lookup p = none) (z : CellAt' K fa (upd H p o) (ρ ++ [p]) p c) : Rel K fa (ρ ++ [p]) (S ++ [c]) (upd H p o) := by
  have pn : p ∉ ρ := fun hm => by
    obtain ⟨i, hi, e⟩ := List.getElem_of_mem hm
    have hl : i < S.length := by rw [← h.len]; exact hi
    have := h.cell i S[i] p (by simp [hl]) (by simp [hi, e])
    exact this.live hp
  have cl : Clear K (ρ ++ [p]) := fun a ob e hm => by
    rcases List.mem_append.mp hm with hm | hm
    · exact h.clear a ob e hm
    · have : a = p := by simpa using hm
      rw [this, hK] at e; cases e
  refine ⟨by simp [h.len], List.nodup_append.mpr ⟨h.nd, by simp, fun a ha b hb => ?_⟩, cl, fun n d a e1 e2 => ?_⟩
  · have : b = p := by simpa using hb
    rw [this]; intro e; rw [e] at ha; exact pn ha
  · by_cases hn : n < S.length
    · rw [List.getElem?_append_left hn] at e1
      rw [List.getElem?_append_left (by rw [h.len]; exact hn)] at e2
      have z := h.cell n d a e1 e2
      exact z.ext (Ext.newCell o hp) cl (upd_ne fun e => z.live (e ▸ hp))
    · have hn' : n = S.length := by
        have := (List.getElem?_eq_some_iff.mp e1).1
        simp at this; omega
      subst hn'
      rw [List.getElem?_append_right (Nat.le_refl _)] at e1
      rw [List.getElem?_append_right (by rw [h.len]; exact Nat.le_refl _), h.len] at e2
      simp at e1 e2
      subst e1 e2
      exact z
/-- a cell written -/
theorem Rel.set {S : Store} {n : Nat} {p : Addr} {o : HO} {c : Cell} (h : Rel K fa ρ S H) (hp : ρ[n]? = some p) (z : CellAt' K fa (upd H p o) ρ p c) : Rel K fa ρ (S.set n c) (upd H p o) := by
  have pm : p ∈ ρ := List.mem_of_getElem? hp
  refine ⟨by simp [h.len], h.nd, h.clear, fun m d a e1 e2 => ?_⟩
  by_cases hm : m = n
  · subst hm
    rw [hp] at e2; cases e2
    rw [List.getElem?_set] at e1
    simp only [if_true] at e1
    split at e1
    · cases e1; exact z
    · cases e1
  · rw [List.getElem?_set_ne (Ne.symm hm)] at e1
    have z := h.cell m d a e1 e2
    refine z.ext (Ext.set pm) h.clear (upd_ne fun e => hm ?_)
    subst e
    obtain ⟨h1, h2⟩ := List.getElem?_eq_some_iff.mp e2
    obtain ⟨h3, h4⟩ := List.getElem?_eq_some_iff.mp hp
    exact (List.getElem_inj h.nd).mp (h2.trans h4.symm)
end
end MP
end
section
set_option maxRecDepth 100000
/-! EvC: readings of expressions. -/
namespace MP
open PySem L2

section
variable (K : PySem.W.Frag) (fa : Nat → Option Addr)
/-- what is to hold behind a run: of what it hands out, told by rp -/
def Post {α γ : Type} (rp : Hp → List Addr → γ → α → Prop) (ρ : List Addr) (H : Hp) (Q : γ → Hp → Prop) : R α → Prop
  | .ok a S => ∀ ρ' H' v, Ext ρ H ρ' H' → Rel K fa ρ' S H' → rp H' ρ' v a → Q v H'
  | _ => False
abbrev rD : Hp → List Addr → V → D → Prop := fun H ρ v d => Rp K fa H ρ v d
abbrev rDs : Hp → List Addr → List V → List D → Prop := fun H ρ v d => RpAll K fa H ρ v d
abbrev rB : Hp → List Addr → Bool → Bool → Prop := fun _ _ v d => v = d
end
section
variable {K : PySem.W.Frag} {fa : Nat → Option Addr} {α γ : Type} {rp : Hp → List Addr → γ → α → Prop} {ρ ρ1 : List Addr} {H H1 : Hp} {Q : γ → Hp → Prop} {r : R α}
theorem Post.ext (e : Ext ρ H ρ1 H1) (h : Post K fa rp ρ H Q r) : Post K fa rp ρ1 H1 Q r := by
  cases r with
  | ok a S => exact fun ρ' H' v e' => h ρ' H' v (e.trans e')
  | exc x S => exact h
  | stuck => exact h
end

/-- the weakest reading -/
abbrev WE (X : Cx) (e : Expr) : TE := fun σ H Q => ∀ pins s, Inv X pins σ H s → wpAny (model X.prog X.w) X.A (eval e X.env) (EP X pins σ Q) X.xe s
theorem pe_w {X : Cx} {e : Expr} : PE X e (WE X e) := ⟨fun pins s _ _ _ I h => h pins s I⟩
theorem w_of {X : Cx} {e : Expr} {t : TE} {σ : St} {H : Hp} {Q : VK} (h : PE X e t) (q : t σ H Q) : WE X e σ H Q := fun pins s I => h.run pins s σ H Q I q
abbrev WA (X : Cx) (es : List Expr) : TA := fun σ H Q => ∀ pos pins s, Inv X pins σ H s → wpAny (model X.prog X.w) X.A (spliced (backTo pos (starEach es X.env))) (AP X pins σ Q) X.xe s
theorem pa_w {X : Cx} {es : List Expr} : PA X es (WA X es) := ⟨fun pos pins s _ _ _ I h => h pos pins s I⟩
theorem wa_of {X : Cx} {es : List Expr} {t : TA} {σ : St} {H : Hp} {Q : List V → Hp → Prop} (h : PA X es t) (q : t σ H Q) : WA X es σ H Q := fun pos pins s I => h.run pos pins s σ H Q I q
abbrev WT (X : Cx) (e : Expr) : TT := fun σ H Q => ∀ pins s, Inv X pins σ H s → wpAny (model X.prog X.w) X.A (isTrue e X.env (eval e X.env)) (TP X pins σ Q) X.xe s
theorem pt_w {X : Cx} {e : Expr} : PT X e (WT X e) := ⟨fun pins s _ _ _ I h => h pins s I⟩
theorem wt_of {X : Cx} {e : Expr} {t : TT} {σ : St} {H : Hp} {Q : Bool → Hp → Prop} (h : PT X e t) (q : t σ H Q) : WT X e σ H Q := fun pins s I => h.run pins s σ H Q I q

section
variable (X : Cx) (fa : Nat → Option Addr)
/-- e does what f says -/
def SE (e : Expr) (f : Env → Store → R D) : Prop := ∀ (σ : St) (H : Hp) (ρ : List Addr) (env : Env) (S : Store) (Q : VK), Rel X.K fa ρ S H → EnvR X.K fa H ρ σ env → Post X.K fa (rD X.K fa) ρ H Q (f env S) → WE X e σ H Q
def SA (es : List Expr) (f : Env → Store → R (List D)) : Prop := ∀ (σ : St) (H : Hp) (ρ : List Addr) (env : Env) (S : Store) (Q : List V → Hp → Prop), Rel X.K fa ρ S H → EnvR X.K fa H ρ σ env → Post X.K fa (rDs X.K fa) ρ H Q (f env S) → WA X es σ H Q
def STt (e : Expr) (f : Env → Store → R Bool) : Prop := ∀ (σ : St) (H : Hp) (ρ : List Addr) (env : Env) (S : Store) (Q : Bool → Hp → Prop), Rel X.K fa ρ S H → EnvR X.K fa H ρ σ env → Post X.K fa rB ρ H Q (f env S) → WT X e σ H Q
end

section
variable {X : Cx} {fa : Nat → Option Addr} {e : Expr} {f : Env → Store → R D} {σ : St} {H : Hp} {ρ : List Addr} {env : Env} {S : Store}
variable {β γ : Type} {rp : Hp → List Addr → γ → β → Prop} {Q : γ → Hp → Prop}
theorem SE.bind {g : D → Store → R β} {Q1 : VK} (se : SE X fa e f) (rel : Rel X.K fa ρ S H) (ev : EnvR X.K fa H ρ σ env) (h : Post X.K fa rp ρ H Q ((f env S).bind g))
    (k : ∀ d S1 ρ1 H1 v, Ext ρ H ρ1 H1 → Rel X.K fa ρ1 S1 H1 → Rp X.K fa H1 ρ1 v d → EnvR X.K fa H1 ρ1 σ env → Post X.K fa rp ρ1 H1 Q (g d S1) → Q1 v H1) : WE X e σ H Q1 := by
  refine se σ H ρ env S Q1 rel ev ?_
  cases q : f env S with
  | ok d S1 =>
    rw [q] at h
    intro ρ1 H1 v e1 r1 p1
    exact k d S1 ρ1 H1 v e1 r1 p1 (ev.ext e1 r1.clear) (Post.ext e1 h)
  | exc x S1 => rw [q] at h; exact h
  | stuck => rw [q] at h; exact h
theorem SA.bind {es : List Expr} {f : Env → Store → R (List D)} {g : List D → Store → R β} {Q1 : List V → Hp → Prop} (se : SA X fa es f) (rel : Rel X.K fa ρ S H) (ev : EnvR X.K fa H ρ σ env) (h : Post X.K fa rp ρ H Q ((f env S).bind g))
    (k : ∀ d S1 ρ1 H1 v, Ext ρ H ρ1 H1 → Rel X.K fa ρ1 S1 H1 → RpAll X.K fa H1 ρ1 v d → EnvR X.K fa H1 ρ1 σ env → Post X.K fa rp ρ1 H1 Q (g d S1) → Q1 v H1) : WA X es σ H Q1 := by
  refine se σ H ρ env S Q1 rel ev ?_
  cases q : f env S with
  | ok d S1 =>
    rw [q] at h
    intro ρ1 H1 v e1 r1 p1
    exact k d S1 ρ1 H1 v e1 r1 p1 (ev.ext e1 r1.clear) (Post.ext e1 h)
  | exc x S1 => rw [q] at h; exact h
  | stuck => rw [q] at h; exact h
theorem STt.bind {f : Env → Store → R Bool} {g : Bool → Store → R β} {Q1 : Bool → Hp → Prop} (se : STt X fa e f) (rel : Rel X.K fa ρ S H) (ev : EnvR X.K fa H ρ σ env) (h : Post X.K fa rp ρ H Q ((f env S).bind g))
    (k : ∀ d S1 ρ1 H1, Ext ρ H ρ1 H1 → Rel X.K fa ρ1 S1 H1 → EnvR X.K fa H1 ρ1 σ env → Post X.K fa rp ρ1 H1 Q (g d S1) → Q1 d H1) : WT X e σ H Q1 := by
  refine se σ H ρ env S Q1 rel ev ?_
  cases q : f env S with
  | ok d S1 =>
    rw [q] at h
    intro ρ1 H1 v e1 r1 p1
    cases p1
    exact k d S1 ρ1 H1 e1 r1 (ev.ext e1 r1.clear) (Post.ext e1 h)
  | exc x S1 => rw [q] at h; exact h
  | stuck => rw [q] at h; exact h
/-- the end: a value that lies -/
theorem Post.fin {K : PySem.W.Frag} {Q : VK} {d : D} {v : V} (h : Post K fa (rD K fa) ρ H Q (.ok d S)) (rel : Rel K fa ρ S H) (r : Rp K fa H ρ v d) : Q v H := h ρ H v (Ext.refl _ _) rel r
theorem Post.finB {K : PySem.W.Frag} {Q : Bool → Hp → Prop} {b : Bool} (h : Post K fa rB ρ H Q (.ok b S)) (rel : Rel K fa ρ S H) : Q b H := h ρ H b (Ext.refl _ _) rel rfl
theorem mk_ok {K : PySem.W.Frag} {c : Bool} {d : D} {Q : VK} (h : Post K fa (rD K fa) ρ H Q (mk? c d S)) : c = true ∧ Post K fa (rD K fa) ρ H Q (.ok d S) := by
  cases c with
  | true => exact ⟨rfl, h⟩
  | false => exact h.elim
theorem most_line : most ≤ sizeLine := by rw [sizeLine_eq]; decide
/-- a new address is no written one -/
theorem new_K {pins : List (Addr × Obj)} {s : Shared} {p : Addr} (I : Inv X pins σ H s) (h : s.heap.objs.size ≤ p) : X.K.lookup p = none := by
  cases q : X.K.lookup p with
  | none => rfl
  | some o => exact absurd (Nat.lt_of_lt_of_le (Heap.lt_size (I.kIn p o q)) h) (Nat.lt_irrefl _)
end
end MP
end
section
set_option maxRecDepth 100000
/-! EvD: readings of operators. -/
namespace MP
open PySem L2

section
variable {X : Cx} {fa : Nat → Option Addr} {e : Expr} {σ : St} {H : Hp} {ρ : List Addr} {env : Env} {S : Store} {Q : VK}
/-- what is tracked is no written object -/
def TrK (K : PySem.W.Frag) (H : Hp) : Prop := ∀ a, H a ≠ none → K.lookup a = none
theorem trK_of {pins : List (Addr × Obj)} {s : Shared} (I : Inv X pins σ H s) : TrK X.K H := fun a h => by
  cases q : X.K.lookup a with
  | none => rfl
  | some o => exact absurd (I.bs a o (I.ok.mod.kin a o q)).2 h
theorem we_tr (h : WE X e σ H fun v H' => TrK X.K H' → Q v H') : WE X e σ H Q := fun pins s I =>
  thn (h pins s I) fun v s' ⟨x, H', I', r, q⟩ => ⟨x, H', I', r, q (trK_of I')⟩
theorem opr_tr {f : Value → Value → Sem Value} {r : R2} (h : OpR X f r) : OpR X f fun x y H Q => r x y H fun v H' => TrK X.K H' → Q v H' := fun pins s σ H x y v u Q I rx ry q =>
  thn (h pins s σ H x y v u _ I rx ry q) fun v s' ⟨x, H', I', r, q⟩ => ⟨x, H', I', r, q (trK_of I')⟩
theorem callr_tr {f : Value} {r : List V → Hp → VK → Prop} (h : CallR X f r) : CallR X f fun xs H Q => r xs H fun v H' => TrK X.K H' → Q v H' := fun pins s σ H xs us Q I rx q =>
  thn (h pins s σ H xs us _ I rx q) fun v s' ⟨x, H', I', r, q⟩ => ⟨x, H', I', r, q (trK_of I')⟩
/-- a new list, handed out or kept as a cell -/
theorem mkL_ok {m : Bool} {ds : List D} {vs : List V} {p : Addr} (rel : Rel X.K fa ρ S H) (rv : RpAll X.K fa H ρ vs ds) (hp : H p = none) (tr : TrK X.K (upd H p (.lst vs)))
    (h : Post X.K fa (rD X.K fa) ρ H Q (mkL m ds S)) : Q (.ref p) (upd H p (.lst vs)) := by
  have hK : X.K.lookup p = none := tr p (by rw [upd_same]; simp)
  have pn : p ∉ ρ := fun hm => by
    obtain ⟨i, hi, e⟩ := List.getElem_of_mem hm
    have hl : i < S.length := by rw [← rel.len]; exact hi
    have := rel.cell i S[i] p (by simp [hl]) (by simp [hi, e])
    exact this.live hp
  cases m with
  | false =>
    have e := Ext.new (ρ := ρ) (.lst vs) hp
    exact h ρ _ _ e (rel.new hp) (.lst upd_same pn (rv.ext e rel.clear))
  | true =>
    have e := Ext.newCell (ρ := ρ) (.lst vs) hp
    have cl : Clear X.K (ρ ++ [p]) := fun a ob z hm => by
      rcases List.mem_append.mp hm with hm | hm
      · exact rel.clear a ob z hm
      · have : a = p := by simpa using hm
        rw [this, hK] at z; cases z
    refine h (ρ ++ [p]) _ _ e (rel.newCell hp hK ⟨vs, upd_same, rv.ext e cl⟩) (.ref ?_)
    rw [← rel.len, List.getElem?_append_right (Nat.le_refl _)]
    simp
/-- a new tuple -/
theorem mkT_ok {ds : List D} {vs : List V} {p : Addr} (rel : Rel X.K fa ρ S H) (rv : RpAll X.K fa H ρ vs ds) (hp : H p = none) (h : Post X.K fa (rD X.K fa) ρ H Q (.ok (.tup ds) S)) : Q (.ref p) (upd H p (.tup vs)) := by
  have pn : p ∉ ρ := fun hm => by
    obtain ⟨i, hi, e⟩ := List.getElem_of_mem hm
    have hl : i < S.length := by rw [← rel.len]; exact hi
    have := rel.cell i S[i] p (by simp [hl]) (by simp [hi, e])
    exact this.live hp
  have e := Ext.new (ρ := ρ) (.tup vs) hp
  exact h ρ _ _ e (rel.new hp) (.tup (.inl (.inl upd_same)) pn (rv.ext e rel.clear))
/-- a list's items -/
theorem lsOf_ok {K : PySem.W.Frag} {d : D} {ds : List D} {v : V} (rel : Rel K fa ρ S H) (r : Rp K fa H ρ v d) (h : lsOf S d = some ds) : ∃ a vs, v = .ref a ∧ H a = some (.lst vs) ∧ RpAll K fa H ρ vs ds := by
  cases r with
  | lst s m ra => cases h; exact ⟨_, _, rfl, s, ra⟩
  | @ref n a e =>
    simp only [lsOf] at h
    cases q : S[n]? with
    | none => rw [q] at h; cases h
    | some c =>
      rw [q] at h
      cases c with
      | lst xs =>
        cases h
        obtain ⟨a', h1, vs, h2, h3⟩ := rel.at q
        rw [e] at h1; cases h1
        exact ⟨a, vs, rfl, h2, h3⟩
      | dct es => cases h
  | _ => cases h
theorem sqOf_ok {K : PySem.W.Frag} {d : D} {ds : List D} {v : V} (rel : Rel K fa ρ S H) (r : Rp K fa H ρ v d) (h : sqOf S d = some ds) : ∃ a vs, v = .ref a ∧ (SqL K H a vs ∨ SqT K H a vs) ∧ RpAll K fa H ρ vs ds := by
  cases r with
  | lst s m ra => cases h; exact ⟨_, _, rfl, .inl (.inl (.inl s)), ra⟩
  | row s m ra => cases h; exact ⟨_, _, rfl, .inl s, ra⟩
  | tup s m ra => cases h; exact ⟨_, _, rfl, .inr s, ra⟩
  | @ref n a e =>
    simp only [sqOf] at h
    cases q : S[n]? with
    | none => rw [q] at h; cases h
    | some c =>
      rw [q] at h
      cases c with
      | lst xs =>
        cases h
        obtain ⟨a', h1, vs, h2, h3⟩ := rel.at q
        rw [e] at h1; cases h1
        exact ⟨a, vs, rfl, .inl (.inl (.inl h2)), h3⟩
      | dct es => cases h
  | _ => cases h
end
end MP
end
section
set_option maxRecDepth 100000
set_option exponentiation.threshold 3000
/-! EvE: readings of operators, told. -/
namespace MP
open PySem L2

section
variable {X : Cx} {fa : Nat → Option Addr}
/-- a two-place operation that g tells -/
def r2 (K : PySem.W.Frag) (fa : Nat → Option Addr) (g : D → D → Store → R D) : R2 := fun x y H Q => ∃ ρ S dx dy, Rel K fa ρ S H ∧ Rp K fa H ρ x dx ∧ Rp K fa H ρ y dy ∧ Post K fa (rD K fa) ρ H Q (g dx dy S)
def opOf : O2 → Operator
  | .add => .Add
  | .sub => .Sub
  | .mul => .Mult
  | .fdiv => .FloorDiv
  | .mod => .Mod
  | .pow => .Pow
  | .shl => .LShift
  | .shr => .RShift
  | .band => .BitAnd
theorem bdec {p : Prop} [Decidable p] (h : decide p = true) : p := of_decide_eq_true h
theorem line_of {n : Nat} (h : n ≤ most) : n ≤ sizeLine := Nat.le_trans h most_line
theorem rp_int {K : PySem.W.Frag} {H : Hp} {ρ : List Addr} {x : V} {i : Int} (h : Rp K fa H ρ x (.int i)) : x = .int i := by cases h; rfl
theorem rp_bl {K : PySem.W.Frag} {H : Hp} {ρ : List Addr} {x : V} {b : Bool} (h : Rp K fa H ρ x (.bl b)) : x = .bl b := by cases h; rfl
theorem rp_str {K : PySem.W.Frag} {H : Hp} {ρ : List Addr} {x : V} {a : List Nat} (h : Rp K fa H ρ x (.str a)) : x = .str ⟨a.toArray⟩ ∧ a.length ≤ sizeLine := by cases h with | str _ z => exact ⟨rfl, z⟩
theorem rp_tup {K : PySem.W.Frag} {H : Hp} {ρ : List Addr} {x : V} {ds : List D} (h : Rp K fa H ρ x (.tup ds)) : ∃ a vs, x = .ref a ∧ SqT K H a vs ∧ a ∉ ρ ∧ RpAll K fa H ρ vs ds := by cases h with | tup s m r => exact ⟨_, _, rfl, s, m, r⟩
theorem str_app (a b : List Nat) : (⟨a.toArray⟩ : Str) ++ (⟨b.toArray⟩ : Str) = ⟨(a ++ b).toArray⟩ := by
  show Str.append _ _ = _
  unfold Str.append
  simp
theorem and_tt {a b : Bool} (h : (a && b) = true) : a = true ∧ b = true := Bool.and_eq_true_iff.mp h
theorem no_tr {K : PySem.W.Frag} {H : Hp} {Q : VK} {v : V} (h : Q v H) : TrK K H → Q v H := fun _ => h
theorem op2_add (m : Bool) : OpR X (binaryOp .Add) (r2 X.K fa (op2 m .add)) := by
  intro pins s σ H x y v u Q I rx ry h
  obtain ⟨ρ, S, dx, dy, rel, px, py, h⟩ := h
  have go : ∀ {r : R2}, OpR X (binaryOp .Add) r → r x y H (fun v H' => TrK X.K H' → Q v H') → wpAny (model X.prog X.w) X.A (binaryOp .Add v u) (EP X pins σ Q) X.xe s := fun {r} o q => opr_tr o pins s σ H x y v u Q I rx ry q
  unfold op2 at h
  split at h <;> try contradiction
  · obtain rfl := rp_int px
    obtain rfl := rp_int py
    exact go op_add ⟨_, _, rfl, rfl, fun _ => h.fin rel (.int _)⟩
  · obtain ⟨c, h⟩ := mk_ok h
    obtain ⟨rfl, z1⟩ := rp_str px
    obtain ⟨rfl, z2⟩ := rp_str py
    have c := bdec c
    refine go op_add_str ⟨_, _, rfl, rfl, ?_, fun _ => ?_⟩
    · show (List.toArray _).size + (List.toArray _).size ≤ sizeLine
      simp only [List.size_toArray]
      exact line_of c
    · rw [str_app]
      exact h.fin rel (.str _ (by rw [List.length_append]; exact line_of c))
  · obtain ⟨c, h⟩ := mk_ok h
    obtain ⟨a, vs, rfl, s1, m1, r1⟩ := rp_tup px
    obtain ⟨b, ws, rfl, s2, m2, r2⟩ := rp_tup py
    have c := bdec c
    have l1 := r1.len
    have l2 := r2.len
    refine go op_catA ⟨a, b, vs, ws, rfl, rfl, s1, s2, ?_, fun e _ => ?_, fun _ e _ => ?_, fun _ _ p hp _ => mkT_ok rel (r1.append r2) hp h⟩
    · rw [l1, l2]; exact line_of c
    · subst e
      cases r1
      exact h.fin rel (.tup s2 m2 r2)
    · subst e
      cases r2
      refine h.fin rel (.tup s1 m1 ?_)
      rw [List.append_nil]
      exact r1
  · rename_i d1 d2 d3
    split at h
    · rename_i xs ys q1 q2
      split at h
      · rename_i c
        have c := bdec c
        obtain ⟨a, vs, rfl, s1, r1⟩ := lsOf_ok rel px q1
        obtain ⟨b, ws, rfl, s2, r2⟩ := lsOf_ok rel py q2
        refine go op_cat ⟨a, b, vs, ws, rfl, rfl, s1, s2, ?_, fun p hp tr => mkL_ok rel (r1.append r2) hp tr h⟩
        rw [r1.len, r2.len]; exact line_of c
      · exact h.elim
    · exact h.elim
theorem op2_mul (m : Bool) : OpR X (binaryOp .Mult) (r2 X.K fa (op2 m .mul)) := by
  intro pins s σ H x y v u Q I rx ry h
  obtain ⟨ρ, S, dx, dy, rel, px, py, h⟩ := h
  have go : ∀ {r : R2}, OpR X (binaryOp .Mult) r → r x y H (fun v H' => TrK X.K H' → Q v H') → wpAny (model X.prog X.w) X.A (binaryOp .Mult v u) (EP X pins σ Q) X.xe s := fun {r} o q => opr_tr o pins s σ H x y v u Q I rx ry q
  unfold op2 at h
  split at h <;> try contradiction
  · obtain ⟨c, h⟩ := mk_ok h
    obtain rfl := rp_int px
    obtain rfl := rp_int py
    unfold okMul at c
    have fin := fun _ : TrK X.K H => h.fin rel (.int _)
    rcases Bool.or_eq_true_iff.mp c with c | c
    · have c := bdec c
      exact go op_mul ⟨_, _, rfl, rfl, .inl (by omega), fin⟩
    · rcases Bool.or_eq_true_iff.mp c with c | c
      · have c := bdec c
        exact go op_mul ⟨_, _, rfl, rfl, .inr (by omega), fin⟩
      · obtain ⟨c1, c2⟩ := and_tt c
        exact go op_mulW ⟨_, _, rfl, rfl, wide_mul (bdec c1) (bdec c2) (by decide) (by decide) (by decide), fin⟩
  · obtain ⟨c, h⟩ := mk_ok h
    obtain ⟨a, vs, rfl, s1, m1, r1⟩ := rp_tup px
    obtain rfl := rp_int py
    obtain ⟨c1, c⟩ := and_tt c
    obtain ⟨c2, c⟩ := and_tt c
    obtain ⟨c3, c4⟩ := and_tt c
    refine go op_repT ⟨a, _, vs, rfl, rfl, s1, fun e => ?_, bdec c3, bdec c4, by rw [r1.len]; exact bdec c2, fun p hp _ => mkT_ok rel (r1.rep _) hp h⟩
    subst e
    cases r1
    cases c1
  · split at h
    · rename_i k _ _ xs q1
      split at h
      · rename_i c
        obtain ⟨c1, c2⟩ := and_tt c
        have c1 := bdec c1
        have c2 := bdec c2
        obtain ⟨a, vs, rfl, s1, r1⟩ := lsOf_ok rel px q1
        obtain rfl := rp_int py
        refine go op_rep ⟨a, _, vs, rfl, rfl, s1, by omega, by omega, ?_, fun p hp tr => mkL_ok rel (r1.rep _) hp tr h⟩
        rw [r1.len]; exact line_of c1
      · exact h.elim
    · exact h.elim
theorem op2_sub (m : Bool) : OpR X (binaryOp .Sub) (r2 X.K fa (op2 m .sub)) := by
  intro pins s σ H x y v u Q I rx ry h
  obtain ⟨ρ, S, dx, dy, rel, px, py, h⟩ := h
  unfold op2 at h
  split at h <;> try contradiction
  obtain rfl := rp_int px
  obtain rfl := rp_int py
  exact op_sub pins s σ H _ _ v u Q I rx ry ⟨_, _, rfl, rfl, h.fin rel (.int _)⟩
theorem op2_fdiv (m : Bool) : OpR X (binaryOp .FloorDiv) (r2 X.K fa (op2 m .fdiv)) := by
  intro pins s σ H x y v u Q I rx ry h
  obtain ⟨ρ, S, dx, dy, rel, px, py, h⟩ := h
  unfold op2 at h
  split at h <;> try contradiction
  obtain ⟨c, h⟩ := mk_ok h
  obtain rfl := rp_int px
  obtain rfl := rp_int py
  obtain ⟨c1, c2⟩ := and_tt c
  exact op_fdiv pins s σ H _ _ v u Q I rx ry ⟨_, _, rfl, rfl, ⟨bdec c1, bdec c2⟩, h.fin rel (.int _)⟩
theorem op2_mod (m : Bool) : OpR X (binaryOp .Mod) (r2 X.K fa (op2 m .mod)) := by
  intro pins s σ H x y v u Q I rx ry h
  obtain ⟨ρ, S, dx, dy, rel, px, py, h⟩ := h
  unfold op2 at h
  split at h <;> try contradiction
  obtain ⟨c, h⟩ := mk_ok h
  obtain rfl := rp_int px
  obtain rfl := rp_int py
  exact op_mod pins s σ H _ _ v u Q I rx ry ⟨_, _, rfl, rfl, bdec c, h.fin rel (.int _)⟩
theorem cpow_of {i j : Int} (c : (decide (0 ≤ j) && (decide (j ≤ 1000000) && decide (i.natAbs < 2 ^ 64))) = true) : CPow i j := by
  obtain ⟨c1, c⟩ := and_tt c
  obtain ⟨c2, c3⟩ := and_tt c
  exact ⟨bdec c1, bdec c2, bdec c3⟩
def CPow2 (i j : Int) : Prop := 0 ≤ j ∧ ((j ≤ 1000000 ∧ i.natAbs < 2 ^ 64) ∨ (j ≤ 100 ∧ i.natAbs < 2 ^ 1000))
theorem op_pow2 {X : Cx} : OpR X (binaryOp .Pow) (rI CPow2 fun i j => .int (i ^ j.toNat)) := opI fun i j _ _ _ _ _ hc q => by
  obtain ⟨h0, h | h⟩ := hc
  · exact PyProof.Rows.pow_int_small h0 h.1 h.2 q
  · have hb : Builtin.Int.intBits i ≤ 1000 := by
      unfold Builtin.Int.intBits
      split
      · omega
      · rename_i hi
        have hi : i ≠ 0 := by simpa using hi
        have : i.natAbs.log2 < 1000 := (Nat.log2_lt (by omega)).mpr h.2
        omega
    refine PyProof.Rows.pow_int h0 ?_ q
    have h1 : (Builtin.Int.intBits i : Int) * j ≤ 1000 * j := Int.mul_le_mul_of_nonneg_right (by omega) h0
    omega
theorem cpow2_of {i j : Int} (c : (decide (0 ≤ j) && (decide (j ≤ 1000000) && decide (i.natAbs < 2 ^ 64) || decide (j ≤ 100) && decide (i.natAbs < 2 ^ 1000))) = true) : CPow2 i j := by
  obtain ⟨c1, c⟩ := and_tt c
  refine ⟨bdec c1, ?_⟩
  rcases Bool.or_eq_true_iff.mp c with c | c
  · obtain ⟨a, b⟩ := and_tt c
    exact .inl ⟨bdec a, bdec b⟩
  · obtain ⟨a, b⟩ := and_tt c
    exact .inr ⟨bdec a, bdec b⟩
theorem op2_pow (m : Bool) : OpR X (binaryOp .Pow) (r2 X.K fa (op2 m .pow)) := by
  intro pins s σ H x y v u Q I rx ry h
  obtain ⟨ρ, S, dx, dy, rel, px, py, h⟩ := h
  unfold op2 at h
  split at h <;> try contradiction
  obtain ⟨c, h⟩ := mk_ok h
  obtain rfl := rp_int px
  obtain rfl := rp_int py
  exact op_pow2 pins s σ H _ _ v u Q I rx ry ⟨_, _, rfl, rfl, cpow2_of c, h.fin rel (.int _)⟩
theorem op2_shl (m : Bool) : OpR X (binaryOp .LShift) (r2 X.K fa (op2 m .shl)) := by
  intro pins s σ H x y v u Q I rx ry h
  obtain ⟨ρ, S, dx, dy, rel, px, py, h⟩ := h
  unfold op2 at h
  split at h <;> try contradiction
  obtain ⟨c, h⟩ := mk_ok h
  obtain rfl := rp_int px
  obtain rfl := rp_int py
  exact op_shl pins s σ H _ _ v u Q I rx ry ⟨_, _, rfl, rfl, cpow_of c, h.fin rel (.int _)⟩
theorem op2_shr (m : Bool) : OpR X (binaryOp .RShift) (r2 X.K fa (op2 m .shr)) := by
  intro pins s σ H x y v u Q I rx ry h
  obtain ⟨ρ, S, dx, dy, rel, px, py, h⟩ := h
  unfold op2 at h
  split at h <;> try contradiction
  obtain ⟨c, h⟩ := mk_ok h
  obtain rfl := rp_int px
  obtain rfl := rp_int py
  exact op_shr pins s σ H _ _ v u Q I rx ry ⟨_, _, rfl, rfl, bdec c, h.fin rel (.int _)⟩
theorem op2_band (m : Bool) : OpR X (binaryOp .BitAnd) (r2 X.K fa (op2 m .band)) := by
  intro pins s σ H x y v u Q I rx ry h
  obtain ⟨ρ, S, dx, dy, rel, px, py, h⟩ := h
  unfold op2 at h
  split at h <;> try contradiction
  obtain rfl := rp_int px
  obtain rfl := rp_int py
  exact op_and pins s σ H _ _ v u Q I rx ry ⟨_, _, rfl, rfl, h.fin rel (.int _)⟩
theorem op2_ok (m : Bool) (op : O2) : OpR X (binaryOp (opOf op)) (r2 X.K fa (op2 m op)) := by
  cases op with
  | add => exact op2_add m
  | sub => exact op2_sub m
  | mul => exact op2_mul m
  | fdiv => exact op2_fdiv m
  | mod => exact op2_mod m
  | pow => exact op2_pow m
  | shl => exact op2_shl m
  | shr => exact op2_shr m
  | band => exact op2_band m
end
end MP
end
section
set_option maxRecDepth 100000
/-! EvF: readings of truth, comparisons, items, parts, built-ins. -/
namespace MP
open PySem L2

section
variable {X : Cx} {fa : Nat → Option Addr} {σ : St} {H : Hp} {ρ : List Addr} {env : Env} {S : Store}
theorem isEmpty_len {α β : Type} {xs : List α} {ys : List β} (h : xs.length = ys.length) : xs.isEmpty = ys.isEmpty := by
  cases xs <;> cases ys <;> first | rfl | simp at h
theorem RpKv.len {K : PySem.W.Frag} : ∀ {es : List (D × D)} {ks : List (Key × V)}, RpKv K fa H ρ ks es → ks.length = es.length
  | [], _, h => by cases h; rfl
  | (_, _) :: _, _, h => by
    cases h with
    | cons a b r => exact congrArg Nat.succ (RpKv.len r)
theorem truth_ok {K : PySem.W.Frag} {d : D} {v : V} {k : Bool} (rel : Rel K fa ρ S H) (r : Rp K fa H ρ v d) (h : truth S d = some k) : TruV K v H k := by
  cases r with
  | non => cases h; rfl
  | bl b => cases h; rfl
  | int i => cases h; rfl
  | str x z =>
    cases h
    refine ⟨by show x.toArray.size ≤ _; simpa using z, ?_⟩
    show (!x.isEmpty) = ((x.toArray.size : Int) != 0)
    cases x with
    | nil => rfl
    | cons a r => simp; omega
  | lst s m ra => cases h; exact .inl ⟨_, .inl (.inl s), by rw [isEmpty_len ra.len]⟩
  | tup s m ra => cases h; exact .inr (.inl ⟨_, s, by rw [isEmpty_len ra.len]⟩)
  | dct s m ra => cases h; exact .inr (.inr ⟨_, s, by rw [isEmpty_len ra.len]⟩)
  | row s m ra => cases h; exact .inl ⟨_, s, by rw [isEmpty_len ra.len]⟩
  | tab _ _ => cases h
  | fn e => cases h
  | @ref n a e =>
    simp only [truth] at h
    cases q : S[n]? with
    | none => rw [q] at h; cases h
    | some c =>
      rw [q] at h
      obtain ⟨a', h1, h2⟩ := rel.at q
      rw [e] at h1; cases h1
      cases c with
      | lst xs =>
        cases h
        obtain ⟨vs, h2, h3⟩ := h2
        exact .inl ⟨vs, .inl (.inl h2), by rw [isEmpty_len h3.len]⟩
      | dct es =>
        cases h
        obtain ⟨ks, h2, h3⟩ := h2
        exact .inr (.inr ⟨ks, h2, by rw [isEmpty_len h3.len]⟩)
theorem test_ok {K : PySem.W.Frag} {d : D} {v : V} {Q : Bool → Hp → Prop} (rel : Rel K fa ρ S H) (r : Rp K fa H ρ v d) (h : Post K fa rB ρ H Q (test d S)) : ∃ k, TruV K v H k ∧ Q k H := by
  unfold test at h
  cases q : truth S d with
  | none => rw [q] at h; exact h.elim
  | some k => rw [q] at h; exact ⟨k, truth_ok rel r q, h.finB rel⟩

/-! ### data as the library reads them -/
theorem not_sys {K : PySem.W.Frag} (tr : TrK K H) (hk : K.lookup sysModules ≠ none) {a : Addr} (h : H a ≠ none) : sysModules ≠ a := fun e => by
  subst e
  exact hk (tr _ h)
theorem readsAll_map {α : Type} {h : Heap} (f : α → Value) (g : α → PyData) : ∀ (l : List α), (∀ x ∈ l, ∃ as, Reads h (f x) (g x) as ∧ sysModules ∉ as) → ∃ as, ReadsAll h (l.map f) (l.map g) as ∧ sysModules ∉ as
  | [], _ => ⟨_, .nil, by simp⟩
  | x :: l, q => by
    obtain ⟨as, h1, n1⟩ := q x List.mem_cons_self
    obtain ⟨bs, h2, n2⟩ := readsAll_map f g l fun y hy => q y (List.mem_cons_of_mem _ hy)
    exact ⟨_, .cons h1 h2, by simp [n1, n2]⟩
section
variable {pins : List (Addr × Obj)} {s : Shared}
mutual
theorem Rp.reads (I : Inv X pins σ H s) (hk : X.K.lookup sysModules ≠ none) : ∀ (d : D) (v : V) (u : Value), Rp X.K fa H ρ v d → RelV v u → d.data = true → ∃ as, Reads s.heap u d.py as ∧ sysModules ∉ as
  | .non, _, _, h, r, _ => by
    cases h; cases r
    exact ⟨_, Reads.none, by simp⟩
  | .bl b, _, _, h, r, _ => by
    cases h; cases r
    exact ⟨_, Reads.bool b, by simp⟩
  | .int i, _, _, h, r, _ => by
    cases h
    obtain ⟨t, rfl⟩ := r
    exact ⟨_, Reads.int i t, by simp⟩
  | .str x, _, _, h, r, _ => by
    cases h
    obtain ⟨t, rfl⟩ := r
    exact ⟨_, Reads.str _ t, by simp⟩
  | .lst ds, _, _, h, r, hd => by
    cases h with
    | lst hs m ha =>
      cases r
      obtain ⟨_, its, n, rv, e⟩ := I.hok _ _ hs
      obtain ⟨as, hr, hm⟩ := Rp.readsAll I hk ds _ its ha rv hd
      have na := not_sys (trK_of I) hk (a := _) (by rw [hs]; simp)
      exact ⟨_, Reads.list e rfl rfl (by simpa using hr), by simp [na, hm]⟩
  | .tup ds, _, _, h, r, hd => by
    cases h with
    | tup hs m ha =>
      cases r
      obtain ⟨its, rv, ⟨o, ho, hc, n, hd'⟩, _⟩ := I.tuple hs
      obtain ⟨as, hr, hm⟩ := Rp.readsAll I hk ds _ its ha rv hd
      exact ⟨_, Reads.tuple ho hc hd' (by simpa using hr), hm⟩
  | .dct es, _, _, h, r, hd => by
    cases h with
    | @dct a ks _ hs m ha =>
      cases r
      obtain ⟨z, y, vs, rk, o, es', ep, e, c, hd', hk', hp, _⟩ := I.hok _ _ hs
      obtain ⟨⟨as, h1, n1⟩, ⟨bs, h2, n2⟩⟩ := Rp.readsKv I hk es ks vs es'.toList ha rk hp hd
      have na := not_sys (trK_of I) hk (a := _) (by rw [hs]; simp)
      exact ⟨_, Reads.dict e c.1 hd' h1 h2, by simp [na, n1, n2]⟩
  | .ref _, _, _, _, _, hd => nomatch hd
  | .fn _, _, _, _, _, hd => nomatch hd
  | .row _, _, _, _, _, hd => nomatch hd
  | .tab _ _, _, _, _, _, hd => nomatch hd
theorem Rp.readsAll (I : Inv X pins σ H s) (hk : X.K.lookup sysModules ≠ none) : ∀ (ds : List D) (vs : List V) (us : List Value), RpAll X.K fa H ρ vs ds → Vals vs us → dataAll ds = true → ∃ as, ReadsAll s.heap us (pyAll ds) as ∧ sysModules ∉ as
  | [], _, _, h, r, _ => by
    cases h; cases r
    exact ⟨_, ReadsAll.nil, by simp⟩
  | d :: ds, _, _, h, r, hd => by
    obtain ⟨h1, h2⟩ := and_tt hd
    cases h with
    | cons a b =>
      cases r with
      | cons r1 r2 =>
        obtain ⟨as, q1, n1⟩ := Rp.reads I hk d _ _ a r1 h1
        obtain ⟨bs, q2, n2⟩ := Rp.readsAll I hk ds _ _ b r2 h2
        exact ⟨_, ReadsAll.cons q1 q2, by simp [n1, n2]⟩
theorem Rp.readsKv (I : Inv X pins σ H s) (hk : X.K.lookup sysModules ≠ none) : ∀ (es : List (D × D)) (ks : List (Key × V)) (vs : List (Key × Value)) (el : List DictEntry), RpKv X.K fa H ρ ks es → KV ks vs → Pairs (mixKind X.prog X.w) el vs → dataKv es = true →
    (∃ as, ReadsAll s.heap (el.map (·.key)) ((pyKv es).map (·.1)) as ∧ sysModules ∉ as) ∧ (∃ as, ReadsAll s.heap (el.map (·.val)) ((pyKv es).map (·.2)) as ∧ sysModules ∉ as)
  | [], _, _, _, h, r, p, _ => by
    cases h; cases r; cases p
    exact ⟨⟨_, .nil, by simp⟩, ⟨_, .nil, by simp⟩⟩
  | (kd, d) :: es, _, _, _, h, r, p, hd => by
    obtain ⟨h1, h2⟩ := and_tt hd
    obtain ⟨h3, h4⟩ := and_tt h2
    cases h with
    | cons a b c =>
      cases r with
      | cons r1 r2 =>
        obtain ⟨e1, r1⟩ := r1
        cases p with
        | cons p1 p2 p3 =>
          obtain ⟨⟨as, q1, n1⟩, ⟨bs, q2, n2⟩⟩ := Rp.readsKv I hk es _ _ _ c r2 p3 h4
          have rk : RelV (kV _) _ := relV_key p1
          rw [← e1] at rk
          obtain ⟨cs, q3, n3⟩ := Rp.reads I hk kd _ _ a rk h1
          obtain ⟨ds, q4, n4⟩ := Rp.reads I hk d _ _ b r1 h3
          refine ⟨⟨_, .cons q3 q1, by simp [n1, n3]⟩, ⟨_, .cons (p2 ▸ q4) q2, by simp [n2, n4]⟩⟩
end
end
end
section
variable {X : Cx} {fa : Nat → Option Addr} {σ : St} {H : Hp} {ρ : List Addr} {env : Env} {S : Store}
mutual
theorem data_plain : ∀ d : D, d.plain = true → d.data = true
  | .non, _ => rfl
  | .bl _, _ => rfl
  | .int _, _ => rfl
  | .str _, _ => rfl
  | .lst xs, h => dataAll_plain xs h
  | .tup xs, h => dataAll_plain xs h
  | .dct _, h => nomatch h
  | .ref _, h => nomatch h
  | .fn _, h => nomatch h
  | .row _, h => nomatch h
  | .tab _ _, h => nomatch h
theorem dataAll_plain : ∀ ds : List D, plainAll ds = true → dataAll ds = true
  | [], _ => rfl
  | x :: xs, h => by
    obtain ⟨h1, h2⟩ := and_tt h
    exact Bool.and_eq_true_iff.mpr ⟨data_plain x h1, dataAll_plain xs h2⟩
end
mutual
theorem py_plain : ∀ d : D, d.plain = true → d.py.plain = true
  | .non, _ => rfl
  | .bl _, _ => rfl
  | .int _, _ => rfl
  | .str _, _ => rfl
  | .lst xs, h => pyAll_plain xs h
  | .tup xs, h => pyAll_plain xs h
  | .dct _, h => nomatch h
  | .ref _, h => nomatch h
  | .fn _, h => nomatch h
  | .row _, h => nomatch h
  | .tab _ _, h => nomatch h
theorem pyAll_plain : ∀ ds : List D, plainAll ds = true → PyData.plainAll (pyAll ds) = true
  | [], _ => rfl
  | x :: xs, h => by
    obtain ⟨h1, h2⟩ := and_tt h
    exact Bool.and_eq_true_iff.mpr ⟨py_plain x h1, pyAll_plain xs h2⟩
end
mutual
theorem py_deep : ∀ d : D, d.py.depth = d.deep
  | .non => rfl
  | .bl _ => rfl
  | .int _ => rfl
  | .str _ => rfl
  | .lst xs => by simp only [D.py, D.deep, PyData.depth, pyAll_deep xs]
  | .tup xs => by simp only [D.py, D.deep, PyData.depth, pyAll_deep xs]
  | .dct kvs => by simp only [D.py, D.deep, PyData.depth, pyKv_deep kvs]
  | .ref _ => rfl
  | .fn _ => rfl
  | .row _ => rfl
  | .tab _ _ => rfl
theorem pyAll_deep : ∀ ds : List D, PyData.depthAll (pyAll ds) = deepAll ds
  | [] => rfl
  | x :: xs => by simp only [pyAll, deepAll, PyData.depthAll, py_deep x, pyAll_deep xs]
theorem pyKv_deep : ∀ ds : List (D × D), PyData.depthKv (pyKv ds) = deepKv ds
  | [] => rfl
  | (k, v) :: xs => by simp only [pyKv, deepKv, PyData.depthKv, py_deep k, py_deep v, pyKv_deep xs]
end
theorem pyAll_map : ∀ ds : List D, pyAll ds = ds.map D.py
  | [] => rfl
  | x :: xs => by rw [pyAll, pyAll_map xs, List.map_cons]
mutual
theorem Rp.data0 {K : PySem.W.Frag} : ∀ {d : D} {v : V}, Rp K fa H ρ v d → d.data = true → Rp K fa H [] v d
  | .non, _, h, _ => by cases h; exact .non
  | .bl _, _, h, _ => by cases h; exact .bl _
  | .int _, _, h, _ => by cases h; exact .int _
  | .str _, _, h, _ => by
    cases h with
    | str _ z => exact .str _ z
  | .lst ds, _, h, hd => by
    cases h with
    | lst s m r => exact .lst s (by simp) (RpAll.data0 r hd)
  | .tup ds, _, h, hd => by
    cases h with
    | tup s m r => exact .tup s (by simp) (RpAll.data0 r hd)
  | .dct ds, _, h, hd => by
    cases h with
    | dct s m r => exact .dct s (by simp) (RpKv.data0 r hd)
  | .ref _, _, _, hd => nomatch hd
  | .fn _, _, _, hd => nomatch hd
  | .row _, _, _, hd => nomatch hd
  | .tab _ _, _, _, hd => nomatch hd
theorem RpAll.data0 {K : PySem.W.Frag} : ∀ {ds : List D} {vs : List V}, RpAll K fa H ρ vs ds → dataAll ds = true → RpAll K fa H [] vs ds
  | [], _, h, _ => by cases h; exact .nil
  | _ :: _, _, h, hd => by
    obtain ⟨h1, h2⟩ := and_tt hd
    cases h with
    | cons a b => exact .cons (Rp.data0 a h1) (RpAll.data0 b h2)
theorem RpKv.data0 {K : PySem.W.Frag} : ∀ {es : List (D × D)} {ks : List (Key × V)}, RpKv K fa H ρ ks es → dataKv es = true → RpKv K fa H [] ks es
  | [], _, h, _ => by cases h; exact .nil
  | (_, _) :: _, _, h, hd => by
    obtain ⟨h1, h2⟩ := and_tt hd
    obtain ⟨h3, h4⟩ := and_tt h2
    cases h with
    | cons a b c => exact .cons (Rp.data0 a h1) (Rp.data0 b h3) (RpKv.data0 c h4)
end
/-- a cell's list as data -/
theorem view_ok {K : PySem.W.Frag} {d : D} {v : V} (rel : Rel K fa ρ S H) (r : Rp K fa H ρ v d) (h : (view S d).data = true) : Rp K fa H [] v (view S d) := by
  cases r with
  | @ref n a e =>
    unfold view at h ⊢
    cases q : S[n]? with
    | none => simp only [q] at h; cases h
    | some c =>
      simp only [q] at h ⊢
      cases c with
      | lst xs =>
        obtain ⟨a', h1, vs, h2, h3⟩ := rel.at q
        rw [e] at h1; cases h1
        exact .lst h2 (by simp) (h3.data0 h)
      | dct es => cases h
  | non => exact .non
  | bl b => exact .bl b
  | int i => exact .int i
  | str x z => exact .str x z
  | lst s m r => exact .lst s (by simp) (r.data0 h)
  | tup s m r => exact .tup s (by simp) (r.data0 h)
  | dct s m r => exact .dct s (by simp) (r.data0 h)
  | fn _ => cases h
  | row _ _ _ => cases h
  | tab _ _ => cases h

/-! ### comparisons -/
/-- what the readings ask of the context -/
structure Cok (X : Cx) (fa : Nat → Option Addr) : Prop where
  calm : X.calm = true
  sys : X.K.lookup sysModules ≠ none
  room : X.A.units + 200 < cLine
  gd : X.A.guards = some []
  tabs : ∀ (j : Nat) (a : Addr), fa (1000 + j) = some a → ∃ es n, KDict X.K X.w a es n
def cpOf : Cp → CmpOp
  | .eq => .Eq
  | .ne => .NotEq
  | .lt => .Lt
  | .le => .LtE
  | .gt => .Gt
  | .ge => .GtE
  | .is => .Is
  | .isnot => .IsNot
  | .isin => .In
  | .notin => .NotIn
theorem far_line {X : Cx} {fa : Nat → Option Addr} (ck : Cok X fa) {n : Nat} (h : n ≤ far) : X.A.units + 20 + n < cLine := by
  have := ck.room
  have e : far = 150 := rfl
  omega
theorem eqD_ok (ck : Cok X fa) {pins : List (Addr × Obj)} {s : Shared} {x y : V} {v u : Value} {dx dy : D} {b : Bool} {Q : Value → Shared → Prop} (I : L2.Inv X pins σ H s) (rx : RelV x v) (ry : RelV y u) (rel : Rel X.K fa ρ S H) (px : Rp X.K fa H ρ x dx) (py : Rp X.K fa H ρ y dy) (q : eqD S dx dy = some b) :
    (Q (.bool b) s → wpAny (model X.prog X.w) X.A (compareOp .Eq v u) Q X.xe s) ∧ (Q (.bool (!b)) s → wpAny (model X.prog X.w) X.A (compareOp .NotEq v u) Q X.xe s) := by
  unfold eqD at q
  split at q
  · rename_i xs
    cases q
    obtain ⟨a, vs, rfl, hq, _, rv⟩ := rp_tup px
    obtain ⟨a2, vs2, rfl, hq2, _, rv2⟩ := rp_tup py
    cases rv2
    cases rx; cases ry
    obtain ⟨its, r1, t1, _⟩ := I.tuple hq
    obtain ⟨its2, r2, t2, _⟩ := I.tuple hq2
    cases r2
    have hl : its.length = xs.length := by rw [← r1.length, rv.len]
    have e : ((List.range (min its.toArray.size ([] : List Value).toArray.size)).all (fun _ => true) && its.toArray.size == ([] : List Value).toArray.size) = xs.isEmpty := by
      cases xs with
      | nil => simp at hl; simp [hl]
      | cons x xs =>
        have : ¬ its = [] := fun z => by rw [z] at hl; simp at hl
        simp [this]
    have hu : X.A.units < cLine := by have := ck.room; omega
    have t1' : s.heap.IsTuple a its.toArray := t1
    have t2' : s.heap.IsTuple a2 ([] : List Value).toArray := t2
    refine ⟨fun q => SeqAt.eq_tupleAt (e := fun _ => true) t1' t2' hu (fun j h1 h2 => absurd h2 (by simp)) (by rw [e]; exact q), fun q => SeqAt.RcNeAt.tuples (e := fun _ => true) t1' t2' hu (fun j h1 h2 => absurd h2 (by simp)) X.prog X.w X.xe Q (by rw [e]; exact q)⟩
  · split at q
    · rename_i c
      cases q
      obtain ⟨c1, c⟩ := and_tt c
      obtain ⟨c2, c3⟩ := and_tt c
      obtain ⟨as, q1, _⟩ := Rp.reads I ck.sys _ _ _ (view_ok rel px (data_plain _ c1)) rx (data_plain _ c1)
      obtain ⟨bs, q2, _⟩ := Rp.reads I ck.sys _ _ _ (view_ok rel py (data_plain _ c2)) ry (data_plain _ c2)
      have := far_line ck (bdec c3)
      exact ⟨fun q => SeqAt.eq_plain q1 q2 (py_plain _ c1) (py_plain _ c2) (by rw [py_deep, py_deep]; omega) q, fun q => SeqAt.ne_plain q1 q2 (py_plain _ c1) (py_plain _ c2) (by rw [py_deep, py_deep]; omega) q⟩
    · cases q
theorem cp2_eq (ck : Cok X fa) : OpR X (compareOp .Eq) (r2 X.K fa (cp2 .eq)) := by
  intro pins s σ H x y v u Q I rx ry h
  obtain ⟨ρ, S, dx, dy, rel, px, py, h⟩ := h
  simp only [cp2] at h
  split at h
  · rename_i b q
    exact (eqD_ok ck I rx ry rel px py q).1 ⟨.bl _, H, I, rfl, h.fin rel (.bl _)⟩
  · exact h.elim
theorem cp2_ne (ck : Cok X fa) : OpR X (compareOp .NotEq) (r2 X.K fa (cp2 .ne)) := by
  intro pins s σ H x y v u Q I rx ry h
  obtain ⟨ρ, S, dx, dy, rel, px, py, h⟩ := h
  simp only [cp2] at h
  split at h
  · rename_i b q
    exact (eqD_ok ck I rx ry rel px py q).2 ⟨.bl _, H, I, rfl, h.fin rel (.bl _)⟩
  · exact h.elim
theorem isNone_ok {K : PySem.W.Frag} {d : D} {v : V} (r : Rp K fa H ρ v d) : decide (v = .non) = isNone d := by
  cases r <;> rfl
theorem rp_bool {K : PySem.W.Frag} {v : V} {b : Bool} (r : Rp K fa H ρ v (.bl b)) : v = .bl b := by cases r; rfl
theorem cp2_is : OpR X (compareOp .Is) (r2 X.K fa (cp2 .is)) := by
  intro pins s σ H x y v u Q I rx ry h
  obtain ⟨ρ, S, dx, dy, rel, px, py, h⟩ := h
  simp only [cp2] at h
  split at h
  · rename_i b q
    have fin := h.fin rel (.bl _)
    unfold isD at q
    split at q
    · cases q
      cases py
      exact op_isN pins s σ H _ _ v u Q I rx ry ⟨rfl, by rw [isNone_ok px]; exact fin⟩
    · split at q
      · rename_i a b' 
        cases q
        obtain rfl := rp_bool px
        obtain rfl := rp_bool py
        exact op_isBl pins s σ H _ _ v u Q I rx ry ⟨_, _, rfl, rfl, by rw [show ∀ a b : Bool, decide (a = b) = (a == b) by decide]; exact fin⟩
      · cases q
    · cases q
  · exact h.elim
theorem cp2_isnot : OpR X (compareOp .IsNot) (r2 X.K fa (cp2 .isnot)) := by
  intro pins s σ H x y v u Q I rx ry h
  obtain ⟨ρ, S, dx, dy, rel, px, py, h⟩ := h
  simp only [cp2] at h
  split at h
  · rename_i b q
    have fin := h.fin rel (.bl _)
    unfold isD at q
    split at q
    · cases q
      cases py
      exact op_notN pins s σ H _ _ v u Q I rx ry ⟨rfl, by rw [isNone_ok px]; exact fin⟩
    · split at q
      · rename_i a b' 
        cases q
        obtain rfl := rp_bool px
        obtain rfl := rp_bool py
        exact op_notBl pins s σ H _ _ v u Q I rx ry ⟨_, _, rfl, rfl, by rw [show ∀ a b : Bool, decide (a = b) = (a == b) by decide]; exact fin⟩
      · cases q
    · cases q
  · exact h.elim
theorem cp2_lt : OpR X (compareOp .Lt) (r2 X.K fa (cp2 .lt)) := by
  intro pins s σ H x y v u Q I rx ry h
  obtain ⟨ρ, S, dx, dy, rel, px, py, h⟩ := h
  simp only [cp2] at h
  split at h
  · cases px; cases py
    exact op_lt pins s σ H _ _ v u Q I rx ry ⟨_, _, rfl, rfl, h.fin rel (.bl _)⟩
  · exact h.elim
theorem cp2_le : OpR X (compareOp .LtE) (r2 X.K fa (cp2 .le)) := by
  intro pins s σ H x y v u Q I rx ry h
  obtain ⟨ρ, S, dx, dy, rel, px, py, h⟩ := h
  simp only [cp2] at h
  split at h
  · cases px; cases py
    exact op_le pins s σ H _ _ v u Q I rx ry ⟨_, _, rfl, rfl, h.fin rel (.bl _)⟩
  · exact h.elim
theorem cp2_gt : OpR X (compareOp .Gt) (r2 X.K fa (cp2 .gt)) := by
  intro pins s σ H x y v u Q I rx ry h
  obtain ⟨ρ, S, dx, dy, rel, px, py, h⟩ := h
  simp only [cp2] at h
  split at h
  · cases px; cases py
    exact op_gt pins s σ H _ _ v u Q I rx ry ⟨_, _, rfl, rfl, h.fin rel (.bl _)⟩
  · exact h.elim
theorem cp2_ge : OpR X (compareOp .GtE) (r2 X.K fa (cp2 .ge)) := by
  intro pins s σ H x y v u Q I rx ry h
  obtain ⟨ρ, S, dx, dy, rel, px, py, h⟩ := h
  simp only [cp2] at h
  split at h
  · cases px; cases py
    exact op_ge pins s σ H _ _ v u Q I rx ry ⟨_, _, rfl, rfl, h.fin rel (.bl _)⟩
  · exact h.elim
theorem seq_reads {pins : List (Addr × Obj)} {s : Shared} {a : Addr} {vs : List V} {ds : List D} (I : Inv X pins σ H s) (hk : X.K.lookup sysModules ≠ none) (h : SqL X.K H a vs ∨ SqT X.K H a vs) (r : RpAll X.K fa H ρ vs ds) (hd : dataAll ds = true) :
    (∃ as, Reads s.heap (.ref a) (.list (pyAll ds)) as) ∨ ∃ as, Reads s.heap (.ref a) (.tuple (pyAll ds)) as := by
  rcases h with h | h
  · obtain ⟨its, rv, ⟨o, n, e, c1, c2, c3⟩, _⟩ := I.list h
    obtain ⟨as, hr, _⟩ := Rp.readsAll I hk ds _ its r rv hd
    exact .inl ⟨_, Reads.list e c1 c3 (by simpa using hr)⟩
  · obtain ⟨its, rv, ⟨o, ho, hc, n, hd'⟩, _⟩ := I.tuple h
    obtain ⟨as, hr, _⟩ := Rp.readsAll I hk ds _ its r rv hd
    exact .inr ⟨_, Reads.tuple ho hc hd' (by simpa using hr)⟩
theorem key_eqv {K : PySem.W.Frag} {k0 k : Key} {kd d : D} (r0 : Rp K fa H ρ (kV k0) kd) (r : Rp K fa H ρ (kV k) d) : kd.eqv d = decide (k0 = k) := by
  cases k0 with
  | inl i =>
    cases k with
    | inl j =>
      have e1 : kd = .int i := by cases r0; rfl
      have e2 : d = .int j := by cases r; rfl
      subst e1 e2
      rw [Bool.eq_iff_iff]; simp [D.eqv, D.py, PyData.eqv]
    | inr x =>
      have e1 : kd = .int i := by cases r0; rfl
      have e2 : ∃ y, d = .str y := by generalize e : kV (.inr x) = v at r; cases r <;> first | exact ⟨_, rfl⟩ | cases e
      obtain ⟨y, rfl⟩ := e2
      subst e1
      simp [D.eqv, D.py, PyData.eqv]
  | inr x =>
    have e1 : ∃ y, kd = .str y ∧ x = ⟨y.toArray⟩ := by generalize e : kV (.inr x) = v at r0; cases r0 <;> first | (cases e; exact ⟨_, rfl, rfl⟩) | cases e
    obtain ⟨y, rfl, ey⟩ := e1
    cases k with
    | inl j =>
      have e2 : d = .int j := by cases r; rfl
      subst e2
      simp [D.eqv, D.py, PyData.eqv]
    | inr z =>
      have e2 : ∃ u, d = .str u ∧ z = ⟨u.toArray⟩ := by generalize e : kV (.inr z) = v at r; cases r <;> first | (cases e; exact ⟨_, rfl, rfl⟩) | cases e
      obtain ⟨u, rfl, eu⟩ := e2
      subst ey eu
      rw [Bool.eq_iff_iff]; simp [D.eqv, D.py, PyData.eqv]
theorem dget_ok {K : PySem.W.Frag} {y : V} {d : D} (p : Rp K fa H ρ y d) (f : flatKey d = true) : ∃ k, y = kV k ∧ ∀ {ks : List (Key × V)} {es : List (D × D)}, RpKv K fa H ρ ks es →
    (valV ks k = none ∧ dget d es = none) ∨ ∃ v e, valV ks k = some v ∧ dget d es = some e ∧ Rp K fa H ρ v e := by
  have hk : ∃ k, y = kV k := by
    cases d with
    | int i => cases p; exact ⟨.inl i, rfl⟩
    | str x => cases p; exact ⟨.inr _, rfl⟩
    | _ => cases f
  obtain ⟨k, rfl⟩ := hk
  refine ⟨k, rfl, ?_⟩
  intro ks es
  induction es generalizing ks with
  | nil => intro h; cases h; exact .inl ⟨rfl, rfl⟩
  | cons e es ih =>
    obtain ⟨kd, d0⟩ := e
    intro h
    cases h with
    | @cons k0 v0 _ _ ks _ a b r =>
      have q := key_eqv a p
      by_cases e : k0 = k
      · rw [decide_eq_true e] at q
        refine .inr ⟨v0, d0, valV_pos (p := (k0, v0)) e, ?_, b⟩
        unfold dget
        rw [List.find?_cons_of_pos (by exact q)]
      · rw [decide_eq_false e] at q
        rcases ih r with ⟨h1, h2⟩ | ⟨v, e', h1, h2, h3⟩
        · refine .inl ⟨by rw [valV_neg (p := (k0, v0)) e]; exact h1, ?_⟩
          unfold dget at h2 ⊢
          rw [List.find?_cons_of_neg (by rw [q]; simp)]
          exact h2
        · refine .inr ⟨v, e', by rw [valV_neg (p := (k0, v0)) e]; exact h1, ?_, h3⟩
          unfold dget at h2 ⊢
          rw [List.find?_cons_of_neg (by rw [q]; simp)]
          exact h2
theorem rp_dct {K : PySem.W.Frag} {y : V} {es : List (D × D)} (p : Rp K fa H ρ y (.dct es)) : ∃ a ks, y = .ref a ∧ H a = some (.dK ks) ∧ RpKv K fa H ρ ks es := by
  cases p with
  | dct s m r => exact ⟨_, _, rfl, s, r⟩
theorem rp_tab {K : PySem.W.Frag} {y : V} {j : Nat} {kvs : List (List Nat × Fl)} (p : Rp K fa H ρ y (.tab j kvs)) : ∃ a, y = .ref a ∧ fa (1000 + j) = some a ∧ TabOk K fa a kvs := by
  cases p with
  | tab x t => exact ⟨_, rfl, x, t⟩
/-- in: texts; lists and tuples of data; dicts -/
theorem inOf_ok (ck : Cok X fa) (neg : Bool) : OpR X (compareOp (if neg then .NotIn else .In)) (r2 X.K fa fun x y S => match inOf S x y with | some b => .ok (.bl (if neg then !b else b)) S | none => .stuck) := by
  intro pins s σ H x y v u Q I rx ry h
  obtain ⟨ρ, S, dx, dy, rel, px, py, h⟩ := h
  cases q : inOf S dx dy with
  | none => simp only [q] at h; exact h.elim
  | some b =>
  simp only [q] at h
  have fin := h.fin rel (.bl _)
  unfold inOf at q
  split at q
  · unfold inTab at q
    split at q
    · cases q
      obtain ⟨rfl, z1⟩ := rp_str px
      obtain ⟨a, rfl, ea, t⟩ := rp_tab py
      obtain ⟨es, n, D⟩ := ck.tabs _ _ ea
      rename_i kvs _ k
      have hr : ∃ r, PySem.W.nsIn X.K a ⟨k.toArray⟩ = some r ∧ r.isSome = (kvs.lookup k).isSome := by
        cases e : kvs.lookup k with
        | none => exact ⟨none, t.miss k e, rfl⟩
        | some f => obtain ⟨u, v, h1, _⟩ := t.there k f e; exact ⟨some u, h1, rfl⟩
      obtain ⟨r, h1, h2⟩ := hr
      rw [← h2] at fin
      cases neg with
      | false => exact op_in_kd D pins s σ H _ _ v u Q I rx ry ⟨_, r, rfl, rfl, h1, fin⟩
      | true => exact op_notIn_kd D pins s σ H _ _ v u Q I rx ry ⟨_, r, rfl, rfl, h1, fin⟩
    · cases q
  · unfold inDct at q
    split at q
    · rename_i es _ c
      cases q
      obtain ⟨a, ks, rfl, hH, rk⟩ := rp_dct py
      obtain ⟨k, rfl, hk⟩ := dget_ok px c
      have hs : (valV ks k).isSome = (dget dx es).isSome := by
        rcases hk rk with ⟨h1, h2⟩ | ⟨v, e, h1, h2, _⟩ <;> rw [h1, h2] <;> rfl
      have hu : X.A.units + 1 < cLine := by have := ck.room; omega
      rw [← hs] at fin
      cases ry
      cases neg with
      | false => exact d_in hu I (DGet.k hH) rx fun s3 I3 => ⟨.bl _, H, I3, rfl, fin⟩
      | true => exact d_notIn hu I (DGet.k hH) rx fun s3 I3 => ⟨.bl _, H, I3, rfl, fin⟩
    · cases q
  · split at q
    · cases q
      obtain ⟨rfl, z1⟩ := rp_str px
      obtain ⟨rfl, z2⟩ := rp_str py
      cases neg with
      | false =>
        refine op_in_str pins s σ H _ _ v u Q I rx ry ⟨_, _, rfl, rfl, ?_⟩
        simpa [subText, Str.length] using fin
      | true =>
        refine op_notin_str pins s σ H _ _ v u Q I rx ry ⟨_, _, rfl, rfl, ?_⟩
        simpa [subText, Str.length] using fin
    · cases q
  · split at q
    · rename_i xs q1
      split at q
      · rename_i c
        cases q
        obtain ⟨c1, c⟩ := and_tt c
        obtain ⟨c2, c3⟩ := and_tt c
        obtain ⟨a, vs, rfl, hs, ra⟩ := sqOf_ok rel py q1
        obtain ⟨as, q1, _⟩ := Rp.reads I ck.sys _ _ _ (view_ok rel px (data_plain _ c1)) rx (data_plain _ c1)
        have hf := far_line ck (bdec c3)
        cases ry
        have e : ∀ (f : PyData → Bool), (pyAll xs).any f = xs.any fun d => f d.py := fun f => by rw [pyAll_map, List.any_map]; rfl
        rcases seq_reads I ck.sys hs ra (dataAll_plain _ c2) with ⟨bs, q2⟩ | ⟨bs, q2⟩
        · cases neg with
          | false => exact SeqAt.in_list_data q2 q1 (pyAll_plain _ c2) (py_plain _ c1) (by rw [py_deep, pyAll_deep]; omega) ⟨.bl _, H, I, rfl, by rw [e]; exact fin⟩
          | true => exact SeqAt.notIn_list_data q2 q1 (pyAll_plain _ c2) (py_plain _ c1) (by rw [py_deep, pyAll_deep]; omega) ⟨.bl _, H, I, rfl, by rw [e]; exact fin⟩
        · cases neg with
          | false => exact SeqAt.in_tuple_data q2 q1 (pyAll_plain _ c2) (py_plain _ c1) (by rw [py_deep, pyAll_deep]; omega) ⟨.bl _, H, I, rfl, by rw [e]; exact fin⟩
          | true => exact SeqAt.notIn_tuple_data q2 q1 (pyAll_plain _ c2) (py_plain _ c1) (by rw [py_deep, pyAll_deep]; omega) ⟨.bl _, H, I, rfl, by rw [e]; exact fin⟩
      · cases q
    · cases q
theorem cp2_ok (ck : Cok X fa) (op : Cp) : OpR X (compareOp (cpOf op)) (r2 X.K fa (cp2 op)) := by
  cases op with
  | eq => exact cp2_eq ck
  | ne => exact cp2_ne ck
  | lt => exact cp2_lt
  | le => exact cp2_le
  | gt => exact cp2_gt
  | ge => exact cp2_ge
  | is => exact cp2_is
  | isnot => exact cp2_isnot
  | isin => exact inOf_ok ck false
  | notin => exact inOf_ok ck true
end
end MP
end
section
set_option maxRecDepth 100000
/-! EvG: readings of items, parts, built-ins, methods. -/
namespace MP
open PySem L2

section
variable {X : Cx} {fa : Nat → Option Addr}
theorem plain_ix {b : Expr} (h : (match b with | .Slice .. => false | _ => true) = true) : PlainIx b := by
  intro o i
  cases b <;> first | rfl | cases h
theorem ixn_eq (n : Nat) (i : Int) : ixn n i = L2.ixN n i := rfl
theorem ix_dget (hu : X.A.units + 1 < cLine) : IxR X (fun x y H Q => ∃ a v, x = V.ref a ∧ DGet H a y (some v) ∧ Q v H) := by
  intro value slice pins s σ H x y v u Q I rx ry h hs
  obtain ⟨a, w, rfl, g, q⟩ := h
  obtain rfl : v = Value.ref a := rx
  exact PyProof.Rows.tail_any (dict_typeIs I g) PySem.F.slot_dict_getitem.lookup (d_getItem hu I g ry fun w' s3 I3 rw' => ⟨_, H, I3, rw', q⟩) hs
theorem atTab_ok (ck : Cok X fa) {j : Nat} {kvs : List (List Nat × Fl)} : IxR X (fun x y H Q => ∃ ρ S dy, Rel X.K fa ρ S H ∧ Rp X.K fa H ρ x (.tab j kvs) ∧ Rp X.K fa H ρ y dy ∧ Post X.K fa (rD X.K fa) ρ H Q (atTab kvs dy S)) := by
  intro value slice pins s σ H x y v u Q I rx ry h hs
  obtain ⟨ρ, S, dy, rel, px, py, h⟩ := h
  obtain ⟨a, rfl, ea, t⟩ := rp_tab px
  obtain ⟨es, n, D⟩ := ck.tabs _ _ ea
  unfold atTab at h
  split at h
  · rename_i k
    obtain ⟨rfl, z⟩ := rp_str py
    split at h
    · rename_i f e
      obtain ⟨u0, v0, h1, h2, h3⟩ := t.there k f e
      exact ix_kdict value slice pins s σ H _ _ v u Q I rx ry ⟨a, _, v0, rfl, rfl, ⟨es, n, u0, D.at_, D.lit, h1, h2⟩, h.fin rel h3.rp⟩ hs
    · exact h.elim
  · exact h.elim
theorem atDct_ok (ck : Cok X fa) {es : List (D × D)} : IxR X (fun x y H Q => ∃ ρ S dy, Rel X.K fa ρ S H ∧ Rp X.K fa H ρ x (.dct es) ∧ Rp X.K fa H ρ y dy ∧ Post X.K fa (rD X.K fa) ρ H Q (atDct es dy S)) := by
  intro value slice pins s σ H x y v u Q I rx ry h hs
  obtain ⟨ρ, S, dy, rel, px, py, h⟩ := h
  obtain ⟨a, ks, rfl, hH, rk⟩ := rp_dct px
  unfold atDct at h
  split at h
  · rename_i c
    obtain ⟨k, rfl, hk⟩ := dget_ok py c
    split at h
    · rename_i d e
      rcases hk rk with ⟨h1, h2⟩ | ⟨v0, e', h1, h2, h3⟩
      · rw [e] at h2; cases h2
      · rw [e] at h2; cases h2
        have g := DGet.k (k := k) hH
        rw [h1] at g
        exact ix_dget (by have := ck.room; omega) value slice pins s σ H _ _ v u Q I rx ry ⟨a, v0, rfl, g, h.fin rel h3⟩ hs
    · exact h.elim
  · exact h.elim
theorem atD_ok (ck : Cok X fa) : IxR X (r2 X.K fa atD) := by
  intro value slice pins s σ H x y v u Q I rx ry h hs
  obtain ⟨ρ, S, dx, dy, rel, px, py, h⟩ := h
  unfold atD at h
  split at h
  · exact atTab_ok ck value slice pins s σ H _ _ v u Q I rx ry ⟨ρ, S, dy, rel, px, py, h⟩ hs
  · exact atDct_ok ck value slice pins s σ H _ _ v u Q I rx ry ⟨ρ, S, dy, rel, px, py, h⟩ hs
  rename_i n1 n2
  clear n1 n2
  unfold atSeq at h
  split at h
  · rename_i k
    cases py
    split at h
    · split at h
      · rename_i a _ c q
        obtain ⟨rfl, z⟩ := rp_str px
        have q' : atI a k = some c := q
        refine ix_str value slice pins s σ H _ _ v u Q I rx ry ⟨_, _, c, rfl, rfl, by show (List.toArray _).size ≤ _; simpa using z, ?_, ?_⟩ hs
        · simpa using q'
        · exact h.fin rel (.str [c] (by show 1 ≤ sizeLine; rw [sizeLine_eq]; decide))
      · exact h.elim
    · split at h
      · rename_i xs q
        split at h
        · rename_i d q2
          obtain ⟨a, vs, rfl, hq, ra⟩ := sqOf_ok rel px q
          cases q3 : ixn xs.length k with
          | none => rw [q3] at q2; cases q2
          | some j =>
          rw [q3] at q2
          obtain ⟨w, h1, h2⟩ := ra.get q2
          have e : atI vs k = some w := by
            unfold atI
            rw [ra.len]
            show (ixn xs.length _).bind _ = _
            rw [q3]
            exact h1
          have fin := h.fin rel h2
          rcases hq with hq | hq
          · exact ix_list value slice pins s σ H _ _ v u Q I rx ry ⟨a, vs, _, w, rfl, rfl, hq, e, fin⟩ hs
          · exact ix_tup value slice pins s σ H _ _ v u Q I rx ry ⟨a, vs, _, w, rfl, rfl, hq, e, fin⟩ hs
        · exact h.elim
      · exact h.elim
  · exact h.elim
theorem cutAt_eq (n d : Nat) (o : Option Int) : cutAt n d o = HT.sIx n d o := by cases o <;> rfl
theorem cutL_len {α : Type} (xs : List α) (lo hi : Option Int) : (cutL xs lo hi).length ≤ xs.length := by
  unfold cutL
  rw [List.length_take, List.length_drop]
  omega
theorem RpAll.cut {K : PySem.W.Frag} {H : Hp} {ρ : List Addr} {vs : List V} {ds : List D} (h : RpAll K fa H ρ vs ds) (lo hi : Option Int) : RpAll K fa H ρ (L2.cutV vs lo hi) (cutL ds lo hi) := by
  unfold L2.cutV cutL
  rw [cutAt_eq, cutAt_eq, h.len]
  exact (h.drop _).take _
theorem slr_tr {r : V → Option Int → Option Int → Hp → VK → Prop} (h : SlR X r) : SlR X fun x lo hi H Q => r x lo hi H fun v H' => TrK X.K H' → Q v H' := by
  intro pins s σ H x v vl vu lo hi sl Q I rx hs pl pu q
  obtain ⟨T, id, h1, h2, h3⟩ := h pins s σ H x v vl vu lo hi sl _ I rx hs pl pu q
  exact ⟨T, id, h1, h2, thn h3 fun v s' ⟨x, H', I', r, q⟩ => ⟨x, H', I', r, q (trK_of I')⟩⟩
def rSl (K : PySem.W.Frag) (fa : Nat → Option Addr) (m : Bool) : V → Option Int → Option Int → Hp → VK → Prop := fun x lo hi H Q => ∃ ρ S dx, Rel K fa ρ S H ∧ Rp K fa H ρ x dx ∧ Post K fa (rD K fa) ρ H Q (slice m dx lo hi S)
theorem slice_ok (m : Bool) : SlR X (rSl X.K fa m) := by
  intro pins s σ H x v vl vu lo hi sl Q I rx hs pl pu h
  obtain ⟨ρ, S, dx, rel, px, h⟩ := h
  unfold slice at h
  split at h
  · rename_i a
    obtain ⟨rfl, z⟩ := rp_str px
    refine sl_str pins s σ H _ v vl vu lo hi sl Q I rx hs pl pu ⟨_, rfl, by show (List.toArray _).size ≤ _; simpa using z, ?_⟩
    have e : cutS ⟨a.toArray⟩ lo hi = ⟨(cutL a lo hi).toArray⟩ := by
      unfold cutS cutL
      rw [cutAt_eq, cutAt_eq]
      simp [Str.length]
    rw [e]
    exact h.fin rel (.str _ (Nat.le_trans (cutL_len _ _ _) z))
  · obtain ⟨a, vs, rfl, s1, m1, r1⟩ := rp_tup px
    refine sl_tupA pins s σ H _ v vl vu lo hi sl Q I rx hs pl pu ⟨a, vs, rfl, s1, fun e => ?_, fun _ p hp => mkT_ok rel (r1.cut lo hi) hp h⟩
    have e2 : ∀ {α : Type} (xs : List α), xs.length = vs.length → cutL xs lo hi = xs := fun xs hl => by
      unfold cutL
      rw [cutAt_eq, cutAt_eq, hl, e.1, e.2]
      simp [← hl]
    rw [e2 _ r1.len.symm] at h
    exact h.fin rel (.tup s1 m1 r1)
  · cases px with
    | row sq mq ra => exact slr_tr sl_list pins s σ H _ v vl vu lo hi sl Q I rx hs pl pu ⟨_, _, rfl, sq, fun p hp tr => mkL_ok rel (ra.cut lo hi) hp tr h⟩
  · split at h
    · rename_i xs q
      obtain ⟨a, vs, rfl, hq, ra⟩ := lsOf_ok rel px q
      exact slr_tr sl_list pins s σ H _ v vl vu lo hi sl Q I rx hs pl pu ⟨a, vs, rfl, .inl (.inl hq), fun p hp tr => mkL_ok rel (ra.cut lo hi) hp tr h⟩
    · exact h.elim
end
end MP
end
section
set_option maxRecDepth 100000
/-! EvGa: row[::-1]. -/
namespace MP
open PySem L2
section
variable {prog : Program} {w : World} {A : Around} {E : Value → Shared → Prop} {s : Shared}
theorem adjust_rev (n : Nat) : Builtin.Slice.sliceAdjust none none (-1) (n : Int) = ((n : Int) - 1, -1) := rfl
theorem places_rev (n : Nat) : Builtin.Slice.slicePlaces ((n : Int) - 1) (-1) (-1) = n := by
  unfold Builtin.Slice.slicePlaces
  rw [if_neg (by decide)]
  split
  · have : ((n : Int) - 1 - -1 - 1) / (- -1) = (n : Int) - 1 := by
      rw [show (- -1 : Int) = 1 by rfl, Int.ediv_one]; omega
    rw [this]; omega
  · omega
theorem filterMap_same {α β : Type} {f g : α → Option β} : ∀ {l : List α}, (∀ a ∈ l, f a = g a) → l.filterMap f = l.filterMap g
  | [], _ => rfl
  | a :: l, h => by
    rw [List.filterMap_cons, List.filterMap_cons, h a List.mem_cons_self, filterMap_same fun b hb => h b (List.mem_cons_of_mem _ hb)]
theorem pick_rev (xs : Array Value) : ((List.range xs.size).filterMap fun (m : Nat) => xs[((xs.size : Int) - 1 + (m : Int) * (-1)).toNat]?).toArray = xs.toList.reverse.toArray := by
  congr 1
  have e : ∀ m ∈ List.range xs.size, (fun (m : Nat) => xs[((xs.size : Int) - 1 + (m : Int) * (-1)).toNat]?) m = (fun m => xs[xs.size - 1 - m]?) m := by
    intro m hm
    have : m < xs.size := List.mem_range.mp hm
    have h2 : ((xs.size : Int) - 1 + (m : Int) * (-1)).toNat = xs.size - 1 - m := by omega
    show xs[((xs.size : Int) - 1 + (m : Int) * (-1)).toNat]? = _
    rw [h2]
  rw [filterMap_same e]
  have := PySem.W.krv_range xs.size
  have h3 : (List.range xs.size).filterMap (fun m => xs[xs.size - 1 - m]?) = ((List.range xs.size).map fun k => xs.size - 1 - k).filterMap (xs[·]?) := by rw [List.filterMap_map]; rfl
  rw [h3, this, List.filterMap_reverse, PySem.W.krv_all]
theorem sliceApplied_rev {sl : Addr} {vl vu vs : Value} {n : Nat} {Q : Int × Int × Nat → Shared → Prop} (hs : s.heap.IsSliceOf sl vl vu vs) (pl : IsPart vl none) (pu : IsPart vu none) (ps : IsPart vs (some (-1)))
    (h : Q ((n : Int) - 1, -1, n) s) : wpAny (model prog w) A (Builtin.Slice.sliceApplied (.ref sl) (pure (n : Int))) Q E s := by
  obtain ⟨os, hos, hcs, hds⟩ := id hs
  unfold Builtin.Slice.sliceApplied Builtin.Slice.sliceFields
  refine wpAny_bind (wpAny_bind (wpAny_field hos hds (x := vl) rfl (wpAny_bind (wpAny_field hos hds (x := vu) rfl (wpAny_bind (wpAny_field hos hds (x := vs) rfl (wpAny_pure ?_)))))))
  refine wpAny_bind (HT.slicePart_ ps ?_)
  show wpAny _ _ (if ((-1 : Int) == 0) = true then _ else _) _ _ s
  rw [if_neg (by decide)]
  refine wpAny_bind (HT.slicePart_ pl (wpAny_bind (HT.slicePart_ pu (wpAny_bind (wpAny_pure ?_)))))
  show wpAny _ _ (match Builtin.Slice.sliceAdjust none none (-1) (n : Int) with | (lo, hi) => pure (lo, (-1 : Int), Builtin.Slice.slicePlaces lo hi (-1))) _ _ s
  rw [adjust_rev n]
  show wpAny _ _ (pure ((n : Int) - 1, (-1 : Int), Builtin.Slice.slicePlaces ((n : Int) - 1) (-1) (-1))) _ _ s
  rw [places_rev]
  exact wpAny_pure h
theorem getItem_tuple_rev {t sl : Addr} {items : Array Value} {vl vu vs : Value} {Q : Value → Shared → Prop} (ht : PyProof.Rows.IsTup s.heap t items) (hs : s.heap.IsSliceOf sl vl vu vs) (pl : IsPart vl none) (pu : IsPart vu none) (ps : IsPart vs (some (-1)))
    (h : Q (.ref s.heap.objs.size) { s with heap := s.heap.push { cls := .type "tuple", data := .seq items.toList.reverse.toArray } })
    (hsz : items.size ≤ sizeLine) : wpAny (model prog w) A (getItem (.ref t) (.ref sl)) Q E s := by
  have htake : sizeOk (.seq items.toList.reverse.toArray) := by
    show items.toList.reverse.toArray.size ≤ sizeLine
    simpa using hsz
  obtain ⟨os, hos, hcs, hds⟩ := id hs
  have hTs : s.TypeIs (.ref sl) "slice" := ⟨os, hos, hcs⟩
  unfold getItem
  try with_reducible refine wpAny_holding ?_
  first | refine wpAny_bind (wpAny_pure ?_) | skip
  refine wpAny_bind (wpAny_sequenceKey ht.typeIs (by decide) ?_)
  refine wpAny_bind (wpAny_callSpecial?_slot (name := Str.ofString "__getitem__") ht.typeIs PyProof.Rows.slot_tuple_getitem
    (wpAny_call_entry PyProof.Rows.slot_tuple_getitem ht.typeIs PyProof.Rows.entry_tuple_getitem ?_ (PyProof.Rows.args_tuple_getitem _ _)))
  show wpAny _ _ (Builtin.Tuple.tupleItemsOf (.ref t) >>= _) _ _ s
  refine wpAny_bind (PyProof.Rows.tupleItemsOf_ ht ?_)
  refine wpAny_bind (wpAny_typeOf hTs ?_)
  rw [if_pos (by decide)]
  refine wpAny_bind (sliceApplied_rev hs pl pu ps ?_)
  have hno : ¬ ((((items.size : Int) - 1) == 0 && (-1 : Int) == 1 && items.size == items.size) = true) := by
    intro q
    rw [Bool.and_eq_true, Bool.and_eq_true] at q
    exact absurd (eq_of_beq q.1.2) (by decide)
  show wpAny _ _ (if (((items.size : Int) - 1) == 0 && (-1 : Int) == 1 && items.size == items.size) = true then _ else _) _ _ s
  rw [if_neg hno, pick_rev]
  first
    | exact wpAny_bind (m := Builtin.Tuple.tupleExact _) (wpAny_newObj_type (wpAny_pure ⟨_, rfl, wpAny_pure h⟩) htake)
    | exact wpAny_bind (m := Builtin.Tuple.tupleExact _) (wpAny_newObj_type (wpAny_bind (wpAny_pure (wpAny_pure ⟨_, rfl, wpAny_pure h⟩))) htake)
    | exact wpAny_bind (wpAny_bind (m := Builtin.Tuple.tupleExact _) (wpAny_newObj_type (wpAny_pure (wpAny_pure ⟨_, rfl, wpAny_pure h⟩)) htake))
    | exact wpAny_bind (wpAny_bind (m := Builtin.Tuple.tupleExact _) (wpAny_newObj_type (wpAny_pure ⟨_, rfl, wpAny_pure h⟩) htake))
end
section
variable {X : Cx}
def tRev (K : PySem.W.Frag) (te : TE) : TE := fun σ H Q => te σ H fun x H1 => (∃ a xs, x = .ref a ∧ SqL K H1 a xs ∧ ∀ p, H1 p = none → TrK K (upd H1 p (.lst xs.reverse)) → Q (.ref p) (upd H1 p (.lst xs.reverse))) ∨ ∃ a xs, x = .ref a ∧ SqT K H1 a xs ∧ ∀ p, H1 p = none → Q (.ref p) (upd H1 p (.tup xs.reverse))
theorem pe_rev {e : Expr} {te : TE} {k : Nat} {p1 p2 p3 pos : Pos} (he : PE X e te) : PE X (.Subscript e (.Slice none none (some (.UnaryOp .USub (.Constant (.int 1) k p1) p2)) p3) pos) (tRev X.K te) := by
  refine ⟨fun pins s σ H Q I h => ?_⟩
  refine PyProof.Rows.Subscript_ (thn (he.run pins s σ H _ I h) fun v s1 ⟨x, H1, I1, r1, q1⟩ => ?_)
  have hst : PO X (some (.UnaryOp .USub (.Constant (.int 1) k p1) p2)) (tPart (tUn (rU fun i => .int (-i)) (tC (.int 1)))) := po_some (pe_un un_neg pe_int)
  refine wpAny_Slice (thn (po_none.run pins s1 σ H1 (fun o H2 => o = none ∧ H2 = H1) I1 ⟨rfl, rfl⟩) fun vl s2 ⟨l, H2, I2, pl, el, e2⟩ => ?_)
  subst el e2
  refine thn (po_none.run pins s2 σ H2 (fun o H3 => o = none ∧ H3 = H2) I2 ⟨rfl, rfl⟩) fun vu s3 ⟨u, H3, I3, pu, eu, e3⟩ => ?_
  subst eu e3
  refine thn (hst.run pins s3 σ H3 (fun o H4 => o = some (-1) ∧ H4 = H3) I3 ⟨1, rfl, -1, rfl, rfl, rfl⟩) fun vs s4 ⟨o, H4, I4, ps, eo, e4⟩ => ?_
  subst eo e4
  have I5 : Inv X pins σ H4 { s4 with heap := s4.heap.push { cls := .type "slice", data := .fields #[vl, vu, vs] } } := I4.kept (t' := s4.toks) fun b ob q => Heap.get?_push_of_some _ q
  rcases q1 with ⟨a, xs, ex, hx, q⟩ | ⟨a, xs, ex, hx, q⟩
  · subst ex
    cases r1
    obtain ⟨its, r, ht, hz⟩ := I5.list hx
    have hlen := r.length
    show wpAny (model X.prog X.w) X.A (PyProof.Rows.subscriptTail e (.Slice none none (some (.UnaryOp .USub (.Constant (.int 1) k p1) p2)) p3) (.ref a) (.ref s4.heap.objs.size)) (EP X pins σ Q) X.xe { s4 with heap := s4.heap.push { cls := .type "slice", data := .fields #[vl, vu, vs] } }
    refine PyProof.Rows.tail_any (ops := [.ref a, .ref s4.heap.objs.size]) ht.isList.typeIs (PySem.slot_list_getitem.lookup) ?_ (by with_unfolding_all rfl)
    refine wpAny_getItem_list_slice ht.isList (Heap.IsSliceOf.new _ vl vu vs) pl pu ps (by decide) ?_ (by rw [List.size_toArray]; omega)
    rw [PySem.W.krv_pick]
    have I6 := I5.laid (t' := s4.toks) (o := .lst xs.reverse) (h' := (s4.heap.push { cls := .type "slice", data := .fields #[vl, vu, vs] }).push { cls := .type "list", data := .seq its.reverse.toArray }) (fun b ob q => Heap.get?_push_of_some _ q) (Nat.le_refl _) ⟨by rw [List.length_reverse]; exact hz, _, 0, r.reverse, Heap.get?_push_size _ rfl⟩
    exact ⟨.ref _, _, I6, rfl, q _ (I5.hok.fresh (Nat.le_refl _)) (trK_of I6)⟩
  · subst ex
    cases r1
    obtain ⟨its, r, ht, hz⟩ := I5.tuple hx
    have hlen := r.length
    show wpAny (model X.prog X.w) X.A (PyProof.Rows.subscriptTail e (.Slice none none (some (.UnaryOp .USub (.Constant (.int 1) k p1) p2)) p3) (.ref a) (.ref s4.heap.objs.size)) (EP X pins σ Q) X.xe { s4 with heap := s4.heap.push { cls := .type "slice", data := .fields #[vl, vu, vs] } }
    refine PyProof.Rows.tail_any (ops := [.ref a, .ref s4.heap.objs.size]) ht.typeIs (PyProof.Rows.slot_tuple_getitem.lookup) ?_ (by with_unfolding_all rfl)
    refine getItem_tuple_rev ht (Heap.IsSliceOf.new _ vl vu vs) pl pu ps ?_ (by rw [List.size_toArray]; omega)
    refine ⟨.ref _, _, I5.laid (t' := s4.toks) (o := .tup xs.reverse) (fun b ob q => Heap.get?_push_of_some _ q) (Nat.le_refl _) ?_, rfl, q _ (I5.hok.fresh (Nat.le_refl _))⟩
    exact ⟨by rw [List.length_reverse]; exact hz, _, r.reverse, PyProof.Rows.IsTup.new _ _⟩
end
end MP
end
section
set_option maxRecDepth 100000
/-! EvH: readings of built-in functions. -/
namespace MP
open PySem L2

section
variable {X : Cx} {fa : Nat → Option Addr}
def rBt (K : PySem.W.Frag) (fa : Nat → Option Addr) (g : List D → Store → R D) : List V → Hp → VK → Prop := fun xs H Q => ∃ ρ S ds, Rel K fa ρ S H ∧ RpAll K fa H ρ xs ds ∧ Post K fa (rD K fa) ρ H Q (g ds S)
theorem rpAll1 {K : PySem.W.Frag} {H : Hp} {ρ : List Addr} {xs : List V} {d : D} (h : RpAll K fa H ρ xs [d]) : ∃ x, xs = [x] ∧ Rp K fa H ρ x d := by
  cases h with
  | cons a b => cases b; exact ⟨_, rfl, a⟩
theorem rpAll2 {K : PySem.W.Frag} {H : Hp} {ρ : List Addr} {xs : List V} {d e : D} (h : RpAll K fa H ρ xs [d, e]) : ∃ x y, xs = [x, y] ∧ Rp K fa H ρ x d ∧ Rp K fa H ρ y e := by
  cases h with
  | cons a b =>
    obtain ⟨y, rfl, h⟩ := rpAll1 b
    exact ⟨_, y, rfl, a, h⟩
theorem bt_len (m : Bool) : CallR X (.builtin "len") (rBt X.K fa (bt m .len)) := by
  intro pins s σ H xs us Q I r h
  obtain ⟨ρ, S, ds, rel, ra, h⟩ := h
  unfold bt at h
  split at h <;> try contradiction
  · obtain ⟨x, rfl, px⟩ := rpAll1 ra
    obtain ⟨rfl, z⟩ := rp_str px
    refine call_len pins s σ H _ us Q I r ⟨_, _, rfl, ⟨by show (List.toArray _).size ≤ _; simpa using z, rfl⟩, ?_⟩
    have := h.fin rel (.int _)
    simpa [Str.length] using this
  · obtain ⟨x, rfl, px⟩ := rpAll1 ra
    split at h
    · rename_i q
      obtain ⟨a, vs, rfl, hq, rv⟩ := sqOf_ok rel px q
      refine call_len pins s σ H _ us Q I r ⟨_, vs.length, rfl, ?_, by rw [rv.len]; exact h.fin rel (.int _)⟩
      rcases hq with hq | hq
      · exact .inl ⟨vs, hq, rfl⟩
      · exact .inr ⟨vs, hq, rfl⟩
    · exact h.elim
theorem boolsOf_ok {K : PySem.W.Frag} {H : Hp} {ρ : List Addr} : ∀ {ds : List D} {vs : List V} {bs : List Bool}, RpAll K fa H ρ vs ds → boolsOf ds = some bs → vs = bs.map V.bl
  | [], _, _, h, q => by cases h; cases q; rfl
  | d :: ds, _, bs, h, q => by
    cases h with
    | cons a b =>
      cases d <;> try (cases q; done)
      cases a
      cases e : boolsOf ds with
      | none => simp [boolsOf, e] at q
      | some cs =>
        simp [boolsOf, e] at q
        subst q
        rw [boolsOf_ok b e]
        rfl
theorem intsOf_ok {K : PySem.W.Frag} {H : Hp} {ρ : List Addr} : ∀ {ds : List D} {vs : List V} {bs : List Int}, RpAll K fa H ρ vs ds → intsOf ds = some bs → vs = bs.map V.int
  | [], _, _, h, q => by cases h; cases q; rfl
  | d :: ds, _, bs, h, q => by
    cases h with
    | cons a b =>
      cases d <;> try (cases q; done)
      cases a
      cases e : intsOf ds with
      | none => simp [intsOf, e] at q
      | some cs =>
        simp [intsOf, e] at q
        subst q
        rw [intsOf_ok b e]
        rfl
def mkS (x : List Nat) : Str := ⟨x.toArray⟩
theorem strsOf_ok {K : PySem.W.Frag} {H : Hp} {ρ : List Addr} : ∀ {ds : List D} {vs : List V} {bs : List (List Nat)}, RpAll K fa H ρ vs ds → strsOf ds = some bs → vs = (bs.map mkS).map V.str
  | [], _, _, h, q => by cases h; cases q; rfl
  | d :: ds, _, bs, h, q => by
    cases h with
    | cons a b =>
      cases d <;> try (cases q; done)
      obtain ⟨rfl, _⟩ := rp_str a
      cases e : strsOf ds with
      | none => simp [strsOf, e] at q
      | some cs =>
        simp [strsOf, e] at q
        subst q
        rw [strsOf_ok b e]
        rfl
theorem bt_all (m : Bool) (hc : X.calm = true) : CallR X (.builtin "all") (rBt X.K fa (bt m .all)) := by
  intro pins s σ H xs us Q I r h
  obtain ⟨ρ, S, ds, rel, ra, h⟩ := h
  unfold bt at h
  split at h <;> try contradiction
  obtain ⟨x, rfl, px⟩ := rpAll1 ra
  split at h
  · rename_i bs q
    obtain ⟨l, q1, q2⟩ := Option.bind_eq_some_iff.mp q
    obtain ⟨a, vs, rfl, hq, rv⟩ := lsOf_ok rel px q1
    have e := boolsOf_ok rv q2
    subst e
    exact cr_all hc pins s σ H _ us Q I r ⟨a, bs, rfl, .inl (.inl hq), h.fin rel (.bl _)⟩
  · exact h.elim
theorem bt_any (m : Bool) (hc : X.calm = true) : CallR X (.builtin "any") (rBt X.K fa (bt m .any)) := by
  intro pins s σ H xs us Q I r h
  obtain ⟨ρ, S, ds, rel, ra, h⟩ := h
  unfold bt at h
  split at h <;> try contradiction
  obtain ⟨x, rfl, px⟩ := rpAll1 ra
  split at h
  · rename_i bs q
    obtain ⟨l, q1, q2⟩ := Option.bind_eq_some_iff.mp q
    obtain ⟨a, vs, rfl, hq, rv⟩ := lsOf_ok rel px q1
    have e := boolsOf_ok rv q2
    subst e
    exact cr_any hc pins s σ H _ us Q I r ⟨a, bs, rfl, .inl (.inl hq), h.fin rel (.bl _)⟩
  · exact h.elim
theorem bt_sum (m : Bool) (hc : X.calm = true) : CallR X (.builtin "sum") (rBt X.K fa (bt m .sum)) := by
  intro pins s σ H xs us Q I r h
  obtain ⟨ρ, S, ds, rel, ra, h⟩ := h
  unfold bt at h
  split at h <;> try contradiction
  obtain ⟨x, rfl, px⟩ := rpAll1 ra
  split at h
  · rename_i bs q
    obtain ⟨l, q1, q2⟩ := Option.bind_eq_some_iff.mp q
    obtain ⟨a, vs, rfl, hq, rv⟩ := lsOf_ok rel px q1
    have e := intsOf_ok rv q2
    subst e
    exact cr_sum hc pins s σ H _ us Q I r ⟨a, bs, rfl, .inl (.inl hq), h.fin rel (.int _)⟩
  · exact h.elim
theorem foldl_max (ns : List Int) : ∀ (n : Int) (M : Int), M ∈ n :: ns → (∀ y ∈ n :: ns, y ≤ M) → ns.foldl max n = M := by
  induction ns with
  | nil => intro n M h1 _; simp at h1; simp [h1]
  | cons k ns ih =>
    intro n M h1 h2
    rw [List.foldl_cons]
    have hn := h2 n (by simp)
    have hk := h2 k (by simp)
    refine ih (max n k) M ?_ fun y hy => ?_
    · simp only [List.mem_cons] at h1 ⊢
      rcases h1 with rfl | rfl | h1
      · exact .inl (by omega)
      · exact .inl (by omega)
      · exact .inr h1
    · rcases List.mem_cons.mp hy with rfl | hy
      · omega
      · exact h2 y (by simp [hy])
theorem foldl_min (ns : List Int) : ∀ (n : Int) (M : Int), M ∈ n :: ns → (∀ y ∈ n :: ns, M ≤ y) → ns.foldl min n = M := by
  induction ns with
  | nil => intro n M h1 _; simp at h1; simp [h1]
  | cons k ns ih =>
    intro n M h1 h2
    rw [List.foldl_cons]
    have hn := h2 n (by simp)
    have hk := h2 k (by simp)
    refine ih (min n k) M ?_ fun y hy => ?_
    · simp only [List.mem_cons] at h1 ⊢
      rcases h1 with rfl | rfl | h1
      · exact .inl (by omega)
      · exact .inl (by omega)
      · exact .inr h1
    · rcases List.mem_cons.mp hy with rfl | hy
      · omega
      · exact h2 y (by simp [hy])
theorem bt_min2 (m : Bool) (hc : X.calm = true) : CallR X (.builtin "min") (rBt X.K fa (bt m .min2)) := by
  intro pins s σ H xs us Q I r h
  obtain ⟨ρ, S, ds, rel, ra, h⟩ := h
  unfold bt at h
  split at h <;> try contradiction
  · obtain ⟨x, y, rfl, px, py⟩ := rpAll2 ra
    cases px; cases py
    exact call_min2 hc pins s σ H _ us Q I r ⟨_, _, rfl, h.fin rel (.int _)⟩
  · obtain ⟨x, rfl, px⟩ := rpAll1 ra
    split at h
    · rename_i n ns q
      obtain ⟨l, q1, q2⟩ := Option.bind_eq_some_iff.mp q
      obtain ⟨a, vs, rfl, hq, rv⟩ := lsOf_ok rel px q1
      have e := intsOf_ok rv q2
      subst e
      exact cr_min hc pins s σ H _ us Q I r ⟨a, n :: ns, rfl, .inl (.inl hq), by simp, fun M h1 h2 => by
        rw [← foldl_min ns n M h1 h2]
        exact h.fin rel (.int _)⟩
    · exact h.elim
theorem bt_max2 (m : Bool) (hc : X.calm = true) : CallR X (.builtin "max") (rBt X.K fa (bt m .max2)) := by
  intro pins s σ H xs us Q I r h
  obtain ⟨ρ, S, ds, rel, ra, h⟩ := h
  unfold bt at h
  split at h <;> try contradiction
  · obtain ⟨x, y, rfl, px, py⟩ := rpAll2 ra
    cases px; cases py
    exact call_max2 hc pins s σ H _ us Q I r ⟨_, _, rfl, h.fin rel (.int _)⟩
  · obtain ⟨x, rfl, px⟩ := rpAll1 ra
    split at h
    · rename_i n ns q
      obtain ⟨l, q1, q2⟩ := Option.bind_eq_some_iff.mp q
      obtain ⟨a, vs, rfl, hq, rv⟩ := lsOf_ok rel px q1
      have e := intsOf_ok rv q2
      subst e
      exact cr_max hc pins s σ H _ us Q I r ⟨a, n :: ns, rfl, .inl (.inl hq), by simp, fun M h1 h2 => by
        rw [← foldl_max ns n M h1 h2]
        exact h.fin rel (.int _)⟩
    · exact h.elim
theorem bt_abs (m : Bool) : CallR X (.builtin "abs") (rBt X.K fa (bt m .abs)) := by
  intro pins s σ H xs us Q I r h
  obtain ⟨ρ, S, ds, rel, ra, h⟩ := h
  unfold bt at h
  split at h <;> try contradiction
  obtain ⟨x, rfl, px⟩ := rpAll1 ra
  cases px
  exact call_abs pins s σ H _ us Q I r ⟨_, rfl, h.fin rel (.int _)⟩
theorem bt_int (m : Bool) : CallR X (.type "int") (rBt X.K fa (bt m .int)) := by
  intro pins s σ H xs us Q I r h
  obtain ⟨ρ, S, ds, rel, ra, h⟩ := h
  unfold bt at h
  split at h <;> try contradiction
  · obtain ⟨x, rfl, px⟩ := rpAll1 ra
    cases px
    exact call_int1 pins s σ H _ us Q I r (.inl ⟨_, rfl, h.fin rel (.int _)⟩)
  · obtain ⟨x, rfl, px⟩ := rpAll1 ra
    cases px
    exact call_int1 pins s σ H _ us Q I r (.inr ⟨_, rfl, h.fin rel (.int _)⟩)
theorem bt_str (m : Bool) : CallR X (.type "str") (rBt X.K fa (bt m .str)) := by
  intro pins s σ H xs us Q I r h
  obtain ⟨ρ, S, ds, rel, ra, h⟩ := h
  unfold bt at h
  split at h <;> try contradiction
  · obtain ⟨c, h⟩ := mk_ok h
    obtain ⟨c1, c2⟩ := and_tt c
    obtain ⟨x, rfl, px⟩ := rpAll1 ra
    cases px
    refine call_str_int pins s σ H _ us Q I r ⟨_, rfl, bdec c1, ?_⟩
    have e : ∀ z : Str, z = ⟨z.cps.toList.toArray⟩ := fun z => by simp
    rw [e (toString _)]
    exact h.fin rel (.str _ (line_of (bdec c2)))
  · obtain ⟨x, rfl, px⟩ := rpAll1 ra
    obtain ⟨rfl, z⟩ := rp_str px
    exact SkE.call_str_str pins s σ H _ us Q I r ⟨_, rfl, h.fin rel px⟩
theorem rwOf_ok {K : PySem.W.Frag} {H : Hp} {ρ : List Addr} {S : Store} {d : D} {ds : List D} {v : V} (rel : Rel K fa ρ S H) (r : Rp K fa H ρ v d) (h : rwOf S d = some ds) : ∃ a vs, v = .ref a ∧ SqL K H a vs ∧ RpAll K fa H ρ vs ds := by
  cases r with
  | lst s m ra => cases h; exact ⟨_, _, rfl, .inl (.inl s), ra⟩
  | row s m ra => cases h; exact ⟨_, _, rfl, s, ra⟩
  | @ref n a e =>
    simp only [rwOf] at h
    cases q : S[n]? with
    | none => rw [q] at h; cases h
    | some c =>
      rw [q] at h
      cases c with
      | lst xs =>
        cases h
        obtain ⟨a', h1, vs, h2, h3⟩ := rel.at q
        rw [e] at h1; cases h1
        exact ⟨a, vs, rfl, .inl (.inl h2), h3⟩
      | dct es => cases h
  | _ => cases h
theorem bt_tuple (m : Bool) : CallR X (.type "tuple") (rBt X.K fa (bt m .tuple)) := by
  intro pins s σ H xs us Q I r h
  obtain ⟨ρ, S, ds, rel, ra, h⟩ := h
  unfold bt at h
  split at h <;> try contradiction
  · obtain ⟨x, rfl, px⟩ := rpAll1 ra
    obtain ⟨a, vs, rfl, s1, m1, r1⟩ := rp_tup px
    exact call_tuple_of pins s σ H _ us Q I r ⟨a, vs, rfl, .inr ⟨s1, h.fin rel px⟩⟩
  · obtain ⟨x, rfl, px⟩ := rpAll1 ra
    split at h
    · rename_i q
      obtain ⟨a, vs, rfl, hq, rv⟩ := rwOf_ok rel px q
      exact call_tuple_of pins s σ H _ us Q I r ⟨a, vs, rfl, .inl ⟨hq, fun p hp => mkT_ok rel rv hp h⟩⟩
    · exact h.elim
def charsV (x : List Nat) : List V := x.map fun c => .str ⟨#[c]⟩
theorem chars_rp {K : PySem.W.Frag} {H : Hp} {ρ : List Addr} : ∀ x : List Nat, RpAll K fa H ρ (charsV x) (chars x)
  | [] => .nil
  | c :: x => .cons (.str [c] (by show 1 ≤ sizeLine; rw [sizeLine_eq]; decide)) (chars_rp x)
theorem bt_list (m : Bool) (hc : X.calm = true) : CallR X (.type "list") (rBt X.K fa (bt m .list)) := by
  intro pins s σ H xs us Q I r h
  obtain ⟨ρ, S, ds, rel, ra, h⟩ := h
  unfold bt at h
  split at h <;> try contradiction
  · rename_i a _
    obtain ⟨x, rfl, px⟩ := rpAll1 ra
    obtain ⟨rfl, z⟩ := rp_str px
    obtain ⟨u, rfl, t, rfl⟩ := vals1 r
    refine call_list_str (I.ok.hd hc) ⟨a.toArray⟩ t (hn := by show a.toArray.size ≤ _; simpa using z) fun h' tk acc c hk e hi => ?_
    have hs : acc.size = a.length := by simpa using hi.1
    have rv : Vals (charsV a) acc.toList := by
      refine vals_of_at (by simp [charsV, hs]) fun j x u e1 e2 => ?_
      obtain ⟨c', t', h1, h2⟩ := hi.2 j u (by simpa using e2)
      subst h2
      have e3 : a[j]? = some c' := by simpa using h1
      simp [charsV, e3] at e1
      subst e1
      exact ⟨t', rfl⟩
    have hlen : (charsV a).length ≤ sizeLine := by simpa [charsV] using z
    have hn : H s.heap.objs.size = none := I.hok.fresh (Nat.le_refl _)
    have I1 : Inv X pins σ (upd H s.heap.objs.size (.lst (charsV a))) { s with heap := h', toks := tk } := I.laid hk (Nat.le_refl _) ⟨hlen, acc.toList, c, rv, by simpa using e⟩
    exact ⟨.ref _, _, I1, rfl, mkL_ok rel (chars_rp a) hn (trK_of I1) h⟩
  · obtain ⟨x, rfl, px⟩ := rpAll1 ra
    split at h
    · rename_i q
      obtain ⟨a, vs, rfl, hq, rv⟩ := sqOf_ok rel px q
      exact callr_tr call_list_of pins s σ H _ us Q I r ⟨a, vs, rfl, hq, fun p hp tr => mkL_ok rel rv hp tr h⟩
    · exact h.elim
theorem shown_mk (d : PyData) : d.shown = ⟨d.shown.cps.toList.toArray⟩ := by simp
theorem bt_repr (m : Bool) (ck : Cok X fa) : CallR X (.builtin "repr") (rBt X.K fa (bt m .repr)) := by
  intro pins s σ H xs us Q I r h
  obtain ⟨ρ, S, ds, rel, ra, h⟩ := h
  unfold bt at h
  split at h <;> try contradiction
  rename_i d _
  obtain ⟨c, h⟩ := mk_ok h
  obtain ⟨c1, c⟩ := and_tt c
  obtain ⟨c2, c⟩ := and_tt c
  obtain ⟨c3, c4⟩ := and_tt c
  obtain ⟨x, rfl, px⟩ := rpAll1 ra
  obtain ⟨u, rfl, ru⟩ := vals1 r
  have pv := view_ok rel px c1
  obtain ⟨as, q1, n1⟩ := Rp.reads I ck.sys _ _ _ pv ru c1
  have hz : (view S d).py.shown.length ≤ sizeLine := by
    have := bdec c4
    unfold D.shown at this
    exact line_of (by simpa [Str.length] using this)
  have fin : ∀ {pins : List (Addr × Obj)} {s' : Shared}, Inv X pins σ H s' → ∀ t, EP X pins σ Q (.str (view S d).py.shown t) s' := fun {pins s'} I' t => by
    refine ⟨.str (view S d).py.shown, H, I', ⟨t, rfl⟩, ?_⟩
    rw [shown_mk]
    exact h.fin rel (.str _ (line_of (bdec c4)))
  have hf := far_line ck (bdec c3)
  have c5 := py_deep (view S d)
  have q0 := q1
  generalize (view S d).py = w at *
  cases q1 with
  | none => exact PySem.P.repr_of_none (fin (I.tok _) _)
  | bool b => exact PySem.P.repr_of_bool (fin (I.tok _) _)
  | int i t => exact PySem.P.repr_of_int (by simpa [PyData.showable] using c2) (fin (I.tok _) _)
  | str y t => exact PySem.P.repr_of_str (fin (I.tok _) _) hz
  | list _ _ _ _ => exact repr_of_reads' q0 c2 (fun _ => n1) ck.gd (by rw [c5]; omega) (fun _ _ e => e) (fun h' u tk hk => fin (I.kept hk) u) hz
  | tuple _ _ _ _ => exact repr_of_reads' q0 c2 (fun _ => n1) ck.gd (by rw [c5]; omega) (fun _ _ e => e) (fun h' u tk hk => fin (I.kept hk) u) hz
  | dict _ _ _ _ _ => exact repr_of_reads' q0 c2 (fun _ => n1) ck.gd (by rw [c5]; omega) (fun _ _ e => e) (fun h' u tk hk => fin (I.kept hk) u) hz
end
end MP
end
section
set_option maxRecDepth 100000
/-! EvI: readings of sorted, isinstance, methods. -/
namespace MP
open PySem L2

section
variable {X : Cx} {fa : Nat → Option Addr}
theorem eachIs_of {α : Type} {R : Value → α → Prop} : ∀ {us : List Value} {bs : List α}, us.length = bs.length → (∀ (i : Nat) u b, us[i]? = some u → bs[i]? = some b → R u b) → W.EachIs R us bs
  | [], [], _, _ => .nil
  | [], _ :: _, h, _ => by simp at h
  | _ :: _, [], h, _ => by simp at h
  | u :: us, b :: bs, h, q => .cons (q 0 u b rfl rfl) (eachIs_of (by simpa using h) fun i x y e1 e2 => q (i + 1) x y (by simpa using e1) (by simpa using e2))
theorem eachIs_len {α : Type} {R : Value → α → Prop} : ∀ {us : List Value} {bs : List α}, W.EachIs R us bs → us.length = bs.length
  | _, _, .nil => rfl
  | _, _, .cons _ t => congrArg Nat.succ (eachIs_len t)
theorem each_vals {K : PySem.W.Frag} {H : Hp} {ρ : List Addr} : ∀ {us : List Value} {bs : List (V × D)}, W.EachIs (fun u b => RelV b.1 u ∧ Rp K fa H ρ b.1 b.2) us bs → Vals (bs.map Prod.fst) us ∧ RpAll K fa H ρ (bs.map Prod.fst) (bs.map Prod.snd)
  | _, _, .nil => ⟨.nil, .nil⟩
  | _, _, .cons h t => by
    obtain ⟨h1, h2⟩ := each_vals t
    exact ⟨.cons h.1 h1, .cons h.2 h2⟩
theorem deep_mem {d : D} : ∀ {xs : List D}, d ∈ xs → d.deep ≤ deepAll xs
  | x :: xs, h => by
    unfold deepAll
    rcases List.mem_cons.mp h with e | h
    · subst e; omega
    · have := deep_mem h; omega
theorem plain_mem {d : D} : ∀ {xs : List D}, plainAll xs = true → d ∈ xs → d.plain = true
  | x :: xs, hp, h => by
    obtain ⟨h1, h2⟩ := and_tt hp
    rcases List.mem_cons.mp h with e | h
    · subst e; exact h1
    · exact plain_mem h2 h
theorem zip_at {α β : Type} {vs : List α} {ds : List β} {i : Nat} {p : α × β} (h : (vs.zip ds)[i]? = some p) : vs[i]? = some p.1 ∧ ds[i]? = some p.2 := by
  rw [List.getElem?_zip_eq_some] at h
  exact h
theorem bt_sorted (m : Bool) (ck : Cok X fa) : CallR X (.builtin "sorted") (rBt X.K fa (bt m .sorted)) := by
  intro pins s σ H xs us Q I r h
  obtain ⟨ρ, S, ds, rel, ra, h⟩ := h
  unfold bt at h
  split at h <;> try contradiction
  obtain ⟨x, rfl, px⟩ := rpAll1 ra
  split at h
  · rename_i a q
    split at h
    · rename_i c
      obtain ⟨l, vs, rfl, hq, rv⟩ := lsOf_ok rel px q
      obtain ⟨u, rfl, rfl⟩ := vals1 r
      obtain ⟨c1, c⟩ := and_tt c
      obtain ⟨c2, c⟩ := and_tt c
      obtain ⟨c3, c4⟩ := and_tt c
      obtain ⟨hz, its, n, ri, e⟩ := I.hok _ _ hq
      have l1 := ri.length
      have l2 := rv.len
      have lz : (vs.zip a).length = its.length := by rw [List.length_zip]; omega
      have mem2 : ∀ p ∈ vs.zip a, p.2 ∈ a := fun p hp => (List.of_mem_zip hp).2
      have e0 : W.EachIs (fun u (b : V × D) => RelV b.1 u ∧ Rp X.K fa H ρ b.1 b.2) its (vs.zip a) := eachIs_of lz.symm fun i u b e1 e2 => by
        obtain ⟨h1, h2⟩ := zip_at e2
        obtain ⟨u', h3, h4⟩ := ri.get h1
        rw [e1] at h3; cases h3
        obtain ⟨v', h5, h6⟩ := rv.get h2
        rw [h1] at h5; cases h5
        exact ⟨h4, h6⟩
      have e1 : W.EachIs (fun u (b : V × D) => ∃ as, Reads s.heap u b.2.py as) its (vs.zip a) := eachIs_of lz.symm fun i u b q1 q2 => by
        obtain ⟨h1, h2⟩ := zip_at q2
        obtain ⟨u', h3, h4⟩ := ri.get h1
        rw [q1] at h3; cases h3
        obtain ⟨v', h5, h6⟩ := rv.get h2
        rw [h1] at h5; cases h5
        obtain ⟨as, q, _⟩ := Rp.reads I ck.sys _ _ _ h6 h4 (data_plain _ (plain_mem c1 (List.mem_of_getElem? h2)))
        exact ⟨as, q⟩
      have al : W.AllAlike ((vs.zip a).map fun b => b.2.py) := fun d hd d' hd' => by
        obtain ⟨b, hb, rfl⟩ := List.mem_map.mp hd
        obtain ⟨b', hb', rfl⟩ := List.mem_map.mp hd'
        have := List.all_eq_true.mp (List.all_eq_true.mp c2 _ (mem2 b hb)) _ (mem2 b' hb')
        exact this
      have so : W.Sortable ((vs.zip a).map fun b => b.2.py) := by
        rcases Bool.or_eq_true_iff.mp c3 with c3 | c3
        · refine .inl fun d hd => ?_
          obtain ⟨b, hb, rfl⟩ := List.mem_map.mp hd
          have := List.all_eq_true.mp c3 _ (mem2 b hb)
          cases hb2 : b.2 <;> rw [hb2] at this <;> try cases this
          rename_i l
          cases l with
          | nil => cases this
          | cons z zs => exact ⟨z.py, pyAll zs, rfl⟩
        · refine .inr fun d hd => ?_
          obtain ⟨b, hb, rfl⟩ := List.mem_map.mp hd
          have := List.all_eq_true.mp c3 _ (mem2 b hb)
          have hp := plain_mem c1 (mem2 b hb)
          cases hb2 : b.2 <;> rw [hb2] at this hp <;> first | (cases this; done) | (cases hp; done) | exact ⟨(fun z => by cases z), fun xs z => by cases z⟩
      refine W.sorted_data (enc := fun b : V × D => b.2.py) ⟨_, e, rfl, n, rfl⟩ e0 e1 al so (by rw [lz, ← l1]; exact hz) (fun b hb => ?_) fun out ho eo => ?_
      · have := far_line ck (bdec c4)
        have d1 := deep_mem (mem2 b hb)
        rw [py_deep]; omega
      · obtain ⟨h1, h2⟩ := each_vals eo
        have hm : ((vs.zip a).mergeSort (W.dataLe false fun b : V × D => b.2.py)).map Prod.snd = sortL a := by
          have z := List.map_mergeSort (r := W.dataLe false fun b : V × D => b.2.py) (s := W.dataLe false D.py) (f := Prod.snd) (l := vs.zip a) (fun _ _ _ _ => rfl)
          rw [List.map_snd_zip (by omega)] at z
          exact z
        rw [hm] at h2
        obtain ⟨ep, he'⟩ := PyProof.Rows.sortedAll_at s.heap its out.toArray
        have hn : H (s.heap.objs.size + 1) = none := I.hok.fresh (Nat.le_succ _)
        have hlen : (((vs.zip a).mergeSort (W.dataLe false fun b : V × D => b.2.py)).map Prod.fst).length ≤ sizeLine := by
          rw [List.length_map, List.length_mergeSort, lz, ← l1]; exact hz
        have I1 : Inv X pins σ (upd H (s.heap.objs.size + 1) (.lst _)) { s with heap := PyProof.Rows.sortedAll s.heap its out.toArray } := I.laid (t' := s.toks) (fun _ _ => PyProof.Rows.sortedAll_old) (Nat.le_succ _) ⟨hlen, out, ep, h1, he'⟩
        exact ⟨.ref _, _, I1, rfl, mkL_ok rel h2 hn (trK_of I1) h⟩
    · exact h.elim
  · exact h.elim

/-! ### isinstance -/
def tyStr : Ty → String
  | .str => "str"
  | .int => "int"
  | .bool => "bool"
  | .tuple => "tuple"
  | .list => "list"
  | .dict => "dict"
theorem kit_all (a b : Ty) : kitB (tyStr a) (tyStr b) = some (subTy a b) := by
  cases a <;> cases b <;> decide +kernel
theorem kit_none (b : Ty) : kitB "NoneType" (tyStr b) = some false := by
  cases b <;> decide +kernel
theorem isi_ok {K : PySem.W.Frag} {H : Hp} {ρ : List Addr} {S : Store} {d : D} {v : V} {t : Ty} {b : Bool} (rel : Rel K fa ρ S H) (r : Rp K fa H ρ v d) (h : isiB S d t = some b) : ∃ a, TyX K H v a ∧ PySem.W.kitOne K a (.type (tyStr t)) = some b := by
  have base : ∀ {T : Ty} {b : Bool}, TyX K H v (.type (tyStr T)) → (tyOf S d).map (fun a => subTy a t) = some b → tyOf S d = some T → ∃ a, TyX K H v a ∧ PySem.W.kitOne K a (.type (tyStr t)) = some b := fun {T b} ty e1 e2 => by
    rw [e2] at e1
    have e3 : subTy T t = b := by simpa using e1
    refine ⟨_, ty, kit_ty ?_⟩
    rw [← e3]
    exact kit_all T t
  cases r with
  | non => cases h; exact ⟨_, .base .non, kit_ty (kit_none t)⟩
  | bl b => exact base (T := .bool) (.base (.bl _)) h rfl
  | int i => exact base (T := .int) (.base (.int _)) h rfl
  | str x z => exact base (T := .str) (.base (.str _)) h rfl
  | lst s m ra => exact base (T := .list) (.base (.lst s)) h rfl
  | tup s m ra =>
    refine base (T := .tuple) ?_ h rfl
    rcases s with (s | ⟨o, s⟩) | ⟨o, its, n, hk, hc, _⟩
    · exact .base (.tup s)
    · exact .fTuple s
    · exact .kTuple hk hc
  | dct s m ra => exact base (T := .dict) (.base (.dK s)) h rfl
  | fn _ => cases h
  | row _ _ _ => cases h
  | tab _ _ => cases h
  | @ref n a e =>
    cases q : S[n]? with
    | none => simp [isiB, tyOf, q] at h
    | some c =>
      obtain ⟨a', h1, h2⟩ := rel.at q
      rw [e] at h1; cases h1
      cases c with
      | lst xs =>
        obtain ⟨vs, h2, h3⟩ := h2
        exact base (T := .list) (.base (.lst h2)) h (by simp [tyOf, q])
      | dct es =>
        obtain ⟨ks, h2, h3⟩ := h2
        exact base (T := .dict) (.base (.dK h2)) h (by simp [tyOf, q])
end
end MP
end
section
set_option maxRecDepth 100000
/-! EvIb: count, remove: rules by values. -/
namespace MP
open PySem L2 PySem.Spec PyProof.Rows
section
variable {X : Cx}
theorem countP_eqU {x : V} : ∀ {xs : List V} {us : List Value}, Vals xs us → xs.all flatV = true → us.countP (eqU x) = xs.countP fun y => eqV y x
  | _, _, .nil, _ => rfl
  | y :: xs, u :: us, .cons r t, f => by
    rw [List.all_cons, Bool.and_eq_true] at f
    rw [List.countP_cons, List.countP_cons, eqU_of r f.1, countP_eqU t f.2]
def rCount (P : Hp → Addr → List V → Prop) : V → List V → Hp → VK → Prop := fun x xs H Q => ∃ (a : Addr) (ys : List V) (y : V), x = V.ref a ∧ xs = [y] ∧ P H a ys ∧ flatV y = true ∧ ys.all flatV = true ∧ Q (.int ((ys.countP fun z => eqV z y : Nat) : Int)) H
theorem mt_count : MtR X "list.count" (rCount (SqL X.K)) := by
  intro pins s σ H x xs v us Q I rx rxs h
  obtain ⟨a, ys, y, rfl, rfl, hs, fy, fys, q⟩ := h
  cases rx
  cases rxs with
  | cons ry rt =>
    rename_i uy ut
    cases rt
    obtain ⟨its, rv, ⟨⟨cls, dd, data, sl⟩, n, ho, hc, hdn, hd⟩, hlen⟩ := I.list hs
    simp only at hc hd
    subst hc hd
    refine call_meets PySem.F.slot_list_count ⟨_, ho, rfl⟩ PySem.F.entry_list_count (PySem.F.args_list_count_2 _ _)
      (SeqAt.list_countAt a its.toArray n dd sl uy (eqU y)) ⟨ho, fun u' hu' => mem_eqAt ry fy rv fys u' (by simpa using hu'), ?_⟩
    refine ⟨.int ((ys.countP fun z => eqV z y : Nat) : Int), H, I.tok _, ⟨s.toks, ?_⟩, q⟩
    show Value.int ((its.toArray.toList.countP (eqU y) : Nat) : Int) s.toks = _
    rw [← countP_eqU rv fys]
theorem mt_tcount : MtR X "tuple.count" (rCount (SqT X.K)) := by
  intro pins s σ H x xs v us Q I rx rxs h
  obtain ⟨a, ys, y, rfl, rfl, hs, fy, fys, q⟩ := h
  cases rx
  cases rxs with
  | cons ry rt =>
    rename_i uy ut
    cases rt
    obtain ⟨its, r, pl, hz⟩ := I.tuple hs
    obtain ⟨⟨cls, dd, dt, sl⟩, ho, hc, n, hd⟩ := pl
    simp only at hc hd
    subst hc hd
    refine call_meets PySem.F.slot_tuple_count ⟨_, ho, rfl⟩ PySem.F.entry_tuple_count (PySem.F.args_tuple_count_2 _ _)
      (SeqAt.tuple_countAt a its.toArray n dd sl uy (eqU y)) ⟨ho, fun u' hu' => mem_eqAt ry fy r fys u' (by simpa using hu'), ?_⟩
    refine ⟨.int ((ys.countP fun z => eqV z y : Nat) : Int), H, I.tok _, ⟨s.toks, ?_⟩, q⟩
    show Value.int ((its.toArray.toList.countP (eqU y) : Nat) : Int) s.toks = _
    rw [← countP_eqU r fys]
def eqS (k : PySem.Str) (v : Value) : Bool := match v with
  | .str n _ => n.cps.toList == k.cps.toList
  | _ => false
def rRemS : V → List V → Hp → VK → Prop := fun x xs H Q => ∃ (l : Addr) (ys : List PySem.Str) (k : PySem.Str) (j : Nat), x = .ref l ∧ xs = [.str k] ∧ H l = some (.lst (ys.map V.str)) ∧ ys[j]? = some k ∧ (∀ m : Nat, m < j → ys[m]? ≠ some k) ∧ Q .non (upd H l (.lst ((ys.map V.str).eraseIdx j)))
theorem mt_removeS : MtM X "list.remove" rRemS := by
  intro pins s σ H x xs v us Q I rx rxs h
  obtain ⟨l, ys, k, j, rfl, rfl, hH, hj, hno, q⟩ := h
  cases rx
  obtain ⟨u, rfl, ru⟩ := rxs.one
  obtain ⟨t, rfl⟩ := ru
  obtain ⟨z, its, n, r, hl, e⟩ := I.lstM hH
  rw [List.length_map] at hl z
  have hjn : j < ys.length := (List.getElem?_eq_some_iff.mp hj).1
  have at' : ∀ (m : Nat) (hm : m < its.toArray.size), ∃ y t', ys[m]? = some y ∧ its.toArray[m] = Value.str y t' := fun m hm => by
    have hm' : m < ys.length := by rw [List.size_toArray] at hm; omega
    obtain ⟨w, hw, t', hw'⟩ := r.get (i := m) (x := .str ys[m]) (by simp [hm'])
    refine ⟨ys[m], t', List.getElem?_eq_getElem hm', ?_⟩
    have e := (List.getElem?_eq_some_iff.mp hw).2
    rw [← hw', ← e]
    simp
  have hjl : j < its.toArray.size := by rw [List.size_toArray]; omega
  have eqn : ∀ {y : PySem.Str} {t' : Tok}, its.toArray.toList.all (fun v => true) = true → (eqS k (.str y t') = true ↔ y = k) := fun {y t'} _ => by
    simp only [eqS, beq_iff_eq]
    exact ⟨fun h => TL.ext_tl h, fun h => by rw [h]⟩
  refine call_meets PySem.F.slot_list_remove ⟨_, e, rfl⟩ PySem.F.entry_list_remove (PySem.F.args_list_remove_2 _ _)
    (MeetsSeq.list_remove l its.toArray n (.str k t) (eqS k) (fun y hy => ?_) j hjl ?_ ?_ (by rw [List.size_toArray]; omega)) ⟨e, ?_⟩
  · obtain ⟨m, hm, rfl⟩ := Array.mem_iff_getElem.mp hy
    obtain ⟨y, t', _, h2⟩ := at' m hm
    rw [h2]
    exact SeqRoads2.EqGives.str y k t' t
  · obtain ⟨y, t', h1, h2⟩ := at' j hjl
    rw [h2]
    rw [hj] at h1
    cases h1
    exact (eqn (by simp)).mpr rfl
  · intro m hm hmj
    obtain ⟨y, t', h1, h2⟩ := at' m hm
    rw [h2]
    cases c : eqS k (.str y t') with
    | false => rfl
    | true => exact absurd (by rw [h1, (eqn (by simp)).mp c]) (hno m hmj)
  · refine ⟨.non, _, I.lset (its' := its.eraseIdx j) (t' := s.toks) hH e ?_ (r.eraseIdx j) ?_, rfl, q⟩
    · show its.toArray.eraseIdxIfInBounds j = (its.eraseIdx j).toArray
      rw [List.eraseIdxIfInBounds_toArray]
    · have z2 := len_erase (ys.map V.str) j
      rw [List.length_map] at z2
      omega
end
end MP
namespace MP
open PySem L2
open AutoSeq1 in
theorem list_extend_tupE (l : Addr) (items : Array Value) (n : Nat) (b : Addr) (items2 : Array Value) (n2 : Nat) (dd : Option Addr) (sl : Array (Option Value)) (hs0 : ¬(!items.isEmpty && Builtin.List.listTooLong (items.size + items2.size)) = true) (hs1 : items.size ≤ sizeLine) (hs2 : items.size + items2.size ≤ sizeLine + 1) :
    Meets (Builtin.«list.extend» ⟨[.ref l, .ref b], []⟩) (fun _ R s => s.heap.get? l = some { cls := .type "list", dict := none, data := .seq items n, slots := #[] } ∧ s.heap.get? b = some { cls := .type "tuple", dict := dd, data := .seq items2 n2, slots := sl } ∧ R (.ok (.ret Value.none)) { s with heap := s.heap.update l (Obj.mapSeq fun x => x ++ items2), toks := s.toks }) :=
  .of_wp fun prog w A R s h => by
    obtain ⟨hp, g, d, tk, os⟩ := s; obtain ⟨hl, hb, h⟩ := h; have f1 := idx_int; have f2 := sub_tuple_tuple; have f3 := sub_list_list; have f4 := sub_tuple_list; have f5 := sub_list_tuple;
    have hz' : (items ++ items2).size ≤ sizeLine + 1 := by rw [Array.size_append]; exact hs2
    wp_walk using (wpAny_updateSeq hl rfl (hz := hs1) (_hz' := hz')), wpAny_loadPart' hl, wpAny_loadPart' hb; exact ⟨_, rfl, h⟩
def rExtT (K : PySem.W.Frag) : V → List V → Hp → VK → Prop := fun x vs H Q => ∃ l b xs zs, x = .ref l ∧ vs = [.ref b] ∧ H l = some (.lst xs) ∧ SqT K H b zs ∧ xs.length + zs.length ≤ sizeLine ∧ Q .non (upd H l (.lst (xs ++ zs)))
theorem mt_extendT {X : Cx} : MtM X "list.extend" (rExtT X.K) := by
  intro pins s σ H x vs v us Q I rx rv h
  obtain ⟨l, b, xs, zs, rfl, rfl, hH, hB, hz, q⟩ := h
  cases rx
  obtain ⟨u, rfl, ru⟩ := rv.one
  cases ru
  obtain ⟨z, its, n, r, hl, e⟩ := I.lstM hH
  obtain ⟨its2, r2, ⟨o2, e2, c2, n2, d2⟩, z2⟩ := I.tuple hB
  have hl2 := r2.length
  have hsz : its.toArray.size + its2.toArray.size ≤ sizeLine := by rw [List.size_toArray, List.size_toArray]; omega
  have hlong : ¬ (!its.toArray.isEmpty && Builtin.List.listTooLong (its.toArray.size + its2.toArray.size)) = true := by
    rw [notLongL hsz, Bool.and_false]
    exact Bool.false_ne_true
  obtain ⟨cls, dd, dat, sl⟩ := o2
  obtain rfl : cls = .type "tuple" := c2
  obtain rfl : dat = .seq its2.toArray n2 := d2
  refine call_meets PySem.F.slot_list_extend ⟨_, e, rfl⟩ PySem.F.entry_list_extend (PySem.F.args_list_extend_2 _ _)
    (list_extend_tupE l its.toArray n b its2.toArray n2 dd sl hlong (by rw [List.size_toArray]; omega) (by omega)) ⟨e, e2, ?_⟩
  refine ⟨.non, _, I.lset (its' := its ++ its2) hH e (by simp) (r.append r2) ?_, rfl, q⟩
  rw [List.length_append]
  omega
end MP
end
section
set_option maxRecDepth 100000
/-! EvJ: readings of methods. -/
namespace MP
open PySem L2

section
variable {X : Cx} {fa : Nat → Option Addr}
def rMt (K : PySem.W.Frag) (fa : Nat → Option Addr) (g : D → List D → Store → R D) : V → List V → Hp → VK → Prop := fun x xs H Q => ∃ ρ S d ds, Rel K fa ρ S H ∧ Rp K fa H ρ x d ∧ RpAll K fa H ρ xs ds ∧ Post K fa (rD K fa) ρ H Q (g d ds S)
def mtTy : Mt → String
  | .join => "str"
  | .upper => "str"
  | .get => "dict"
  | .split => "str"
  | _ => "list"
def mtNm : Mt → Str
  | .append => "append"
  | .extend => "extend"
  | .pop => "pop"
  | .popAt => "pop"
  | .join => "join"
  | .upper => "upper"
  | .index => "index"
  | .get => "get"
  | .split => "split"
  | .count => "count"
  | .remove => "remove"
  | .insert => "insert"
def mtId : Mt → String
  | .append => "list.append"
  | .extend => "list.extend"
  | .pop => "list.pop"
  | .popAt => "list.pop"
  | .join => "str.join"
  | .upper => "str.upper"
  | .index => "list.index"
  | .get => "dict.get"
  | .split => "str.split"
  | .count => "list.count"
  | .remove => "list.remove"
  | .insert => "list.insert"
theorem mt_slot (f : Mt) : Slot (mtTy f) (mtNm f) (mtId f) := by
  cases f
  · exact F.slot_list_append
  · exact F.slot_list_extend
  · exact F.slot_list_pop
  · exact F.slot_list_pop
  · exact F.slot_str_join
  · exact F.slot_str_upper
  · exact F.slot_list_index
  · exact F.slot_dict_get
  · exact F.slot_str_split
  · exact F.slot_list_count
  · exact F.slot_list_remove
  · exact F.slot_list_insert
theorem mt_type (f : Mt) : typeOf (.builtin (mtId f)) = pure (.type "method_descriptor") := by
  cases f
  · exact F.type_list_append
  · exact F.type_list_extend
  · exact F.type_list_pop
  · exact F.type_list_pop
  · exact F.type_str_join
  · exact F.type_str_upper
  · exact F.type_list_index
  · exact F.type_dict_get
  · exact F.type_str_split
  · exact F.type_list_count
  · exact F.type_list_remove
  · exact F.type_list_insert
theorem mt_attrs (f : Mt) : PlainAttrs (mtTy f) := by
  cases f <;> first | exact F.plainAttrs_list | exact F.plainAttrs_str | exact F.plainAttrs_dict
/-- a cell's list -/
theorem cell_list {K : PySem.W.Frag} {H : Hp} {ρ : List Addr} {S : Store} {n : Nat} {a : List D} {x : V} (rel : Rel K fa ρ S H) (px : Rp K fa H ρ x (.ref n)) (q : S[n]? = some (.lst a)) :
    ∃ p vs, x = .ref p ∧ ρ[n]? = some p ∧ H p = some (.lst vs) ∧ RpAll K fa H ρ vs a := by
  cases px with
  | ref e =>
    obtain ⟨a', h1, vs, h2, h3⟩ := rel.at q
    rw [e] at h1; cases h1
    exact ⟨_, vs, rfl, e, h2, h3⟩
/-- a cell's list is another -/
theorem Post.write {K : PySem.W.Frag} {H : Hp} {ρ : List Addr} {S : Store} {n : Nat} {p : Addr} {vs : List V} {ds : List D} {Q : VK} {d : D} {v : V} (h : Post K fa (rD K fa) ρ H Q (.ok d (S.set n (.lst ds)))) (rel : Rel K fa ρ S H) (hp : ρ[n]? = some p)
    (rv : RpAll K fa H ρ vs ds) (r : Rp K fa H ρ v d) : Q v (upd H p (.lst vs)) := by
  have pm : p ∈ ρ := List.mem_of_getElem? hp
  have e := Ext.set (H := H) (o := .lst vs) pm
  exact h ρ _ v e (rel.set hp ⟨vs, upd_same, rv.ext e rel.clear⟩) (r.ext e rel.clear)
theorem flat_rp {K : PySem.W.Frag} {H : Hp} {ρ : List Addr} {v : V} {d : D} (h : Rp K fa H ρ v d) (f : isFlat d = true) : flatV v = true := by
  cases h <;> first | rfl | cases f
theorem eq_rp {K : PySem.W.Frag} {H : Hp} {ρ : List Addr} {v w : V} {d e : D} (h : Rp K fa H ρ v d) (h' : Rp K fa H ρ w e) (f : isFlat d = true) (f' : isFlat e = true) : eqV v w = d.eqv e := by
  cases h <;> first | (cases f; done) | (cases h' <;> first | (cases f'; done) | (simp [eqV, D.eqv, D.py, PyData.eqv]; done) | rfl)
theorem flat_all {K : PySem.W.Frag} {H : Hp} {ρ : List Addr} : ∀ {ds : List D} {vs : List V}, RpAll K fa H ρ vs ds → ds.all isFlat = true → vs.all flatV = true
  | [], _, h, _ => by cases h; rfl
  | d :: ds, _, h, q => by
    cases h with
    | cons a b =>
      rw [List.all_cons, Bool.and_eq_true] at q
      rw [List.all_cons, flat_rp a q.1, flat_all b q.2]
      rfl
theorem count_rp {K : PySem.W.Frag} {H : Hp} {ρ : List Addr} {w : V} {e : D} (h' : Rp K fa H ρ w e) (f' : isFlat e = true) : ∀ {ds : List D} {vs : List V}, RpAll K fa H ρ vs ds → ds.all isFlat = true → (vs.countP fun z => eqV z w) = ds.countP fun d => d.eqv e
  | [], _, h, _ => by cases h; rfl
  | d :: ds, _, h, q => by
    cases h with
    | cons a b =>
      rw [List.all_cons, Bool.and_eq_true] at q
      rw [List.countP_cons, List.countP_cons, count_rp h' f' b q.2, eq_rp a h' q.1 f']
theorem join_txt (a : List Nat) : ∀ ss : List (List Nat), Str.join ⟨a.toArray⟩ (ss.map mkS) = ⟨(joinL a ss).toArray⟩
  | [] => rfl
  | [x] => rfl
  | x :: y :: r => by
    have ih := join_txt a (y :: r)
    show mkS x ++ (⟨a.toArray⟩ : Str) ++ Str.join ⟨a.toArray⟩ ((y :: r).map mkS) = _
    rw [ih]
    show mkS x ++ (⟨a.toArray⟩ : Str) ++ (⟨_⟩ : Str) = _
    unfold mkS
    rw [str_app, str_app, List.append_assoc]
    rfl
theorem join_len (a : List Nat) : ∀ ss : List (List Nat), ((ss.map mkS).map (·.length)).sum + ss.length * a.length ≤ (joinL a ss).length + a.length
  | [] => by simp
  | [x] => by simp [joinL, mkS, Str.length]
  | x :: y :: r => by
    have ih := join_len a (y :: r)
    simp only [List.map_cons, List.sum_cons, List.length_cons, joinL, List.length_append, mkS, Str.length, List.size_toArray] at ih ⊢
    rw [Nat.succ_mul]
    omega
theorem find_at (x : D) : ∀ {xs : List D} {j : Nat}, findD x xs = some j → (∃ z, xs[j]? = some z ∧ z.eqv x = true) ∧ ∀ (m : Nat) (z : D), m < j → xs[m]? = some z → z.eqv x = false := by
  intro xs j h
  unfold findD at h
  rw [List.findIdx?_eq_some_iff_getElem] at h
  obtain ⟨h1, h2, h3⟩ := h
  refine ⟨⟨xs[j], by simp [h1], h2⟩, fun m z hm e => ?_⟩
  obtain ⟨h4, h5⟩ := List.getElem?_eq_some_iff.mp e
  have := h3 m hm
  rw [h5] at this
  simpa using this
theorem up_fin {K : PySem.W.Frag} {H : Hp} {ρ : List Addr} {S : Store} {Q : VK} {x : List Nat} (h : Post K fa (rD K fa) ρ H Q (.ok (.str (upText x)) S)) (rel : Rel K fa ρ S H) (c : x.length ≤ most) : Q (.str (Txt.upper ⟨x.toArray⟩)) H := by
  have e : Txt.upper (⟨x.toArray⟩ : Str) = ⟨(upText x).toArray⟩ := by unfold upText; rw [Array.toArray_toList]
  have h2 := PyProof.Rows.len_upper ⟨x.toArray⟩
  rw [e] at h2 ⊢
  refine h.fin rel (.str _ ?_)
  simp only [Str.length, List.size_toArray] at h2
  rw [sizeLine_eq]
  unfold most at c
  omega
/-- d.get of a written dict -/
theorem kd_get {d : Addr} {es : Array DictEntry} {n : Nat} (D : KDict X.K X.w d es n) {pins : List (Addr × Obj)} {s : Shared} {σ : St} {H : Hp} {z : Str} {r : Option Value} {t : Tok} (I : L2.Inv X pins σ H s) (e : PySem.W.nsIn X.K d z = some r) {Q : Value → Shared → Prop}
    (q : Q (r.getD .none) { s with toks := s.toks + 1 }) : wpAny (model X.prog X.w) X.A (PySem.call (.builtin "dict.get") [.ref d, .str z t]) Q X.xe s := by
  have hm := PySem.W.mapOf_K (prog := X.prog) (w := X.w) I.kIn D.at_ D.lit
  refine PySem.call_meetsIn PySem.F.slot_dict_get hm.typeIs PySem.F.entry_dict_get (PySem.F.args_dict_get_2 _ _) (PySem.meets_dict_get (PySem.strKind X.prog X.w) d (PySem.strKind_is X.prog X.w z t) D.low) ⟨_, hm, ?_⟩
  rw [PySem.W.find_K D.at_ e]
  exact q
theorem kd_get2 {d : Addr} {es : Array DictEntry} {n : Nat} (D : KDict X.K X.w d es n) {pins : List (Addr × Obj)} {s : Shared} {σ : St} {H : Hp} {z : Str} {r : Option Value} {t : Tok} {v : Value} (I : L2.Inv X pins σ H s) (e : PySem.W.nsIn X.K d z = some r) {Q : Value → Shared → Prop}
    (q : Q (r.getD v) { s with toks := s.toks + 1 }) : wpAny (model X.prog X.w) X.A (PySem.call (.builtin "dict.get") [.ref d, .str z t, v]) Q X.xe s := by
  have hm := PySem.W.mapOf_K (prog := X.prog) (w := X.w) I.kIn D.at_ D.lit
  refine PySem.call_meetsIn PySem.F.slot_dict_get hm.typeIs PySem.F.entry_dict_get (PySem.F.args_dict_get_3 _ _ _) (PySem.meets_dict_get_default (PySem.strKind X.prog X.w) d (PySem.strKind_is X.prog X.w z t) D.low v) ⟨_, hm, ?_⟩
  rw [PySem.W.find_K D.at_ e]
  exact q
theorem mt_rule (ck : Cok X fa) (f : Mt) : MtR X (mtId f) (rMt X.K fa (mt f)) := by
  intro pins s σ H x xs v us Q I rx rxs h
  obtain ⟨ρ, S, d, ds, rel, px, ra, h⟩ := h
  unfold mt at h
  split at h
  · -- append
    obtain ⟨y, rfl, py⟩ := rpAll1 ra
    split at h
    · rename_i a q
      split at h
      · rename_i c
        obtain ⟨p, vs, rfl, hp, hq, rv⟩ := cell_list rel px q
        refine L2.mt_append pins s σ H _ _ v us Q I rx rxs ⟨p, vs, y, rfl, rfl, hq, ?_, ?_⟩
        · rw [rv.len]; exact Nat.lt_of_lt_of_le (bdec c) most_line
        · exact h.write rel hp (rv.append (.cons py .nil)) .non
      · exact h.elim
    · exact h.elim
  · -- extend
    obtain ⟨y, rfl, py⟩ := rpAll1 ra
    split at h
    · rename_i a b q q2
      split at h
      · rename_i c
        obtain ⟨p, vs, rfl, hp, hq, rv⟩ := cell_list rel px q
        unfold exOf at q2
        split at q2
        · cases q2
          cases py with
          | tup hs hn rw2 =>
            refine mt_extendT pins s σ H _ _ v us Q I rx rxs ⟨p, _, vs, _, rfl, rfl, hq, hs, ?_, ?_⟩
            · rw [rv.len, rw2.len]; exact line_of (bdec c)
            · exact h.write rel hp (rv.append rw2) .non
        · obtain ⟨p2, ws, rfl, hq2, rw2⟩ := lsOf_ok rel py q2
          refine L2.mt_extend pins s σ H _ _ v us Q I rx rxs ⟨p, p2, vs, ws, rfl, rfl, hq, hq2, ?_, ?_⟩
          · rw [rv.len, rw2.len]; exact line_of (bdec c)
          · exact h.write rel hp (rv.append rw2) .non
      · exact h.elim
    · exact h.elim
  · -- pop
    cases ra
    split at h
    · rename_i a q
      split at h
      · rename_i y q2
        obtain ⟨p, vs, rfl, hp, hq, rv⟩ := cell_list rel px q
        obtain ⟨w, h1, h2⟩ := rv.get q2
        exact L2.mt_pop pins s σ H _ _ v us Q I rx rxs ⟨p, vs, w, rfl, rfl, hq, by rw [rv.len]; exact h1, h.write rel hp rv.dropLast h2⟩
      · exact h.elim
    · exact h.elim
  · -- pop(i)
    obtain ⟨y, rfl, py⟩ := rpAll1 ra
    obtain rfl := rp_int py
    split at h
    · rename_i a q
      split at h
      · rename_i k q1
        split at h
        · rename_i y q2
          obtain ⟨p, vs, rfl, hp, hq, rv⟩ := cell_list rel px q
          obtain ⟨w, h1, h2⟩ := rv.get q2
          obtain ⟨e1, e2, e3, e4⟩ := ixN_seq (n := a.length) (show L2.ixN a.length _ = some k from q1)
          have hz := (I.hok _ _ hq).1
          have hz2 := sizeLine_eq
          have hz3 := rv.len
          exact L2.mt_popAt pins s σ H _ _ v us Q I rx rxs ⟨p, vs, _, k, w, rfl, rfl, hq, by omega, by omega, by rw [hz3]; exact e1, h1, h.write rel hp (rv.eraseIdx k) h2⟩
        · exact h.elim
      · exact h.elim
    · exact h.elim
  · -- join
    obtain ⟨y, rfl, py⟩ := rpAll1 ra
    obtain ⟨rfl, z⟩ := rp_str px
    split at h
    · rename_i ss q
      obtain ⟨l, q1, q2⟩ := Option.bind_eq_some_iff.mp q
      obtain ⟨c, h⟩ := mk_ok h
      obtain ⟨c1, c2⟩ := and_tt c
      obtain ⟨p, vs, rfl, hq, rv⟩ := lsOf_ok rel py q1
      have e := strsOf_ok rv q2
      subst e
      refine L2.mt_join pins s σ H _ _ v us Q I rx rxs ⟨_, p, ss.map mkS, rfl, rfl, .inl (.inl (.inl hq)), ?_, ?_⟩
      · have h1 := join_len (by assumption) ss
        have h2 := bdec c1
        have h3 := bdec c2
        unfold most at h2 h3
        simp only [List.length_map, Str.length, List.size_toArray] at h1 ⊢
        omega
      · rw [TL.join_eq, join_txt]
        exact h.fin rel (.str _ (line_of (bdec c2)))
    · exact h.elim
  · -- upper
    cases ra
    obtain ⟨rfl, z⟩ := rp_str px
    obtain ⟨c, h⟩ := mk_ok h
    have c := bdec c
    refine L2.mt_upper pins s σ H _ _ v us Q I rx rxs ⟨_, rfl, rfl, ?_, ?_⟩
    · show (List.toArray _).size ≤ _
      rw [List.size_toArray]
      exact Nat.le_trans c (by decide)
    · exact up_fin h rel c
  · -- index
    obtain ⟨y, rfl, py⟩ := rpAll1 ra
    split at h
    · rename_i a q
      split at h
      · rename_i c
        obtain ⟨c1, c2⟩ := and_tt c
        split at h
        · rename_i j q2
          obtain ⟨p, vs, rfl, hq, rv⟩ := lsOf_ok rel px q
          obtain ⟨⟨z, z1, z2⟩, z3⟩ := find_at _ q2
          obtain ⟨w, w1, w2⟩ := rv.get z1
          have fl : ∀ {i : Nat} {e : D}, a[i]? = some e → isFlat e = true := fun e => List.all_eq_true.mp c2 _ (List.mem_of_getElem? e)
          refine L2.mt_index pins s σ H _ _ v us Q I rx rxs ⟨p, vs, y, j, w, rfl, rfl, .inl (.inl hq), flat_rp py c1, flat_all rv c2, w1, by rw [eq_rp w2 py (fl z1) c1]; exact z2, fun m z' hm e => ?_, h.fin rel (.int _)⟩
          obtain ⟨d', e1, e2⟩ := rv.get' e
          rw [eq_rp e2 py (fl e1) c1]
          exact z3 m d' hm e1
        · exact h.elim
      · exact h.elim
    · exact h.elim
  · -- split
    rename_i a b
    obtain ⟨y, rfl, py⟩ := rpAll1 ra
    obtain ⟨rfl, z⟩ := rp_str px
    obtain ⟨rfl, z2⟩ := rp_str py
    obtain ⟨c, h⟩ := mk_ok h
    obtain ⟨c1, c2⟩ := and_tt c
    obtain ⟨c2, c3⟩ := and_tt c2
    have c2 := bdec c2
    refine L2.mt_split pins s σ H _ _ v us Q I rx rxs ⟨_, _, rfl, rfl, ?_, ?_, fun p hp => ?_⟩
    · cases b with
      | nil => cases c1
      | cons x r => simp [Str.length]
    · show (List.toArray _).size + 2 ≤ _
      rw [List.size_toArray, sizeLine_eq]
      unfold most at c2
      omega
    · have e3 := Ext.new (ρ := ρ) (.lst ((Txt.split ⟨a.toArray⟩ ⟨b.toArray⟩).map V.str)) hp
      have pn : p ∉ ρ := fun hm => by
        obtain ⟨i, hi, ei⟩ := List.getElem_of_mem hm
        have hl : i < S.length := by rw [← rel.len]; exact hi
        have := rel.cell i S[i] p (by simp [hl]) (by simp [hi, ei])
        exact this.live hp
      have rs : ∀ ys : List Str, (∀ y ∈ ys, y.cps.toList.length ≤ most) → RpAll X.K fa (upd H p (.lst ((Txt.split ⟨a.toArray⟩ ⟨b.toArray⟩).map V.str))) ρ (ys.map V.str) ((ys.map fun x => x.cps.toList).map D.str) := fun ys hy => by
        induction ys with
        | nil => exact .nil
        | cons y ys ih =>
          refine .cons ?_ (ih fun q hq => hy q (List.mem_cons_of_mem _ hq))
          have := Rp.str (K := X.K) (fa := fa) (H := upd H p (.lst ((Txt.split ⟨a.toArray⟩ ⟨b.toArray⟩).map V.str))) (ρ := ρ) y.cps.toList (Nat.le_trans (hy y List.mem_cons_self) most_line)
          rw [Array.toArray_toList] at this
          exact this
      refine h ρ _ _ e3 (rel.new hp) (.lst upd_same pn (rs _ fun y hy => ?_))
      have := List.all_eq_true.mp c3 y.cps.toList (List.mem_map.mpr ⟨y, hy, rfl⟩)
      exact bdec this
  · -- get of a written dict
    rename_i k r
    obtain ⟨a, rfl, ea, t⟩ := rp_tab px
    obtain ⟨es, n, D⟩ := ck.tabs _ _ ea
    cases ra with
    | @cons y _ ys _ py ra =>
    obtain ⟨rfl, z⟩ := rp_str py
    cases rxs with
    | @cons _ u _ us ru rus =>
    obtain ⟨tk, rfl⟩ := (show ∃ t, u = Value.str _ t from ru)
    obtain rfl : v = Value.ref a := rx
    unfold getEnd at h
    split at h
    · cases ra; cases rus
      cases e : List.lookup k _ with
      | none =>
        rw [e] at h
        exact kd_get D I (t.miss k e) ⟨.non, H, I.tok _, rfl, h.fin rel .non⟩
      | some f =>
        obtain ⟨u0, v0, h1, h2, h3⟩ := t.there k f e
        rw [e] at h
        exact kd_get D I h1 ⟨v0, H, I.tok _, h2, h.fin rel h3.rp⟩
    · cases ra with
      | cons p2 ra =>
      cases ra
      cases rus with
      | cons r2 rus =>
      cases rus
      cases e : List.lookup k _ with
      | none =>
        rw [e] at h
        exact kd_get2 D I (t.miss k e) ⟨_, H, I.tok _, r2, h.fin rel p2⟩
      | some f =>
        obtain ⟨u0, v0, h1, h2, h3⟩ := t.there k f e
        rw [e] at h
        exact kd_get2 D I h1 ⟨v0, H, I.tok _, h2, h.fin rel h3.rp⟩
    · exact h.elim
  · -- get of a dict
    split at h
    · rename_i c
      obtain ⟨a, ks, rfl, hH, rk⟩ := rp_dct px
      cases ra with
      | @cons y _ ys _ py ra =>
      obtain ⟨k, rfl, hk⟩ := dget_ok py c
      cases rxs with
      | @cons _ u _ us ru rus =>
      obtain rfl : v = Value.ref a := rx
      have hu : X.A.units + 1 < cLine := by have := ck.room; omega
      have hor : ∃ o, DGet H a (kV k) o ∧ ((o = none ∧ dget _ _ = none) ∨ ∃ v e, o = some v ∧ dget _ _ = some e ∧ Rp X.K fa H ρ v e) := ⟨_, DGet.k hH, hk rk⟩
      obtain ⟨o, g, hg⟩ := hor
      unfold getEnd at h
      split at h
      · cases ra; cases rus
        refine d_get1 hu I g ru fun w' s3 I3 rw' => ⟨_, H, I3, rw', ?_⟩
        rcases hg with ⟨rfl, h2⟩ | ⟨v0, e, rfl, h2, h3⟩
        · rw [h2] at h; exact h.fin rel .non
        · rw [h2] at h; exact h.fin rel h3
      · cases ra with
        | cons p2 ra =>
        cases ra
        cases rus with
        | cons r2 rus =>
        cases rus
        refine d_get2 hu I g ru r2 fun w' s3 I3 rw' => ⟨_, H, I3, rw', ?_⟩
        rcases hg with ⟨rfl, h2⟩ | ⟨v0, e, rfl, h2, h3⟩
        · rw [h2] at h; exact h.fin rel p2
        · rw [h2] at h; exact h.fin rel h3
      · exact h.elim
    · exact h.elim
  · -- count
    obtain ⟨y, rfl, py⟩ := rpAll1 ra
    split at h
    · rename_i a q
      obtain ⟨c, h⟩ := mk_ok h
      obtain ⟨c1, c2⟩ := and_tt c
      obtain ⟨p, vs, rfl, hq, rv⟩ := lsOf_ok rel px q
      refine mt_count pins s σ H _ _ v us Q I rx rxs ⟨p, vs, y, rfl, rfl, .inl (.inl hq), flat_rp py c1, flat_all rv c2, ?_⟩
      rw [count_rp py c1 rv c2]
      exact h.fin rel (.int _)
    · exact h.elim
  · -- remove
    obtain ⟨y, rfl, py⟩ := rpAll1 ra
    obtain ⟨rfl, z⟩ := rp_str py
    split at h
    · rename_i a q
      split at h
      · rename_i j q1
        obtain ⟨ss, q2, q3⟩ := Option.bind_eq_some_iff.mp q1
        obtain ⟨p, vs, rfl, hp, hq, rv⟩ := cell_list rel px q
        have e := strsOf_ok rv q2
        rw [List.findIdx?_eq_some_iff_getElem] at q3
        obtain ⟨g1, g2, g3⟩ := q3
        have inj : ∀ {a b : List Nat}, mkS a = mkS b → a = b := fun {a b} h => by
          have := congrArg (fun z : Str => z.cps.toList) h
          simpa [mkS] using this
        refine mt_removeS pins s σ H _ _ v us Q I rx rxs ⟨p, ss.map mkS, _, j, rfl, rfl, by rw [← e]; exact hq, ?_, fun m hm e2 => ?_, ?_⟩
        · rw [List.getElem?_map, List.getElem?_eq_getElem g1]
          have := eq_of_beq g2
          rw [this]
          rfl
        · rw [List.getElem?_map, List.getElem?_eq_getElem (Nat.lt_trans hm g1)] at e2
          have e3 := inj (Option.some.inj e2)
          have := g3 m hm
          rw [e3] at this
          simp at this
        · rw [← e]
          exact h.write rel hp (rv.eraseIdx j) .non
      · exact h.elim
    · exact h.elim
  · -- insert
    cases ra with
    | @cons y0 _ ys0 _ py ra =>
    obtain ⟨y, rfl, p2⟩ := rpAll1 ra
    obtain rfl := rp_int py
    split at h
    · rename_i a q
      split at h
      · rename_i c
        obtain ⟨c1, c2⟩ := and_tt c
        obtain ⟨c2, c3⟩ := and_tt c2
        obtain ⟨p, vs, rfl, hp, hq, rv⟩ := cell_list rel px q
        refine L2.mt_insert pins s σ H _ _ v us Q I rx rxs ⟨p, vs, _, y, rfl, rfl, hq, ?_, bdec c2, ?_, ?_⟩
        · rw [rv.len]; exact Nat.lt_of_lt_of_le (bdec c1) most_line
        · have := bdec c3
          unfold most at this
          omega
        · exact h.write rel hp (((rv.take _).append (.cons p2 .nil)).append (rv.drop _)) .non
      · exact h.elim
    · exact h.elim
  · exact h.elim
/-- the type of a method's object -/
def TyW (X : Cx) (T : String) (x : V) (H : Hp) : Prop := tyV X.K T x H ∨ ∃ a es n, T = "dict" ∧ x = .ref a ∧ KDict X.K X.w a es n
theorem tyW_is {pins : List (Addr × Obj)} {σ : St} {H : Hp} {s : Shared} {T : String} {x : V} {v : Value} (I : L2.Inv X pins σ H s) (r : RelV x v) (ty : TyW X T x H) :
    s.TypeIs v T ∧ ∀ a, v = .ref a → ∃ ob, s.heap.get? a = some ob ∧ ob.dict = none := by
  rcases ty with ty | ⟨a, es, n, rfl, rfl, D⟩
  · exact tyV_is I r ty
  · cases r
    exact ⟨kd_type D I, fun a e => by cases e; exact ⟨_, I.kIn _ _ D.at_, rfl⟩⟩
def tBMw0 (X : Cx) (T : String) (r : V → List V → Hp → VK → Prop) (to : TE) : TE := fun σ H Q => to σ H fun x H1 => TyW X T x H1 ∧ r x [] H1 Q
def tBMw (X : Cx) (T : String) (r : V → List V → Hp → VK → Prop) (to : TE) (t : TA) : TE := fun σ H Q => to σ H fun x H1 => TyW X T x H1 ∧ t σ H1 fun xs H2 => r x xs H2 Q
section
variable {o e : Expr} {es : List Expr} {to : TE} {t : TA} {name : Str} {apos cpos : Pos} {T id : String} {r : V → List V → Hp → VK → Prop}
theorem pe_bmw0 (pa : PlainAttrs T) (slot : Slot T name id) (hty : typeOf (.builtin id) = pure (.type "method_descriptor")) (hm : MtR X id r) (ho : PE X o to)
    (hbase : attributeBase o name X.env (eval o X.env) = eval o X.env) (hline : (apos.endLine == cpos.line) = true) : PE X (.Call (.Attribute o name apos) [] [] cpos) (tBMw0 X T r to) := by
  refine ⟨fun pins s σ H Q I h => ?_⟩
  refine PySem.wpAny_Call_method0_late hbase hline (thn (ho.run pins s σ H _ I h) fun v s1 ⟨x, H1, I1, r1, ty, q1⟩ => ?_)
  obtain ⟨h1, h2⟩ := tyW_is I1 r1 ty
  exact ⟨T, id, pa, slot, hty, h1, h2, Calls.callWith_builtin rfl (PySem.evalArgs_none (hm pins s1 σ H1 x [] v [] Q I1 r1 .nil q1))⟩
theorem pe_bmw (pa : PlainAttrs T) (slot : Slot T name id) (hty : typeOf (.builtin id) = pure (.type "method_descriptor")) (hm : MtR X id r) (ho : PE X o to) (ha : PA X (e :: es) t)
    (hbase : attributeBase o name X.env (eval o X.env) = eval o X.env)
    (hfew : ((backTo cpos (starEach (e :: es) X.env)).all (fun x => !x.1) && (backToKw cpos (keywordEach [] X.env)).all (fun x => x.1.isSome)
      && decide ((e :: es).length + ([] : List Keyword).length + (if ([] : List Keyword).isEmpty then 0 else 1) < 30)) = true)
    (hline : (apos.endLine == cpos.line) = true) (hs : starEach (e :: es) X.env = (false, eval e X.env) :: starEach es X.env) (hplain : (backTo cpos (starEach es X.env)).any (·.1) = false) :
    PE X (.Call (.Attribute o name apos) (e :: es) [] cpos) (tBMw X T r to t) := by
  refine ⟨fun pins s σ H Q I h => ?_⟩
  refine PySem.wpAny_Call_method_late hbase hfew hline rfl (thn (ho.run pins s σ H _ I h) fun v s1 ⟨x, H1, I1, r1, ty, q1⟩ => ?_)
  obtain ⟨h1, h2⟩ := tyW_is I1 r1 ty
  refine ⟨T, id, pa, slot, hty, h1, h2, ?_⟩
  have hA := ha.run cpos pins s1 σ H1 _ I1 q1
  rw [hs] at hA ⊢
  refine Calls.callWith_builtin (by show (false || (backTo cpos (starEach es X.env)).any (·.1)) = false; rw [hplain] <;> rfl) (Calls.evalArgs_plain ?_)
  exact thn hA fun us s2 ⟨vs, H2, I2, r2, q2⟩ => hm pins s2 σ H2 x vs v us Q I2 r1 r2 q2
end
end
end MP
end
section
set_option maxRecDepth 100000
/-! EvK: what a loop walks, told. -/
namespace MP
open PySem L2

/-- w is what J walks -/
structure Fd (K : PySem.W.Frag) (fa : Nat → Option Addr) (J : It) (w : Row) (ρ0 : List Addr) (H0 : Hp) : Prop where
  ex : ∃ G : Hp → Prop, (∀ i H, i < w.items.length → G H → J.go i H) ∧ (∀ H, G H → J.stop w.items.length H) ∧ G H0 ∧ (∀ H p o, H p = none → G H → G (upd H p o)) ∧
    (∀ ρ S H, Ext ρ0 H0 ρ H → Rel K fa ρ S H → w.stays S = true → G H) ∧
    ∀ i ρ S H x H', i < w.items.length → Ext ρ0 H0 ρ H → Rel K fa ρ S H → w.stays S = true → J.yld i H x H' → ∃ d, w.items[i]? = some d ∧ Ext ρ H ρ H' ∧ Rel K fa ρ S H' ∧ Rp K fa H' ρ x d
  keeps : ∀ i H x H' a, J.yld i H x H' → H a ≠ none → H' a ≠ none

section
variable {K : PySem.W.Frag} {fa : Nat → Option Addr} {ρ : List Addr} {S : Store} {H : Hp}
theorem sqL_upd {a p : Addr} {o : HO} {xs : List V} (hp : H p = none) (h : SqL K H a xs) : SqL K (upd H p o) a xs := by
  rcases h with (h | ⟨u, h⟩) | h
  · exact .inl (.inl (by rw [upd_ne (ne_of_none h hp)]; exact h))
  · exact .inl (.inr ⟨u, by rw [upd_ne (ne_of_none h hp)]; exact h⟩)
  · exact .inr h
theorem sqT_upd {a p : Addr} {o : HO} {xs : List V} (hp : H p = none) (h : SqT K H a xs) : SqT K (upd H p o) a xs := by
  rcases h with (h | ⟨u, h⟩) | h
  · exact .inl (.inl (by rw [upd_ne (ne_of_none h hp)]; exact h))
  · exact .inl (.inr ⟨u, by rw [upd_ne (ne_of_none h hp)]; exact h⟩)
  · exact .inr h
/-- a list that stays as it is, at each later heap -/
def StL (K : PySem.W.Frag) (fa : Nat → Option Addr) (S0 : Store) (a : Addr) (xs : List D) (x : D) (ρ0 : List Addr) (H0 : Hp) : Prop :=
  (∃ vs, SqL K H0 a vs ∧ vs.length = xs.length) ∧ ∀ ρ S H, Ext ρ0 H0 ρ H → Rel K fa ρ S H → (⟨[], watchOf S0 x⟩ : Row).stays S = true → ∃ vs, SqL K H a vs ∧ RpAll K fa H ρ vs xs
theorem stL_of {x : D} {xs : List D} {v : V} (rel : Rel K fa ρ S H) (r : Rp K fa H ρ v x) (h : rwOf S x = some xs) : ∃ a, v = .ref a ∧ StL K fa S a xs x ρ H := by
  obtain ⟨a, vs, rfl, h1, h2⟩ := rwOf_ok rel r h
  refine ⟨a, rfl, ⟨vs, h1, h2.len⟩, fun ρ' S' H' e rel' st => ?_⟩
  have r' := r.ext e rel'.clear
  have go : ∀ {S'' : Store}, Rel K fa ρ' S'' H' → rwOf S'' x = some xs → ∃ vs, SqL K H' a vs ∧ RpAll K fa H' ρ' vs xs := fun rl q => by
    obtain ⟨a', vs', e1, h3, h4⟩ := rwOf_ok rl r' q
    cases e1
    exact ⟨vs', h3, h4⟩
  refine go rel' ?_
  cases x with
  | ref n =>
    have st := stays_iff.mp st
    cases q : S[n]? with
    | none => simp [rwOf, q] at h
    | some c =>
      cases c with
      | dct es => simp [rwOf, q] at h
      | lst ys =>
        simp [rwOf, q] at h
        subst h
        have st := st (n, ys) (by simp [watchOf, q])
        simp [rwOf, st]
  | _ => exact h
theorem fd_list {x : D} {xs : List D} {S0 : Store} {a : Addr} (h : StL K fa S0 a xs x ρ H) : Fd K fa (Itl K a) ⟨xs, watchOf S0 x⟩ ρ H := by
  obtain ⟨h0, h1⟩ := h
  refine ⟨⟨fun H => ∃ vs, SqL K H a vs ∧ vs.length = xs.length, fun i H hi ⟨vs, q, l⟩ => ⟨vs, vs[i]'(by rw [l]; exact hi), q, by simp⟩, fun H ⟨vs, q, l⟩ => ⟨vs, q, Nat.le_of_eq l⟩, h0, fun H p o hp ⟨vs, q, l⟩ => ⟨vs, sqL_upd hp q, l⟩, fun ρ S H e rel st => ?_, fun i ρ S H x H' hi e rel st y => ?_⟩, fun i H x H' b y hb => by obtain ⟨rfl, _⟩ := y; exact hb⟩
  · obtain ⟨vs, q1, q2⟩ := h1 ρ S H e rel st
    exact ⟨vs, q1, q2.len⟩
  · obtain ⟨vs, q1, q2⟩ := h1 ρ S H e rel st
    obtain ⟨rfl, y⟩ := y
    obtain ⟨d, e1, e2⟩ := q2.get' (y vs q1)
    exact ⟨d, e1, Ext.refl _ _, rel, e2⟩
theorem fd_tup {xs : List D} {a : Addr} (r : Rp K fa H ρ (.ref a) (.tup xs)) : Fd K fa (Itt K a) ⟨xs, []⟩ ρ H := by
  have at_ : ∀ {ρ' : List Addr} {H' : Hp}, Rp K fa H' ρ' (.ref a) (.tup xs) → ∃ vs, SqT K H' a vs ∧ RpAll K fa H' ρ' vs xs := fun r => by
    obtain ⟨_, vs, e, s, m, ra⟩ := rp_tup r
    cases e
    exact ⟨vs, s, ra⟩
  obtain ⟨vs0, h0, h1⟩ := at_ r
  refine ⟨⟨fun H => ∃ vs, SqT K H a vs ∧ vs.length = xs.length, fun i H hi ⟨vs, q, l⟩ => ⟨vs, vs[i]'(by rw [l]; exact hi), q, by simp⟩, fun H ⟨vs, q, l⟩ => ⟨vs, q, Nat.le_of_eq l⟩, ⟨vs0, h0, h1.len⟩, fun H p o hp ⟨vs, q, l⟩ => ⟨vs, sqT_upd hp q, l⟩, fun ρ S H e rel st => ?_, fun i ρ S H x H' hi e rel st y => ?_⟩, fun i H x H' b y hb => by obtain ⟨rfl, _⟩ := y; exact hb⟩
  · obtain ⟨vs, q1, q2⟩ := at_ (r.ext e rel.clear)
    exact ⟨vs, q1, q2.len⟩
  · obtain ⟨vs, q1, q2⟩ := at_ (r.ext e rel.clear)
    obtain ⟨rfl, y⟩ := y
    obtain ⟨d, e1, e2⟩ := q2.get' (y vs q1)
    exact ⟨d, e1, Ext.refl _ _, rel, e2⟩
theorem fd_range (lo : Int) (n : Nat) : Fd K fa (Itr lo n) ⟨rangeL lo n, []⟩ ρ H := by
  have hl : (rangeL lo n).length = n := by simp [rangeL]
  refine ⟨⟨fun _ => True, fun i H hi _ => by rw [← hl]; exact hi, fun H _ => Nat.le_of_eq hl.symm, trivial, fun _ _ _ _ _ => trivial, fun _ _ _ _ _ _ => trivial, fun i ρ S H x H' hi e rel st y => ?_⟩, fun i H x H' b y hb => by obtain ⟨rfl, _⟩ := y; exact hb⟩
  obtain ⟨rfl, rfl⟩ := y
  have hi' : i < n := by rw [← hl]; exact hi
  exact ⟨.int (lo + i), by simp [rangeL, hi'], Ext.refl _ _, rel, .int _⟩
theorem fd_str (x : List Nat) : Fd K fa (Its ⟨x.toArray⟩) ⟨chars x, []⟩ ρ H := by
  have hl : (chars x).length = x.length := by simp [chars]
  refine ⟨⟨fun _ => True, fun i H hi _ => by show i < x.toArray.size; simpa [chars] using hi, fun H _ => by show x.toArray.size ≤ _; simp [chars], trivial, fun _ _ _ _ _ => trivial, fun _ _ _ _ _ _ => trivial, fun i ρ S H v H' hi e rel st y => ?_⟩, fun i H x H' b y hb => by obtain ⟨rfl, _⟩ := y; exact hb⟩
  obtain ⟨rfl, c, e1, rfl⟩ := y
  have e1 : x[i]? = some c := by simpa using e1
  exact ⟨.str [c], by simp [chars, e1], Ext.refl _ _, rel, .str [c] (by show 1 ≤ sizeLine; rw [sizeLine_eq]; decide)⟩
theorem enumL_len : ∀ (k : Nat) (xs : List D), (enumL k xs).length = xs.length
  | _, [] => rfl
  | k, x :: xs => congrArg Nat.succ (enumL_len (k + 1) xs)
theorem enumL_at : ∀ {k i : Nat} {xs : List D} {d : D}, xs[i]? = some d → (enumL k xs)[i]? = some (.tup [.int ((k + i : Nat) : Int), d])
  | _, _, [], _, h => by simp at h
  | k, 0, x :: xs, d, h => by simp at h; subst h; rfl
  | k, i + 1, x :: xs, d, h => by
    have := enumL_at (k := k + 1) (i := i) (xs := xs) (by simpa using h)
    show (enumL (k + 1) xs)[i]? = _
    rw [this]
    have e : k + 1 + i = k + (i + 1) := by omega
    rw [e]
/-- a new pair -/
theorem pair_ok {T : Addr} {x y : V} {d e : D} (rel : Rel K fa ρ S H) (hT : H T = none) (rx : Rp K fa H ρ x d) (ry : Rp K fa H ρ y e) : Ext ρ H ρ (upd H T (.tup [x, y])) ∧ Rel K fa ρ S (upd H T (.tup [x, y])) ∧ Rp K fa (upd H T (.tup [x, y])) ρ (.ref T) (.tup [d, e]) := by
  have pn : T ∉ ρ := fun hm => by
    obtain ⟨i, hi, e⟩ := List.getElem_of_mem hm
    have hl : i < S.length := by rw [← rel.len]; exact hi
    have := rel.cell i S[i] T (by simp [hl]) (by simp [hi, e])
    exact this.live hT
  have e := Ext.new (ρ := ρ) (.tup [x, y]) hT
  exact ⟨e, rel.new hT, .tup (.inl (.inl upd_same)) pn (.cons (rx.ext e rel.clear) (.cons (ry.ext e rel.clear) .nil))⟩
theorem fd_enum {x : D} {xs : List D} {S0 : Store} {a : Addr} (h : StL K fa S0 a xs x ρ H) : Fd K fa (Ite K a) ⟨enumL 0 xs, watchOf S0 x⟩ ρ H := by
  obtain ⟨h0, h1⟩ := h
  have hl := enumL_len 0 xs
  refine ⟨⟨fun H => ∃ vs, SqL K H a vs ∧ vs.length = xs.length, fun i H hi ⟨vs, q, l⟩ => ⟨vs, vs[i]'(by rw [l, ← hl]; exact hi), q, by simp⟩, fun H ⟨vs, q, l⟩ => ⟨vs, q, by show vs.length ≤ (enumL 0 xs).length; rw [hl]; exact Nat.le_of_eq l⟩, h0, fun H p o hp ⟨vs, q, l⟩ => ⟨vs, sqL_upd hp q, l⟩, fun ρ S H e rel st => ?_, fun i ρ S H x H' hi e rel st y => ?_⟩, fun i H x H' b y hb => by obtain ⟨T, _, _, hT, rfl, _⟩ := y; rw [upd_ne (fun e => hb (by rw [e]; exact hT))]; exact hb⟩
  · obtain ⟨vs, q1, q2⟩ := h1 ρ S H e rel st
    exact ⟨vs, q1, q2.len⟩
  · obtain ⟨vs, q1, q2⟩ := h1 ρ S H e rel st
    obtain ⟨T, u, rfl, hT, rfl, y⟩ := y
    obtain ⟨d, e1, e2⟩ := q2.get' (y vs q1)
    obtain ⟨z1, z2, z3⟩ := pair_ok rel hT (.int (i : Nat)) e2
    refine ⟨_, enumL_at e1, z1, z2, ?_⟩
    rw [Nat.zero_add]
    exact z3
theorem zipL_len : ∀ (xs ys : List D), (zipL xs ys).length = min xs.length ys.length
  | [], ys => by simp [zipL]
  | _ :: _, [] => by simp [zipL]
  | x :: xs, y :: ys => by simp [zipL, zipL_len xs ys]
theorem zipL_at : ∀ {i : Nat} {xs ys : List D} {d e : D}, xs[i]? = some d → ys[i]? = some e → (zipL xs ys)[i]? = some (.tup [d, e])
  | _, [], _, _, _, h, _ => by simp at h
  | _, _ :: _, [], _, _, _, h => by simp at h
  | 0, x :: xs, y :: ys, d, e, h, h' => by simp at h h'; subst h h'; rfl
  | i + 1, x :: xs, y :: ys, d, e, h, h' => by
    show (zipL xs ys)[i]? = _
    exact zipL_at (by simpa using h) (by simpa using h')
theorem stays_app {a b : List (Nat × List D)} {S : Store} (h : (⟨[], a ++ b⟩ : Row).stays S = true) : (⟨[], a⟩ : Row).stays S = true ∧ (⟨[], b⟩ : Row).stays S = true := by
  have h := stays_iff.mp h
  exact ⟨stays_iff.mpr fun p hp => h p (List.mem_append_left _ hp), stays_iff.mpr fun p hp => h p (List.mem_append_right _ hp)⟩
theorem fd_zip {x y : D} {xs ys : List D} {S0 : Store} {a b : Addr} (h : StL K fa S0 a xs x ρ H) (h' : StL K fa S0 b ys y ρ H) : Fd K fa (Itz K a b) ⟨zipL xs ys, watchOf S0 x ++ watchOf S0 y⟩ ρ H := by
  obtain ⟨h0, h1⟩ := h
  obtain ⟨h0', h1'⟩ := h'
  have hl := zipL_len xs ys
  refine ⟨⟨fun H => (∃ vs, SqL K H a vs ∧ vs.length = xs.length) ∧ ∃ vs, SqL K H b vs ∧ vs.length = ys.length, fun i H hi ⟨⟨vs, q, l⟩, vs', q', l'⟩ => ?_, fun H ⟨⟨vs, q, l⟩, vs', q', l'⟩ => ⟨vs, vs', q, q', ?_⟩, ⟨h0, h0'⟩, fun H p o hp ⟨⟨vs, q, l⟩, vs', q', l'⟩ => ⟨⟨vs, sqL_upd hp q, l⟩, vs', sqL_upd hp q', l'⟩, fun ρ S H e rel st => ?_, fun i ρ S H x H' hi e rel st y => ?_⟩, fun i H x H' b y hb => by obtain ⟨T, _, _, _, hT, rfl, _⟩ := y; rw [upd_ne (fun e => hb (by rw [e]; exact hT))]; exact hb⟩
  · have hi : i < (zipL xs ys).length := hi
    have k1 : i < vs.length := by omega
    have k2 : i < vs'.length := by omega
    exact ⟨vs, vs', vs[i], vs'[i], q, q', by simp, by simp⟩
  · show vs.length ≤ (zipL xs ys).length ∨ vs'.length ≤ (zipL xs ys).length
    omega
  · obtain ⟨s1, s2⟩ := stays_app st
    obtain ⟨vs, q1, q2⟩ := h1 ρ S H e rel s1
    obtain ⟨vs', q1', q2'⟩ := h1' ρ S H e rel s2
    exact ⟨⟨vs, q1, q2.len⟩, vs', q1', q2'.len⟩
  · obtain ⟨s1, s2⟩ := stays_app st
    obtain ⟨vs, q1, q2⟩ := h1 ρ S H e rel s1
    obtain ⟨vs', q1', q2'⟩ := h1' ρ S H e rel s2
    obtain ⟨T, u, u', rfl, hT, rfl, y, y'⟩ := y
    obtain ⟨d, e1, e2⟩ := q2.get' (y vs q1)
    obtain ⟨d', e1', e2'⟩ := q2'.get' (y' vs' q1')
    obtain ⟨z1, z2, z3⟩ := pair_ok rel hT e2 e2'
    exact ⟨_, zipL_at e1 e1', z1, z2, z3⟩
theorem fd_zipT {xs ys : List D} {a b : Addr} (r : Rp K fa H ρ (.ref a) (.tup xs)) (r' : Rp K fa H ρ (.ref b) (.tup ys)) : Fd K fa (RZ.ItzT K a b) ⟨zipL xs ys, []⟩ ρ H := by
  have at_ : ∀ {ρ' : List Addr} {H' : Hp} {a : Addr} {xs : List D}, Rp K fa H' ρ' (.ref a) (.tup xs) → ∃ vs, SqT K H' a vs ∧ RpAll K fa H' ρ' vs xs := fun r => by
    obtain ⟨_, vs, e, s, m, ra⟩ := rp_tup r
    cases e
    exact ⟨vs, s, ra⟩
  have hl := zipL_len xs ys
  obtain ⟨vs0, h0, h1⟩ := at_ r
  obtain ⟨vs0', h0', h1'⟩ := at_ r'
  refine ⟨⟨fun H => (∃ vs, SqT K H a vs ∧ vs.length = xs.length) ∧ ∃ vs, SqT K H b vs ∧ vs.length = ys.length, fun i H hi ⟨⟨vs, q, l⟩, vs', q', l'⟩ => ?_, fun H ⟨⟨vs, q, l⟩, vs', q', l'⟩ => ⟨vs, vs', q, q', ?_⟩, ⟨⟨vs0, h0, h1.len⟩, vs0', h0', h1'.len⟩, fun H p o hp ⟨⟨vs, q, l⟩, vs', q', l'⟩ => ⟨⟨vs, sqT_upd hp q, l⟩, vs', sqT_upd hp q', l'⟩, fun ρ S H e rel st => ?_, fun i ρ S H x H' hi e rel st y => ?_⟩, fun i H x H' b y hb => by obtain ⟨T, _, _, _, hT, rfl, _⟩ := y; rw [upd_ne (fun e => hb (by rw [e]; exact hT))]; exact hb⟩
  · have hi : i < (zipL xs ys).length := hi
    have k1 : i < vs.length := by omega
    have k2 : i < vs'.length := by omega
    exact ⟨vs, vs', vs[i], vs'[i], q, q', by simp, by simp⟩
  · show vs.length ≤ (zipL xs ys).length ∨ vs'.length ≤ (zipL xs ys).length
    omega
  · obtain ⟨vs, q1, q2⟩ := at_ (r.ext e rel.clear)
    obtain ⟨vs', q1', q2'⟩ := at_ (r'.ext e rel.clear)
    exact ⟨⟨vs, q1, q2.len⟩, vs', q1', q2'.len⟩
  · obtain ⟨vs, q1, q2⟩ := at_ (r.ext e rel.clear)
    obtain ⟨vs', q1', q2'⟩ := at_ (r'.ext e rel.clear)
    obtain ⟨T, u, u', rfl, hT, rfl, y, y'⟩ := y
    obtain ⟨d, e1, e2⟩ := q2.get' (y vs q1)
    obtain ⟨d', e1', e2'⟩ := q2'.get' (y' vs' q1')
    obtain ⟨z1, z2, z3⟩ := pair_ok rel hT e2 e2'
    exact ⟨_, zipL_at e1 e1', z1, z2, z3⟩
end
end MP
end
section
set_option maxRecDepth 100000
/-! EvKa: enumerate of a tuple. -/
namespace MP
open PySem PySem.Spec PyProof.Rows L2
section
open PySem.Sem (wp)
open AutoSeq1 (wpAny_loadPart')
theorem meets_enumerate_newT (l : Addr) (items : Array Value) (n : Nat) (dct : Option Addr) (sl : Array (Option Value)) :
    Meets (Builtin.«enumerate.__new__» ⟨[.type "enumerate", .ref l], []⟩) (fun _ R s => s.heap.get? l = some { cls := .type "tuple", dict := dct, data := .seq items n, slots := sl } ∧
      R (.ok (.ret (.ref (s.heap.push { cls := .type "tuple_iterator", data := .fields #[.ref l, .int 0 0] }).objs.size)))
        { s with heap := (s.heap.push { cls := .type "tuple_iterator", data := .fields #[.ref l, .int 0 0] }).push { cls := .type "enumerate", data := .fields #[.none, .bool false, .ref s.heap.objs.size, rawInt 0, .none, .none] } }) :=
  .of_wp fun prog w A R s h => by
    obtain ⟨hp, g, d, tk, os⟩ := s; obtain ⟨hl, h⟩ := h
    have hsub := sub_enumerate
    have hL : Heap.IsTuple (Shared.heap ⟨hp, g, d, tk, os⟩) l items := ⟨_, hl, rfl, n, rfl⟩
    wp_walk using wpAny_loadPart' hl
    refine wpAny_stack_any fun st => wpAny_pure ?_
    split
    · rename_i c _ _ _ _ _
      cases (c == Value.type "enumerate")
      · wp_walk using wpAny_loadPart' hl, wpAny_pyIter_tuple hL
        exact ⟨_, rfl, h⟩
      · wp_walk using wpAny_loadPart' hl, wpAny_pyIter_tuple hL
        exact ⟨_, rfl, h⟩
    · wp_walk using wpAny_loadPart' hl, wpAny_pyIter_tuple hL
      exact ⟨_, rfl, h⟩
end
section
variable {prog : Program} {w : World} {A : Around} {E : Value → Shared → Prop} {s : Shared}
theorem call_enumerate_tuple {l : Addr} {items : Array Value} {Q : Value → Shared → Prop} (hL : s.heap.IsTuple l items)
    (h : ∀ h', IsEnum h' (s.heap.objs.size + 1) s.heap.objs.size 0 .none → h'.IsTupleIter s.heap.objs.size l 0 → h'.objs.size = s.heap.objs.size + 2 →
      (∀ b o, s.heap.get? b = some o → h'.get? b = some o) → Q (.ref (s.heap.objs.size + 1)) { s with heap := h' }) :
    wpAny (model prog w) A (call (.type "enumerate") [.ref l]) Q E s := by
  obtain ⟨⟨c, dct, dt, sl⟩, hl, hc, n, hd⟩ := hL
  replace hc : c = .type "tuple" := hc
  replace hd : dt = .seq items n := hd
  subst hc hd
  refine callType_new F.called_enumerate (by decide) (F.typeCall_enumerate_1 _) (F.newCall_enumerate_1 _) (fun obj => F.args_object_init_2 obj _) F.entry_enumerate_new
    (meets_enumerate_newT l items n dct sl) ⟨hl, ?_⟩
  have hz : (s.heap.push { cls := .type "tuple_iterator", data := .fields #[.ref l, .int 0 0] }).objs.size = s.heap.objs.size + 1 := Heap.size_push ..
  show _ ∧ _
  rw [hz]
  have he : IsEnum ((s.heap.push { cls := .type "tuple_iterator", data := .fields #[.ref l, .int 0 0] }).push
      { cls := .type "enumerate", data := .fields #[.none, .bool false, .ref s.heap.objs.size, rawInt 0, .none, .none] }) (s.heap.objs.size + 1) s.heap.objs.size 0 .none := by
    have := Heap.get?_push_size (s.heap.push { cls := .type "tuple_iterator", data := .fields #[.ref l, .int 0 0] })
      (o := { cls := .type "enumerate", data := .fields #[.none, .bool false, .ref s.heap.objs.size, rawInt 0, .none, .none] }) rfl
    rw [hz] at this; exact this
  refine ⟨⟨_, he, rfl⟩, h _ he ⟨_, Heap.get?_push_of_some _ (Heap.get?_push_size _ rfl), rfl, rfl⟩ (by rw [Heap.size_push, hz]) fun b o x => Heap.get?_push_of_some _ (Heap.get?_push_of_some _ x)⟩
/-- the items of a tuple, one behind another -/
theorem draws_tup {it l : Addr} {items : Array Value} (hh : A.handled = none) (hne : it ≠ l) : Draws prog w A it [it, l] items.size (fun i x => items[i]? = some x) (fun i h => h.IsTupleIter it l i ∧ h.IsTuple l items) where
  live := fun i h st => let ⟨⟨o, ho, _⟩, _⟩ := st; ⟨o, ho⟩
  frame := fun i h h' st k => ⟨let ⟨o, ho, r⟩ := st.1; ⟨o, k it (by simp) o ho, r⟩, let ⟨o, ho, r⟩ := st.2; ⟨o, k l (by simp) o ho, r⟩⟩
  item := fun i s Q E hi st hQ => RZ.nextOf_tuple_item st.1 st.2 (x := items[i]) (by simp [hi]) fun h' a b => hQ _ h' s.toks (by simp [hi]) ⟨a, let ⟨o, ho, r⟩ := st.2; ⟨o, (b.2 l (Ne.symm hne)).trans ho, r⟩⟩ b
  done := fun s Q E st hE => RZ.nextOf_tuple_end hh st.1 st.2 (by simp) hE
end
/-- the tuple at a as it stands at each turn, each item in a new pair -/
def IteT (K : PySem.W.Frag) (a : Addr) : It :=
  ⟨fun i H => ∃ (xs : List V) (x : V), SqT K H a xs ∧ xs[i]? = some x, fun i H v H' => ∃ T x, v = .ref T ∧ H T = none ∧ H' = upd H T (.tup [.int (i : Nat), x]) ∧ ∀ xs, SqT K H a xs → xs[i]? = some x, fun i H => ∃ xs : List V, SqT K H a xs ∧ xs.length ≤ i⟩
theorem turn_enumT {P : Program} {w : World} {K : PySem.W.Frag} {elts : List Expr} {kk : Nat} {tpos : Pos} (a e it : Addr) :
    Turn P w K (.Tuple elts kk tpos) (IteT K a) [e, it] e (fun i h => (∃ old, IsEnum h e it ((i : Nat) : Int) old) ∧ h.IsTupleIter it a i ∧ e ≠ it ∧ e ≠ a ∧ it ≠ a) where
  mem := by simp
  obj := fun i h st b hb => by
    obtain ⟨⟨old, he⟩, ⟨o, ho, hc, hd⟩, _⟩ := st
    have e' : b = e ∨ b = it := by simpa using hb
    rcases e' with z | z
    · rw [z]; exact ⟨_, he, fun v q => nomatch q⟩
    · rw [z]; exact ⟨o, ho, fun v q => by rw [hd] at q; cases q⟩
  keep := fun i h h' st k => let ⟨⟨old, he⟩, hi, hne⟩ := st; ⟨⟨old, k e (by simp) _ he⟩, hi.at fun o q => k it (by simp) o q, hne⟩
  item := by
    intro X hP hw hK hc i pins s σ H E I hf st hg
    subst hP hw hK
    obtain ⟨⟨old, he⟩, hit, hne, hea, hia⟩ := st
    obtain ⟨xs, x, hq, hx⟩ := hg
    obtain ⟨its, rv, p, hz⟩ := I.tuple hq
    obtain ⟨u, hu, ru⟩ := rv.get hx
    have hel : e < s.heap.objs.size := Heap.lt_size he
    have hil : it < s.heap.objs.size := by obtain ⟨_, q, _⟩ := hit; exact Heap.lt_size q
    have hilt : i < its.toArray.size := by
      have := (List.getElem?_eq_some_iff.mp hu).1
      simpa using this
    refine wpAny_pyNext_enum_itemD (draws_tup (A := X.A.in1) (items := its.toArray) (I.ok.hd hc) hia) he ⟨hit, p⟩ hilt hne (by simp [hne, hea]) fun u' h' tk hu' ho hst hT hsz hk => ?_
    obtain rfl : u' = u := by
      have h1 : its[i]? = some u' := by simpa using hu'
      rw [hu] at h1
      exact (Option.some.inj h1).symm
    refine ⟨_, rfl, wpAny_letOwnedTupleGo_enum (s := { s with heap := h', toks := tk + 1 }) ho fun h'' he' sb => ?_⟩
    have hT2 : h''.get? s.heap.objs.size = some { cls := .type "tuple", data := .seq #[.int i tk, u'] } := (sb.2 _ (Nat.ne_of_gt hel)).trans hT
    have new : ObjOk X.prog X.w (upd H s.heap.objs.size (.tup [.int (i : Nat), x])) h'' s.heap.objs.size (.tup [.int (i : Nat), x]) :=
      ⟨by show 2 ≤ sizeLine; decide, [.int i tk, u'], .cons ⟨_, rfl⟩ (.cons ru .nil), ⟨_, hT2, rfl, _, rfl⟩⟩
    have I1 : Inv X pins σ (upd H s.heap.objs.size (.tup [.int (i : Nat), x])) { s with heap := h'', toks := tk + 1 } :=
      I.turnedNew (ch := [e, it]) (fun b ob hb q => (sb.2 b (fun z => hb (by simp [z]))).trans (hk b ob (fun z => hb (by simp [z])) (fun z => hb (by simp [z])) q)) hf (Nat.le_refl _) new
    refine ⟨.ref s.heap.objs.size, _, I1, rfl, ⟨_, x, rfl, I.hok.fresh (Nat.le_refl _), rfl, fun ys hy => by rw [I.tuple_inj hy hq]; exact hx⟩, ⟨⟨u', ?_⟩, hst.1.at fun o q => (sb.2 it (Ne.symm hne)).trans q, hne, hea, hia⟩, fun b hb => ?_⟩
    · have e1 : ((i + 1 : Nat) : Int) = (i : Int) + 1 := by omega
      rw [e1]; exact he'
    · have hb' : b < s.heap.objs.size := by
        have e' : b = e ∨ b = it := by simpa using hb
        rcases e' with z | z
        · rw [z]; exact hel
        · rw [z]; exact hil
      rw [upd_ne (Nat.ne_of_lt hb')]
      exact (hf b hb).1
  done := by
    intro X hP hw hK hc i pins s σ H E I hf st hg
    subst hP hw hK
    obtain ⟨⟨old, he⟩, hit, hne, hea, hia⟩ := st
    obtain ⟨xs, hq, hx⟩ := hg
    obtain ⟨its, rv, p, hz⟩ := I.tuple hq
    obtain ⟨f0, f1, f2, f3, f4, f5⟩ := hf it (by simp)
    have hl := rv.length
    have D : Draws X.prog X.w X.A.in1 it [it, a] i (fun i x => its.toArray[i]? = some x) (fun j h => j = i ∧ h.IsTupleIter it a j ∧ h.IsTuple a its.toArray) :=
      { live := fun i h st => let ⟨_, ⟨o, ho, _⟩, _⟩ := st; ⟨o, ho⟩
        frame := fun i h h' st k => ⟨st.1, let ⟨o, ho, r⟩ := st.2.1; ⟨o, k it (by simp) o ho, r⟩, let ⟨o, ho, r⟩ := st.2.2; ⟨o, k a (by simp) o ho, r⟩⟩
        item := fun j s Q E hi st hQ => absurd st.1 (Nat.ne_of_lt hi)
        done := fun s Q E st hE => RZ.nextOf_tuple_end (I.ok.hd hc) st.2.1 st.2.2 (by simp; omega) hE }
    exact wpAny_pyNext_enum_endD D he ⟨rfl, hit, p⟩ fun h' eb => ⟨rfl, I.turned (t' := s.toks) (fun b o hb q => eb b o hb q) f0 f1 f3 f4 f5⟩
  self := fun A i s Q E st h => let ⟨⟨_, he⟩, _⟩ := st; wpAny_pyIter_enum he h
def iEnumA (K : PySem.W.Frag) (ta : TA) : TI := fun σ H R => ta σ H fun vs H1 => ∃ a xs, vs = [.ref a] ∧ ((SqL K H1 a xs ∧ R (Ite K a) H1) ∨ (SqT K H1 a xs ∧ R (IteT K a) H1))
theorem pi_enumA {X : Cx} {e : Expr} {ta : TA} {p pos tpos : Pos} {elts : List Expr} {kk : Nat} (hg : Gl X "enumerate") (hm : X.mg "enumerate" = none) (ha : PA X [e] ta) (hs : starEach [e] X.env = [(false, eval e X.env)] := by rfl) :
    PI X (.Tuple elts kk tpos) (.Call (.Name "enumerate" p) [e] [] pos) (iEnumA X.K ta) := by
  refine ⟨fun pins s σ H R I h => ?_⟩
  refine Call_ (ld_blt I hg hm boot_enumerate (PyProof.Rows.callWith_type1 (thn (ha.run pos pins s σ H _ I h) fun us s1 ⟨vs, H1, I1, r1, q1⟩ => ?_) hs rfl))
  obtain ⟨a, xs, ex, q1⟩ := q1
  subst ex
  have fresh2 : ∀ b, b ∈ [s1.heap.objs.size + 1, s1.heap.objs.size] → FpOk X pins H1 b := fun b hb => by
    have e' : b = s1.heap.objs.size + 1 ∨ b = s1.heap.objs.size := by simpa using hb
    have hle : s1.heap.objs.size ≤ b := by
      rcases e' with z | z
      · rw [z]; exact Nat.le_add_right _ _
      · rw [z]; exact Nat.le_refl _
    exact I1.fpOk hle (I1.hok.fresh hle)
  cases r1 with
  | cons r rr =>
    cases rr
    cases r
    rcases q1 with ⟨hq, q⟩ | ⟨hq, q⟩
    · obtain ⟨its, rv, p', hz⟩ := I1.list hq
      refine call_enumerate_list p'.isList fun h' he hit hsz hk => wpAny_pyIter_enum he ?_
      have I2 : Inv X pins σ H1 { s1 with heap := h' } := I1.kept (t' := s1.toks) hk
      exact ⟨s1.heap.objs.size + 1, [s1.heap.objs.size + 1, s1.heap.objs.size], _, _, H1, rfl, I2, turn_enum a (s1.heap.objs.size + 1) s1.heap.objs.size, ⟨⟨.none, he⟩, hit, Nat.succ_ne_self _⟩, fresh2, q⟩
    · obtain ⟨its, rv, p', hz⟩ := I1.tuple hq
      have hal : a < s1.heap.objs.size := by obtain ⟨o, ho, _⟩ := id p'; exact Heap.lt_size ho
      refine call_enumerate_tuple (show s1.heap.IsTuple a its.toArray from p') fun h' he hit hsz hk => wpAny_pyIter_enum he ?_
      have I2 : Inv X pins σ H1 { s1 with heap := h' } := I1.kept (t' := s1.toks) hk
      exact ⟨s1.heap.objs.size + 1, [s1.heap.objs.size + 1, s1.heap.objs.size], _, _, H1, rfl, I2, turn_enumT a (s1.heap.objs.size + 1) s1.heap.objs.size, ⟨⟨.none, he⟩, hit, Nat.succ_ne_self _, Nat.ne_of_gt (Nat.lt_succ_of_lt hal), Nat.ne_of_gt hal⟩, fresh2, q⟩
section
variable {K : PySem.W.Frag} {fa : Nat → Option Addr} {H H' : Hp} {ρ ρ' : List Addr}
theorem fd_enumT {xs : List D} {a : Addr} (r : Rp K fa H ρ (.ref a) (.tup xs)) : Fd K fa (IteT K a) ⟨enumL 0 xs, []⟩ ρ H := by
  have at_ : ∀ {ρ' : List Addr} {H' : Hp}, Rp K fa H' ρ' (.ref a) (.tup xs) → ∃ vs, SqT K H' a vs ∧ RpAll K fa H' ρ' vs xs := fun r => by
    obtain ⟨_, vs, e, s, m, ra⟩ := rp_tup r
    cases e
    exact ⟨vs, s, ra⟩
  obtain ⟨vs0, h0, h1⟩ := at_ r
  have hl := enumL_len 0 xs
  refine ⟨⟨fun H => ∃ vs, SqT K H a vs ∧ vs.length = xs.length, fun i H hi ⟨vs, q, l⟩ => ⟨vs, vs[i]'(by rw [l, ← hl]; exact hi), q, by simp⟩, fun H ⟨vs, q, l⟩ => ⟨vs, q, by show vs.length ≤ (enumL 0 xs).length; rw [hl]; exact Nat.le_of_eq l⟩, ⟨vs0, h0, h1.len⟩, fun H p o hp ⟨vs, q, l⟩ => ⟨vs, sqT_upd hp q, l⟩, fun ρ S H e rel st => ?_, fun i ρ S H x H' hi e rel st y => ?_⟩, fun i H x H' b y hb => by obtain ⟨T, _, _, hT, rfl, _⟩ := y; rw [upd_ne (fun e => hb (by rw [e]; exact hT))]; exact hb⟩
  · obtain ⟨vs, q1, q2⟩ := at_ (r.ext e rel.clear)
    exact ⟨vs, q1, q2.len⟩
  · obtain ⟨vs, q1, q2⟩ := at_ (r.ext e rel.clear)
    obtain ⟨T, u, rfl, hT, rfl, y⟩ := y
    obtain ⟨d, e1, e2⟩ := q2.get' (y vs q1)
    obtain ⟨z1, z2, z3⟩ := pair_ok rel hT (.int (i : Nat)) e2
    refine ⟨_, enumL_at e1, z1, z2, ?_⟩
    rw [Nat.zero_add]
    exact z3
end
end MP
end
section
set_option maxRecDepth 100000
/-! EvL: a law's text against the small language's terms. -/
namespace MP
open PySem L2

mutual
def D.same : D → D → Bool
  | .non, .non => true
  | .bl a, .bl b => a == b
  | .int a, .int b => a == b
  | .str a, .str b => a == b
  | .lst a, .lst b => sameAll a b
  | .tup a, .tup b => sameAll a b
  | .dct a, .dct b => sameKv a b
  | .ref a, .ref b => a == b
  | .fn a, .fn b => a == b
  | .row a, .row b => sameAll a b
  | .tab i a, .tab j b => i == j && decide (a = b)
  | _, _ => false
def sameAll : List D → List D → Bool
  | [], [] => true
  | x :: xs, y :: ys => x.same y && sameAll xs ys
  | _, _ => false
def sameKv : List (D × D) → List (D × D) → Bool
  | [], [] => true
  | (a, b) :: xs, (c, d) :: ys => a.same c && (b.same d && sameKv xs ys)
  | _, _ => false
end
mutual
theorem same_eq : ∀ {a b : D}, a.same b = true → a = b
  | .non, b, h => by cases b <;> first | rfl | cases h
  | .bl a, b, h => by cases b <;> first | (cases h; done) | (simp [D.same] at h; rw [h])
  | .int a, b, h => by cases b <;> first | (cases h; done) | (simp [D.same] at h; rw [h])
  | .str a, b, h => by cases b <;> first | (cases h; done) | (simp [D.same] at h; rw [h])
  | .lst a, b, h => by cases b <;> first | (cases h; done) | exact congrArg D.lst (sameAll_eq (by simpa [D.same] using h))
  | .tup a, b, h => by cases b <;> first | (cases h; done) | exact congrArg D.tup (sameAll_eq (by simpa [D.same] using h))
  | .dct a, b, h => by cases b <;> first | (cases h; done) | exact congrArg D.dct (sameKv_eq (by simpa [D.same] using h))
  | .ref a, b, h => by cases b <;> first | (cases h; done) | (simp [D.same] at h; rw [h])
  | .fn a, b, h => by cases b <;> first | (cases h; done) | (simp [D.same] at h; rw [h])
  | .row a, b, h => by cases b <;> first | (cases h; done) | exact congrArg D.row (sameAll_eq (by simpa [D.same] using h))
  | .tab i a, b, h => by cases b <;> first | (cases h; done) | (simp [D.same] at h; rw [h.1, h.2])
theorem sameAll_eq : ∀ {a b : List D}, sameAll a b = true → a = b
  | [], b, h => by cases b <;> first | rfl | cases h
  | x :: xs, [], h => by cases h
  | x :: xs, y :: ys, h => by
    obtain ⟨h1, h2⟩ := and_tt (show (x.same y && sameAll xs ys) = true from h)
    rw [same_eq h1, sameAll_eq h2]
theorem sameKv_eq : ∀ {a b : List (D × D)}, sameKv a b = true → a = b
  | [], b, h => by cases b <;> first | rfl | cases h
  | (a, b) :: xs, [], h => by cases h
  | (a, b) :: xs, (c, d) :: ys, h => by
    obtain ⟨h1, h2⟩ := and_tt (show (a.same c && (b.same d && sameKv xs ys)) = true from h)
    obtain ⟨h3, h4⟩ := and_tt h2
    rw [same_eq h1, same_eq h3, sameKv_eq h4]
end

/-- a way a def is called: how many by place, the keywords, where each parameter's value lies among these and the defaults -/
structure Kw where
  f : Nat
  n : Nat
  ks : List Str
  how : List Nat
  dv : List Fl
  deriving DecidableEq
/-- built-ins, ways to call -/
structure Bs where
  l : List Str
  kws : List Kw
/-- what a def's text may lean on -/
structure Ga where
  N : List Str
  sc : Scope
  fn : Str → Bool
  fns : List Str
  gls : List (Str × D)
  bts : Bs
def kwB : List Keyword → List Str → Bool
  | [], ks => ks.isEmpty
  | k :: kws, ks => match ks with
    | x :: ks => k.arg == some x && kwB kws ks
    | [] => false
def okNm (x : Str) : Bool := !(x == "__debug__") && (!(x == "__classdict__") && !(x == "__name__"))
def visB (sc : Scope) (x : Str) : Bool := sc.names.lookup x == some .local || (sc.names.lookup x == some .cell || sc.names.lookup x == some .free)
def Ga.gl (Γ : Ga) (x : Str) : Bool := Γ.sc.names.lookup x == some .globalImplicit && okNm x
def Ga.bt (Γ : Ga) (x : Str) : Bool := Γ.gl x && Γ.bts.l.contains x
def Ga.loc (Γ : Ga) (i : Nat) (x : Str) : Bool := Γ.N[i]? == some x && okNm x
def nostar : Expr → Bool
  | .Starred .. => false
  | _ => true
def noslice : Expr → Bool
  | .Slice .. => false
  | _ => true
def nocall : Expr → Bool
  | .Call _ [] [] _ => false
  | _ => true
def litB (d : D) (c : Const) : Bool := match d, c with
  | .non, .none => true
  | .bl a, .bool b => a == b
  | .int a, .int b => a == b
  | .str x, .str y => y == ⟨x.toArray⟩ && decide (x.length ≤ most)
  | _, _ => false
def btNm : Bt → Str
  | .len => "len"
  | .all => "all"
  | .any => "any"
  | .sum => "sum"
  | .min2 => "min"
  | .max2 => "max"
  | .abs => "abs"
  | .int => "int"
  | .str => "str"
  | .repr => "repr"
  | .list => "list"
  | .tuple => "tuple"
  | .sorted => "sorted"
def tyNm (t : Ty) : Str := Str.ofString (tyStr t)
/-- a block's own names with their places -/
def ownOf (N : List Str) (own : List Nat) : List (Str × Nat) := own.filterMap fun i => (N[i]?).map fun x => (x, i)
def blkB (Γ : Ga) (scope : Scope) (own : List Nat) : Bool :=
  scope.kind == .function && (scope.names.all (fun y => scope.names.lookup y.1 == some y.2) && (scope.names.all (fun y => !(y.2 == .free) || (Γ.sc.names.lookup y.1 == some .cell || Γ.sc.names.lookup y.1 == some .free)) &&
    (scope.names.all (fun y => !(y.2 == .local || y.2 == .cell) || ((ownOf Γ.N own).any (fun p => p.1 == y.1) || !(Γ.N.contains y.1))) && own.all fun i => decide (i < Γ.N.length))))
def Ga.blk (Γ : Ga) (scope : Scope) : Ga := { Γ with sc := relS scope Γ.sc, fn := fun x => scope.names.lookup x == some .cell }
/-! targets -/
mutual
def chkT (Γ : Ga) : Tg → Expr → Bool
  | .nm i, p => match p with
    | .Name x _ => Γ.loc i x && (Γ.sc.names.lookup x == some .local || (Γ.sc.names.lookup x == some .cell && Γ.fn x))
    | _ => false
  | .tup ts, p => match p with
    | .Tuple xs _ _ => chkTs Γ ts xs
    | _ => false
  | .star _ _, _ => false
def chkTs (Γ : Ga) : List Tg → List Expr → Bool
  | [], xs => match xs with
    | [] => true
    | _ => false
  | t :: ts, xs => match xs with
    | x :: xs => nostar x && (chkT Γ t x && chkTs Γ ts xs)
    | [] => false
end
mutual
/-- all names of a target lie among these -/
def Tg.sub (vs : List Nat) : Tg → Bool
  | .nm i => vs.contains i
  | .tup ts => subTs vs ts
  | .star is k => vs.contains k && is.all vs.contains
def subTs (vs : List Nat) : List Tg → Bool
  | [] => true
  | t :: ts => t.sub vs && subTs vs ts
end
def isTup : Expr → Bool
  | .Tuple .. => true
  | _ => false
mutual
def chkE (Γ : Ga) : E → Expr → Bool
  | .var i, p => match p with
    | .Name x _ => Γ.loc i x && visB Γ.sc x
    | _ => false
  | .lit d, p => match p with
    | .Constant c _ _ => litB d c
    | _ => false
  | .glob x d, p => match p with
    | .Name y _ => x == y && (Γ.gl x && Γ.gls.any fun q => q.1 == x && q.2.same d)
    | _ => false
  | .bin _ op a b, p => match p with
    | .BinOp l o r _ => decide (o = opOf op) && (chkE Γ a l && chkE Γ b r)
    | _ => false
  | .neg a, p => match p with
    | .UnaryOp .USub x _ => chkE Γ a x
    | _ => false
  | .not a, p => match p with
    | .UnaryOp .Not x _ => chkE Γ a x
    | _ => false
  | .and a b, p => match p with
    | .BoolOp .And (x :: y :: rest) pos => chkE Γ a x && (match rest with
      | [] => chkE Γ b y
      | _ => chkE Γ b (.BoolOp .And (y :: rest) pos))
    | _ => false
  | .or a b, p => match p with
    | .BoolOp .Or (x :: y :: rest) pos => chkE Γ a x && (match rest with
      | [] => chkE Γ b y
      | _ => chkE Γ b (.BoolOp .Or (y :: rest) pos))
    | _ => false
  | .cmp op a b, p => match p with
    | .Compare l [o] [r] _ => decide (o = cpOf op) && (!behindInMarks o r && (chkE Γ a l && chkE Γ b r))
    | _ => false
  | .chain op op' a b c, p => match p with
    | .Compare l [o, o'] [r, r'] _ => decide (o = cpOf op) && (decide (o' = cpOf op') && (!behindInMarks o' r' && (chkE Γ a l && (chkE Γ b r && chkE Γ c r'))))
    | _ => false
  | .ite c a b, p => match p with
    | .IfExp t x y _ => chkE Γ c t && (chkE Γ a x && chkE Γ b y)
    | _ => false
  | .tup es, p => match p with
    | .Tuple xs _ _ => chkEs Γ es xs
    | _ => false
  | .lst _ es, p => match p with
    | .List xs _ => chkEs Γ es xs
    | _ => false
  | .dict _ es, p => match p with
    | .Dict keys values _ => !keys.isEmpty && (decide (keys.length ≤ 15) && chkEd Γ es keys values)
    | _ => false
  | .dict0 _, p => match p with
    | .Dict [] [] _ => true
    | _ => false
  | .idx a i, p => match p with
    | .Subscript x y _ => noslice y && (chkE Γ a x && chkE Γ i y)
    | _ => false
  | .slc _ a lo hi, p => match p with
    | .Subscript x (.Slice l h none _) _ => chkE Γ a x && (chkO Γ lo l && chkO Γ hi h)
    | _ => false
  | .rev _ a, p => match p with
    | .Subscript x (.Slice none none (some (.UnaryOp .USub (.Constant (.int 1) _ _) _)) _) _ => chkE Γ a x
    | _ => false
  | .fstr es, p => match p with
    | .JoinedStr (v1 :: v2 :: rest) _ => chkF Γ es (v1 :: v2 :: rest)
    | _ => false
  | .call f es, p => match p with
    | .Call (.Name x _) ys [] _ => Γ.fns[f]? == some x && (Γ.gl x && chkEs Γ es ys)
    | _ => false
  | .callk f es kes ks how dv, p => match p with
    | .Call (.Name x _) ys kws _ => Γ.fns[f]? == some x && (Γ.gl x && (decide ((⟨f, es.length, ks, how, dv⟩ : Kw) ∈ Γ.bts.kws) && (kwB kws ks && (chkEs Γ es ys && chkEs Γ kes (kws.map (·.value))))))
    | _ => false
  | .callv _ _, _ => false
  | .blt _ f es, p => match p with
    | .Call (.Name x _) (y :: ys) [] _ => x == btNm f && (Γ.bt x && chkEs Γ es (y :: ys))
    | _ => false
  | .isi a t, p => match p with
    | .Call (.Name x _) [y, .Name z _] [] _ => x == "isinstance" && (z == tyNm t && (Γ.bt x && (Γ.bt z && (nostar y && chkE Γ a y))))
    | _ => false
  | .meth f o es, p => match p with
    | .Call (.Attribute x n apos) ys [] pos => n == mtNm f && (nocall x && (apos.endLine == pos.line && (decide (ys.length < 30) && (chkE Γ o x && chkEs Γ es ys))))
    | _ => false
  | .comp _ elt t it ifs own, p => match p with
    | .ListComp x [⟨tg, iter, cs, 0⟩] scope _ => blkB Γ scope own && (t.sub own && (chkT (Γ.blk scope) t tg && (chkI Γ it tg iter && (chkTst (Γ.blk scope) ifs cs && chkE (Γ.blk scope) elt x))))
    | _ => false
  | .seq _, _ => false
  | .range1 _, _ => false
  | .range2 _ _, _ => false
  | .enum _, _ => false
  | .zip _ _, _ => false
def chkEs (Γ : Ga) : List E → List Expr → Bool
  | [], xs => match xs with
    | [] => true
    | _ => false
  | e :: es, xs => match xs with
    | x :: xs => nostar x && (chkE Γ e x && chkEs Γ es xs)
    | [] => false
/-- the parts of an f-string -/
def chkF (Γ : Ga) : List E → List Expr → Bool
  | [], xs => match xs with
    | [] => true
    | _ => false
  | e :: es, xs => match xs with
    | .FormattedValue x (-1) none _ :: xs => chkE Γ e x && chkF Γ es xs
    | .Constant c _ _ :: xs => (match e with
      | .lit (.str x) => litB (.str x) c
      | _ => false) && chkF Γ es xs
    | _ => false
/-- a dict display: key, value, key, value .. -/
def chkEd (Γ : Ga) : List E → List (Option Expr) → List Expr → Bool
  | [], ks, vs => ks.isEmpty && vs.isEmpty
  | e :: es, ks, vs => match es with
    | e' :: es => match ks, vs with
      | some k :: ks, v :: vs => chkE Γ e k && (chkE Γ e' v && chkEd Γ es ks vs)
      | _, _ => false
    | [] => false
def chkO (Γ : Ga) : Option E → Option Expr → Bool
  | none, p => match p with
    | none => true
    | _ => false
  | some e, p => match p with
    | some x => chkE Γ e x
    | none => false
/-- a comprehension's tests: none, one -/
def chkTst (Γ : Ga) : List E → List Expr → Bool
  | [], xs => match xs with
    | [] => true
    | _ => false
  | e :: es, xs => match xs with
    | [x] => es.isEmpty && chkE Γ e x
    | _ => false
def chkI (Γ : Ga) : E → Expr → Expr → Bool
  | .seq a, _, p => (match p with
    | .Set .. => false
    | _ => true) && chkE Γ a p
  | .range1 a, _, p => match p with
    | .Call (.Name x _) [y] [] _ => x == "range" && (Γ.bt x && (nostar y && chkE Γ a y))
    | _ => false
  | .range2 a b, _, p => match p with
    | .Call (.Name x _) [y, z] [] _ => x == "range" && (Γ.bt x && (nostar y && (nostar z && (chkE Γ a y && chkE Γ b z))))
    | _ => false
  | .enum a, tg, p => match p with
    | .Call (.Name x _) [y] [] _ => x == "enumerate" && (isTup tg && (Γ.bt x && (nostar y && chkE Γ a y)))
    | _ => false
  | .zip a b, tg, p => match p with
    | .Call (.Name x _) [y, z] [] _ => x == "zip" && (isTup tg && (Γ.bt x && (nostar y && (nostar z && (chkE Γ a y && chkE Γ b z)))))
    | _ => false
  | _, _, _ => false
end
end MP
end
section
set_option maxRecDepth 100000
/-! EvM: the text does what the terms say: expressions. -/
namespace MP
open PySem L2

/-- a def's calls do what call says -/
def CallsOk (X : Cx) (fa : Nat → Option Addr) (call : Nat → List D → Store → R D) : Prop := ∀ (X' : Cx), X'.prog = X.prog → X'.w = X.w → X'.K = X.K → X'.mg = X.mg → X'.base = X.base → X'.A = X.A → ∀ (f : Nat) (a : Addr), fa f = some a → CallR X' (.ref a) (rBt X'.K fa (call f))
/-- .. by keywords, with defaults -/
def rKw (K : PySem.W.Frag) (fa : Nat → Option Addr) (call : Nat → List D → Store → R D) (k : Kw) : List V → List V → Hp → VK → Prop := fun vs zs H Q => ∃ ρ S ds kds, Rel K fa ρ S H ∧ RpAll K fa H ρ vs ds ∧ RpAll K fa H ρ zs kds ∧ Post K fa (rD K fa) ρ H Q (match pickN k.how (ds ++ kds ++ k.dv.map Fl.d) with
  | some xs => call k.f xs S
  | none => .stuck)
def CallsK (X : Cx) (fa : Nat → Option Addr) (kws : List Kw) (call : Nat → List D → Store → R D) : Prop := ∀ (X' : Cx), X'.prog = X.prog → X'.w = X.w → X'.K = X.K → X'.mg = X.mg → X'.base = X.base → X'.A = X.A → ∀ (k : Kw), k ∈ kws → ∀ (a : Addr), fa k.f = some a →
  ∀ (pins : List (Addr × Obj)) (s : Shared) (σ : L2.St) (H : Hp) (vs zs : List V) (us ws : List Value) (Q : VK), Inv X' pins σ H s → Vals vs us → Vals zs ws → us.length = k.n → ws.length = k.ks.length → rKw X'.K fa call k vs zs H Q →
    wpAny (model X'.prog X'.w) X'.A (PySem.call (.ref a) us (k.ks.zip ws)) (EP X' pins σ Q) X'.xe s
/-- what a def's text leans on is there -/
structure Has (X : Cx) (Γ : Ga) (fa : Nat → Option Addr) (call : Nat → List D → Store → R D) : Prop where
  n : X.N = Γ.N
  sc : X.env.scope = Γ.sc
  hfn : X.fn = Γ.fn
  ck : Cok X fa
  nd : X.N.Nodup
  fns : ∀ (f : Nat) (x : Str), Γ.fns[f]? = some x → ∃ a, X.mg x = some (.ref a) ∧ fa f = some a ∧ PySem.W.keepIn X.K (.ref a) = true
  gls : ∀ (x : Str) (d : D), (x, d) ∈ Γ.gls → ∃ (u : Value) (v : V), X.mg x = some u ∧ RelV v u ∧ ∀ ρ H, Clear X.K ρ → Rp X.K fa H ρ v d
  bts : ∀ x : Str, x ∈ Γ.bts.l → X.mg x = none
  calls : CallsOk X fa call
  callsk : CallsK X fa Γ.bts.kws call
  own : PassesOwn (model X.prog X.w) X.A X.env X.xe
section
variable {X : Cx} {Γ : Ga} {fa : Nat → Option Addr} {call : Nat → List D → Store → R D}
theorem Has.blk (h : Has X Γ fa call) (scope : Scope) (s : Shared) (H : Hp) (C : Addr) (cl : List (Str × Addr)) (fp : List Addr) : Has (X.blk s H scope (compEnvC scope cl C X.env) fp) (Γ.blk scope) fa call where
  n := h.n
  sc := by show relS scope X.env.scope = relS scope Γ.sc; rw [h.sc]
  hfn := rfl
  ck := ⟨h.ck.calm, h.ck.sys, h.ck.room, h.ck.gd, h.ck.tabs⟩
  nd := h.nd
  fns := h.fns
  gls := h.gls
  bts := h.bts
  calls := h.calls
  callsk := h.callsk
  own := PassesOwn.never
theorem okNm_of {x : Str} (h : okNm x = true) : (x == ("__debug__" : Str)) = false ∧ (x == ("__classdict__" : Str)) = false ∧ x ≠ "__name__" := by
  obtain ⟨h1, h2⟩ := and_tt h
  obtain ⟨h2, h3⟩ := and_tt h2
  exact ⟨by simpa using h1, by simpa using h2, by simpa using h3⟩
theorem loc_of {i : Nat} {x : Str} (hs : Has X Γ fa call) (h : Γ.loc i x = true) : X.N[i]? = some x ∧ okNm x = true := by
  obtain ⟨h1, h2⟩ := and_tt h
  refine ⟨?_, h2⟩
  rw [hs.n]
  simpa using h1
theorem vis_of {x : Str} (hs : Has X Γ fa call) (h : visB Γ.sc x = true) : Vis X.env.scope x := by
  unfold Vis
  rw [hs.sc]
  unfold visB at h
  simpa using h
theorem gl_of {x : Str} (hs : Has X Γ fa call) (h : Γ.gl x = true) : Gl X x ∧ okNm x = true := by
  obtain ⟨h1, h2⟩ := and_tt h
  refine ⟨?_, h2⟩
  show X.env.scope.names.lookup x = _
  rw [hs.sc]
  simpa using h1
theorem bt_of {x : Str} (hs : Has X Γ fa call) (h : Γ.bt x = true) : Gl X x ∧ okNm x = true ∧ X.mg x = none := by
  obtain ⟨h1, h2⟩ := and_tt h
  obtain ⟨h3, h4⟩ := gl_of hs h1
  exact ⟨h3, h4, hs.bts x (by simpa using h2)⟩
theorem star_cons {e : Expr} {es : List Expr} {env : PySem.Env} (h : nostar e = true) : starEach (e :: es) env = (false, eval e env) :: starEach es env := by
  cases e <;> first | rfl | cases h
theorem base_of {o : Expr} {m : Str} {env : PySem.Env} (h : nocall o = true) : attributeBase o m env (eval o env) = eval o env := by
  cases o with
  | Call f as ks p =>
    cases f with
    | Name x q =>
      cases as with
      | nil => cases ks with
        | nil => cases h
        | cons => rfl
      | cons => rfl
    | _ => rfl
  | _ => rfl
/-- from a weakest reading to a test -/
def plainTest : Expr → Bool
  | .UnaryOp .Not _ _ => false
  | .BoolOp .. => false
  | .IfExp .. => false
  | .Compare .. => false
  | _ => true
theorem plain_true {e : Expr} {env : PySem.Env} (h : plainTest e = true) : ∀ whole, isTrue e env whole = (do let v ← whole; standAt e.pos; holding [v] (truthy v)) := by
  intro whole
  cases e with
  | UnaryOp op _ _ => cases op <;> first | rfl | cases h
  | BoolOp => cases h
  | IfExp => cases h
  | Compare => cases h
  | _ => rfl
/-- both readings -/
def SB (X : Cx) (fa : Nat → Option Addr) (p : Expr) (f : MP.Env → Store → R D) : Prop := SE X fa p f ∧ STt X fa p fun env S => (f env S).bind test
theorem sb_plain {p : Expr} {f : MP.Env → Store → R D} (hp : plainTest p = true) (h : SE X fa p f) : SB X fa p f := by
  refine ⟨h, fun σ H ρ env S Q rel ev hq => ?_⟩
  refine wt_of (pt_truth (pe_w (e := p)) (plain_true hp)) ?_
  refine h.bind rel ev hq fun d S1 ρ1 H1 v e1 r1 p1 ev1 hq1 => ?_
  exact test_ok r1 p1 hq1
/-- a comparison's test: its value is a bool -/
def isBl : R D → Prop
  | .ok d _ => ∃ b, d = .bl b
  | .exc _ _ => True
  | .stuck => True
end
end MP
end
section
set_option maxRecDepth 100000
/-! EvN: the text does what the terms say: each kind of expression. -/
namespace MP
open PySem L2
section
variable {X : Cx} {Γ : Ga} {fa : Nat → Option Addr} {call : Nat → List D → Store → R D}
theorem sb_var {i : Nat} {p : Expr} (hs : Has X Γ fa call) (h : chkE Γ (.var i) p = true) : SB X fa p (evE call (.var i)) := by
  cases p <;> try (cases h; done)
  rename_i x pos
  obtain ⟨h1, h2⟩ := and_tt h
  obtain ⟨h1, h3⟩ := loc_of hs h1
  obtain ⟨h4, h5, h6⟩ := okNm_of h3
  refine sb_plain rfl fun σ H ρ env S Q rel ev hq => w_of (pe_var h1 (vis_of hs h2) h4 h5) ?_
  simp only [evE] at hq
  split at hq
  · rename_i d e
    obtain ⟨v, e1, e2⟩ := ev.2 i d e
    exact ⟨v, e1, hq.fin rel e2⟩
  · exact hq.elim
theorem sb_lit {d : D} {p : Expr} (h : chkE Γ (.lit d) p = true) : SB X fa p (evE call (.lit d)) := by
  cases p <;> try (cases h; done)
  rename_i c k pos
  have h : litB d c = true := h
  refine sb_plain rfl fun σ H ρ env S Q rel ev hq => ?_
  simp only [evE] at hq
  unfold litB at h
  split at h
  · exact w_of pe_non (hq.fin rel .non)
  · have e := eq_of_beq h; subst e
    exact w_of pe_bl (hq.fin rel (.bl _))
  · have e := eq_of_beq h; subst e
    exact w_of pe_int (hq.fin rel (.int _))
  · obtain ⟨h1, h2⟩ := and_tt h
    have e := eq_of_beq h1; subst e
    exact w_of pe_str (hq.fin rel (.str _ (line_of (bdec h2))))
  · cases h
theorem sb_glob {x : Str} {d : D} {p : Expr} (hs : Has X Γ fa call) (h : chkE Γ (.glob x d) p = true) : SB X fa p (evE call (.glob x d)) := by
  cases p <;> try (cases h; done)
  rename_i y pos
  obtain ⟨h1, h2⟩ := and_tt h
  obtain ⟨h2, h3⟩ := and_tt h2
  have e := eq_of_beq h1; subst e
  obtain ⟨g1, g2⟩ := gl_of hs h2
  obtain ⟨q, hm, hq⟩ := List.any_eq_true.mp h3
  obtain ⟨q1, q2⟩ := and_tt hq
  have e1 := eq_of_beq q1
  have e2 := same_eq q2
  obtain ⟨qx, qd⟩ := q
  have e1 : qx = x := e1
  have e2 : qd = d := e2
  subst e1 e2
  obtain ⟨u, v, m1, m2, m3⟩ := hs.gls _ _ hm
  refine sb_plain rfl fun σ H ρ env S Q rel ev hq => w_of (pe_glob g1 m1 m2 (okNm_of g2).1) ?_
  simp only [evE] at hq
  exact hq.fin rel (m3 ρ H rel.clear)
theorem sb_bin {m : Bool} {op : O2} {a b : E} {p : Expr} (ha : ∀ p, chkE Γ a p = true → SB X fa p (evE call a)) (hb : ∀ p, chkE Γ b p = true → SB X fa p (evE call b)) (h : chkE Γ (.bin m op a b) p = true) : SB X fa p (evE call (.bin m op a b)) := by
  cases p <;> try (cases h; done)
  rename_i l o r pos
  obtain ⟨h1, h2⟩ := and_tt h
  obtain ⟨h2, h3⟩ := and_tt h2
  have e := bdec h1; subst e
  refine sb_plain rfl fun σ H ρ env S Q rel ev hq => w_of (pe_op (op2_ok (fa := fa) m op) (pe_w (e := l)) (pe_w (e := r))) ?_
  simp only [evE] at hq
  refine (ha l h2).1.bind rel ev hq fun d S1 ρ1 H1 v e1 r1 p1 ev1 hq1 => ?_
  refine (hb r h3).1.bind r1 ev1 hq1 fun d2 S2 ρ2 H2 v2 e2 r2 p2 ev2 hq2 => ?_
  exact ⟨ρ2, S2, d, d2, r2, p1.ext e2 r2.clear, p2, hq2⟩
theorem sb_neg {a : E} {p : Expr} (ha : ∀ p, chkE Γ a p = true → SB X fa p (evE call a)) (h : chkE Γ (.neg a) p = true) : SB X fa p (evE call (.neg a)) := by
  cases p <;> try (cases h; done)
  rename_i op x pos
  cases op <;> try (cases h; done)
  refine sb_plain rfl fun σ H ρ env S Q rel ev hq => w_of (pe_un un_neg (pe_w (e := x))) ?_
  simp only [evE] at hq
  refine (ha x h).1.bind rel ev hq fun d S1 ρ1 H1 v e1 r1 p1 ev1 hq1 => ?_
  cases d <;> try (exact hq1.elim)
  obtain rfl := rp_int p1
  exact ⟨_, rfl, hq1.fin r1 (.int _)⟩
/-- a value's truth, as a value's -/
theorem test_truth {ρ : List Addr} {H : Hp} {S S' : Store} {d : D} {b : Bool} (h : test d S = .ok b S') : truth S d = some b ∧ S' = S := by
  unfold test at h
  split at h
  · rename_i k q
    cases h
    exact ⟨q, rfl⟩
  · cases h
theorem test_bind {β γ : Type} {K : PySem.W.Frag} {rp : Hp → List Addr → γ → β → Prop} {Q : γ → Hp → Prop} {ρ : List Addr} {H : Hp} {S : Store} {d : D} {g : Bool → Store → R β} (h : Post K fa rp ρ H Q ((test d S).bind g)) : ∃ b, truth S d = some b ∧ Post K fa rp ρ H Q (g b S) := by
  unfold test at h
  split at h
  · rename_i b q
    exact ⟨b, q, h⟩
  · exact h.elim
theorem sb_not {a : E} {p : Expr} (ha : ∀ p, chkE Γ a p = true → SB X fa p (evE call a)) (h : chkE Γ (.not a) p = true) : SB X fa p (evE call (.not a)) := by
  cases p <;> try (cases h; done)
  rename_i op x pos
  cases op <;> try (cases h; done)
  refine ⟨fun σ H ρ env S Q rel ev hq => w_of (pe_notT (pe_w (e := x))) ?_, fun σ H ρ env S Q rel ev hq => wt_of (pt_not (pt_w (e := x))) ?_⟩
  · simp only [evE] at hq
    refine (ha x h).1.bind rel ev hq fun d S1 ρ1 H1 v e1 r1 p1 ev1 hq1 => ?_
    obtain ⟨b, q1, q2⟩ := test_bind hq1
    exact ⟨b, truth_ok r1 p1 q1, q2.fin r1 (.bl _)⟩
  · have ht := (ha x h).2
    have hq : Post X.K fa rB ρ H Q (((evE call a env S).bind test).bind fun b S => .ok (!b) S) := by
      simp only [evE] at hq
      cases e : evE call a env S with
      | exc x S1 => rw [e] at hq; exact hq
      | stuck => rw [e] at hq; exact hq
      | ok d S1 =>
        rw [e] at hq
        simp only [R.bind_ok] at hq ⊢
        cases e2 : test d S1 with
        | exc x S1 => rw [e2] at hq; exact hq
        | stuck => rw [e2] at hq; exact hq
        | ok b S2 => rw [e2] at hq; exact hq
    exact ht.bind rel ev hq fun b S1 ρ1 H1 e1 r1 ev1 hq1 => hq1.finB r1
/-- the last of a row of and, or -/
theorem pw_of {op : BoolOp} {xs : List Expr} {pos : Pos} {t : TT} (h : PT X (.BoolOp op xs pos) t) : PW X (.BoolOp op xs pos) t := ⟨fun _ pins s σ H Q I q => h.run pins s σ H Q I q⟩
theorem andor_post {K : PySem.W.Frag} {ρ : List Addr} {H : Hp} {S : Store} {Q : Bool → Hp → Prop} {c : Bool} {d : D} {g : Store → R D} (h : Post K fa rB ρ H Q (((test d S).bind fun t S => match t with
    | true => g S
    | false => .ok d S).bind test)) : ∃ b, truth S d = some b ∧ Post K fa rB ρ H Q (match b with
    | true => (g S).bind test
    | false => .ok false S) := by
  cases e : truth S d with
  | none => simp [test, e] at h; exact h.elim
  | some b =>
    refine ⟨b, rfl, ?_⟩
    have e2 : test d S = .ok b S := by simp [test, e]
    rw [e2] at h
    cases b with
    | true => exact h
    | false =>
      simp only [R.bind_ok] at h
      rw [e2] at h
      exact h
theorem sb_and {a b : E} {p : Expr} (ha : ∀ p, chkE Γ a p = true → SB X fa p (evE call a)) (hb : ∀ p, chkE Γ b p = true → SB X fa p (evE call b)) (h : chkE Γ (.and a b) p = true) : SB X fa p (evE call (.and a b)) := by
  cases p <;> try (cases h; done)
  rename_i op xs pos
  cases op <;> try (cases h; done)
  match xs, h with
  | [], h => cases h
  | [_], h => cases h
  | x :: y :: rest, h =>
  obtain ⟨h1, h2⟩ := and_tt h
  have hy : SB X fa (.BoolOp .And (y :: rest) pos) (evE call b) := by
    cases rest with
    | nil =>
      have k := hb y h2
      exact ⟨fun σ H ρ env S Q rel ev hq => w_of (pe_one pe_w) (k.1 σ H ρ env S Q rel ev hq), fun σ H ρ env S Q rel ev hq => wt_of (pw_and1 pt_w).pt (k.2 σ H ρ env S Q rel ev hq)⟩
    | cons z rest => exact hb _ h2
  refine ⟨fun σ H ρ env S Q rel ev hq => w_of (pe_andT (pe_w (e := x)) pe_w) ?_, fun σ H ρ env S Q rel ev hq => wt_of (pw_and (pt_w (e := x)) (pw_of pt_w)).pt ?_⟩
  · simp only [evE] at hq
    refine (ha x h1).1.bind rel ev hq fun d S1 ρ1 H1 v e1 r1 p1 ev1 hq1 => ?_
    obtain ⟨k, q1, q2⟩ := test_bind hq1
    refine ⟨k, truth_ok r1 p1 q1, ?_⟩
    cases k with
    | true => exact hy.1 σ H1 ρ1 env S1 Q r1 ev1 q2
    | false => exact q2.fin r1 p1
  · have hq : Post X.K fa rB ρ H Q (((evE call a env S).bind test).bind fun t S => match t with
        | true => (evE call b env S).bind test
        | false => .ok false S) := by
      simp only [evE] at hq
      cases e : evE call a env S with
      | exc x S1 => rw [e] at hq; exact hq
      | stuck => rw [e] at hq; exact hq
      | ok d S1 =>
        rw [e] at hq
        obtain ⟨k, q1, q2⟩ := andor_post (c := true) hq
        have e2 : test d S1 = .ok k S1 := by simp [test, q1]
        simp only [R.bind_ok]
        rw [e2]
        exact q2
    refine (ha x h1).2.bind rel ev hq fun k S1 ρ1 H1 e1 r1 ev1 hq1 => ?_
    cases k with
    | true => exact hy.2 σ H1 ρ1 env S1 Q r1 ev1 hq1
    | false => exact hq1.finB r1
theorem sb_or {a b : E} {p : Expr} (ha : ∀ p, chkE Γ a p = true → SB X fa p (evE call a)) (hb : ∀ p, chkE Γ b p = true → SB X fa p (evE call b)) (h : chkE Γ (.or a b) p = true) : SB X fa p (evE call (.or a b)) := by
  cases p <;> try (cases h; done)
  rename_i op xs pos
  cases op <;> try (cases h; done)
  match xs, h with
  | [], h => cases h
  | [_], h => cases h
  | x :: y :: rest, h =>
  obtain ⟨h1, h2⟩ := and_tt h
  have hy : SB X fa (.BoolOp .Or (y :: rest) pos) (evE call b) := by
    cases rest with
    | nil =>
      have k := hb y h2
      exact ⟨fun σ H ρ env S Q rel ev hq => w_of (pe_one pe_w) (k.1 σ H ρ env S Q rel ev hq), fun σ H ρ env S Q rel ev hq => wt_of (pw_or1 pt_w).pt (k.2 σ H ρ env S Q rel ev hq)⟩
    | cons z rest => exact hb _ h2
  refine ⟨fun σ H ρ env S Q rel ev hq => w_of (pe_orT (pe_w (e := x)) pe_w) ?_, fun σ H ρ env S Q rel ev hq => wt_of (pw_or (pt_w (e := x)) (pw_of pt_w)).pt ?_⟩
  · simp only [evE] at hq
    refine (ha x h1).1.bind rel ev hq fun d S1 ρ1 H1 v e1 r1 p1 ev1 hq1 => ?_
    obtain ⟨k, q1, q2⟩ := test_bind hq1
    refine ⟨k, truth_ok r1 p1 q1, ?_⟩
    cases k with
    | true => exact q2.fin r1 p1
    | false => exact hy.1 σ H1 ρ1 env S1 Q r1 ev1 q2
  · have hq : Post X.K fa rB ρ H Q (((evE call a env S).bind test).bind fun t S => match t with
        | true => .ok true S
        | false => (evE call b env S).bind test) := by
      simp only [evE] at hq
      cases e : evE call a env S with
      | exc x S1 => rw [e] at hq; exact hq
      | stuck => rw [e] at hq; exact hq
      | ok d S1 =>
        rw [e] at hq
        simp only [R.bind_ok] at hq ⊢
        cases e3 : truth S1 d with
        | none => simp [test, e3] at hq; exact hq.elim
        | some k =>
          have e2 : test d S1 = .ok k S1 := by simp [test, e3]
          rw [e2] at hq ⊢
          cases k with
          | false => exact hq
          | true =>
            simp only [R.bind_ok] at hq ⊢
            rw [e2] at hq
            exact hq
    refine (ha x h1).2.bind rel ev hq fun k S1 ρ1 H1 e1 r1 ev1 hq1 => ?_
    cases k with
    | true => exact hq1.finB r1
    | false => exact hy.2 σ H1 ρ1 env S1 Q r1 ev1 hq1
theorem cp2_bl {op : Cp} {x y d : D} {S S' : Store} (h : cp2 op x y S = .ok d S') : ∃ b, d = .bl b := by
  unfold cp2 at h
  split at h <;> (first | (cases h; done) | (split at h <;> first | (cases h; exact ⟨_, rfl⟩) | (cases h; done)))
theorem bl_post {K : PySem.W.Frag} {ρ : List Addr} {H : Hp} {Q : Bool → Hp → Prop} {r : R D} (hb : ∀ d S, r = .ok d S → ∃ b, d = .bl b) (h : Post K fa rB ρ H Q (r.bind test)) : Post K fa (rD K fa) ρ H (fun v H' => ∃ k, v = .bl k ∧ Q k H') r := by
  cases r with
  | exc => exact h
  | stuck => exact h
  | ok d S =>
    obtain ⟨b, rfl⟩ := hb d S rfl
    intro ρ' H' v e r p
    obtain rfl := rp_bl p
    exact ⟨b, rfl, h ρ' H' b e r rfl⟩
theorem bind_assoc {α β γ : Type} (r : R α) (f : α → Store → R β) (g : β → Store → R γ) : (r.bind f).bind g = r.bind fun a S => (f a S).bind g := by cases r <;> rfl
theorem sb_cmp {op : Cp} {a b : E} {p : Expr} (hs : Has X Γ fa call) (ha : ∀ p, chkE Γ a p = true → SB X fa p (evE call a)) (hb : ∀ p, chkE Γ b p = true → SB X fa p (evE call b)) (h : chkE Γ (.cmp op a b) p = true) : SB X fa p (evE call (.cmp op a b)) := by
  cases p <;> try (cases h; done)
  rename_i l ops rs pos
  match ops, rs, h with
  | [], _, h => cases h
  | [_], [], h => cases h
  | [_], _ :: _ :: _, h => cases h
  | _ :: _ :: _, _, h => cases h
  | [o], [r], h =>
  obtain ⟨h1, h2⟩ := and_tt h
  obtain ⟨h2, h3⟩ := and_tt h2
  obtain ⟨h3, h4⟩ := and_tt h3
  have e := bdec h1; subst e
  have hm : behindInMarks (cpOf op) r = false := by simpa using h2
  refine ⟨fun σ H ρ env S Q rel ev hq => w_of (pe_cmpR (cp2_ok (fa := fa) hs.ck op) (pe_w (e := l)) (pe_w (e := r)) hm) ?_, fun σ H ρ env S Q rel ev hq => wt_of (pt_cmpR (cp2_ok (fa := fa) hs.ck op) (pe_w (e := l)) (pe_w (e := r)) hm) ?_⟩
  · simp only [evE] at hq
    refine (ha l h3).1.bind rel ev hq fun d S1 ρ1 H1 v e1 r1 p1 ev1 hq1 => ?_
    refine (hb r h4).1.bind r1 ev1 hq1 fun d2 S2 ρ2 H2 v2 e2 r2 p2 ev2 hq2 => ?_
    exact ⟨ρ2, S2, d, d2, r2, p1.ext e2 r2.clear, p2, hq2⟩
  · simp only [evE] at hq
    rw [bind_assoc] at hq
    refine (ha l h3).1.bind rel ev hq fun d S1 ρ1 H1 v e1 r1 p1 ev1 hq1 => ?_
    rw [bind_assoc] at hq1
    refine (hb r h4).1.bind r1 ev1 hq1 fun d2 S2 ρ2 H2 v2 e2 r2 p2 ev2 hq2 => ?_
    exact ⟨ρ2, S2, d, d2, r2, p1.ext e2 r2.clear, p2, bl_post (fun d S e => cp2_bl e) hq2⟩
theorem chain_post {K : PySem.W.Frag} {ρ : List Addr} {H : Hp} {Q : VK} {r : R D} {g : D → Store → R D} {g' : Store → R D} (hb : ∀ d S, r = .ok d S → ∃ b, d = .bl b) (hg : ∀ b S, g (.bl b) S = match b with
    | true => g' S
    | false => .ok (.bl false) S) (h : Post K fa (rD K fa) ρ H Q (r.bind g)) : ∃ b S, r = .ok (.bl b) S ∧ Post K fa (rD K fa) ρ H Q (match b with
    | true => g' S
    | false => .ok (.bl false) S) := by
  cases r with
  | exc => exact h.elim
  | stuck => exact h.elim
  | ok d S =>
    obtain ⟨b, rfl⟩ := hb d S rfl
    exact ⟨b, S, rfl, by rw [← hg]; exact h⟩
end
end MP
end
section
set_option maxRecDepth 100000
/-! EvO: the text does what the terms say: more kinds of expression. -/
namespace MP
open PySem L2
section
variable {X : Cx} {Γ : Ga} {fa : Nat → Option Addr} {call : Nat → List D → Store → R D}
theorem cp2_pure {op : Cp} {x y d : D} {S S' : Store} (h : cp2 op x y S = .ok d S') : S' = S := by
  unfold cp2 at h
  split at h <;> (first | (cases h; done) | (split at h <;> first | (cases h; rfl) | (cases h; done)))
theorem chain_ite {K : PySem.W.Frag} {ρ : List Addr} {H : Hp} {op : Cp} {x y : D} {S : Store} {Q : VK} {g : Store → R D} (h : Post K fa (rD K fa) ρ H Q ((cp2 op x y S).bind fun t S => match t with
    | .bl true => g S
    | .bl false => .ok (.bl false) S
    | _ => .stuck)) : ∃ b, cp2 op x y S = .ok (.bl b) S ∧ Post K fa (rD K fa) ρ H Q (match b with
    | true => g S
    | false => .ok (.bl false) S) := by
  cases e : cp2 op x y S with
  | exc => rw [e] at h; exact h.elim
  | stuck => rw [e] at h; exact h.elim
  | ok d S' =>
    obtain ⟨b, rfl⟩ := cp2_bl e
    have := cp2_pure e; subst this
    refine ⟨b, rfl, ?_⟩
    rw [e] at h
    cases b <;> exact h
theorem sb_chain {op op' : Cp} {a b c : E} {p : Expr} (hs : Has X Γ fa call) (ha : ∀ p, chkE Γ a p = true → SB X fa p (evE call a)) (hb : ∀ p, chkE Γ b p = true → SB X fa p (evE call b)) (hc : ∀ p, chkE Γ c p = true → SB X fa p (evE call c))
    (h : chkE Γ (.chain op op' a b c) p = true) : SB X fa p (evE call (.chain op op' a b c)) := by
  cases p <;> try (cases h; done)
  rename_i l ops rs pos
  match ops, rs, h with
  | [], _, h => cases h
  | [_], _, h => cases h
  | [_, _], [], h => cases h
  | [_, _], [_], h => cases h
  | [_, _], _ :: _ :: _ :: _, h => cases h
  | _ :: _ :: _ :: _, _, h => cases h
  | [o, o'], [r, r'], h =>
  obtain ⟨h1, h2⟩ := and_tt h
  obtain ⟨h2, h3⟩ := and_tt h2
  obtain ⟨h3, h4⟩ := and_tt h3
  obtain ⟨h4, h5⟩ := and_tt h4
  obtain ⟨h5, h6⟩ := and_tt h5
  have e := bdec h1; subst e
  have e := bdec h2; subst e
  have hm : lastMarks [cpOf op, cpOf op'] [r, r'] = false := by
    show behindInMarks (cpOf op') r' = false
    simpa using h3
  have main : ∀ (σ : L2.St) (H : Hp) (ρ : List Addr) (env : MP.Env) (S : Store) (Q : VK), Rel X.K fa ρ S H → EnvR X.K fa H ρ σ env → Post X.K fa (rD X.K fa) ρ H Q (evE call (.chain op op' a b c) env S) →
      tChain (r2 X.K fa (cp2 op)) (r2 X.K fa (cp2 op')) (WE X l) (WE X r) (WE X r') σ H Q := fun σ H ρ env S Q rel ev hq => by
    simp only [evE] at hq
    refine (ha l h4).1.bind rel ev hq fun d S1 ρ1 H1 v e1 r1 p1 ev1 hq1 => ?_
    refine (hb r h5).1.bind r1 ev1 hq1 fun d2 S2 ρ2 H2 v2 e2 r2 p2 ev2 hq2 => ?_
    obtain ⟨k, q1, q2⟩ := chain_ite hq2
    refine ⟨ρ2, S2, d, d2, r2, p1.ext e2 r2.clear, p2, ?_⟩
    rw [q1]
    intro ρ3 H3 v3 e3 r3 p3
    obtain rfl := rp_bl p3
    refine ⟨k, rfl, ?_⟩
    cases k with
    | false => exact q2 ρ3 H3 _ e3 r3 p3
    | true =>
      refine (hc r' h6).1.bind r3 (ev2.ext e3 r3.clear) (Post.ext e3 q2) fun d4 S4 ρ4 H4 v4 e4 r4 p4 ev4 hq4 => ?_
      exact ⟨ρ4, S4, d2, d4, r4, (p2.ext e3 r3.clear).ext e4 r4.clear, p4, hq4⟩
  refine ⟨fun σ H ρ env S Q rel ev hq => w_of (pe_chain (cp2_ok (fa := fa) hs.ck op) (cp2_ok (fa := fa) hs.ck op') pe_w pe_w pe_w hm) (main σ H ρ env S Q rel ev hq), fun σ H ρ env S Q rel ev hq => wt_of (pt_chain (cp2_ok (fa := fa) hs.ck op) (cp2_ok (fa := fa) hs.ck op') pe_w pe_w pe_w hm) ?_⟩
  refine main σ H ρ env S _ rel ev (bl_post (fun d S' e => ?_) hq)
  simp only [evE] at e
  cases e1 : evE call a env S with
  | exc => rw [e1] at e; cases e
  | stuck => rw [e1] at e; cases e
  | ok x1 S1 =>
  rw [e1] at e
  simp only [R.bind_ok] at e
  cases e2 : evE call b env S1 with
  | exc => rw [e2] at e; cases e
  | stuck => rw [e2] at e; cases e
  | ok x2 S2 =>
  rw [e2] at e
  simp only [R.bind_ok] at e
  cases e3 : cp2 op x1 x2 S2 with
  | exc => rw [e3] at e; cases e
  | stuck => rw [e3] at e; cases e
  | ok x3 S3 =>
  rw [e3] at e
  simp only [R.bind_ok] at e
  obtain ⟨k, rfl⟩ := cp2_bl e3
  cases k with
  | false => cases e; exact ⟨_, rfl⟩
  | true =>
  simp only at e
  cases e4 : evE call c env S3 with
  | exc => rw [e4] at e; cases e
  | stuck => rw [e4] at e; cases e
  | ok x4 S4 =>
  rw [e4] at e
  exact cp2_bl e
theorem pt_ifExp {c a b : Expr} {pos : Pos} {tA ta tb : TT} (hc : PT X c tA) (ha : PT X a ta) (hb : PT X b tb) : PT X (.IfExp c a b pos) (fun σ H Q => tA σ H fun k H1 => if k = true then ta σ H1 Q else tb σ H1 Q) := by
  refine ⟨fun pins s σ H Q I h => ?_⟩
  refine PyProof.Rows.isTrue_IfExp (thn (hc.run pins s σ H _ I h) fun d s1 ⟨H1, I1, q1⟩ => ?_)
  cases d with
  | true => exact ha.run pins s1 σ H1 Q I1 q1
  | false => exact hb.run pins s1 σ H1 Q I1 q1
theorem sb_ite {c a b : E} {p : Expr} (hc : ∀ p, chkE Γ c p = true → SB X fa p (evE call c)) (ha : ∀ p, chkE Γ a p = true → SB X fa p (evE call a)) (hb : ∀ p, chkE Γ b p = true → SB X fa p (evE call b)) (h : chkE Γ (.ite c a b) p = true) : SB X fa p (evE call (.ite c a b)) := by
  cases p <;> try (cases h; done)
  rename_i t x y pos
  obtain ⟨h1, h2⟩ := and_tt h
  obtain ⟨h2, h3⟩ := and_tt h2
  refine ⟨fun σ H ρ env S Q rel ev hq => w_of (pe_ifExp (pt_w (e := t)) (pe_w (e := x)) (pe_w (e := y))) ?_, fun σ H ρ env S Q rel ev hq => wt_of (pt_ifExp (pt_w (e := t)) (pt_w (e := x)) (pt_w (e := y))) ?_⟩
  · have hq : Post X.K fa (rD X.K fa) ρ H Q (((evE call c env S).bind test).bind fun t S => match t with
        | true => evE call a env S
        | false => evE call b env S) := by
      simp only [evE] at hq
      rw [bind_assoc]
      exact hq
    refine (hc t h1).2.bind rel ev hq fun k S1 ρ1 H1 e1 r1 ev1 hq1 => ?_
    cases k with
    | true => exact (ha x h2).1 σ H1 ρ1 env S1 Q r1 ev1 hq1
    | false => exact (hb y h3).1 σ H1 ρ1 env S1 Q r1 ev1 hq1
  · have hq : Post X.K fa rB ρ H Q (((evE call c env S).bind test).bind fun t S => match t with
        | true => (evE call a env S).bind test
        | false => (evE call b env S).bind test) := by
      simp only [evE] at hq
      cases e : evE call c env S with
      | exc => rw [e] at hq; exact hq
      | stuck => rw [e] at hq; exact hq
      | ok d S1 =>
        rw [e] at hq
        simp only [R.bind_ok] at hq ⊢
        cases e2 : test d S1 with
        | exc => rw [e2] at hq; exact hq
        | stuck => rw [e2] at hq; exact hq
        | ok k S2 =>
          rw [e2] at hq
          simp only [R.bind_ok] at hq ⊢
          cases k <;> exact hq
    refine (hc t h1).2.bind rel ev hq fun k S1 ρ1 H1 e1 r1 ev1 hq1 => ?_
    cases k with
    | true => exact (ha x h2).2 σ H1 ρ1 env S1 Q r1 ev1 hq1
    | false => exact (hb y h3).2 σ H1 ρ1 env S1 Q r1 ev1 hq1
theorem sb_tup {es : List E} {p : Expr} (hes : ∀ ps, chkEs Γ es ps = true → SA X fa ps (evEs call es)) (h : chkE Γ (.tup es) p = true) : SB X fa p (evE call (.tup es)) := by
  cases p <;> try (cases h; done)
  rename_i xs k pos
  refine sb_plain rfl fun σ H ρ env S Q rel ev hq => w_of (pe_tup (pa_w (es := xs))) ?_
  simp only [evE] at hq
  refine (hes xs h).bind rel ev hq fun ds S1 ρ1 H1 vs e1 r1 p1 ev1 hq1 => ?_
  obtain ⟨c, hq2⟩ := mk_ok hq1
  exact ⟨by rw [p1.len]; exact line_of (bdec c), fun q hp => mkT_ok r1 p1 hp hq2⟩
theorem sb_lst {m : Bool} {es : List E} {p : Expr} (hes : ∀ ps, chkEs Γ es ps = true → SA X fa ps (evEs call es)) (h : chkE Γ (.lst m es) p = true) : SB X fa p (evE call (.lst m es)) := by
  cases p <;> try (cases h; done)
  rename_i xs pos
  refine sb_plain rfl fun σ H ρ env S Q rel ev hq => we_tr (w_of (pe_lst (pa_w (es := xs))) ?_)
  simp only [evE] at hq
  refine (hes xs h).bind rel ev hq fun ds S1 ρ1 H1 vs e1 r1 p1 ev1 hq1 => ?_
  split at hq1
  · rename_i c
    exact ⟨by rw [p1.len]; exact line_of (bdec c), fun q hp tr => mkL_ok r1 p1 hp tr hq1⟩
  · exact hq1.elim
theorem sb_dict0 {m : Bool} {p : Expr} (h : chkE Γ (.dict0 m) p = true) : SB X fa p (evE call (.dict0 m)) := by
  simp only [chkE] at h
  split at h <;> try (cases h; done)
  refine sb_plain rfl fun σ H ρ env S Q rel ev hq => we_tr (w_of pe_dnewK ?_)
  simp only [evE] at hq
  intro p hp tr
  have hK : X.K.lookup p = none := tr p (by rw [upd_same]; simp)
  have pn : p ∉ ρ := fun hm => by
    obtain ⟨i, hi, ei⟩ := List.getElem_of_mem hm
    have hl : i < S.length := by rw [← rel.len]; exact hi
    have := rel.cell i S[i] p (by simp [hl]) (by simp [hi, ei])
    exact this.live hp
  cases m with
  | true => exact hq (ρ ++ [p]) _ _ (Ext.newCell _ hp) (rel.newCell (c := .dct []) hp hK ⟨[], upd_same, .nil⟩) (.ref (by rw [← rel.len]; simp))
  | false => exact hq ρ _ _ (Ext.new _ hp) (rel.new hp) (.dct upd_same pn .nil)
theorem sb_idx (hs : Has X Γ fa call) {a i : E} {p : Expr} (ha : ∀ p, chkE Γ a p = true → SB X fa p (evE call a)) (hi : ∀ p, chkE Γ i p = true → SB X fa p (evE call i)) (h : chkE Γ (.idx a i) p = true) : SB X fa p (evE call (.idx a i)) := by
  cases p <;> try (cases h; done)
  rename_i x y pos
  obtain ⟨h1, h2⟩ := and_tt h
  obtain ⟨h2, h3⟩ := and_tt h2
  have pl : PlainIx y := by
    intro o i
    cases y <;> first | rfl | cases h1
  refine sb_plain rfl fun σ H ρ env S Q rel ev hq => w_of (pe_ix (atD_ok (fa := fa) hs.ck) (pe_w (e := x)) (pe_w (e := y)) pl) ?_
  simp only [evE] at hq
  refine (ha x h2).1.bind rel ev hq fun d S1 ρ1 H1 v e1 r1 p1 ev1 hq1 => ?_
  refine (hi y h3).1.bind r1 ev1 hq1 fun d2 S2 ρ2 H2 v2 e2 r2 p2 ev2 hq2 => ?_
  exact ⟨ρ2, S2, d, d2, r2, p1.ext e2 r2.clear, p2, hq2⟩
theorem RpAll.rev {K : PySem.W.Frag} {H : Hp} {ρ : List Addr} : ∀ {ds : List D} {vs : List V}, RpAll K fa H ρ vs ds → RpAll K fa H ρ vs.reverse ds.reverse
  | [], _, h => by cases h; exact .nil
  | d :: ds, _, h => by
    cases h with
    | cons a b =>
      rw [List.reverse_cons, List.reverse_cons]
      exact (RpAll.rev b).append (.cons a .nil)
theorem sb_rev {m : Bool} {a : E} {p : Expr} (ha : ∀ p, chkE Γ a p = true → SB X fa p (evE call a)) (h : chkE Γ (.rev m a) p = true) : SB X fa p (evE call (.rev m a)) := by
  simp only [chkE] at h
  split at h <;> try (cases h; done)
  rename_i x p1 p2 p3 k pos
  refine sb_plain rfl fun σ H ρ env S Q rel ev hq => w_of (pe_rev (pe_w (e := x))) ?_
  simp only [evE] at hq
  refine (ha x h).1.bind rel ev hq fun d S1 ρ1 H1 v e1 r1 p1 ev1 hq1 => ?_
  split at hq1
  · rename_i xs
    obtain ⟨b, vs, rfl, hs, _, rv⟩ := rp_tup p1
    exact .inr ⟨b, vs, rfl, hs, fun q hp => mkT_ok r1 rv.rev hp hq1⟩
  · split at hq1
    · rename_i xs q
      obtain ⟨b, vs, rfl, hs, rv⟩ := lsOf_ok r1 p1 q
      exact .inl ⟨b, vs, rfl, .inl (.inl hs), fun q hp tr => mkL_ok r1 rv.rev hp tr hq1⟩
    · exact hq1.elim
/-- the parts of an f-string -/
def SF (X : Cx) (fa : Nat → Option Addr) (ps : List Expr) (f : List Nat → MP.Env → Store → R (List Nat)) : Prop := ∃ ts : List TE, PJ X ps ts ∧ ∀ (σ : L2.St) (H : Hp) (ρ : List Addr) (env : MP.Env) (S : Store) (acc : List Nat) (Q : Str → Hp → Prop), Rel X.K fa ρ S H → EnvR X.K fa H ρ σ env →
  Post X.K fa (fun _ _ (v : Str) (x : List Nat) => v = ⟨x.toArray⟩) ρ H Q (f acc env S) → tJs ts ⟨acc.toArray⟩ σ H Q
theorem sf_nil {ps : List Expr} (h : chkF Γ [] ps = true) : SF X fa ps (evF call []) := by
  cases ps with
  | cons => cases h
  | nil =>
    refine ⟨[], .nil, fun σ H ρ env S acc Q rel ev hq => ?_⟩
    simp only [evF] at hq
    exact hq ρ H _ (Ext.refl _ _) rel rfl
theorem str_cat (a b : List Nat) : (⟨a.toArray⟩ : Str) ++ (⟨b.toArray⟩ : Str) = ⟨(a ++ b).toArray⟩ := str_app a b
theorem sf_cons {e : E} {es : List E} {ps : List Expr} (he : ∀ p, chkE Γ e p = true → SB X fa p (evE call e)) (hes : ∀ ps, chkF Γ es ps = true → SF X fa ps (evF call es)) (h : chkF Γ (e :: es) ps = true) : SF X fa ps (evF call (e :: es)) := by
  simp only [chkF] at h
  split at h
  · rename_i x p xs
    obtain ⟨h1, h2⟩ := and_tt h
    obtain ⟨ts, t1, t2⟩ := hes xs h2
    refine ⟨_, .cons (pe_fmt (pe_w (e := x))) t1, fun σ H ρ env S acc Q rel ev hq => ?_⟩
    simp only [evF] at hq
    refine (he x h1).1.bind rel ev hq fun d S1 ρ1 H1 v e1 r1 p1 ev1 hq1 => ?_
    cases q : txtOf d with
    | none => rw [q] at hq1; exact hq1.elim
    | some y =>
    rw [q] at hq1
    simp only at hq1
    cases c : decide (acc.length + y.length ≤ most) with
    | false => rw [c] at hq1; exact hq1.elim
    | true =>
    rw [c] at hq1
    have c := bdec c
    have fin : ∃ y' : Str, V.str ⟨y.toArray⟩ = .str y' ∧ ((⟨acc.toArray⟩ : Str) ++ y').length ≤ sizeLine ∧ tJs ts (⟨acc.toArray⟩ ++ y') σ H1 Q := by
      refine ⟨_, rfl, ?_, ?_⟩
      · rw [str_cat]
        show (List.toArray _).size ≤ _
        rw [List.size_toArray, List.length_append]
        exact line_of c
      · rw [str_cat]
        exact t2 σ H1 ρ1 env S1 _ Q r1 ev1 hq1
    unfold txtOf at q
    split at q
    · cases q
      obtain ⟨rfl, z⟩ := rp_str p1
      exact .inl ⟨_, rfl, by show (List.toArray _).size ≤ _; simpa using z, fin⟩
    · split at q
      · rename_i i _ c2
        cases q
        obtain rfl := rp_int p1
        refine .inr ⟨i, rfl, bdec c2, ?_⟩
        have e : (toString i : Str) = ⟨(toDec i).toArray⟩ := by unfold toDec; rw [Array.toArray_toList]
        rw [e]
        exact fin
      · cases q
    · cases q
  · rename_i c k p xs
    obtain ⟨h1, h2⟩ := and_tt h
    obtain ⟨ts, t1, t2⟩ := hes xs h2
    split at h1
    · rename_i e x
      have hl : chkE Γ (.lit (.str x)) (.Constant c k p) = true := by simpa only [chkE] using h1
      refine ⟨_, .cons (pe_w (e := .Constant c k p)) t1, fun σ H ρ env S acc Q rel ev hq => ?_⟩
      simp only [evF] at hq
      have hv : evE call (.lit (.str x)) env S = .ok (.str x) S := by simp only [evE]
      rw [hv] at hq
      simp only [R.bind_ok, txtOf] at hq
      refine (he _ hl).1 σ H ρ env S _ rel ev ?_
      rw [hv]
      intro ρ1 H1 v e1 r1 p1
      have hq1 := Post.ext e1 hq
      cases c : decide (acc.length + x.length ≤ most) with
      | false => rw [c] at hq1; exact hq1.elim
      | true =>
      rw [c] at hq1
      have c := bdec c
      obtain ⟨rfl, z⟩ := rp_str p1
      refine ⟨_, rfl, ?_, ?_⟩
      · rw [str_cat]
        show (List.toArray _).size ≤ _
        rw [List.size_toArray, List.length_append]
        exact line_of c
      · rw [str_cat]
        exact t2 σ H1 ρ1 env S _ Q (r1) (ev.ext e1 r1.clear) hq1
    · cases h1
  · cases h
theorem sb_fstr {es : List E} {p : Expr} (hes : ∀ ps, chkF Γ es ps = true → SF X fa ps (evF call es)) (h : chkE Γ (.fstr es) p = true) : SB X fa p (evE call (.fstr es)) := by
  simp only [chkE] at h
  split at h <;> try (cases h; done)
  rename_i v1 v2 rest pos
  obtain ⟨ts, t1, t2⟩ := hes _ h
  refine sb_plain rfl fun σ H ρ env S Q rel ev hq => w_of (pe_joined t1) ?_
  simp only [evE] at hq
  refine t2 σ H ρ env S [] _ rel ev ?_
  cases q : evF call es [] env S with
  | exc => rw [q] at hq; exact hq.elim
  | stuck => rw [q] at hq; exact hq.elim
  | ok x S1 =>
    rw [q] at hq
    obtain ⟨c, hq⟩ := mk_ok hq
    intro ρ1 H1 v e1 r1 ev'
    subst ev'
    exact hq ρ1 H1 _ e1 r1 (.str x (line_of (bdec c)))
/-- a slice's part -/
def SO (X : Cx) (fa : Nat → Option Addr) (p : Option Expr) (f : MP.Env → Store → R (Option Int)) : Prop := ∃ t : TO, PO X p t ∧ ∀ (σ : L2.St) (H : Hp) (ρ : List Addr) (env : MP.Env) (S : Store) (Q : Option Int → Hp → Prop), Rel X.K fa ρ S H → EnvR X.K fa H ρ σ env →
  Post X.K fa (fun _ _ a b => a = b) ρ H Q (f env S) → t σ H Q
theorem SO.bind {p : Option Expr} {f : MP.Env → Store → R (Option Int)} (h : SO X fa p f) : ∃ t : TO, PO X p t ∧ ∀ {β γ : Type} {rp : Hp → List Addr → γ → β → Prop} {Q : γ → Hp → Prop} {g : Option Int → Store → R β} {Q1 : Option Int → Hp → Prop} (σ : L2.St) (H : Hp) (ρ : List Addr) (env : MP.Env) (S : Store),
    Rel X.K fa ρ S H → EnvR X.K fa H ρ σ env → Post X.K fa rp ρ H Q ((f env S).bind g) →
    (∀ d S1 ρ1 H1, Ext ρ H ρ1 H1 → Rel X.K fa ρ1 S1 H1 → EnvR X.K fa H1 ρ1 σ env → Post X.K fa rp ρ1 H1 Q (g d S1) → Q1 d H1) → t σ H Q1 := by
  obtain ⟨t, h1, h2⟩ := h
  refine ⟨t, h1, fun σ H ρ env S rel ev h k => h2 σ H ρ env S _ rel ev ?_⟩
  cases q : f env S with
  | ok d S1 =>
    rw [q] at h
    intro ρ1 H1 v e1 r1 p1
    cases p1
    exact k d S1 ρ1 H1 e1 r1 (ev.ext e1 r1.clear) (Post.ext e1 h)
  | exc x S1 => rw [q] at h; exact h
  | stuck => rw [q] at h; exact h
theorem sb_slc {m : Bool} {a : E} {lo hi : Option E} {p : Expr} (ha : ∀ p, chkE Γ a p = true → SB X fa p (evE call a)) (hl : ∀ p, chkO Γ lo p = true → SO X fa p (evO call lo)) (hh : ∀ p, chkO Γ hi p = true → SO X fa p (evO call hi)) (h : chkE Γ (.slc m a lo hi) p = true) : SB X fa p (evE call (.slc m a lo hi)) := by
  cases p <;> try (cases h; done)
  rename_i x y pos
  cases y <;> try (cases h; done)
  rename_i l u st p2
  cases st <;> try (cases h; done)
  obtain ⟨h1, h2⟩ := and_tt h
  obtain ⟨h2, h3⟩ := and_tt h2
  obtain ⟨tl, l1, l2⟩ := (hl l h2).bind
  obtain ⟨tu, u1, u2⟩ := (hh u h3).bind
  refine sb_plain rfl fun σ H ρ env S Q rel ev hq => w_of (pe_slice (slice_ok (fa := fa) m) (pe_w (e := x)) l1 u1) ?_
  simp only [evE] at hq
  refine (ha x h1).1.bind rel ev hq fun d S1 ρ1 H1 v e1 r1 p1 ev1 hq1 => ?_
  refine l2 σ H1 ρ1 env S1 r1 ev1 hq1 fun o2 S2 ρ2 H2 e2 r2 ev2 hq2 => ?_
  refine u2 σ H2 ρ2 env S2 r2 ev2 hq2 fun o3 S3 ρ3 H3 e3 r3 ev3 hq3 => ?_
  exact ⟨ρ3, S3, d, r3, (p1.ext e2 r2.clear).ext e3 r3.clear, hq3⟩
theorem so_ok {o : Option E} {p : Option Expr} (ho : ∀ e, o = some e → ∀ p, chkE Γ e p = true → SB X fa p (evE call e)) (h : chkO Γ o p = true) : SO X fa p (evO call o) := by
  cases o with
  | none =>
    cases p <;> try (cases h; done)
    refine ⟨_, po_none, fun σ H ρ env S Q rel ev hq => ?_⟩
    simp only [evO] at hq
    exact hq ρ H none (Ext.refl _ _) rel rfl
  | some e =>
    cases p <;> try (cases h; done)
    rename_i x
    refine ⟨_, po_some (pe_w (e := x)), fun σ H ρ env S Q rel ev hq => ?_⟩
    simp only [evO] at hq
    refine (ho e rfl x h).1.bind rel ev hq fun d S1 ρ1 H1 v e1 r1 p1 ev1 hq1 => ?_
    cases d <;> try (exact hq1.elim)
    obtain rfl := rp_int p1
    exact ⟨_, rfl, hq1 ρ1 H1 _ (Ext.refl _ _) r1 rfl⟩
theorem sa_nil {ps : List Expr} (h : chkEs Γ [] ps = true) : SA X fa ps (evEs call []) := by
  cases ps <;> try (cases h; done)
  intro σ H ρ env S Q rel ev hq
  refine wa_of pa_nil ?_
  simp only [evEs] at hq
  exact hq ρ H [] (Ext.refl _ _) rel .nil
theorem sa_cons {e : E} {es : List E} {ps : List Expr} (he : ∀ p, chkE Γ e p = true → SB X fa p (evE call e)) (hes : ∀ ps, chkEs Γ es ps = true → SA X fa ps (evEs call es)) (h : chkEs Γ (e :: es) ps = true) : SA X fa ps (evEs call (e :: es)) := by
  cases ps with
  | nil => cases h
  | cons x xs =>
  obtain ⟨h1, h2⟩ := and_tt h
  obtain ⟨h2, h3⟩ := and_tt h2
  intro σ H ρ env S Q rel ev hq
  refine wa_of (pa_cons (pe_w (e := x)) (pa_w (es := xs)) (star_cons h1)) ?_
  simp only [evEs] at hq
  refine (he x h2).1.bind rel ev hq fun d S1 ρ1 H1 v e1 r1 p1 ev1 hq1 => ?_
  refine (hes xs h3).bind r1 ev1 hq1 fun ds S2 ρ2 H2 vs e2 r2 p2 ev2 hq2 => ?_
  exact hq2 ρ2 H2 _ (Ext.refl _ _) r2 (.cons (p1.ext e2 r2.clear) p2)
theorem nostars {es : List E} : ∀ {ps : List Expr} {pos : Pos} {env : PySem.Env}, chkEs Γ es ps = true → (backTo pos (starEach ps env)).any (·.1) = false := by
  induction es with
  | nil => intro ps pos env h; cases ps <;> first | rfl | cases h
  | cons e es ih =>
    intro ps pos env h
    cases ps with
    | nil => cases h
    | cons x xs =>
    obtain ⟨h1, h2⟩ := and_tt h
    obtain ⟨h2, h3⟩ := and_tt h2
    rw [star_cons h1]
    exact ih h3
end
end MP
end
section
set_option maxRecDepth 100000
/-! EvP: the text does what the terms say: calls. -/
namespace MP
open PySem L2
section
variable {X : Cx} {Γ : Ga} {fa : Nat → Option Addr} {call : Nat → List D → Store → R D}
/-- f(..), f a def of the module, by values -/
def tCV (r : List V → Hp → VK → Prop) (t : TA) : TE := fun σ H Q => t σ H fun vs H1 => r vs H1 Q
theorem pe_fn {x : Str} {a : Addr} {r : List V → Hp → VK → Prop} {ys : List Expr} {p pos : Pos} {t : TA} (hc : CallR X (.ref a) r) (hg : Gl X x) (hm : X.mg x = some (.ref a)) (hk : PySem.W.keepIn X.K (.ref a) = true) (hd : (x == ("__debug__" : Str)) = false) (ha : PA X ys t) (hne : ys ≠ [])
    (hy : ∀ y zs, ys = y :: zs → nostar y = true ∧ (backTo pos (starEach zs X.env)).any (·.1) = false) : PE X (.Call (.Name x p) ys [] pos) (tCV r t) := by
  refine ⟨fun pins s σ H Q I h => ?_⟩
  refine wpAny_Call_Name_kw (ld_glob I hg hm ?_ hd)
  cases ys with
  | nil => exact (hne rfl).elim
  | cons y zs =>
    obtain ⟨h1, h2⟩ := hy y zs rfl
    exact PySem.W.callWith_K (h₀ := X.base) I.ok.mod.kin hk (thn (ha.run pos pins s σ H _ I h) fun us s1 ⟨vs, H1, I1, r1, q1⟩ => ⟨I1.kIn, hc pins s1 σ H1 vs us Q I1 r1 q1⟩) (star_cons h1) h2
theorem pe_fn0 {x : Str} {a : Addr} {r : List V → Hp → VK → Prop} {p pos : Pos} (hc : CallR X (.ref a) r) (hg : Gl X x) (hm : X.mg x = some (.ref a)) (hk : PySem.W.keepIn X.K (.ref a) = true) (hd : (x == ("__debug__" : Str)) = false) : PE X (.Call (.Name x p) [] [] pos) (fun _ H Q => r [] H Q) := by
  refine ⟨fun pins s σ H Q I h => ?_⟩
  refine wpAny_Call_Name_kw (ld_glob I hg hm ?_ hd)
  exact PySem.W.callWith_K0 I.kIn hk (hc pins s σ H [] [] Q I .nil h)
theorem first_nostar {es : List E} {y : Expr} {zs : List Expr} (h : chkEs Γ es (y :: zs) = true) (pos : Pos) (env : PySem.Env) : nostar y = true ∧ (backTo pos (starEach zs env)).any (·.1) = false := by
  cases es with
  | nil => cases h
  | cons e es =>
    obtain ⟨h1, h2⟩ := and_tt h
    obtain ⟨h2, h3⟩ := and_tt h2
    exact ⟨h1, nostars h3⟩
theorem sb_call {f : Nat} {es : List E} {p : Expr} (hs : Has X Γ fa call) (hes : ∀ ps, chkEs Γ es ps = true → SA X fa ps (evEs call es)) (h : chkE Γ (.call f es) p = true) : SB X fa p (evE call (.call f es)) := by
  cases p <;> try (cases h; done)
  rename_i fe ys ks pos
  cases fe <;> try (cases h; done)
  rename_i x p1
  cases ks with
  | cons => cases h
  | nil =>
  obtain ⟨h1, h2⟩ := and_tt h
  obtain ⟨h2, h3⟩ := and_tt h2
  obtain ⟨g1, g2⟩ := gl_of hs h2
  obtain ⟨a, m1, m2, m3⟩ := hs.fns f x (by simpa using h1)
  refine sb_plain rfl fun σ H ρ env S Q rel ev hq => ?_
  cases ys with
  | nil =>
    refine w_of (pe_fn0 (hs.calls X rfl rfl rfl rfl rfl rfl f a m2) g1 m1 m3 (okNm_of g2).1) ?_
    cases es with
    | cons => cases h3
    | nil =>
      simp only [evE, evEs] at hq
      exact ⟨ρ, S, [], rel, .nil, hq⟩
  | cons y ys =>
    refine w_of (pe_fn (hs.calls X rfl rfl rfl rfl rfl rfl f a m2) g1 m1 m3 (okNm_of g2).1 (pa_w (es := y :: ys)) (fun e => nomatch e) fun y' zs e => ?_) ?_
    · cases e
      exact first_nostar h3 pos X.env
    simp only [evE] at hq
    refine (hes (y :: ys) h3).bind rel ev hq fun ds S1 ρ1 H1 vs e1 r1 p1 ev1 hq1 => ?_
    exact ⟨ρ1, S1, ds, r1, p1, hq1⟩
/-! ### keywords -/
abbrev WK (X : Cx) (kws : List Keyword) : TA := fun σ H Q => ∀ pos pins s, Inv X pins σ H s → wpAny (model X.prog X.w) X.A (evalAll ((backToKw pos (keywordEach kws X.env)).map (·.2))) (AP X pins σ Q) X.xe s
theorem wk_of {kws : List Keyword} {t : TA} {σ : L2.St} {H : Hp} {Q : List V → Hp → Prop} (h : PK X kws t) (q : t σ H Q) : WK X kws σ H Q := fun pos pins s I => h.run pos pins s σ H Q I q
theorem pk_w {kws : List Keyword} : PK X kws (WK X kws) := ⟨fun pos pins s _ _ _ I h => h pos pins s I⟩
def SK (X : Cx) (fa : Nat → Option Addr) (kws : List Keyword) (f : MP.Env → Store → R (List D)) : Prop := ∀ (σ : L2.St) (H : Hp) (ρ : List Addr) (env : MP.Env) (S : Store) (Q : List V → Hp → Prop), Rel X.K fa ρ S H → EnvR X.K fa H ρ σ env → Post X.K fa (rDs X.K fa) ρ H Q (f env S) → WK X kws σ H Q
theorem SK.bind {β γ : Type} {rp : Hp → List Addr → γ → β → Prop} {Q : γ → Hp → Prop} {σ : L2.St} {H : Hp} {ρ : List Addr} {env : MP.Env} {S : Store} {es : List Keyword} {f : MP.Env → Store → R (List D)} {g : List D → Store → R β} {Q1 : List V → Hp → Prop} (se : SK X fa es f) (rel : Rel X.K fa ρ S H) (ev : EnvR X.K fa H ρ σ env) (h : Post X.K fa rp ρ H Q ((f env S).bind g))
    (k : ∀ d S1 ρ1 H1 v, Ext ρ H ρ1 H1 → Rel X.K fa ρ1 S1 H1 → RpAll X.K fa H1 ρ1 v d → EnvR X.K fa H1 ρ1 σ env → Post X.K fa rp ρ1 H1 Q (g d S1) → Q1 v H1) : WK X es σ H Q1 := by
  refine se σ H ρ env S Q1 rel ev ?_
  cases q : f env S with
  | ok d S1 =>
    rw [q] at h
    intro ρ1 H1 v e1 r1 p1
    exact k d S1 ρ1 H1 v e1 r1 p1 (ev.ext e1 r1.clear) (Post.ext e1 h)
  | exc x S1 => rw [q] at h; exact h
  | stuck => rw [q] at h; exact h
theorem sk_nil {kws : List Keyword} (h : chkEs Γ [] (kws.map (·.value)) = true) : SK X fa kws (evEs call []) := by
  cases kws with
  | cons => cases h
  | nil =>
    intro σ H ρ env S Q rel ev hq
    simp only [evEs] at hq
    exact wk_of pk_nil (hq ρ H [] (Ext.refl _ _) rel .nil)
theorem sk_cons {e : E} {es : List E} {kws : List Keyword} (he : ∀ p, chkE Γ e p = true → SB X fa p (evE call e)) (hes : ∀ kws : List Keyword, chkEs Γ es (kws.map (·.value)) = true → SK X fa kws (evEs call es)) (h : chkEs Γ (e :: es) (kws.map (·.value)) = true) : SK X fa kws (evEs call (e :: es)) := by
  cases kws with
  | nil => cases h
  | cons k kws =>
    obtain ⟨nm, x, kpos⟩ := k
    obtain ⟨h1, h2⟩ := and_tt h
    obtain ⟨h2, h3⟩ := and_tt h2
    intro σ H ρ env S Q rel ev hq
    simp only [evEs] at hq
    refine wk_of (pk_cons (pe_w (e := x)) (pk_w (kws := kws))) ?_
    refine (he x h2).1.bind rel ev hq fun d S1 ρ1 H1 v e1 r1 p1 ev1 hq1 => ?_
    refine (hes kws h3).bind r1 ev1 hq1 fun ds S2 ρ2 H2 vs e2 r2 p2 ev2 hq2 => ?_
    exact hq2 ρ2 H2 _ (Ext.refl _ _) r2 (.cons (p1.ext e2 r2.clear) p2)
theorem kw_names {env : PySem.Env} {pos : Pos} : ∀ {kws : List Keyword} {ks : List Str}, kwB kws ks = true → (backToKw pos (keywordEach kws env)).all (·.1.isSome) = true ∧ (backToKw pos (keywordEach kws env)).filterMap (·.1) = ks ∧ (backToKw pos (keywordEach kws env)).any (·.1.isNone) = false
  | [], ks, h => by
    cases ks with
    | nil => exact ⟨rfl, rfl, rfl⟩
    | cons => cases h
  | ⟨nm, x, kp⟩ :: kws, ks, h => by
    cases ks with
    | nil => cases h
    | cons y ks =>
      obtain ⟨h1, h2⟩ := and_tt h
      have e : nm = some y := by simpa using h1
      subst e
      obtain ⟨i1, i2, i3⟩ := kw_names (env := env) (pos := pos) h2
      unfold backToKw at i1 i2 i3 ⊢
      refine ⟨?_, ?_, ?_⟩
      · simpa [keywordEach] using i1
      · simpa [keywordEach] using i2
      · simpa [keywordEach] using i3
/-- f(.., k = v, ..), by values -/
def tCK (r : List V → List V → Hp → VK → Prop) (n m : Nat) (t tk : TA) : TE := fun σ H Q => t σ H fun vs H1 => tk σ H1 fun zs H2 => vs.length = n ∧ zs.length = m ∧ r vs zs H2 Q
def tCK0 (r : List V → List V → Hp → VK → Prop) (m : Nat) (tk : TA) : TE := fun σ H Q => tk σ H fun zs H2 => zs.length = m ∧ r [] zs H2 Q
section
variable {x : Str} {a : Addr} {n : Nat} {r : List V → List V → Hp → VK → Prop} {y : Expr} {ys : List Expr} {kws : List Keyword} {ks : List Str} {p pos : Pos} {t tk : TA}
theorem pe_fnk
    (hc : ∀ (pins : List (Addr × Obj)) (s : Shared) (σ : L2.St) (H : Hp) (vs zs : List V) (us ws : List Value) (Q : VK), Inv X pins σ H s → Vals vs us → Vals zs ws → us.length = n → ws.length = ks.length → r vs zs H Q → wpAny (model X.prog X.w) X.A (PySem.call (.ref a) us (ks.zip ws)) (EP X pins σ Q) X.xe s)
    (hg : Gl X x) (hm : X.mg x = some (.ref a)) (hk : PySem.W.keepIn X.K (.ref a) = true) (hd : (x == ("__debug__" : Str)) = false) (hb : kwB kws ks = true) (ha : PA X (y :: ys) t) (hkw : PK X kws tk)
    (h1 : nostar y = true) (h2 : (backTo pos (starEach ys X.env)).any (·.1) = false) : PE X (.Call (.Name x p) (y :: ys) kws pos) (tCK r n ks.length t tk) := by
  refine ⟨fun pins s σ H Q I h => ?_⟩
  refine wpAny_Call_Name_kw (ld_glob I hg hm ?_ hd)
  obtain ⟨k1, k2, k3⟩ := kw_names (env := X.env) (pos := pos) hb
  refine PySem.W.callWith_KW (h₀ := X.base) I.ok.mod.kin hk k1 (thn (ha.run pos pins s σ H _ I h) fun us s1 ⟨vs, H1, I1, r1, q1⟩ => ?_) ?_ (star_cons h1)
  · refine thn (hkw.run pos pins s1 σ H1 _ I1 q1) fun ws s2 ⟨zs, H2, I2, rz, l1, l2, q2⟩ => ⟨I2.kIn, ?_⟩
    rw [k2]
    exact hc pins s2 σ H2 vs zs us ws Q I2 r1 rz (r1.length.symm.trans l1) (rz.length.symm.trans l2) q2
  · rw [star_cons h1, k3, Bool.or_false]
    show (false || (backTo pos (starEach ys X.env)).any (·.1)) = false
    rw [h2]
    rfl
theorem pe_fnk0
    (hc : ∀ (pins : List (Addr × Obj)) (s : Shared) (σ : L2.St) (H : Hp) (vs zs : List V) (us ws : List Value) (Q : VK), Inv X pins σ H s → Vals vs us → Vals zs ws → us.length = 0 → ws.length = ks.length → r vs zs H Q → wpAny (model X.prog X.w) X.A (PySem.call (.ref a) us (ks.zip ws)) (EP X pins σ Q) X.xe s)
    (hg : Gl X x) (hm : X.mg x = some (.ref a)) (hk : PySem.W.keepIn X.K (.ref a) = true) (hd : (x == ("__debug__" : Str)) = false) (hb : kwB kws ks = true) (hkw : PK X kws tk) : PE X (.Call (.Name x p) [] kws pos) (tCK0 r ks.length tk) := by
  refine ⟨fun pins s σ H Q I h => ?_⟩
  refine wpAny_Call_Name_kw (ld_glob I hg hm ?_ hd)
  obtain ⟨k1, k2, k3⟩ := kw_names (env := X.env) (pos := pos) hb
  refine PySem.W.callWith_KW0 (h₀ := X.base) I.ok.mod.kin hk k1 ?_ (by rw [k3]; rfl)
  refine thn (hkw.run pos pins s σ H _ I h) fun ws s2 ⟨zs, H2, I2, rz, l2, q2⟩ => ⟨I2.kIn, ?_⟩
  rw [k2]
  exact hc pins s2 σ H2 [] zs [] ws Q I2 .nil rz rfl (rz.length.symm.trans l2) q2
end
theorem evs_len {es : List E} : ∀ {ps : List Expr}, chkEs Γ es ps = true → es.length = ps.length := by
  induction es with
  | nil => intro ps h; cases ps with
    | nil => rfl
    | cons => cases h
  | cons e es ih =>
    intro ps h
    cases ps with
    | nil => cases h
    | cons p ps =>
      obtain ⟨h1, h2⟩ := and_tt h
      obtain ⟨h2, h3⟩ := and_tt h2
      rw [List.length_cons, List.length_cons, ih h3]
theorem evEs_len {env : MP.Env} : ∀ {es : List E} {S : Store} {ds : List D} {S1 : Store}, evEs call es env S = .ok ds S1 → ds.length = es.length
  | [], S, ds, S1, h => by simp only [evEs] at h; cases h; rfl
  | e :: es, S, ds, S1, h => by
    simp only [evEs] at h
    cases q : evE call e env S with
    | exc => rw [q] at h; cases h
    | stuck => rw [q] at h; cases h
    | ok d S2 =>
      rw [q] at h
      simp only [R.bind_ok] at h
      cases q2 : evEs call es env S2 with
      | exc => rw [q2] at h; cases h
      | stuck => rw [q2] at h; cases h
      | ok ds2 S3 =>
        rw [q2] at h
        simp only [R.bind_ok] at h
        cases h
        rw [List.length_cons, List.length_cons, evEs_len q2]
theorem kwB_len : ∀ {kws : List Keyword} {ks : List Str}, kwB kws ks = true → kws.length = ks.length
  | [], ks, h => by
    cases ks with
    | nil => rfl
    | cons => cases h
  | k :: kws, ks, h => by
    cases ks with
    | nil => cases h
    | cons y ks =>
      obtain ⟨h1, h2⟩ := and_tt h
      rw [List.length_cons, List.length_cons, kwB_len h2]
theorem post_len {es : List E} {env : MP.Env} {S : Store} {β γ : Type} {rp : Hp → List Addr → γ → β → Prop} {Q : γ → Hp → Prop} {ρ : List Addr} {H : Hp} {g : List D → Store → R β} (h : Post X.K fa rp ρ H Q ((evEs call es env S).bind g)) : Post X.K fa rp ρ H Q ((evEs call es env S).bind fun ds S => match decide (ds.length = es.length) with
    | true => g ds S
    | false => .stuck) := by
  cases q : evEs call es env S with
  | exc => rw [q] at h; exact h
  | stuck => rw [q] at h; exact h
  | ok ds S1 =>
    rw [q] at h
    simp only [R.bind_ok] at h ⊢
    rw [decide_eq_true (evEs_len q)]
    exact h
theorem sb_callk {f : Nat} {es kes : List E} {ks : List Str} {how : List Nat} {dv : List Fl} {p : Expr} (hs : Has X Γ fa call) (hes : ∀ ps, chkEs Γ es ps = true → SA X fa ps (evEs call es)) (hks : ∀ kws : List Keyword, chkEs Γ kes (kws.map (·.value)) = true → SK X fa kws (evEs call kes)) (h : chkE Γ (.callk f es kes ks how dv) p = true) :
    SB X fa p (evE call (.callk f es kes ks how dv)) := by
  cases p <;> try (cases h; done)
  rename_i fe ys kws pos
  cases fe <;> try (cases h; done)
  rename_i x p1
  obtain ⟨h1, h2'⟩ := and_tt h
  obtain ⟨h2, h3'⟩ := and_tt h2'
  obtain ⟨h3, h4'⟩ := and_tt h3'
  obtain ⟨h4, h5'⟩ := and_tt h4'
  obtain ⟨h5, h6⟩ := and_tt h5'
  clear h2' h3' h4' h5'
  obtain ⟨g1, g2⟩ := gl_of hs h2
  obtain ⟨a, m1, m2, m3⟩ := hs.fns f x (by simpa using h1)
  have hm := bdec h3
  have hc := hs.callsk X rfl rfl rfl rfl rfl rfl _ hm a m2
  have lk : kes.length = ks.length := by rw [evs_len h6, List.length_map, kwB_len h4]
  refine sb_plain (by cases ys <;> rfl) fun σ H ρ env S Q rel ev hq => ?_
  simp only [evE] at hq
  have hq := post_len hq
  cases ys with
  | nil =>
    have e0 : es = [] := by have := evs_len h5; exact List.length_eq_zero_iff.mp this
    subst e0
    refine w_of (pe_fnk0 hc g1 m1 m3 (okNm_of g2).1 h4 (pk_w (kws := kws))) ?_
    simp only [evEs, R.bind_ok, List.length_nil, decide_true] at hq
    have hq := post_len hq
    refine (hks kws h6).bind rel ev hq fun kds S1 ρ1 H1 zs e1 r1 p1 ev1 hq1 => ?_
    split at hq1
    · rename_i l
      exact ⟨by rw [p1.len, bdec l, lk], ρ1, S1, [], kds, r1, .nil, p1, hq1⟩
    · exact hq1.elim
  | cons y ys =>
    obtain ⟨k1, k2⟩ := first_nostar h5 pos X.env
    refine w_of (pe_fnk hc g1 m1 m3 (okNm_of g2).1 h4 (pa_w (es := y :: ys)) (pk_w (kws := kws)) k1 k2) ?_
    refine (hes (y :: ys) h5).bind rel ev hq fun ds S1 ρ1 H1 vs e1 r1 p1 ev1 hq1 => ?_
    split at hq1
    · rename_i l
      have hq1 := post_len hq1
      refine (hks kws h6).bind r1 ev1 hq1 fun kds S2 ρ2 H2 zs e2 r2 p2 ev2 hq2 => ?_
      split at hq2
      · rename_i l2
        exact ⟨by rw [p1.len, bdec l], by rw [p2.len, bdec l2, lk], ρ2, S2, ds, kds, r2, p1.ext e2 r2.clear, p2, hq2⟩
      · exact hq2.elim
    · exact hq1.elim
theorem bt_rule (ck : Cok X fa) (m : Bool) (f : Bt) : (∃ id, bootBuiltins (btNm f) = some (.builtin id) ∧ CallR X (.builtin id) (rBt X.K fa (bt m f))) ∨ (∃ T, bootBuiltins (btNm f) = some (.type T) ∧ CallR X (.type T) (rBt X.K fa (bt m f))) := by
  cases f
  · exact .inl ⟨"len", by first | exact PyProof.Rows.boot_len | exact PySem.F.boot_len | decide +kernel, bt_len m⟩
  · exact .inl ⟨"all", by first | exact PyProof.Rows.boot_all | exact PySem.F.boot_all | decide +kernel, bt_all m ck.calm⟩
  · exact .inl ⟨"any", by first | exact PyProof.Rows.boot_any | exact PySem.F.boot_any | decide +kernel, bt_any m ck.calm⟩
  · exact .inl ⟨"sum", by first | exact PyProof.Rows.boot_sum | exact PySem.F.boot_sum | decide +kernel, bt_sum m ck.calm⟩
  · exact .inl ⟨"min", by first | exact PyProof.Rows.boot_min | exact PySem.F.boot_min | decide +kernel, bt_min2 m ck.calm⟩
  · exact .inl ⟨"max", by first | exact PyProof.Rows.boot_max | exact PySem.F.boot_max | decide +kernel, bt_max2 m ck.calm⟩
  · exact .inl ⟨"abs", by first | exact PyProof.Rows.boot_abs | exact PySem.F.boot_abs | decide +kernel, bt_abs m⟩
  · exact .inr ⟨"int", by first | exact PyProof.Rows.boot_int | exact PySem.F.boot_int | decide +kernel, bt_int m⟩
  · exact .inr ⟨"str", by first | exact PyProof.Rows.boot_str | exact PySem.F.boot_str | decide +kernel, bt_str m⟩
  · exact .inl ⟨"repr", by first | exact PyProof.Rows.boot_repr | exact PySem.F.boot_repr | decide +kernel, bt_repr m ck⟩
  · exact .inr ⟨"list", by first | exact PyProof.Rows.boot_list | exact PySem.F.boot_list | decide +kernel, bt_list m ck.calm⟩
  · exact .inr ⟨"tuple", by first | exact PyProof.Rows.boot_tuple | exact PySem.F.boot_tuple | decide +kernel, bt_tuple m⟩
  · exact .inl ⟨"sorted", by first | exact PyProof.Rows.boot_sorted | exact PySem.F.boot_sorted | decide +kernel, bt_sorted m ck⟩
theorem sb_blt {m : Bool} {f : Bt} {es : List E} {p : Expr} (hs : Has X Γ fa call) (hes : ∀ ps, chkEs Γ es ps = true → SA X fa ps (evEs call es)) (h : chkE Γ (.blt m f es) p = true) : SB X fa p (evE call (.blt m f es)) := by
  cases p <;> try (cases h; done)
  rename_i fe ys ks pos
  cases fe <;> try (cases h; done)
  rename_i x p1
  cases ys with
  | nil => cases h
  | cons y ys =>
  cases ks with
  | cons => cases h
  | nil =>
  obtain ⟨h1, h2⟩ := and_tt h
  obtain ⟨h2, h3⟩ := and_tt h2
  have e := eq_of_beq h1; subst e
  obtain ⟨g1, g2, g3⟩ := bt_of hs h2
  obtain ⟨k1, k2⟩ := first_nostar h3 pos X.env
  obtain ⟨n1, n2, n3⟩ := okNm_of g2
  have main : ∀ (σ : L2.St) (H : Hp) (ρ : List Addr) (env : MP.Env) (S : Store) (Q : VK), Rel X.K fa ρ S H → EnvR X.K fa H ρ σ env → Post X.K fa (rD X.K fa) ρ H Q (evE call (.blt m f es) env S) → tCB (rBt X.K fa (bt m f)) (WA X (y :: ys)) σ H Q := fun σ H ρ env S Q rel ev hq => by
    simp only [evE] at hq
    refine (hes (y :: ys) h3).bind rel ev hq fun ds S1 ρ1 H1 vs e1 r1 p1 ev1 hq1 => ?_
    exact ⟨ρ1, S1, ds, r1, p1, hq1⟩
  refine sb_plain rfl fun σ H ρ env S Q rel ev hq => ?_
  rcases bt_rule (fa := fa) hs.ck m f with ⟨id, b1, b2⟩ | ⟨T, b1, b2⟩
  · exact w_of (pe_callB b2 g1 g3 b1 (pa_w (es := y :: ys)) n3 n1 (star_cons k1) k2) (main σ H ρ env S Q rel ev hq)
  · exact w_of (pe_callTy b2 g1 g3 b1 (pa_w (es := y :: ys)) n3 n1 (star_cons k1) k2) (main σ H ρ env S Q rel ev hq)
theorem boot_ty (t : Ty) : bootBuiltins (tyNm t) = some (.type (tyStr t)) := by
  cases t <;> first | exact PyProof.Rows.boot_int | exact PyProof.Rows.boot_str | exact PyProof.Rows.boot_bool | exact PyProof.Rows.boot_tuple | exact PyProof.Rows.boot_list | exact PyProof.Rows.boot_dict
theorem sb_isi {a : E} {t : Ty} {p : Expr} (hs : Has X Γ fa call) (ha : ∀ p, chkE Γ a p = true → SB X fa p (evE call a)) (h : chkE Γ (.isi a t) p = true) : SB X fa p (evE call (.isi a t)) := by
  cases p <;> try (cases h; done)
  rename_i fe ys ks pos
  cases fe <;> try (cases h; done)
  rename_i x p1
  match ys, ks, h with
  | [], _, h => cases h
  | [_], _, h => cases h
  | _ :: _ :: _ :: _, _, h => simp [chkE] at h
  | [y, .Name z p2], _ :: _, h => simp [chkE] at h
  | [y, .Name z p2], [], h =>
  obtain ⟨h1, h2'⟩ := and_tt h
  obtain ⟨h2, h3'⟩ := and_tt h2'
  obtain ⟨h3, h4'⟩ := and_tt h3'
  obtain ⟨h4, h5'⟩ := and_tt h4'
  obtain ⟨h5, h6⟩ := and_tt h5'
  clear h2' h3' h4' h5'
  have e := eq_of_beq h1; subst e
  have e := eq_of_beq h2; subst e
  obtain ⟨g1, g2, g3⟩ := bt_of hs h3
  obtain ⟨k1, k2, k3⟩ := bt_of hs h4
  obtain ⟨n1, n2, n3⟩ := okNm_of g2
  obtain ⟨m1, m2, m3⟩ := okNm_of k2
  have pz : PE X (.Name (tyNm t) p2) (tC (.ty (tyStr t))) := pe_bltn k1 k3 (boot_ty t) rfl m3 m1
  refine sb_plain rfl fun σ H ρ env S Q rel ev hq => w_of (pe_callB call_isi g1 g3 PyProof.Rows.boot_isinstance (pa_cons (pe_w (e := y)) (pa_cons pz pa_nil) (star_cons h5)) n3 n1 (star_cons h5) rfl) ?_
  simp only [evE] at hq
  refine (ha y h6).1.bind rel ev hq fun d S1 ρ1 H1 v e1 r1 p1 ev1 hq1 => ?_
  cases q : isiB S1 d t with
  | none => rw [q] at hq1; exact hq1.elim
  | some b =>
    rw [q] at hq1
    obtain ⟨ta, q1, q2⟩ := isi_ok r1 p1 q
    exact ⟨v, .ty (tyStr t), ta, .type (tyStr t), b, rfl, .ty _, q1, q2, hq1.fin r1 (.bl b)⟩
theorem rdy_ty {ρ : List Addr} {H : Hp} {S : Store} {f : Mt} {d : D} {v : V} (ck : Cok X fa) (rel : Rel X.K fa ρ S H) (r : Rp X.K fa H ρ v d) (h : mtRdy f d S = true) : TyW X (mtTy f) v H := by
  have ls : (lsOf S d).isSome = true → TyW X "list" v H := fun h => by
    obtain ⟨xs, q⟩ := Option.isSome_iff_exists.mp h
    obtain ⟨a, vs, rfl, hq, rv⟩ := lsOf_ok rel r q
    exact .inl (.inl ⟨rfl, vs, .inl (.inl hq)⟩)
  have st : isStrB d = true → TyW X "str" v H := fun h => by
    cases d <;> try (cases h; done)
    obtain ⟨rfl, _⟩ := rp_str r
    exact .inl rfl
  have dt : isDctB d = true → TyW X "dict" v H := fun h => by
    cases d <;> try (cases h; done)
    · obtain ⟨a, ks, rfl, hH, _⟩ := rp_dct r
      exact .inl (.inr (.inr (.inl ⟨rfl, .inl ⟨ks, hH⟩⟩)))
    · obtain ⟨a, rfl, ea, _⟩ := rp_tab r
      obtain ⟨es, n, D⟩ := ck.tabs _ _ ea
      exact .inr ⟨a, es, n, rfl, rfl, D⟩
  cases f <;> first | exact ls h | exact st h | exact dt h
theorem few_of {ys : List Expr} {es : List E} {pos : Pos} {env : PySem.Env} (h : chkEs Γ es ys = true) (hl : ys.length < 30) : ((backTo pos (starEach ys env)).all (fun x => !x.1) && (backToKw pos (keywordEach [] env)).all (fun x => x.1.isSome)
      && decide (ys.length + ([] : List Keyword).length + (if ([] : List Keyword).isEmpty then 0 else 1) < 30)) = true := by
  have h1 := nostars (pos := pos) (env := env) h
  have h2 : (backTo pos (starEach ys env)).all (fun x => !x.1) = true := by
    rw [List.all_eq_not_any_not]
    simp only [Bool.not_not]
    rw [h1]; rfl
  rw [h2]
  simp [backToKw, keywordEach]
  exact hl
theorem sb_meth {f : Mt} {o : E} {es : List E} {p : Expr} (hs : Has X Γ fa call) (ho : ∀ p, chkE Γ o p = true → SB X fa p (evE call o)) (hes : ∀ ps, chkEs Γ es ps = true → SA X fa ps (evEs call es)) (h : chkE Γ (.meth f o es) p = true) : SB X fa p (evE call (.meth f o es)) := by
  cases p <;> try (cases h; done)
  rename_i fe ys ks pos
  cases fe <;> try (cases h; done)
  rename_i x n apos
  cases ks with
  | cons => cases h
  | nil =>
  obtain ⟨h1, h2'⟩ := and_tt h
  obtain ⟨h2, h3'⟩ := and_tt h2'
  obtain ⟨h3, h4'⟩ := and_tt h3'
  obtain ⟨h4, h5'⟩ := and_tt h4'
  obtain ⟨h5, h6⟩ := and_tt h5'
  clear h2' h3' h4' h5'
  have e := eq_of_beq h1; subst e
  refine sb_plain rfl fun σ H ρ env S Q rel ev hq => ?_
  cases ys with
  | nil =>
    refine w_of (pe_bmw0 (mt_attrs f) (mt_slot f) (mt_type f) (mt_rule (fa := fa) hs.ck f) (pe_w (e := x)) (base_of h2) h3) ?_
    simp only [evE] at hq
    refine (ho x h5).1.bind rel ev hq fun d S1 ρ1 H1 v e1 r1 p1 ev1 hq1 => ?_
    cases c : mtRdy f d S1 with
    | false => rw [c] at hq1; exact hq1.elim
    | true =>
      rw [c] at hq1
      refine ⟨rdy_ty hs.ck r1 p1 c, ?_⟩
      cases es with
      | cons => cases h6
      | nil =>
        simp only [evEs] at hq1
        exact ⟨ρ1, S1, d, [], r1, p1, .nil, hq1⟩
  | cons y ys =>
    obtain ⟨k1, k2⟩ := first_nostar h6 pos X.env
    refine w_of (pe_bmw (mt_attrs f) (mt_slot f) (mt_type f) (mt_rule (fa := fa) hs.ck f) (pe_w (e := x)) (pa_w (es := y :: ys)) (base_of h2) (few_of h6 (bdec h4)) h3 (star_cons k1) k2) ?_
    simp only [evE] at hq
    refine (ho x h5).1.bind rel ev hq fun d S1 ρ1 H1 v e1 r1 p1 ev1 hq1 => ?_
    cases c : mtRdy f d S1 with
    | false => rw [c] at hq1; exact hq1.elim
    | true =>
      rw [c] at hq1
      refine ⟨rdy_ty hs.ck r1 p1 c, ?_⟩
      refine (hes (y :: ys) h6).bind r1 ev1 hq1 fun ds S2 ρ2 H2 vs e2 r2 p2 ev2 hq2 => ?_
      exact ⟨ρ2, S2, d, ds, r2, p1.ext e2 r2.clear, p2, hq2⟩
end
end MP
end
section
set_option maxRecDepth 100000
/-! EvQ: the text does what the terms say: targets, what is walked, comprehensions. -/
namespace MP
open PySem L2
section
variable {X : Cx} {Γ : Ga} {fa : Nat → Option Addr} {call : Nat → List D → Store → R D}
/-- the weakest reading of a target -/
abbrev WG (X : Cx) (tg : Expr) : TG := fun v σ H Q => ∀ pins s u, Inv X pins σ H s → RelV v u → wpAny (model X.prog X.w) X.A (assign tg X.env u) (fun _ s' => ∃ σ' H', Inv X pins σ' H' s' ∧ Q σ' H') X.xe s
theorem pg_w {X : Cx} {tg : Expr} : PG X tg (WG X tg) := ⟨fun pins s _ _ _ u _ I r h => h pins s u I r⟩
theorem wg_of {X : Cx} {tg : Expr} {t : TG} {v : V} {σ : L2.St} {H : Hp} {Q : L2.St → Hp → Prop} (h : PG X tg t) (q : t v σ H Q) : WG X tg v σ H Q := fun pins s u I r => h.run pins s σ H v u Q I r q
def SG (X : Cx) (fa : Nat → Option Addr) (tg : Expr) (t : Tg) : Prop := ∀ (σ : L2.St) (H : Hp) (ρ : List Addr) (env : MP.Env) (S : Store) (v : V) (d : D) (env' : MP.Env) (Q : L2.St → Hp → Prop), Rel X.K fa ρ S H → EnvR X.K fa H ρ σ env → Rp X.K fa H ρ v d → bindT t d env = some env' →
  (∀ σ', EnvR X.K fa H ρ σ' env' → (∀ vs, t.sub vs = true → L2.wipe σ' vs = L2.wipe σ vs) → Q σ' H) → WG X tg v σ H Q
def SGs (X : Cx) (fa : Nat → Option Addr) (tgs : List Expr) (ts : List Tg) : Prop := ∃ t : TGs, PGs X tgs t ∧ ∀ (σ : L2.St) (H : Hp) (ρ : List Addr) (env : MP.Env) (S : Store) (vs : List V) (ds : List D) (env' : MP.Env) (Q : L2.St → Hp → Prop), Rel X.K fa ρ S H → EnvR X.K fa H ρ σ env → RpAll X.K fa H ρ vs ds → bindTs ts ds env = some env' →
  (∀ σ', EnvR X.K fa H ρ σ' env' → (∀ vs, subTs vs ts = true → L2.wipe σ' vs = L2.wipe σ vs) → Q σ' H) → t vs σ H Q
theorem wipe_set {v : V} : ∀ {vs : List Nat} {σ : L2.St} {i : Nat}, vs.contains i = true → L2.wipe (σ.set i (some v)) vs = L2.wipe σ vs
  | [], _, _, h => by simp at h
  | w :: vs, σ, i, h => by
    by_cases e : i = w
    · subst e
      by_cases m : vs.contains i = true
      · unfold L2.wipe
        rw [wipe_set m]
      · unfold L2.wipe
        have key : ∀ (us : List Nat) (σ : L2.St), (L2.wipe (σ.set i (some v)) us).set i none = (L2.wipe σ us).set i none := by
          intro us
          induction us with
          | nil => intro σ; simp [L2.wipe]
          | cons u us ih =>
            intro σ
            unfold L2.wipe
            by_cases e : u = i
            · subst e
              simp only [List.set_set]
              exact ih σ
            · rw [List.set_comm _ _ e, ih, ← List.set_comm _ _ e]
        exact key vs σ
    · have m : vs.contains i = true := by
        simp only [List.contains_cons, Bool.or_eq_true] at h
        rcases h with h | h
        · exact absurd (eq_of_beq h) e
        · exact h
      unfold L2.wipe
      rw [wipe_set m]
theorem assign_len {ts : List Tg} : ∀ {xs : List Expr} {env : PySem.Env}, chkTs Γ ts xs = true → (assignEach xs env).length = ts.length ∧ (assignEach xs env).findIdx? (·.1) = none := by
  induction ts with
  | nil => intro xs env h; cases xs <;> first | exact ⟨rfl, rfl⟩ | cases h
  | cons t ts ih =>
    intro xs env h
    cases xs with
    | nil => cases h
    | cons x xs =>
    obtain ⟨h1, h2⟩ := and_tt h
    obtain ⟨h2, h3⟩ := and_tt h2
    obtain ⟨k1, k2⟩ := ih (env := env) h3
    have e : assignEach (x :: xs) env = (false, assign x env) :: assignEach xs env := by cases x <;> first | rfl | cases h1
    rw [e]
    refine ⟨by simp [k1], ?_⟩
    rw [List.findIdx?_cons]
    simp [k2]
theorem bindTs_len : ∀ {ts : List Tg} {ds : List D} {env env' : MP.Env}, bindTs ts ds env = some env' → ds.length = ts.length
  | [], [], _, _, _ => rfl
  | [], _ :: _, _, _, h => by simp [bindTs] at h
  | _ :: _, [], _, _, h => by simp [bindTs] at h
  | t :: ts, d :: ds, env, env', h => by
    simp only [bindTs] at h
    obtain ⟨e, h1, h2⟩ := Option.bind_eq_some_iff.mp h
    exact congrArg Nat.succ (bindTs_len h2)
mutual
theorem sg_ok (hs : Has X Γ fa call) : ∀ {t : Tg} {p : Expr}, chkT Γ t p = true → SG X fa p t
  | .nm i, p, h => by
    cases p <;> try (cases h; done)
    rename_i x pos
    obtain ⟨h1, h2⟩ := and_tt h
    obtain ⟨h1, h3⟩ := loc_of hs h1
    intro σ H ρ env S v d env' Q rel ev r hb k
    cases hb
    have k' : Q (σ.set i (some v)) H := k _ (ev.set i r) fun vs hv => wipe_set hv
    rcases Bool.or_eq_true_iff.mp h2 with h2 | h2
    · have e : X.env.scope.names.lookup x = some .local := by rw [hs.sc]; simpa using h2
      exact wg_of (pg_name hs.nd h1 (.inl e) (.inr e)) k'
    · obtain ⟨h2, h4⟩ := and_tt h2
      have e : X.env.scope.names.lookup x = some .cell := by rw [hs.sc]; simpa using h2
      exact wg_of (pg_name hs.nd h1 (.inr e) (.inl (by rw [hs.hfn]; exact h4))) k'
  | .tup ts, p, h => by
    cases p <;> try (cases h; done)
    rename_i xs k pos
    obtain ⟨t, ht1, ht2⟩ := sgs_ok hs (ts := ts) (ps := xs) h
    obtain ⟨l1, l2⟩ := assign_len (env := X.env) (show chkTs Γ ts xs = true from h)
    intro σ H ρ env S v d env' Q rel ev r hb kk
    simp only [bindT] at hb
    cases d <;> try (cases hb; done)
    · rename_i ds
      obtain ⟨a, vs, rfl, hq, rv⟩ := lsOf_ok (ds := ds) rel r rfl
      refine wg_of (pg_unl hs.ck.calm ht1 l1 l2) ⟨a, vs, rfl, .inl (.inl hq), ?_, ?_⟩
      · rw [rv.len, bindTs_len hb]
      · exact ht2 σ H ρ env S vs ds env' Q rel ev rv hb kk
    · rename_i ds
      obtain ⟨a, vs, rfl, hq, _, rv⟩ := rp_tup r
      refine wg_of (pg_tup hs.ck.calm ht1 l1 l2) ⟨a, vs, rfl, hq, ?_, ?_⟩
      · rw [rv.len, bindTs_len hb]
      · exact ht2 σ H ρ env S vs ds env' Q rel ev rv hb kk
  | .star _ _, p, h => by cases h
theorem sgs_ok (hs : Has X Γ fa call) : ∀ {ts : List Tg} {ps : List Expr}, chkTs Γ ts ps = true → SGs X fa ps ts
  | [], ps, h => by
    cases ps <;> try (cases h; done)
    refine ⟨_, pgs_nil, fun σ H ρ env S vs ds env' Q rel ev r hb k => ?_⟩
    cases ds with
    | cons => simp [bindTs] at hb
    | nil =>
      cases r
      cases hb
      exact ⟨rfl, k σ ev fun _ _ => rfl⟩
  | t :: ts, ps, h => by
    cases ps with
    | nil => cases h
    | cons x xs =>
    obtain ⟨h1, h2⟩ := and_tt h
    obtain ⟨h2, h3⟩ := and_tt h2
    have g1 := sg_ok hs h2
    obtain ⟨u, u1, u2⟩ := sgs_ok hs h3
    have e : (assignEach (x :: xs) X.env).map (·.2) = assign x X.env :: (assignEach xs X.env).map (·.2) := by cases x <;> first | rfl | cases h1
    refine ⟨_, pgs_cons (pg_w (tg := x)) u1 e, fun σ H ρ env S vs ds env' Q rel ev r hb k => ?_⟩
    cases ds with
    | nil => simp [bindTs] at hb
    | cons d ds =>
    cases r with
    | cons r rr =>
    simp only [bindTs] at hb
    obtain ⟨env1, b1, b2⟩ := Option.bind_eq_some_iff.mp hb
    refine ⟨_, _, rfl, g1 σ H ρ env S _ d env1 _ rel ev r b1 fun σ1 ev1 w1 => ?_⟩
    refine u2 σ1 H ρ env1 S _ ds env' Q rel ev1 rr b2 fun σ2 ev2 w2 => k σ2 ev2 fun vs hv => ?_
    obtain ⟨v1, v2⟩ := and_tt hv
    rw [w2 vs v2, w1 vs v1]
end
/-! ### what is walked -/
def rW (K : PySem.W.Frag) (fa : Nat → Option Addr) : Hp → List Addr → It → Row → Prop := fun H ρ J w => Fd K fa J w ρ H
def SI (X : Cx) (fa : Nat → Option Addr) (tg it : Expr) (f : MP.Env → Store → R Row) : Prop := ∃ wi : TI, PI X tg it wi ∧ ∀ (σ : L2.St) (H : Hp) (ρ : List Addr) (env : MP.Env) (S : Store) (Q : It → Hp → Prop), Rel X.K fa ρ S H → EnvR X.K fa H ρ σ env →
  Post X.K fa (rW X.K fa) ρ H Q (f env S) → wi σ H Q
theorem Post.finW {K : PySem.W.Frag} {ρ : List Addr} {H : Hp} {S : Store} {Q : It → Hp → Prop} {w : Row} {J : It} (h : Post K fa (rW K fa) ρ H Q (.ok w S)) (rel : Rel K fa ρ S H) (f : Fd K fa J w ρ H) : Q J H := h ρ H J (Ext.refl _ _) rel f
/-- a list, a tuple or a text, by what it is -/
abbrev WI (X : Cx) (tg it : Expr) : TI := fun σ H R => ∀ pins s, Inv X pins σ H s → wpAny (model X.prog X.w) X.A (eval it X.env) (fun v s1 => wpAny (model X.prog X.w) X.A (pyIter v) (PIE X pins σ tg R) X.xe s1) X.xe s
theorem pi_w {X : Cx} {tg it : Expr} : PI X tg it (WI X tg it) := ⟨fun pins s _ _ _ I h => h pins s I⟩
theorem wi_of {X : Cx} {tg it : Expr} {wi : TI} {σ : L2.St} {H : Hp} {R : It → Hp → Prop} (h : PI X tg it wi) (q : wi σ H R) : WI X tg it σ H R := fun pins s I => h.run pins s σ H R I q
end
end MP
end
section
set_option maxRecDepth 100000
/-! EvR: the text does what the terms say: what is walked, comprehensions. -/
namespace MP
open PySem L2
section
variable {X : Cx} {Γ : Ga} {fa : Nat → Option Addr} {call : Nat → List D → Store → R D}
theorem SE.ok {p : Expr} {f : MP.Env → Store → R D} {σ : L2.St} {H : Hp} {ρ : List Addr} {env : MP.Env} {S S1 : Store} {d : D} {Q : VK} (se : SE X fa p f) (rel : Rel X.K fa ρ S H) (ev : EnvR X.K fa H ρ σ env) (e : f env S = .ok d S1)
    (k : ∀ ρ1 H1 v, Ext ρ H ρ1 H1 → Rel X.K fa ρ1 S1 H1 → Rp X.K fa H1 ρ1 v d → EnvR X.K fa H1 ρ1 σ env → Q v H1) : WE X p σ H Q := by
  refine se σ H ρ env S Q rel ev ?_
  rw [e]
  exact fun ρ1 H1 v e1 r1 p1 => k ρ1 H1 v e1 r1 p1 (ev.ext e1 r1.clear)
theorem si_seq {a : E} {tg p : Expr} (ha : ∀ p, chkE Γ a p = true → SB X fa p (evE call a)) (h : chkI Γ (.seq a) tg p = true) : SI X fa tg p (evI call (.seq a)) := by
  obtain ⟨h1, h2⟩ := and_tt h
  refine ⟨WI X tg p, pi_w, fun σ H ρ env S Q rel ev hq => ?_⟩
  simp only [evI] at hq
  cases e : evE call a env S with
  | exc => rw [e] at hq; exact hq.elim
  | stuck => rw [e] at hq; exact hq.elim
  | ok d S1 =>
  rw [e] at hq
  simp only [R.bind_ok] at hq
  unfold seqRow at hq
  split at hq
  · refine wi_of (pi_str (pe_w (e := p))) ((ha p h2).1.ok rel ev e fun ρ1 H1 v e1 r1 p1 ev1 => ?_)
    obtain ⟨rfl, z⟩ := rp_str p1
    exact ⟨_, rfl, (Post.ext e1 hq).finW r1 (fd_str _)⟩
  · split at hq
    · rename_i xs q
      have lst : ∀ {S0 : Store}, rwOf S1 d = some xs → WI X tg p σ H Q := fun {S0} q2 => wi_of (pi_list (pe_w (e := p))) ((ha p h2).1.ok rel ev e fun ρ1 H1 v e1 r1 p1 ev1 => by
        obtain ⟨l, rfl, st⟩ := stL_of r1 p1 q2
        obtain ⟨vs, s1, s2⟩ := st.1
        exact ⟨l, rfl, ⟨vs, s1⟩, (Post.ext e1 hq).finW r1 (fd_list st)⟩)
      cases d with
      | tup ds =>
        cases q
        refine wi_of (pi_tup (pe_w (e := p))) ((ha p h2).1.ok rel ev e fun ρ1 H1 v e1 r1 p1 ev1 => ?_)
        obtain ⟨l, vs, rfl, s1, s2, s3⟩ := rp_tup p1
        exact ⟨l, rfl, ⟨vs, s1⟩, (Post.ext e1 hq).finW r1 (fd_tup p1)⟩
      | _ => exact lst (S0 := S1) q
    · exact hq.elim
theorem range_post {K : PySem.W.Frag} {ρ : List Addr} {H : Hp} {S : Store} {Q : It → Hp → Prop} {lo hi : Int} (h : Post K fa (rW K fa) ρ H Q (rangeRow lo hi S)) (rel : Rel K fa ρ S H) : (lo.natAbs ≤ most ∧ hi.natAbs ≤ most) ∧ Q (Itr lo (hi - lo).toNat) H := by
  unfold rangeRow at h
  split at h
  · rename_i c
    obtain ⟨c1, c2⟩ := and_tt c
    exact ⟨⟨bdec c1, bdec c2⟩, h.finW rel (fd_range _ _)⟩
  · exact h.elim
theorem si_range1 {a : E} {tg p : Expr} (hs : Has X Γ fa call) (ha : ∀ p, chkE Γ a p = true → SB X fa p (evE call a)) (h : chkI Γ (.range1 a) tg p = true) : SI X fa tg p (evI call (.range1 a)) := by
  simp only [chkI] at h
  split at h
  · rename_i x p1 y pos
    obtain ⟨h1, h2⟩ := and_tt h
    obtain ⟨h2, h3⟩ := and_tt h2
    obtain ⟨h3, h4⟩ := and_tt h3
    have e := eq_of_beq h1; subst e
    obtain ⟨g1, g2, g3⟩ := bt_of hs h2
    refine ⟨_, pi_range1 g1 g3 (pa_cons (pe_w (e := y)) pa_nil (star_cons h3)) (star_cons h3), fun σ H ρ env S Q rel ev hq => ?_⟩
    simp only [evI] at hq
    refine (ha y h4).1.bind rel ev hq fun d S1 ρ1 H1 v e1 r1 p1 ev1 hq1 => ?_
    cases d <;> try (exact hq1.elim)
    obtain rfl := rp_int p1
    obtain ⟨⟨b1, b2⟩, q⟩ := range_post hq1 r1
    unfold most at b2
    exact ⟨_, rfl, by omega, by omega, by simpa using q⟩
  · cases h
theorem si_range2 {a b : E} {tg p : Expr} (hs : Has X Γ fa call) (ha : ∀ p, chkE Γ a p = true → SB X fa p (evE call a)) (hb : ∀ p, chkE Γ b p = true → SB X fa p (evE call b)) (h : chkI Γ (.range2 a b) tg p = true) : SI X fa tg p (evI call (.range2 a b)) := by
  simp only [chkI] at h
  split at h
  · rename_i x p1 y z pos
    obtain ⟨h1, h2⟩ := and_tt h
    obtain ⟨h2, h3⟩ := and_tt h2
    obtain ⟨h3, h4⟩ := and_tt h3
    obtain ⟨h4, h5⟩ := and_tt h4
    obtain ⟨h5, h6⟩ := and_tt h5
    have e := eq_of_beq h1; subst e
    obtain ⟨g1, g2, g3⟩ := bt_of hs h2
    have s2 : starEach [z] X.env = [(false, eval z X.env)] := star_cons h4
    refine ⟨_, pi_range2 g1 g3 (pa_cons (pe_w (e := y)) (pa_cons (pe_w (e := z)) pa_nil (star_cons h4)) (star_cons h3)) (by rw [star_cons h3, s2]) s2, fun σ H ρ env S Q rel ev hq => ?_⟩
    simp only [evI] at hq
    refine (ha y h5).1.bind rel ev hq fun d S1 ρ1 H1 v e1 r1 p1 ev1 hq1 => ?_
    refine (hb z h6).1.bind r1 ev1 hq1 fun d2 S2 ρ2 H2 v2 e2 r2 p2 ev2 hq2 => ?_
    cases d <;> try (exact hq2.elim)
    cases d2 <;> try (exact hq2.elim)
    obtain rfl := rp_int p1
    obtain rfl := rp_int p2
    obtain ⟨⟨b1, b2⟩, q⟩ := range_post hq2 r2
    unfold most at b1 b2
    exact ⟨_, _, rfl, ⟨by omega, by omega, by omega, by omega⟩, q⟩
  · cases h
theorem si_enum {a : E} {tg p : Expr} (hs : Has X Γ fa call) (ha : ∀ p, chkE Γ a p = true → SB X fa p (evE call a)) (h : chkI Γ (.enum a) tg p = true) : SI X fa tg p (evI call (.enum a)) := by
  simp only [chkI] at h
  split at h
  · rename_i x p1 y pos
    obtain ⟨h1, h2⟩ := and_tt h
    obtain ⟨h2, h3⟩ := and_tt h2
    obtain ⟨h3, h4⟩ := and_tt h3
    obtain ⟨h4, h5⟩ := and_tt h4
    have e := eq_of_beq h1; subst e
    obtain ⟨g1, g2, g3⟩ := bt_of hs h3
    cases tg <;> try (cases h2; done)
    refine ⟨_, pi_enumA g1 g3 (pa_cons (pe_w (e := y)) pa_nil (star_cons h4)) (star_cons h4), fun σ H ρ env S Q rel ev hq => ?_⟩
    simp only [evI] at hq
    refine (ha y h5).1.bind rel ev hq fun d S1 ρ1 H1 v e1 r1 p1 ev1 hq1 => ?_
    unfold enRow at hq1
    split at hq1
    · obtain ⟨l, vs, rfl, s1, _, s3⟩ := rp_tup p1
      exact ⟨l, vs, rfl, .inr ⟨s1, hq1.finW r1 (fd_enumT p1)⟩⟩
    · split at hq1
      · rename_i xs q
        obtain ⟨l, rfl, st⟩ := stL_of r1 p1 q
        obtain ⟨vs, s1, s2⟩ := st.1
        exact ⟨l, vs, rfl, .inl ⟨s1, hq1.finW r1 (fd_enum st)⟩⟩
      · exact hq1.elim
  · cases h
theorem si_zip {a b : E} {tg p : Expr} (hs : Has X Γ fa call) (ha : ∀ p, chkE Γ a p = true → SB X fa p (evE call a)) (hb : ∀ p, chkE Γ b p = true → SB X fa p (evE call b)) (h : chkI Γ (.zip a b) tg p = true) : SI X fa tg p (evI call (.zip a b)) := by
  simp only [chkI] at h
  split at h
  · rename_i x p1 y z pos
    obtain ⟨h1, h2⟩ := and_tt h
    obtain ⟨h2, h3⟩ := and_tt h2
    obtain ⟨h3, h4⟩ := and_tt h3
    obtain ⟨h4, h5⟩ := and_tt h4
    obtain ⟨h5, h6⟩ := and_tt h5
    obtain ⟨h6, h7⟩ := and_tt h6
    have e := eq_of_beq h1; subst e
    obtain ⟨g1, g2, g3⟩ := bt_of hs h3
    cases tg <;> try (cases h2; done)
    have s2 : starEach [z] X.env = [(false, eval z X.env)] := star_cons h5
    refine ⟨_, RZ.pi_zipA g1 g3 (pa_cons (pe_w (e := y)) (pa_cons (pe_w (e := z)) pa_nil (star_cons h5)) (star_cons h4)) (star_cons h4) (by rw [s2]; rfl), fun σ H ρ env S Q rel ev hq => ?_⟩
    simp only [evI] at hq
    refine (ha y h6).1.bind rel ev hq fun d S1 ρ1 H1 v e1 r1 p1 ev1 hq1 => ?_
    refine (hb z h7).1.bind r1 ev1 hq1 fun d2 S2 ρ2 H2 v2 e2 r2 p2 ev2 hq2 => ?_
    have p1' := p1.ext e2 r2.clear
    unfold zipRow at hq2
    split at hq2
    · obtain ⟨l, vs, rfl, s1, _, s3⟩ := rp_tup p1'
      obtain ⟨l', vs', rfl, s1', _, s3'⟩ := rp_tup p2
      exact ⟨l, l', vs, vs', rfl, .inr ⟨s1, s1', hq2.finW r2 (fd_zipT p1' p2)⟩⟩
    · split at hq2
      · rename_i xs ys q1 q2
        obtain ⟨l, rfl, st⟩ := stL_of r2 p1' q1
        obtain ⟨vs, s1, s2⟩ := st.1
        obtain ⟨l', rfl, st'⟩ := stL_of r2 p2 q2
        obtain ⟨vs', s1', s2'⟩ := st'.1
        exact ⟨l, l', vs, vs', rfl, .inl ⟨s1, s1', hq2.finW r2 (fd_zip st st')⟩⟩
      · exact hq2.elim
  · cases h
end
end MP
end
section
set_option maxRecDepth 100000
/-! EvS: cells that are given up. -/
namespace MP
open PySem L2
section
variable {K : PySem.W.Frag} {fa : Nat → Option Addr} {H H0 : Hp} {ρ ρ0 : List Addr} {S S0 : Store}
mutual
/-- what lies among n cells names no later one -/
theorem Rp.und {n : Nat} (hn : ρ.length ≤ n) : ∀ {d : D} {v : V}, Rp K fa H ρ v d → d.und n = true
  | .non, _, h => rfl
  | .bl _, _, h => rfl
  | .int _, _, h => rfl
  | .str _, _, h => rfl
  | .lst ds, _, h => by cases h with | lst s m r => exact RpAll.und hn r
  | .tup ds, _, h => by cases h with | tup s m r => exact RpAll.und hn r
  | .dct es, _, h => by cases h with | dct s m r => exact RpKv.und hn r
  | .ref m, _, h => by
    cases h with
    | ref z =>
      have := (List.getElem?_eq_some_iff.mp z).1
      simp only [D.und]
      exact decide_eq_true (by omega)
  | .fn _, _, h => rfl
  | .row ds, _, h => by cases h with | row s m r => exact RpAll.und hn r
  | .tab _ _, _, h => rfl
theorem RpAll.und {n : Nat} (hn : ρ.length ≤ n) : ∀ {ds : List D} {vs : List V}, RpAll K fa H ρ vs ds → undAll n ds = true
  | [], _, h => rfl
  | d :: ds, _, h => by
    cases h with
    | cons a b =>
      simp only [undAll]
      rw [Rp.und hn a, RpAll.und hn b]
      rfl
theorem RpKv.und {n : Nat} (hn : ρ.length ≤ n) : ∀ {es : List (D × D)} {ks : List (Key × V)}, RpKv K fa H ρ ks es → undKv n es = true
  | [], _, h => rfl
  | (_, _) :: es, _, h => by
    cases h with
    | cons a b r =>
      simp only [undKv]
      rw [Rp.und hn a, Rp.und hn b, RpKv.und hn r]
      rfl
end
mutual
/-- fewer cells -/
theorem Rp.less {l : List Addr} : ∀ {d : D} {v : V}, d.und ρ.length = true → Rp K fa H (ρ ++ l) v d → Rp K fa H ρ v d
  | .non, _, _, h => by cases h; exact .non
  | .bl b, _, _, h => by cases h; exact .bl b
  | .int i, _, _, h => by cases h; exact .int i
  | .str x, _, _, h => by cases h with | str _ z => exact .str x z
  | .lst ds, _, u, h => by cases h with | lst s m r => exact .lst s (fun q => m (List.mem_append_left _ q)) (RpAll.less (by simpa [D.und] using u) r)
  | .tup ds, _, u, h => by cases h with | tup s m r => exact .tup s (fun q => m (List.mem_append_left _ q)) (RpAll.less (by simpa [D.und] using u) r)
  | .dct es, _, u, h => by cases h with | dct s m r => exact .dct s (fun q => m (List.mem_append_left _ q)) (RpKv.less (by simpa [D.und] using u) r)
  | .ref n, _, u, h => by
    cases h with
    | ref z =>
      have hl : n < ρ.length := by simpa [D.und] using u
      rw [List.getElem?_append_left hl] at z
      exact .ref z
  | .fn f, _, _, h => by cases h with | fn z => exact .fn z
  | .row ds, _, u, h => by cases h with | row s m r => exact .row s (fun q => m (List.mem_append_left _ q)) (RpAll.less (by simpa [D.und] using u) r)
  | .tab j kvs, _, _, h => by cases h with | tab x t => exact .tab x t
theorem RpAll.less {l : List Addr} : ∀ {ds : List D} {vs : List V}, undAll ρ.length ds = true → RpAll K fa H (ρ ++ l) vs ds → RpAll K fa H ρ vs ds
  | [], _, _, h => by cases h; exact .nil
  | d :: ds, _, u, h => by
    obtain ⟨u1, u2⟩ := and_tt (show (d.und ρ.length && undAll ρ.length ds) = true from by simpa [undAll] using u)
    cases h with
    | cons a b => exact .cons (Rp.less u1 a) (RpAll.less u2 b)
theorem RpKv.less {l : List Addr} : ∀ {es : List (D × D)} {ks : List (Key × V)}, undKv ρ.length es = true → RpKv K fa H (ρ ++ l) ks es → RpKv K fa H ρ ks es
  | [], _, _, h => by cases h; exact .nil
  | (k, d) :: es, _, u, h => by
    obtain ⟨u1, u2⟩ := and_tt (show (k.und ρ.length && (d.und ρ.length && undKv ρ.length es)) = true from by simpa [undKv] using u)
    obtain ⟨u2, u3⟩ := and_tt u2
    cases h with
    | cons a b r => exact .cons (Rp.less u1 a) (Rp.less u2 b) (RpKv.less u3 r)
end
theorem CellAt'.und {a : Addr} {c : Cell} {n : Nat} (hn : ρ.length ≤ n) (h : CellAt' K fa H ρ a c) : c.und n = true := by
  cases c with
  | lst ds => obtain ⟨vs, _, r⟩ := h; exact r.und hn
  | dct es => obtain ⟨ks, _, r⟩ := h; exact r.und hn
theorem CellAt'.less {l : List Addr} {a : Addr} {c : Cell} (u : c.und ρ.length = true) (h : CellAt' K fa H (ρ ++ l) a c) : CellAt' K fa H ρ a c := by
  cases c with
  | lst ds => obtain ⟨vs, h1, r⟩ := h; exact ⟨vs, h1, RpAll.less u r⟩
  | dct es => obtain ⟨ks, h1, r⟩ := h; exact ⟨ks, h1, RpKv.less u r⟩
/-- the later cells given up -/
theorem Rel.less {l : List Addr} (r0 : Rel K fa ρ0 S0 H0) (rel : Rel K fa (ρ0 ++ l) S H) (kept : Kept S0 S) : Rel K fa ρ0 (S.take S0.length) H := by
  have hl := rel.len
  have h0 := r0.len
  rw [List.length_append] at hl
  refine ⟨by rw [List.length_take]; omega, (List.nodup_append.mp rel.nd).1, fun a o e m => rel.clear a o e (List.mem_append_left _ m), fun n c a e1 e2 => ?_⟩
  have hn : n < S0.length := by rw [← h0]; exact (List.getElem?_eq_some_iff.mp e2).1
  rw [List.getElem?_take_of_lt hn] at e1
  have e2' : (ρ0 ++ l)[n]? = some a := by rw [List.getElem?_append_left (by omega)]; exact e2
  refine CellAt'.less (l := l) ?_ (rel.cell n c a e1 e2')
  rcases kept n hn with k | ⟨c', k1, k2⟩
  · rw [k] at e1
    rw [h0]
    exact (r0.cell n c a e1 e2).und (Nat.le_of_eq h0)
  · rw [e1] at k1; cases k1
    rw [h0]
    exact k2
theorem Ext.less {l : List Addr} (e : Ext ρ0 H0 (ρ0 ++ l) H) : Ext ρ0 H0 ρ0 H := ⟨⟨[], by simp, fun a h => nomatch h⟩, e.keep, e.there⟩
theorem Ext.split (e : Ext ρ0 H0 ρ H) : ∃ l, ρ = ρ0 ++ l ∧ Ext ρ0 H0 (ρ0 ++ l) H := by
  obtain ⟨l, h, _⟩ := e.more
  exact ⟨l, h, h ▸ e⟩
mutual
theorem Rp.frozen {l : List Addr} (rel : Rel K fa (ρ0 ++ l) S H) (h0 : ρ0.length = S0.length) : ∀ {d : D} {v : V}, (fzD S S0.length d).und S0.length = true → Rp K fa H (ρ0 ++ l) v d → Rp K fa H ρ0 v (fzD S S0.length d)
  | .non, _, _, h => by cases h; exact .non
  | .bl b, _, _, h => by cases h; exact .bl b
  | .int i, _, _, h => by cases h; exact .int i
  | .str x, _, _, h => by cases h with | str _ z => exact .str x z
  | .lst ds, _, u, h => by cases h with | lst s m r => exact .lst s (fun q => m (List.mem_append_left _ q)) (RpAll.frozen rel h0 (by simpa [fzD, D.und] using u) r)
  | .tup ds, _, u, h => by cases h with | tup s m r => exact .tup s (fun q => m (List.mem_append_left _ q)) (RpAll.frozen rel h0 (by simpa [fzD, D.und] using u) r)
  | .dct es, _, u, h => by
    have u' : (D.dct es).und ρ0.length = true := by rw [h0]; simpa [fzD] using u
    simpa [fzD] using Rp.less u' h
  | .ref m, v, u, h => by
    have go : ∀ {d : D}, fzD S S0.length (.ref m) = .ref m → Rp K fa H ρ0 v (fzD S S0.length (.ref m)) := fun e => by
      rw [e] at u ⊢
      exact Rp.less (by rw [h0]; exact u) h
    by_cases hm : S0.length ≤ m
    · cases q : S[m]? with
      | none => exact go (d := .non) (by simp [fzD, hm, q])
      | some c =>
        cases c with
        | dct es => exact go (d := .non) (by simp [fzD, hm, q])
        | lst xs =>
          have e : fzD S S0.length (.ref m) = .lst xs := by simp [fzD, hm, q]
          rw [e] at u ⊢
          obtain ⟨p, vs, rfl, hp, hq, rv⟩ := cell_list rel h q
          refine .lst hq (fun hm2 => ?_) (RpAll.less (by rw [h0]; simpa [D.und] using u) rv)
          obtain ⟨i, hi, ei⟩ := List.getElem_of_mem hm2
          obtain ⟨k1, k2⟩ := List.getElem?_eq_some_iff.mp hp
          have hi' : i < (ρ0 ++ l).length := by rw [List.length_append]; omega
          have e3 : (ρ0 ++ l)[i] = (ρ0 ++ l)[m] := by
            rw [k2, List.getElem_append_left hi]
            exact ei
          have := (List.getElem_inj rel.nd).mp e3
          omega
    · exact go (d := .non) (by simp [fzD, hm])
  | .fn f, _, _, h => by cases h with | fn z => exact .fn z
  | .row ds, _, u, h => by cases h with | row s m r => exact .row s (fun q => m (List.mem_append_left _ q)) (RpAll.less (by rw [h0]; simpa [fzD, D.und] using u) r)
  | .tab j kvs, _, _, h => by cases h with | tab x t => exact .tab x t
theorem RpAll.frozen {l : List Addr} (rel : Rel K fa (ρ0 ++ l) S H) (h0 : ρ0.length = S0.length) : ∀ {ds : List D} {vs : List V}, undAll S0.length (fzAll S S0.length ds) = true → RpAll K fa H (ρ0 ++ l) vs ds → RpAll K fa H ρ0 vs (fzAll S S0.length ds)
  | [], _, _, h => by cases h; exact .nil
  | d :: ds, _, u, h => by
    obtain ⟨u1, u2⟩ := and_tt (show ((fzD S S0.length d).und S0.length && undAll S0.length (fzAll S S0.length ds)) = true from by simpa [fzAll, undAll] using u)
    cases h with
    | cons a b => exact .cons (Rp.frozen rel h0 u1 a) (RpAll.frozen rel h0 u2 b)
end
end
end MP
end
section
set_option maxRecDepth 100000
/-! EvT: the text does what the terms say: comprehensions. -/
namespace MP
open PySem L2
section
variable {X : Cx} {Γ : Ga} {fa : Nat → Option Addr} {call : Nat → List D → Store → R D}
theorem we_tr0 {e : Expr} {σ : L2.St} {H : Hp} {Q : VK} (h : TrK X.K H → WE X e σ H Q) : WE X e σ H Q := fun pins s I => h (trK_of I) pins s I
theorem wg_tr0 {tg : Expr} {v : V} {σ : L2.St} {H : Hp} {Q : L2.St → Hp → Prop} (h : TrK X.K H → WG X tg v σ H Q) : WG X tg v σ H Q := fun pins s u I r => h (trK_of I) pins s u I r
/-- a clause's tests, weakest -/
abbrev WTs (X : Cx) (cs : List Expr) : TT := fun σ H Q => ∀ pins s, Inv X pins σ H s →
  wpAny (model X.prog X.w) X.A (forIn cs true fun c r => if r = true then do let ok ← isTrue c X.env (eval c X.env); pure (ForInStep.yield ok) else pure (ForInStep.yield r)) (TP X pins σ Q) X.xe s
theorem pts_w {X : Cx} {cs : List Expr} : PTs X cs (WTs X cs) := ⟨fun pins s _ _ _ I h => h pins s I⟩
theorem wts_of {X : Cx} {cs : List Expr} {t : TT} {σ : L2.St} {H : Hp} {Q : Bool → Hp → Prop} (h : PTs X cs t) (q : t σ H Q) : WTs X cs σ H Q := fun pins s I => h.run pins s σ H Q I q
def STs (X : Cx) (fa : Nat → Option Addr) (cs : List Expr) (f : MP.Env → Store → R Bool) : Prop := ∀ (σ : L2.St) (H : Hp) (ρ : List Addr) (env : MP.Env) (S : Store) (Q : Bool → Hp → Prop), Rel X.K fa ρ S H → EnvR X.K fa H ρ σ env → Post X.K fa rB ρ H Q (f env S) → WTs X cs σ H Q
theorem sts_ok {es : List E} {cs : List Expr} (he : ∀ e, e ∈ es → ∀ p, chkE Γ e p = true → SB X fa p (evE call e)) (h : chkTst Γ es cs = true) : STs X fa cs (evTs call es) := by
  cases es with
  | nil =>
    cases cs <;> try (cases h; done)
    intro σ H ρ env S Q rel ev hq
    simp only [evTs] at hq
    exact wts_of pts_nil (hq.finB rel)
  | cons e es =>
    match cs, h with
    | [], h => cases h
    | _ :: _ :: _, h => cases h
    | [x], h =>
    obtain ⟨h1, h2⟩ := and_tt h
    have e0 : es = [] := List.isEmpty_iff.mp h1
    subst e0
    intro σ H ρ env S Q rel ev hq
    refine wts_of (pts_one (pt_w (e := x))) ?_
    refine (he e (by simp) x h2).2 σ H ρ env S Q rel ev ?_
    simp only [evTs] at hq
    show Post X.K fa rB ρ H Q ((evE call e env S).bind test)
    cases e1 : evE call e env S with
    | exc => rw [e1] at hq; exact hq
    | stuck => rw [e1] at hq; exact hq
    | ok d S1 =>
      rw [e1] at hq
      simp only [R.bind_ok] at hq ⊢
      cases e2 : test d S1 with
      | exc => rw [e2] at hq; exact hq
      | stuck => rw [e2] at hq; exact hq
      | ok b S2 =>
        rw [e2] at hq
        cases b <;> exact hq
theorem STs.bind {cs : List Expr} {f : MP.Env → Store → R Bool} {σ : L2.St} {H : Hp} {ρ : List Addr} {env : MP.Env} {S : Store} {β γ : Type} {rp : Hp → List Addr → γ → β → Prop} {Q : γ → Hp → Prop} {g : Bool → Store → R β} {Q1 : Bool → Hp → Prop} (se : STs X fa cs f) (rel : Rel X.K fa ρ S H) (ev : EnvR X.K fa H ρ σ env) (h : Post X.K fa rp ρ H Q ((f env S).bind g))
    (k : ∀ d S1 ρ1 H1, Ext ρ H ρ1 H1 → Rel X.K fa ρ1 S1 H1 → EnvR X.K fa H1 ρ1 σ env → Post X.K fa rp ρ1 H1 Q (g d S1) → Q1 d H1) : WTs X cs σ H Q1 := by
  refine se σ H ρ env S Q1 rel ev ?_
  cases q : f env S with
  | ok d S1 =>
    rw [q] at h
    intro ρ1 H1 v e1 r1 p1
    cases p1
    exact k d S1 ρ1 H1 e1 r1 (ev.ext e1 r1.clear) (Post.ext e1 h)
  | exc x S1 => rw [q] at h; exact h
  | stuck => rw [q] at h; exact h
theorem SI.bind {tg it : Expr} {f : MP.Env → Store → R Row} (h : SI X fa tg it f) : ∃ wi : TI, PI X tg it wi ∧ ∀ {β γ : Type} {rp : Hp → List Addr → γ → β → Prop} {Q : γ → Hp → Prop} {g : Row → Store → R β} {Q1 : It → Hp → Prop} (σ : L2.St) (H : Hp) (ρ : List Addr) (env : MP.Env) (S : Store),
    Rel X.K fa ρ S H → EnvR X.K fa H ρ σ env → Post X.K fa rp ρ H Q ((f env S).bind g) →
    (∀ w S1 ρ1 H1 J, Ext ρ H ρ1 H1 → Rel X.K fa ρ1 S1 H1 → EnvR X.K fa H1 ρ1 σ env → Fd X.K fa J w ρ1 H1 → Post X.K fa rp ρ1 H1 Q (g w S1) → Q1 J H1) → wi σ H Q1 := by
  obtain ⟨wi, h1, h2⟩ := h
  refine ⟨wi, h1, fun σ H ρ env S rel ev h k => h2 σ H ρ env S _ rel ev ?_⟩
  cases q : f env S with
  | ok d S1 =>
    rw [q] at h
    intro ρ1 H1 J e1 r1 p1
    exact k d S1 ρ1 H1 J e1 r1 (ev.ext e1 r1.clear) p1 (Post.ext e1 h)
  | exc x S1 => rw [q] at h; exact h
  | stuck => rw [q] at h; exact h
theorem own_map {N : List Str} : ∀ {own : List Nat}, (own.all fun i => decide (i < N.length)) = true → (ownOf N own).map (·.2) = own
  | [], _ => rfl
  | i :: r, h => by
    rw [List.all_cons, Bool.and_eq_true] at h
    have hi : i < N.length := bdec h.1
    have ih := own_map h.2
    unfold ownOf at ih ⊢
    rw [List.filterMap_cons, List.getElem?_eq_getElem hi]
    simp only [Option.map_some, List.map_cons]
    rw [ih]
theorem blk_of {scope : Scope} {own : List Nat} (hs : Has X Γ fa call) (h : blkB Γ scope own = true) : BlkOk X.N X.env.scope scope (ownOf X.N own) ∧ (ownOf X.N own).map (·.2) = own := by
  obtain ⟨h1, h2⟩ := and_tt h
  obtain ⟨h2, h3⟩ := and_tt h2
  obtain ⟨h3, h4⟩ := and_tt h3
  obtain ⟨h4, h5⟩ := and_tt h4
  have hN := hs.n
  have hsc := hs.sc
  rw [← hN] at h4 h5
  rw [← hsc] at h3
  refine ⟨⟨by simpa using h1, fun y hy => ?_, fun p hp => ?_, fun y hy e => ?_, fun y hy e => ?_⟩, ?_⟩
  · have := List.all_eq_true.mp h2 y hy
    simpa using this
  · unfold ownOf at hp
    obtain ⟨i, _, hi⟩ := List.mem_filterMap.mp hp
    cases q : X.N[i]? with
    | none => rw [q] at hi; cases hi
    | some x => rw [q] at hi; cases hi; exact q
  · have := List.all_eq_true.mp h3 y hy
    rw [e] at this
    simpa using this
  · have := List.all_eq_true.mp h4 y hy
    rcases Bool.or_eq_true_iff.mp this with z | z
    · rcases e with e | e <;> rw [e] at z <;> simp at z
    · rcases Bool.or_eq_true_iff.mp z with z | z
      · obtain ⟨p, hp, e2⟩ := List.any_eq_true.mp z
        exact .inl (List.mem_map.mpr ⟨p, hp, eq_of_beq e2⟩)
      · exact .inr (by simpa using z)
  · exact own_map h5
theorem plain_fold {iter : Expr} {env : PySem.Env} (h : (match iter with
    | .Set .. => false
    | _ => true) = true) : ∀ x, foldedSetIterable iter env x = pure x := by
  intro x
  cases iter <;> first | rfl | cases h
theorem chkI_fold {it : E} {tg p : Expr} {env : PySem.Env} (h : chkI Γ it tg p = true) : ∀ x, foldedSetIterable p env x = pure x := by
  intro x
  cases p with
  | Set =>
    cases it <;> simp [chkI] at h
  | _ => rfl
theorem post_ok {K : PySem.W.Frag} {β γ α : Type} {rp : Hp → List Addr → γ → β → Prop} {Q : γ → Hp → Prop} {ρ : List Addr} {H : Hp} {r : R α} {g : α → Store → R β} (h : Post K fa rp ρ H Q (r.bind g)) : ∃ a S, r = .ok a S ∧ Post K fa rp ρ H Q (g a S) := by
  cases r with
  | ok a S => exact ⟨a, S, rfl, h⟩
  | exc => exact h.elim
  | stuck => exact h.elim
theorem wipe_cons (σ : L2.St) (w : Nat) (ws : List Nat) : L2.wipe σ (w :: ws) = (L2.wipe σ ws).set w none := rfl
theorem wipe_in (σ : L2.St) : ∀ {vs : List Nat} {u : Nat}, u ∈ vs → (L2.wipe σ vs).set u none = L2.wipe σ vs
  | [], _, h => by cases h
  | w :: ws, u, h => by
    rw [wipe_cons]
    by_cases e : u = w
    · subst e
      rw [List.set_set]
    · have hm : u ∈ ws := by
        rcases List.mem_cons.mp h with z | z
        · exact absurd z e
        · exact z
      rw [List.set_comm _ _ (Ne.symm e), wipe_in σ hm]
theorem wipe_twice (vs : List Nat) : ∀ us : List Nat, (∀ v ∈ us, v ∈ vs) → ∀ σ : L2.St, L2.wipe (L2.wipe σ vs) us = L2.wipe σ vs
  | [], _, _ => rfl
  | u :: us, h, σ => by
    rw [wipe_cons, wipe_twice vs us (fun v hv => h v (List.mem_cons_of_mem _ hv)) σ]
    exact wipe_in σ (h u List.mem_cons_self)
theorem compGo_stays {K : PySem.W.Frag} {w : Row} {k : Nat} {bnd : D → Option MP.Env} {ifs : MP.Env → Store → R Bool} {elt : MP.Env → Store → R D} {ds : List D} {S : Store} {rp : Hp → List Addr → V → D → Prop} {Q : VK} {ρ : List Addr} {H : Hp} {g : List D → Store → R D}
    (h : Post K fa rp ρ H Q ((compGo w k bnd ifs elt ds S).bind g)) : w.stays S = true := by
  cases c : w.stays S with
  | true => rfl
  | false =>
    cases ds with
    | nil => simp only [compGo, c] at h; exact h.elim
    | cons d ds => simp only [compGo, c] at h; exact h.elim
def gB (X : Cx) (scope : Scope) (tg : Expr) : TG := fun v σ H Q => ∀ s0 H0 C cl fp, WG (X.blk s0 H0 scope (compEnvC scope cl C X.env) fp) tg v σ H Q
def sB (X : Cx) (scope : Scope) (cs : List Expr) : TT := fun σ H Q => ∀ s0 H0 C cl fp, WTs (X.blk s0 H0 scope (compEnvC scope cl C X.env) fp) cs σ H Q
def eB (X : Cx) (scope : Scope) (x : Expr) : TE := fun σ H Q => ∀ s0 H0 C cl fp, WE (X.blk s0 H0 scope (compEnvC scope cl C X.env) fp) x σ H Q
theorem comp_core {m : Bool} {elt : E} {t : Tg} {it : E} {ifs : List E} {own : List Nat} (hs : Has X Γ fa call) (hit : ∀ tg p, chkI Γ it tg p = true → SI X fa tg p (evI call it))
    (hifs : ∀ X' Γ' cs, Has X' Γ' fa call → chkTst Γ' ifs cs = true → STs X' fa cs (evTs call ifs)) (helt : ∀ X' Γ' p, Has X' Γ' fa call → chkE Γ' elt p = true → SB X' fa p (evE call elt)) {x tg iter : Expr} {cs : List Expr} {scope : Scope}
    (h : (blkB Γ scope own && (t.sub own && (chkT (Γ.blk scope) t tg && (chkI Γ it tg iter && (chkTst (Γ.blk scope) ifs cs && chkE (Γ.blk scope) elt x))))) = true) :
    ∃ (own' : List (Str × Nat)) (wi : TI), PI X tg iter wi ∧ BlkOk X.N X.env.scope scope own' ∧ own'.map (·.2) = own ∧ (∀ y, foldedSetIterable iter X.env y = pure y) ∧
      ∀ (σ : L2.St) (H : Hp) (ρ : List Addr) (env : MP.Env) (S : Store) (Q : VK), Rel X.K fa ρ S H → EnvR X.K fa H ρ σ env → Post X.K fa (rD X.K fa) ρ H Q (evE call (.comp m elt t it ifs own) env S) →
        tLc wi (gB X scope tg) (sB X scope cs) (eB X scope x) own σ H (fun v H => TrK X.K H → Q v H) := by
    obtain ⟨h1, h2⟩ := and_tt h
    obtain ⟨h2, h3⟩ := and_tt h2
    obtain ⟨h3, h4⟩ := and_tt h3
    obtain ⟨h4, h5⟩ := and_tt h4
    obtain ⟨h5, h6⟩ := and_tt h5
    obtain ⟨ok, om⟩ := blk_of hs h1
    obtain ⟨wi, w1, w2⟩ := (hit tg iter h4).bind
    refine ⟨_, wi, w1, ok, om, chkI_fold h4, fun σ H ρ env S Q rel ev hq => ?_⟩
    simp only [evE] at hq
    refine w2 σ H ρ env S rel ev hq fun w S1 ρ1 H1 J e1 r1 ev1 fd hq1 => ?_
    intro Dn hD
    obtain ⟨G, g1, g2, g3, g4, g5, g6⟩ := fd.ex
    have hl1 := r1.len
    refine lc_it (J := J) (n := w.items.length) (G := G) (Y := J.yld) (g := gB X scope tg) (tt := sB X scope cs) (te := eB X scope x) (vs := own) (σ := σ) (Qd := fun H => TrK X.K H → Q (.ref Dn) H) ⟨g1, g2, fun _ _ _ _ _ _ y => y⟩
      (fun i H => G H ∧ H Dn ≠ none ∧ (X.K.lookup Dn = none → ∃ ρ S, Ext ρ1 H1 ρ H ∧ Rel X.K fa ρ S H ∧ ρ[S1.length]? = some Dn ∧
        Post X.K fa (rD X.K fa) ρ1 H1 Q ((compGo w S1.length (fun d => bindT t d (wipeE env own)) (fun env S => evTs call ifs env S) (fun env S => evE call elt env S) (w.items.drop i) S).bind fun acc S' => compEnd m S1 acc S')))
      ⟨g4 H1 Dn _ hD g3, by rw [upd_same]; exact Option.some_ne_none _, fun hK => ⟨ρ1 ++ [Dn], S1 ++ [Cell.lst []], Ext.newCell _ hD, Rel.newCell (c := .lst []) r1 hD hK ⟨[], upd_same, .nil⟩, by rw [← hl1, List.getElem?_append_right (Nat.le_refl _)]; simp, hq1⟩⟩ (fun i H _ p => p.1) (fun i xv H2 H3 hi ⟨pG, pD, pk⟩ y => ?_) (fun H2 ⟨pG, pD, pk⟩ => ?_)
    · -- a turn
      intro s0 H0 C cl fp
      refine wg_tr0 fun tr => ?_
      have hK : X.K.lookup Dn = none := tr Dn (fd.keeps i H2 xv H3 Dn y pD)
      obtain ⟨ρ2, S2, ex2, r2, d2, q2⟩ := pk hK
      have st := compGo_stays q2
      obtain ⟨d, i1, ex3, r3, px⟩ := g6 i ρ2 S2 H2 xv H3 hi ex2 r2 st y
      have hdrop : w.items.drop i = d :: w.items.drop (i + 1) := by
        obtain ⟨k1, k2⟩ := List.getElem?_eq_some_iff.mp i1
        rw [List.drop_eq_getElem_cons k1, k2]
      rw [hdrop] at q2
      simp only [compGo, st] at q2
      cases hb : bindT t d (wipeE env own) with
      | none => rw [hb] at q2; exact q2.elim
      | some env' =>
      rw [hb] at q2
      rw [bind_assoc] at q2
      obtain ⟨b, S3, et, q3⟩ := post_ok q2
      have hB := hs.blk scope s0 H0 C cl fp
      have ex13 := ex2.trans ex3
      have ev3 : EnvR X.K fa H3 ρ2 (L2.wipe σ own) (wipeE env own) := (ev1.ext ex13 r3.clear).wipe own
      refine sg_ok hB h3 _ H3 ρ2 _ S2 xv d env' _ r3 ev3 px hb fun σ2 evb wb => ⟨?_, ?_⟩
      · rw [wb own h2]
        exact wipe_twice own own (fun _ hv => hv) σ
      intro s0' H0' C' cl' fp'
      have hB2 := hs.blk scope s0' H0' C' cl' fp'
      refine hifs _ _ cs hB2 h5 σ2 H3 ρ2 env' S2 _ r3 evb ?_
      rw [et]
      intro ρ4 H4 b' ex4 r4 hbb
      subst hbb
      have d4 : ρ4[S1.length]? = some Dn := ex4.get d2
      have l4 : H4 Dn ≠ none := by
        have hn := (List.getElem?_eq_some_iff.mp d4).1
        have hl := r4.len
        exact (r4.cell S1.length _ Dn (List.getElem?_eq_getElem (by omega)) d4).live
      have ex14 := ex13.trans ex4
      cases b' with
      | false =>
        exact ⟨g5 ρ4 S3 H4 ex14 r4 (compGo_stays q3), l4, fun _ => ⟨ρ4, S3, ex14, r4, d4, q3⟩⟩
      | true =>
        simp only [if_true]
        intro s0'' H0'' C'' cl'' fp''
        have hB3 := hs.blk scope s0'' H0'' C'' cl'' fp''
        simp only at q3
        rw [bind_assoc] at q3
        obtain ⟨yv, S5, ee, q5⟩ := post_ok q3
        refine (helt _ _ x hB3 h6).1 σ2 H4 ρ4 env' S3 _ r4 (evb.ext ex4 r4.clear) ?_
        rw [ee]
        intro ρ5 H5 v ex5 r5 p5
        have d5 : ρ5[S1.length]? = some Dn := ex5.get d4
        cases hc : S5[S1.length]? with
        | none => rw [hc] at q5; exact q5.elim
        | some c =>
        cases c with
        | dct => rw [hc] at q5; exact q5.elim
        | lst acc =>
        rw [hc] at q5
        simp only at q5
        cases hm : decide (acc.length < most) with
        | false => rw [hm] at q5; exact q5.elim
        | true =>
        rw [hm] at q5
        simp only at q5
        obtain ⟨a', c1, accV, c2, c3⟩ := r5.at hc
        rw [d5] at c1; cases c1
        have pm : Dn ∈ ρ5 := List.mem_of_getElem? d5
        have es := Ext.set (H := H5) (o := .lst (accV ++ [v])) pm
        have r6 : Rel X.K fa ρ5 (S5.set S1.length (.lst (acc ++ [yv]))) (upd H5 Dn (.lst (accV ++ [v]))) := r5.set d5 ⟨_, upd_same, (c3.append (.cons p5 .nil)).ext es r5.clear⟩
        have ex16 := (ex14.trans ex5).trans es
        refine ⟨accV, c2, ?_, g5 ρ5 _ _ ex16 r6 (compGo_stays q5), by rw [upd_same]; exact Option.some_ne_none _, fun _ => ⟨ρ5, _, ex16, r6, d5, q5⟩⟩
        rw [c3.len]
        exact Nat.lt_of_lt_of_le (bdec hm) most_line
    · -- the end
      intro tr
      have hK : X.K.lookup Dn = none := tr Dn pD
      obtain ⟨ρ2, S2, ex2, r2, d2, q2⟩ := pk hK
      have st := compGo_stays q2
      rw [List.drop_length] at q2
      simp only [compGo, st] at q2
      cases hc : S2[S1.length]? with
      | none => rw [hc] at q2; exact q2.elim
      | some c =>
      cases c with
      | dct => rw [hc] at q2; exact q2.elim
      | lst acc =>
      rw [hc] at q2
      simp only [R.bind_ok] at q2
      unfold compEnd at q2
      split at q2
      · exact q2 ρ2 H2 _ ex2 r2 (.ref d2)
      · rename_i cm
        split at q2
        · rename_i cu
          obtain ⟨u1, u2⟩ := and_tt cu
          obtain ⟨l, rfl, ex2'⟩ := ex2.split
          have kept : Kept S1 S2 := @of_decide_eq_true _ (Classical.propDecidable _) u2
          have r3 := Rel.less r1 r2 kept
          obtain ⟨a', c1, accV, c2, c3⟩ := r2.at hc
          rw [d2] at c1; cases c1
          have u1' : undAll ρ1.length acc = true := by rw [hl1]; exact u1
          refine q2 ρ1 H2 _ ex2'.less r3 (.lst c2 (fun hm => ?_) (RpAll.less u1' c3))
          obtain ⟨j, hj, ej⟩ := List.getElem_of_mem hm
          obtain ⟨k1, k2⟩ := List.getElem?_eq_some_iff.mp d2
          have hj' : j < (ρ1 ++ l).length := by rw [List.length_append]; omega
          have e3 : (ρ1 ++ l)[j] = (ρ1 ++ l)[S1.length] := by
            rw [k2, List.getElem_append_left hj]
            exact ej
          have := (List.getElem_inj r2.nd).mp e3
          omega
        · exact q2.elim
theorem gB_ok {scope : Scope} {tg : Expr} (s0 : Shared) (H0 : Hp) (C : Addr) (cl : List (Str × Addr)) (fp : List Addr) : PG (X.blk s0 H0 scope (compEnvC scope cl C X.env) fp) tg (gB X scope tg) := ⟨fun pins s _ _ _ u _ I r q => q s0 H0 C cl fp pins s u I r⟩
theorem sB_ok {scope : Scope} {cs : List Expr} (s0 : Shared) (H0 : Hp) (C : Addr) (cl : List (Str × Addr)) (fp : List Addr) : PTs (X.blk s0 H0 scope (compEnvC scope cl C X.env) fp) cs (sB X scope cs) := ⟨fun pins s _ _ _ I q => q s0 H0 C cl fp pins s I⟩
theorem eB_ok {scope : Scope} {x : Expr} (s0 : Shared) (H0 : Hp) (C : Addr) (cl : List (Str × Addr)) (fp : List Addr) : PE (X.blk s0 H0 scope (compEnvC scope cl C X.env) fp) x (eB X scope x) := ⟨fun pins s _ _ _ I q => q s0 H0 C cl fp pins s I⟩
theorem sb_comp {m : Bool} {elt : E} {t : Tg} {it : E} {ifs : List E} {own : List Nat} {p : Expr} (hs : Has X Γ fa call) (hit : ∀ tg p, chkI Γ it tg p = true → SI X fa tg p (evI call it))
    (hifs : ∀ X' Γ' cs, Has X' Γ' fa call → chkTst Γ' ifs cs = true → STs X' fa cs (evTs call ifs)) (helt : ∀ X' Γ' p, Has X' Γ' fa call → chkE Γ' elt p = true → SB X' fa p (evE call elt)) (h : chkE Γ (.comp m elt t it ifs own) p = true) : SB X fa p (evE call (.comp m elt t it ifs own)) := by
  simp only [chkE] at h
  split at h
  · obtain ⟨own', wi, w1, ok, om, hf, main⟩ := comp_core (m := m) hs hit hifs helt h
    refine sb_plain rfl fun σ H ρ env S Q rel ev hq => we_tr (w_of (pe_lc hs.ck.calm hs.nd w1 ok gB_ok sB_ok eB_ok hf) ?_)
    rw [om]
    exact main σ H ρ env S Q rel ev hq
  · cases h
end
end MP
end
section
set_option maxRecDepth 100000
/-! EvTa: the text does what the terms say: dict displays. -/
namespace MP
open PySem L2
section
variable {X : Cx} {Γ : Ga} {fa : Nat → Option Addr} {call : Nat → List D → Store → R D}
def flatV2 : List (V × V) → List V
  | [] => []
  | (k, v) :: r => k :: v :: flatV2 r
def rPs (K : PySem.W.Frag) (fa : Nat → Option Addr) : Hp → List Addr → List (V × V) → List D → Prop := fun H ρ ps ds => RpAll K fa H ρ (flatV2 ps) ds
/-- the pairs of a display -/
def SPs (X : Cx) (fa : Nat → Option Addr) (pos : Pos) (keys : List (Option Expr)) (vals : List Expr) (f : MP.Env → Store → R (List D)) : Prop := ∃ trs, PPs X pos keys vals trs ∧ (keys ≠ [] → ∃ k tv r, trs = (WE X k, tv) :: r) ∧
  ∀ (σ : L2.St) (H : Hp) (ρ : List Addr) (env : MP.Env) (S : Store) (Q : List (V × V) → Hp → Prop), Rel X.K fa ρ S H → EnvR X.K fa H ρ σ env → Post X.K fa (rPs X.K fa) ρ H Q (f env S) → tPairs trs σ H Q
theorem sps_nil {pos : Pos} : SPs X fa pos [] [] (evEs call []) := by
  refine ⟨[], pps_nil, fun h => absurd rfl h, fun σ H ρ env S Q rel ev hq => ?_⟩
  simp only [evEs] at hq
  exact hq ρ H [] (Ext.refl _ _) rel .nil
theorem sps_cons {pos : Pos} {k v : Expr} {ks : List (Option Expr)} {vs : List Expr} {e e' : E} {es : List E} (he : SB X fa k (evE call e)) (he' : SB X fa v (evE call e')) (hes : SPs X fa pos ks vs (evEs call es)) : SPs X fa pos (some k :: ks) (v :: vs) (evEs call (e :: e' :: es)) := by
  obtain ⟨trs, h1, _, h2⟩ := hes
  refine ⟨(WE X k, WE X v) :: trs, pps_cons pe_w pe_w h1, fun _ => ⟨k, _, trs, rfl⟩, fun σ H ρ env S Q rel ev hq => ?_⟩
  simp only [evEs] at hq
  refine he.1.bind rel ev hq fun d1 S1 ρ1 H1 v1 e1 r1 p1 ev1 hq1 => ?_
  rw [bind_assoc] at hq1
  refine he'.1.bind r1 ev1 hq1 fun d2 S2 ρ2 H2 v2 e2 r2 p2 ev2 hq2 => ?_
  rw [bind_assoc] at hq2
  refine h2 σ H2 ρ2 env S2 _ r2 ev2 ?_
  cases q : evEs call es env S2 with
  | exc => rw [q] at hq2; exact hq2
  | stuck => rw [q] at hq2; exact hq2
  | ok ds S3 =>
    rw [q] at hq2
    intro ρ3 H3 ps e3 r3 p3
    exact hq2 ρ3 H3 _ e3 r3 (.cons ((p1.ext e2 r2.clear).ext e3 r3.clear) (.cons (p2.ext e3 r3.clear) p3))
/-- the keys as the layer's -/
theorem keyed {K : PySem.W.Frag} {H : Hp} {ρ : List Addr} : ∀ {ps : List (V × V)} {ds : List D} {kvs : List (D × D)}, RpAll K fa H ρ (flatV2 ps) ds → pairUp ds = some kvs → keysOk kvs = true →
    ∃ kv : List (Key × V), ps = kv.map (fun q => (kV q.1, q.2)) ∧ RpKv K fa H ρ kv kvs ∧ kv.length = kvs.length ∧ (kv.map Prod.fst).Nodup ∧ ∀ k ∈ kv.map Prod.fst, ∃ p ∈ kvs, Rp K fa H ρ (kV k) p.1
  | [], ds, kvs, h, q, _ => by
    cases h
    cases q
    exact ⟨[], rfl, .nil, rfl, List.nodup_nil, fun k hk => nomatch hk⟩
  | (k, v) :: ps, ds, kvs, h, q, ok => by
    cases h with
    | @cons _ d1 _ ds1 a b =>
    cases b with
    | @cons _ d2 _ ds2 b c =>
    simp only [pairUp] at q
    cases q2 : pairUp ds2 with
    | none => rw [q2] at q; cases q
    | some r =>
    rw [q2] at q
    cases q
    obtain ⟨o1, o2'⟩ := and_tt (show (flatKey d1 && (r.all (fun p => !keySame d1 p.1) && keysOk r)) = true from ok)
    obtain ⟨o2, o3⟩ := and_tt o2'
    obtain ⟨kv, e1, e2, e3, e4, e5⟩ := keyed c q2 o3
    have hk : ∃ key : Key, k = kV key ∧ ∀ key' d', Rp K fa H ρ (kV key') d' → keySame d1 d' = false → key ≠ key' := by
      cases d1 <;> try (cases o1; done)
      · rename_i i
        obtain rfl := rp_int a
        refine ⟨.inl i, rfl, fun key' d' r ks e => ?_⟩
        subst e
        cases r
        simp [keySame] at ks
      · rename_i x
        obtain ⟨rfl, _⟩ := rp_str a
        refine ⟨.inr ⟨x.toArray⟩, rfl, fun key' d' r ks e => ?_⟩
        subst e
        cases d' <;> try (cases r; done)
        rename_i y
        obtain ⟨ey, _⟩ := rp_str r
        have ey2 : x = y := by
          have := congrArg Str.cps (V.str.inj ey)
          simpa using this
        subst ey2
        simp [keySame] at ks
    obtain ⟨key, rfl, ap⟩ := hk
    refine ⟨(key, v) :: kv, by rw [e1]; rfl, .cons a b e2, by simp [e3], List.nodup_cons.mpr ⟨fun hm => ?_, e4⟩, fun k' hk' => ?_⟩
    · obtain ⟨p, hp, rp⟩ := e5 key hm
      have := List.all_eq_true.mp o2 p hp
      exact ap key p.1 rp (by simpa using this) rfl
    · rcases List.mem_cons.mp hk' with z | z
      · have z : k' = key := z
        subst z
        exact ⟨_, List.mem_cons_self, a⟩
      · obtain ⟨p, hp, rp⟩ := e5 k' z
        exact ⟨p, List.mem_cons_of_mem _ hp, rp⟩
theorem putK_new {kvs : List (Key × V)} {k : Key} {v : V} (h : k ∉ kvs.map Prod.fst) : putK kvs k v = kvs ++ [(k, v)] := by
  unfold putK
  rw [if_neg]
  intro hh
  obtain ⟨q, hq, e⟩ := List.any_eq_true.mp hh
  exact h (List.mem_map.mpr ⟨q, hq, of_decide_eq_true e⟩)
theorem mergeK_new : ∀ {more kvs : List (Key × V)}, ((kvs ++ more).map Prod.fst).Nodup → mergeK kvs more = kvs ++ more
  | [], kvs, _ => by simp [mergeK]
  | (k, v) :: more, kvs, h => by
    have h0 : k ∉ kvs.map Prod.fst := by
      rw [List.map_append, List.map_cons] at h
      have := (List.nodup_append.mp h).2.2
      exact fun hm => this k hm k List.mem_cons_self rfl
    show mergeK (putK kvs k v) more = _
    rw [putK_new h0, mergeK_new (by simpa using h)]
    simp
theorem tp_tr {k : Expr} {tv : TE} {r : List (TE × TE)} {σ : L2.St} {H : Hp} {Q : List (V × V) → Hp → Prop} (h : TrK X.K H → tPairs ((WE X k, tv) :: r) σ H Q) : tPairs ((WE X k, tv) :: r) σ H Q := we_tr0 (e := k) h
theorem sb_dict {m : Bool} {es : List E} {p : Expr} (hs : Has X Γ fa call) (hes : ∀ pos keys vals, chkEd Γ es keys vals = true → SPs X fa pos keys vals (evEs call es) ∧ keys.all (·.isSome) = true ∧ keys.length = vals.length) (h : chkE Γ (.dict m es) p = true) : SB X fa p (evE call (.dict m es)) := by
  simp only [chkE] at h
  split at h
  · rename_i keys vals pos
    obtain ⟨h1, h2'⟩ := and_tt h
    obtain ⟨h2, h3⟩ := and_tt h2'
    obtain ⟨⟨trs, t1, t2, t3⟩, a1, a2⟩ := hes pos keys vals h3
    have hne : keys ≠ [] := fun e => by rw [e] at h1; cases h1
    obtain ⟨k0, tv0, tr, et⟩ := t2 hne
    refine sb_plain rfl fun σ H ρ env S Q rel ev hq => w_of (pe_disp t1 a1 a2 hne (bdec h2)) ?_
    simp only [evE] at hq
    intro Dn hD
    subst et
    refine tp_tr fun tr0 => ?_
    have hK : X.K.lookup Dn = none := tr0 Dn (by rw [upd_same]; exact Option.some_ne_none _)
    have hl := rel.len
    have ex1 := Ext.newCell (ρ := ρ) (.dK []) hD
    have r1 : Rel X.K fa (ρ ++ [Dn]) (S ++ [Cell.dct []]) (upd H Dn (.dK [])) := Rel.newCell (c := .dct []) rel hD hK ⟨[], upd_same, .nil⟩
    obtain ⟨ds, S2, e1, q1⟩ := post_ok hq
    refine t3 σ _ (ρ ++ [Dn]) env (S ++ [Cell.dct []]) _ r1 (ev.ext ex1 r1.clear) ?_
    rw [e1]
    intro ρ2 H2 ps ex2 r2 p2
    have d2 : ρ2[S.length]? = some Dn := ex2.get (by rw [← hl, List.getElem?_append_right (Nat.le_refl _)]; simp)
    cases hp : pairUp ds with
    | none => rw [hp] at q1; exact q1.elim
    | some kvs =>
    rw [hp] at q1
    cases hc : S2[S.length]? with
    | none => rw [hc] at q1; exact q1.elim
    | some c =>
    rw [hc] at q1
    cases c with
    | lst => exact q1.elim
    | dct es0 =>
    cases es0 with
    | cons => exact q1.elim
    | nil =>
    simp only at q1
    cases hb : keysOk kvs && decide (kvs.length ≤ 15) with
    | false => rw [hb] at q1; exact q1.elim
    | true =>
    rw [hb] at q1
    simp only at q1
    obtain ⟨b1, b2⟩ := and_tt hb
    obtain ⟨kv, k1, k2, k3, k4, _⟩ := keyed p2 hp b1
    obtain ⟨a', c1, ks0, c2, c3⟩ := r2.at hc
    rw [d2] at c1; cases c1
    cases c3
    refine ⟨c2, kv, k1, by rw [k3]; exact bdec b2, ?_⟩
    rw [mergeK_new (kvs := []) (by simpa using k4), List.nil_append]
    have pm : Dn ∈ ρ2 := List.mem_of_getElem? d2
    have es := Ext.set (H := H2) (o := .dK kv) pm
    have r3 : Rel X.K fa ρ2 (S2.set S.length (.dct kvs)) (upd H2 Dn (.dK kv)) := r2.set d2 ⟨_, upd_same, k2.ext es r2.clear⟩
    have ex3 := (ex1.trans ex2).trans es
    have hset : (S2.set S.length (.dct kvs))[S.length]? = some (.dct kvs) := by
      have := (List.getElem?_eq_some_iff.mp hc).1
      rw [List.getElem?_set_self this]
    unfold dictEnd at q1
    split at q1
    · exact q1 ρ2 _ _ ex3 r3 (.ref d2)
    · split at q1
      · rename_i cu
        obtain ⟨u1, u2⟩ := and_tt cu
        obtain ⟨l, rfl, ex3'⟩ := ex3.split
        have kept : Kept S _ := @of_decide_eq_true _ (Classical.propDecidable _) u2
        have r4 := Rel.less rel r3 kept
        have u1' : undKv ρ.length kvs = true := by rw [hl]; exact u1
        refine q1 ρ _ _ ex3'.less r4 (.dct upd_same (fun hm => ?_) (RpKv.less u1' (k2.ext es r2.clear)))
        obtain ⟨j, hj, ej⟩ := List.getElem_of_mem hm
        obtain ⟨z1, z2⟩ := List.getElem?_eq_some_iff.mp d2
        have hj' : j < (ρ ++ l).length := by rw [List.length_append]; omega
        have e3 : (ρ ++ l)[j] = (ρ ++ l)[S.length] := by
          rw [z2, List.getElem_append_left hj]
          exact ej
        have := (List.getElem_inj r2.nd).mp e3
        omega
      · exact q1.elim
  · cases h
end
end MP
end
section
set_option maxRecDepth 100000
/-! EvU: the text does what the terms say: all expressions. -/
namespace MP
open PySem L2
section
variable {fa : Nat → Option Addr} {call : Nat → List D → Store → R D}
mutual
theorem snd : ∀ (e : E) {X : Cx} {Γ : Ga} {p : Expr}, Has X Γ fa call → chkE Γ e p = true → SB X fa p (evE call e)
  | .var i, _, _, _, hs, h => sb_var hs h
  | .lit d, _, _, _, hs, h => sb_lit h
  | .glob x d, _, _, _, hs, h => sb_glob hs h
  | .bin m op a b, _, _, _, hs, h => sb_bin (fun _ h => snd a hs h) (fun _ h => snd b hs h) h
  | .neg a, _, _, _, hs, h => sb_neg (fun _ h => snd a hs h) h
  | .not a, _, _, _, hs, h => sb_not (fun _ h => snd a hs h) h
  | .and a b, _, _, _, hs, h => sb_and (fun _ h => snd a hs h) (fun _ h => snd b hs h) h
  | .or a b, _, _, _, hs, h => sb_or (fun _ h => snd a hs h) (fun _ h => snd b hs h) h
  | .cmp op a b, _, _, _, hs, h => sb_cmp hs (fun _ h => snd a hs h) (fun _ h => snd b hs h) h
  | .chain op op' a b c, _, _, _, hs, h => sb_chain hs (fun _ h => snd a hs h) (fun _ h => snd b hs h) (fun _ h => snd c hs h) h
  | .ite c a b, _, _, _, hs, h => sb_ite (fun _ h => snd c hs h) (fun _ h => snd a hs h) (fun _ h => snd b hs h) h
  | .tup es, _, _, _, hs, h => sb_tup (fun _ h => snds es hs h) h
  | .lst m es, _, _, _, hs, h => sb_lst (fun _ h => snds es hs h) h
  | .dict m es, _, _, _, hs, h => sb_dict hs (fun _ _ _ h => snda2 es hs h) h
  | .dict0 m, _, _, _, hs, h => sb_dict0 h
  | .idx a i, _, _, _, hs, h => sb_idx hs (fun _ h => snd a hs h) (fun _ h => snd i hs h) h
  | .slc m a lo hi, _, _, _, hs, h => sb_slc (fun _ h => snd a hs h) (fun _ h => sndo lo hs h) (fun _ h => sndo hi hs h) h
  | .rev m a, _, _, _, hs, h => sb_rev (fun _ h => snd a hs h) h
  | .fstr es, _, _, _, hs, h => sb_fstr (fun _ h => sndf es hs h) h
  | .call f es, _, _, _, hs, h => sb_call hs (fun _ h => snds es hs h) h
  | .callk f es kes ks how dv, _, _, _, hs, h => sb_callk hs (fun _ h => snds es hs h) (fun _ h => sndk kes hs h) h
  | .callv _ _, _, _, _, hs, h => by simp [chkE] at h
  | .blt m f es, _, _, _, hs, h => sb_blt hs (fun _ h => snds es hs h) h
  | .isi a t, _, _, _, hs, h => sb_isi hs (fun _ h => snd a hs h) h
  | .meth f o es, _, _, _, hs, h => sb_meth hs (fun _ h => snd o hs h) (fun _ h => snds es hs h) h
  | .comp m elt t it ifs own, _, _, _, hs, h => sb_comp hs (fun _ _ h => sndi it hs h) (fun _ _ _ hs' h => sts_ok (fun e he _ h => snda ifs e he hs' h) h) (fun _ _ _ hs' h => snd elt hs' h) h
  | .seq _, _, _, _, hs, h => by simp [chkE] at h
  | .range1 _, _, _, _, hs, h => by simp [chkE] at h
  | .range2 _ _, _, _, _, hs, h => by simp [chkE] at h
  | .enum _, _, _, _, hs, h => by simp [chkE] at h
  | .zip _ _, _, _, _, hs, h => by simp [chkE] at h
theorem snds : ∀ (es : List E) {X : Cx} {Γ : Ga} {ps : List Expr}, Has X Γ fa call → chkEs Γ es ps = true → SA X fa ps (evEs call es)
  | [], _, _, _, hs, h => sa_nil h
  | e :: es, _, _, _, hs, h => sa_cons (fun _ h => snd e hs h) (fun _ h => snds es hs h) h
theorem sndk : ∀ (es : List E) {X : Cx} {Γ : Ga} {kws : List Keyword}, Has X Γ fa call → chkEs Γ es (kws.map (·.value)) = true → SK X fa kws (evEs call es)
  | [], _, _, _, hs, h => sk_nil h
  | e :: es, _, _, _, hs, h => sk_cons (fun _ h => snd e hs h) (fun _ h => sndk es hs h) h
theorem sndf : ∀ (es : List E) {X : Cx} {Γ : Ga} {ps : List Expr}, Has X Γ fa call → chkF Γ es ps = true → SF X fa ps (evF call es)
  | [], _, _, _, hs, h => sf_nil h
  | e :: es, _, _, _, hs, h => sf_cons (fun _ h => snd e hs h) (fun _ h => sndf es hs h) h
theorem sndo : ∀ (o : Option E) {X : Cx} {Γ : Ga} {p : Option Expr}, Has X Γ fa call → chkO Γ o p = true → SO X fa p (evO call o)
  | none, _, _, _, hs, h => so_ok (fun _ e => nomatch e) h
  | some e, _, _, _, hs, h => so_ok (fun e' q _ h => by cases q; exact snd e hs h) h
theorem snda : ∀ (es : List E), ∀ e ∈ es, ∀ {X : Cx} {Γ : Ga} {p : Expr}, Has X Γ fa call → chkE Γ e p = true → SB X fa p (evE call e)
  | [] => fun _ he => nomatch he
  | e :: es => List.forall_mem_cons.mpr ⟨fun hs h => snd e hs h, snda es⟩
theorem snda2 : ∀ (es : List E) {X : Cx} {Γ : Ga} {pos : Pos} {keys : List (Option Expr)} {vals : List Expr}, Has X Γ fa call → chkEd Γ es keys vals = true → SPs X fa pos keys vals (evEs call es) ∧ keys.all (·.isSome) = true ∧ keys.length = vals.length
  | [], _, _, _, keys, vals, _, h => by
    obtain ⟨h1, h2⟩ := and_tt (show (keys.isEmpty && vals.isEmpty) = true from by simpa only [chkEd] using h)
    rw [List.isEmpty_iff.mp h1, List.isEmpty_iff.mp h2]
    exact ⟨sps_nil, rfl, rfl⟩
  | [_], _, _, _, _, _, _, h => by simp [chkEd] at h
  | e :: e' :: es, _, _, _, [], vals, _, h => by simp [chkEd] at h
  | e :: e' :: es, _, _, _, none :: ks, vals, _, h => by simp [chkEd] at h
  | e :: e' :: es, _, _, _, some k :: ks, [], _, h => by simp [chkEd] at h
  | e :: e' :: es, _, _, _, some k :: ks, v :: vs, hs, h =>
    have h' := and_tt (show (chkE _ e k && (chkE _ e' v && chkEd _ es ks vs)) = true from by simpa only [chkEd] using h)
    have h'' := and_tt h'.2
    have r := snda2 es hs h''.2
    ⟨sps_cons (snd e hs h'.1) (snd e' hs h''.1) r.1, by rw [List.all_cons, r.2.1]; rfl, congrArg Nat.succ r.2.2⟩
theorem sndi : ∀ (e : E) {X : Cx} {Γ : Ga} {tg p : Expr}, Has X Γ fa call → chkI Γ e tg p = true → SI X fa tg p (evI call e)
  | .seq a, _, _, _, _, hs, h => si_seq (fun _ h => snd a hs h) h
  | .range1 a, _, _, _, _, hs, h => si_range1 hs (fun _ h => snd a hs h) h
  | .range2 a b, _, _, _, _, hs, h => si_range2 hs (fun _ h => snd a hs h) (fun _ h => snd b hs h) h
  | .enum a, _, _, _, _, hs, h => si_enum hs (fun _ h => snd a hs h) h
  | .zip a b, _, _, _, _, hs, h => si_zip hs (fun _ h => snd a hs h) (fun _ h => snd b hs h) h
  | .var i, _, _, _, _, hs, h => by simp [chkI] at h
  | .lit d, _, _, _, _, hs, h => by simp [chkI] at h
  | .glob x d, _, _, _, _, hs, h => by simp [chkI] at h
  | .bin m op a b, _, _, _, _, hs, h => by simp [chkI] at h
  | .neg a, _, _, _, _, hs, h => by simp [chkI] at h
  | .not a, _, _, _, _, hs, h => by simp [chkI] at h
  | .and a b, _, _, _, _, hs, h => by simp [chkI] at h
  | .or a b, _, _, _, _, hs, h => by simp [chkI] at h
  | .cmp op a b, _, _, _, _, hs, h => by simp [chkI] at h
  | .chain op op' a b c, _, _, _, _, hs, h => by simp [chkI] at h
  | .ite c a b, _, _, _, _, hs, h => by simp [chkI] at h
  | .tup es, _, _, _, _, hs, h => by simp [chkI] at h
  | .lst m es, _, _, _, _, hs, h => by simp [chkI] at h
  | .dict m es, _, _, _, _, hs, h => by simp [chkI] at h
  | .idx a i, _, _, _, _, hs, h => by simp [chkI] at h
  | .dict0 _, _, _, _, _, hs, h => by simp [chkI] at h
  | .slc m a lo hi, _, _, _, _, hs, h => by simp [chkI] at h
  | .rev _ _, _, _, _, _, hs, h => by simp [chkI] at h
  | .fstr _, _, _, _, _, hs, h => by simp [chkI] at h
  | .call f es, _, _, _, _, hs, h => by simp [chkI] at h
  | .callk _ _ _ _ _ _, _, _, _, _, hs, h => by simp [chkI] at h
  | .callv _ _, _, _, _, _, hs, h => by simp [chkI] at h
  | .blt m f es, _, _, _, _, hs, h => by simp [chkI] at h
  | .isi a t, _, _, _, _, hs, h => by simp [chkI] at h
  | .meth f o es, _, _, _, _, hs, h => by simp [chkI] at h
  | .comp m elt t it ifs own, _, _, _, _, hs, h => by simp [chkI] at h
end
end
end MP
end
section
set_option maxRecDepth 100000
/-! EvV: statements: the check. -/
namespace MP
open PySem L2

def pairOf : Expr → Expr → Option (List Expr × List Expr)
  | .Tuple ts _ _, .Tuple vs _ _ => some (ts, vs)
  | .List ts _, .Tuple vs _ _ => some (ts, vs)
  | _, _ => none
def isStar : Expr → Bool
  | .Starred .. => true
  | _ => false
def lineOf (ts : List Expr) : Nat := (ts.head?.map (·.pos.line)).getD 0
def swNm (sc : Scope) (line : Nat) : Expr → Option Str
  | .Name id pos => if sc.names.lookup id == some .local && pos.line == line then some id else none
  | _ => none
def swNames (sc : Scope) (ts : List Expr) : List Str := ts.filterMap (swNm sc (lineOf ts))
/-- what stores are swapped (none: the model gives it up) -/
def swapP (sc : Scope) (tg v : Expr) : Option (Option (List Str)) := match pairOf tg v with
  | none => some none
  | some (ts, vs) => match !(ts.length == 2 || ts.length == 3) || vs.length != ts.length with
    | true => some none
    | false => match vs.any isStar with
      | true => some none
      | false => match (swNames sc ts).length != ts.length || (swNames sc ts).eraseDups.length != (swNames sc ts).length with
        | true => some none
        | false => match vs.all (foldedForSure 8) with
          | true => some none
          | false => match vs.all (constantsAlone 8) with
            | true => none
            | false => some (some (swNames sc ts))
theorem swapP_ok {sc : Scope} {tg v : Expr} {env : PySem.Env} {r : Option (List Str)} (hs : env.scope = sc) (hk : sc.kind = .function) (h : swapP sc tg v = some r) : swappedStores [tg] v env = pure r := by
  have hb : env.blockKind = .function := by unfold Env.blockKind; rw [hs, hk]; rfl
  subst hs
  have core : ∀ ts vs : List Expr, (match !(ts.length == 2 || ts.length == 3) || vs.length != ts.length with
      | true => some none
      | false => match vs.any isStar with
        | true => some none
        | false => match (swNames env.scope ts).length != ts.length || (swNames env.scope ts).eraseDups.length != (swNames env.scope ts).length with
          | true => some none
          | false => match vs.all (foldedForSure 8) with
            | true => some none
            | false => match vs.all (constantsAlone 8) with
              | true => none
              | false => some (some (swNames env.scope ts))) = some r → ∀ X : Sem (Option (List Str)), (X = (do
        if !(ts.length == 2 || ts.length == 3) || vs.length != ts.length || env.blockKind != .function then return none
        if vs.any isStar then return none
        if (swNames env.scope ts).length != ts.length || (swNames env.scope ts).eraseDups.length != (swNames env.scope ts).length then return none
        if vs.all (foldedForSure 8) then return none
        if vs.all (constantsAlone 8) then unsupported "assign.tuple-of-constant-expressions:order-of-the-stores"
        return some (swNames env.scope ts))) → X = pure r := fun ts vs h X hX => by
    subst hX
    rw [hb]
    cases c1 : (!(ts.length == 2 || ts.length == 3) || vs.length != ts.length) with
    | true =>
      rw [c1] at h
      cases h
      simp
    | false =>
    rw [c1] at h
    simp only at h
    cases c2 : vs.any isStar with
    | true => rw [c2] at h; cases h; simp
    | false =>
    rw [c2] at h
    simp only at h
    cases c3 : ((swNames env.scope ts).length != ts.length || (swNames env.scope ts).eraseDups.length != (swNames env.scope ts).length) with
    | true => rw [c3] at h; cases h; simp
    | false =>
    rw [c3] at h
    simp only at h
    cases c4 : vs.all (foldedForSure 8) with
    | true => rw [c4] at h; cases h; simp
    | false =>
    rw [c4] at h
    simp only at h
    cases c5 : vs.all (constantsAlone 8) with
    | true => rw [c5] at h; cases h
    | false =>
    rw [c5] at h
    cases h
    simp
  unfold swapP at h
  cases tg <;> cases v <;> first | (cases h; rfl) | exact core _ _ h _ rfl
/-- the new list is stored ahead of the block's end -/
def compSwap (sc : Scope) (tg v : Expr) : Bool := match v, tg with
  | .ListComp _ _ s p, .Name t pos => sc.names.lookup t == some .local && (pos.line == p.line && !(s.names.any fun (n, k) => n == t && (k == .local || k == .cell)))
  | .SetComp _ _ s p, .Name t pos => sc.names.lookup t == some .local && (pos.line == p.line && !(s.names.any fun (n, k) => n == t && (k == .local || k == .cell)))
  | .DictComp _ _ _ s p, .Name t pos => sc.names.lookup t == some .local && (pos.line == p.line && !(s.names.any fun (n, k) => n == t && (k == .local || k == .cell)))
  | _, _ => false
theorem compSwap_ok {sc : Scope} {tg v : Expr} {env : PySem.Env} {l : Nat} (hs : env.scope = sc) (hk : sc.kind = .function) : swapsWith v (some tg) l env = pure (compSwap sc tg v) := by
  have hb : env.blockKind = .function := by unfold Env.blockKind; rw [hs, hk]; rfl
  subst hs
  cases v <;> first
    | rfl
    | (cases tg <;> first
        | rfl
        | (unfold swapsWith compSwap
           simp only [hb, Expr.pos, Env.kindOf]
           simp [Bool.and_assoc]))
def isComp : Expr → Bool
  | .ListComp .. => true
  | .SetComp .. => true
  | .DictComp .. => true
  | _ => false
theorem nocomp_ok {v : Expr} {l : Nat} {env : PySem.Env} (h : isComp v = false) : swapsWith v none l env = pure false := by
  cases v <;> first | rfl | cases h
def isListComp : Expr → Bool
  | .ListComp .. => true
  | _ => false
/-- a local name -/
def Ga.own (Γ : Ga) (i : Nat) (x : Str) : Bool := Γ.loc i x && (Γ.sc.names.lookup x == some .local || (Γ.sc.names.lookup x == some .cell && Γ.fn x))
def chkStar (Γ : Ga) : List Nat → Nat → List Expr → Bool
  | [], k, ts => match ts with
    | [.Starred (.Name x _) _] => Γ.own k x
    | _ => false
  | i :: is, k, ts => match ts with
    | .Name x _ :: ts => Γ.own i x && chkStar Γ is k ts
    | _ => false
mutual
def chkC (Γ : Ga) : C → Stmt → Bool
  | .asg t e, st => match st with
    | .Assign [tg] v _ => Γ.sc.kind == .function && (swapP Γ.sc tg v == some none && ((!compSwap Γ.sc tg v || isListComp v) && (chkT Γ t tg && chkE Γ e v)))
    | _ => false
  | .par is es, st => match st with
    | .Assign [.Tuple ts k1 p1] (.Tuple vs k2 p2) _ => Γ.sc.kind == .function && (chkEs Γ es vs && (match is, ts, vs with
      | [i, j], [.Name x px, .Name y py], [a, b] => Γ.loc i x && (Γ.loc j y && (i != j && (Γ.sc.names.lookup x == some .local && (Γ.sc.names.lookup y == some .local && swapP Γ.sc (.Tuple [.Name x px, .Name y py] k1 p1) (.Tuple [a, b] k2 p2) == some (some [x, y])))))
      | [i, j, l], [.Name x px, .Name y py, .Name z pz], [a, b, c] => Γ.loc i x && (Γ.loc j y && (Γ.loc l z && (i != j && (i != l && (j != l && (Γ.sc.names.lookup x == some .local && (Γ.sc.names.lookup y == some .local && (Γ.sc.names.lookup z == some .local &&
          swapP Γ.sc (.Tuple [.Name x px, .Name y py, .Name z pz] k1 p1) (.Tuple [a, b, c] k2 p2) == some (some [x, y, z])))))))))
      | _, _, _ => false))
    | _ => false
  | .aug i op e, st => match st with
    | .AugAssign (.Name x _) o v _ => decide (o = opOf op) && (Γ.loc i x && ((Γ.sc.names.lookup x == some .local || (Γ.sc.names.lookup x == some .cell && Γ.fn x)) && chkE Γ e v))
    | _ => false
  | .seti o i e, st => match st with
    | .Assign [.Subscript x y _] v _ => noslice y && (chkE Γ o x && (chkE Γ i y && chkE Γ e v))
    | _ => false
  | .ife c a b, st => match st with
    | .If t xs ys _ => chkE Γ c t && (chkCs Γ a xs && chkCs Γ b ys)
    | _ => false
  | .for_ t it b, st => match st with
    | .For tg iter xs [] _ => chkT Γ t tg && (chkI Γ it tg iter && chkCs Γ b xs)
    | _ => false
  | .while_ c b, st => match st with
    | .While t xs [] _ => chkE Γ c t && chkCs Γ b xs
    | _ => false
  | .ret e, st => match st with
    | .Return (some v) _ => chkE Γ e v
    | _ => false
  | .retn, st => match st with
    | .Return none _ => true
    | _ => false
  | .ex e, st => match st with
    | .Expr v _ => !isComp v && chkE Γ e v
    | _ => false
  | .pass, st => match st with
    | .Pass _ => true
    | _ => false
  | .brk, st => match st with
    | .Break _ => true
    | _ => false
  | .cont, st => match st with
    | .Continue _ => true
    | _ => false
  | .star is k e, st => match st with
    | .Assign [.Tuple ts j p] v _ => Γ.sc.kind == .function && (swapP Γ.sc (.Tuple ts j p) v == some none && (!isComp v && (chkStar Γ is k ts && chkE Γ e v)))
    | _ => false
  | .stk, _ => true
def chkCs (Γ : Ga) : List C → List Stmt → Bool
  | [], sts => match sts with
    | [] => true
    | _ => false
  | c :: cs, sts => match sts with
    | st :: sts => chkC Γ c st && chkCs Γ cs sts
    | [] => false
end
end MP
end
section
set_option maxRecDepth 100000
/-! EvVa: a, .., *c = a tuple. -/
namespace MP
open PySem L2
section
variable {X : Cx} {pins : List (Addr × Obj)} {σ : L2.St} {H : Hp} {s : Shared}
theorem star_items {l : Addr} {its : List Value} {i : Nat} {E : Value → Shared → Prop} {Q : List Value → Shared → Prop} (hl : PyProof.Rows.IsTup s.heap l its.toArray) (hh : X.A.handled = none) (hi : i ≤ its.length) (hz : its.length ≤ sizeLine)
    (h : ∀ (h' : Heap) (tk : Nat), (∀ b o, s.heap.get? b = some o → h'.get? b = some o) → Q (its.take i ++ [.ref h'.objs.size]) { s with heap := h'.push { cls := .type "list", data := .seq (its.drop i).toArray }, toks := tk }) :
    wpAny (model X.prog X.w) X.A (unpackItems (.ref l) (i + 1) (some i)) Q E s := by
  have hlt : l ≠ s.heap.objs.size := by obtain ⟨o, ho, _⟩ := hl; exact Nat.ne_of_lt (Heap.lt_size ho)
  have hsz : its.toArray.size = its.length := by simp
  unfold unpackItems
  refine wpAny_bind ?_
  unfold notIterableAtAll
  refine wpAny_bind (wpAny_specialOf hl.typeIs PyProof.Rows.slot_tuple_iter.lookup ?_)
  refine wpAny_pure ?_
  simp only [Bool.false_eq_true, if_false]
  refine wpAny_bind (wpAny_holding (PyProof.Rows.iter_tuple hl ?_))
  refine wpAny_bind (wpAny_holding (PyProof.Rows.draw_tuple hlt i 0 _ _ ⟨_, Heap.get?_push_size _ rfl, rfl, rfl⟩ (hl.push _) (by omega) fun h₁ hit₁ hs₁ => ?_))
  have hl₁ : PyProof.Rows.IsTup h₁ l its.toArray := (hl.push _).extBut hs₁.extBut hlt
  rw [Nat.zero_add] at hit₁
  have hit₁' := hit₁
  obtain ⟨oi, hoi, _⟩ := hit₁'
  have hl₁' := hl₁
  obtain ⟨ol, hol, _⟩ := hl₁'
  rw [List.drop_zero]
  have hfl : (its.toArray.toList.take i).length = i := by rw [List.length_take, Array.length_toList]; omega
  rw [if_neg (show ¬ ((its.toArray.toList.take i).length < i) by rw [hfl]; omega)]
  refine wpAny_bind (wpAny_holding (PySem.W.kun_collect (s := { s with heap := h₁ }) (T := "tuple_iterator") (.inr (.inr (.inr rfl))) (PySem.Walks.tuple (A := X.A.in1) hh s.heap.objs.size l hlt its.toArray) (fun j u st => st.1.typeIs) (k := i) (by omega) ⟨hit₁, hl₁⟩ (Heap.lt_size hoi) (Heap.lt_size hol) (fun h₂ tk hk => ?_) (by omega)))
  have hrl : (its.toArray.toList.drop i).length = its.length - i := by simp
  have hmid : (its.toArray.toList.drop i).length - (i + 1 - 1 - i) = its.length - i := by rw [hrl]; omega
  show wpAny _ _ (if (its.toArray.toList.drop i).length < i + 1 - 1 - i then _ else _) _ _ _
  rw [if_neg (by rw [hrl]; omega)]
  show wpAny _ _ (newList ((its.toArray.toList.drop i).take ((its.toArray.toList.drop i).length - (i + 1 - 1 - i))) >>= fun d => pure (its.toArray.toList.take i ++ [d] ++ (its.toArray.toList.drop i).drop ((its.toArray.toList.drop i).length - (i + 1 - 1 - i)))) _ _ _
  rw [hmid]
  have e1 : (its.toArray.toList.drop i).take (its.length - i) = its.drop i := List.take_of_length_le (by simp)
  have e2 : (its.toArray.toList.drop i).drop (its.length - i) = [] := List.drop_of_length_le (by simp)
  rw [e1, e2]
  have he : ∀ b o, s.heap.get? b = some o → h₂.get? b = some o := fun b o e => hk b o (Nat.ne_of_lt (Heap.lt_size e)) (hs₁.extBut b o (Nat.ne_of_lt (Heap.lt_size e)) (Heap.get?_push_of_some _ e))
  refine wpAny_bind (wpAny_newList (wpAny_pure ?_) (by rw [List.length_drop]; omega))
  have := h h₂ tk he
  simpa using this
/-- a, .., *c = t -/
def gStar (K : PySem.W.Frag) (i : Nat) (t : TGs) : TG := fun v σ H Q => ∃ a xs, v = .ref a ∧ SqT K H a xs ∧ i ≤ xs.length ∧ ∀ p, H p = none → t (xs.take i ++ [.ref p]) σ (upd H p (.lst (xs.drop i))) Q
theorem pg_star {es : List Expr} {k i : Nat} {pos : Pos} {t : TGs} (hc : X.calm = true) (h : PGs X es t) (hn : (assignEach es X.env).length = i + 1) (hst : (assignEach es X.env).findIdx? (·.1) = some i) : PG X (.Tuple es k pos) (gStar X.K i t) := by
  refine ⟨fun pins s σ H v u Q I r hw => ?_⟩
  obtain ⟨a, xs, e1, hq, hl, hw⟩ := hw
  subst e1
  cases r
  obtain ⟨its, rv, ht, hz⟩ := I.tuple hq
  have hlen := rv.length
  rw [PyProof.Rows.assign_Tuple]
  refine wpAny_bind (wpAny_standAt ?_)
  unfold unpack
  rw [hn, hst]
  refine wpAny_bind (wpAny_holding (star_items ht (I.ok.hd hc) (i := i) (by omega) (by omega) fun h' tk keep => ?_))
  have I1 : Inv X pins σ H { s with heap := h' } := I.kept (t' := s.toks) fun b o e => keep b o e
  have I2 := I1.laid (t' := tk) (o := .lst (xs.drop i)) (h' := h'.push { cls := .type "list", data := .seq (its.drop i).toArray }) (fun b ob q => Heap.get?_push_of_some _ q) (Nat.le_refl _) ⟨by rw [List.length_drop]; omega, _, 0, rv.drop i, Heap.get?_push_size _ rfl⟩
  exact h.run pins _ σ _ _ _ Q I2 ((rv.take i).append (.cons (show RelV (.ref h'.objs.size) (.ref h'.objs.size) from rfl) .nil)) (hw _ (I1.hok.fresh (Nat.le_refl _)))
theorem pgs_star {e : Expr} {p : Pos} {t : TG} (h1 : PG X e t) : PGs X [.Starred e p] (gCons t gNil) := by
  refine ⟨fun pins s σ H vs us Q I r h => ?_⟩
  obtain ⟨v, vr, e1, h⟩ := h
  subst e1
  cases r with
  | cons r rr =>
    show wpAny _ _ (assignInOrder (assign e X.env :: []) _) _ _ _
    refine PyProof.Rows.assignInOrder_cons (thn (h1.run pins s σ H _ _ _ I r h) fun _ s1 ⟨σ1, H1, I1, q1⟩ => ?_)
    exact pgs_nil.run pins s1 σ1 H1 _ _ Q I1 rr q1
variable {Γ : Ga} {fa : Nat → Option Addr} {call : Nat → List D → Store → R D}
theorem own_ok (hs : Has X Γ fa call) {i : Nat} {x : Str} {p : Pos} (h : Γ.own i x = true) {v : V} {σ : L2.St} {H : Hp} {Q : L2.St → Hp → Prop} (k : Q (σ.set i (some v)) H) : WG X (.Name x p) v σ H Q := by
  obtain ⟨h1, h2⟩ := and_tt h
  obtain ⟨h1, h3⟩ := loc_of hs h1
  rcases Bool.or_eq_true_iff.mp h2 with h2 | h2
  · have e : X.env.scope.names.lookup x = some .local := by rw [hs.sc]; simpa using h2
    exact wg_of (pg_name hs.nd h1 (.inl e) (.inr e)) k
  · obtain ⟨h2, h4⟩ := and_tt h2
    have e : X.env.scope.names.lookup x = some .cell := by rw [hs.sc]; simpa using h2
    exact wg_of (pg_name hs.nd h1 (.inr e) (.inl (by rw [hs.hfn]; exact h4))) k
def putAll (is : List Nat) (vs : List V) (σ : L2.St) : L2.St := (is.zip vs).foldl (fun σ p => σ.set p.1 (some p.2)) σ
theorem star_ok (hs : Has X Γ fa call) : ∀ {is : List Nat} {k : Nat} {ts : List Expr}, chkStar Γ is k ts = true → ∃ t, PGs X ts t ∧ (assignEach ts X.env).length = is.length + 1 ∧ (assignEach ts X.env).findIdx? (·.1) = some is.length ∧
    ∀ (vs : List V) (v : V) (σ : L2.St) (H : Hp) (Q : L2.St → Hp → Prop), vs.length = is.length → Q ((putAll is vs σ).set k (some v)) H → t (vs ++ [v]) σ H Q
  | [], k, ts, h => by
    simp only [chkStar] at h
    split at h
    · rename_i x p q
      refine ⟨_, pgs_star (pg_w (tg := .Name x p)), rfl, rfl, fun vs v σ H Q hl hq => ?_⟩
      cases vs with
      | cons => cases hl
      | nil => exact ⟨v, [], rfl, own_ok hs h ⟨rfl, hq⟩⟩
    · cases h
  | i :: is, k, ts, h => by
    simp only [chkStar] at h
    split at h
    · rename_i x p ts
      obtain ⟨h1, h2⟩ := and_tt h
      obtain ⟨t, t1, t2, t3, t4⟩ := star_ok hs h2
      refine ⟨_, pgs_cons (pg_w (tg := .Name x p)) t1 rfl, ?_, ?_, fun vs v σ H Q hl hq => ?_⟩
      · show (assignEach ts X.env).length + 1 = _
        rw [t2]; rfl
      · show ((false, assign (.Name x p) X.env) :: assignEach ts X.env).findIdx? (·.1) = _
        rw [List.findIdx?_cons]
        simp [t3]
      · cases vs with
        | nil => cases hl
        | cons u vs => exact ⟨u, vs ++ [v], rfl, own_ok hs h1 (t4 vs v _ H Q (by simpa using hl) hq)⟩
    · cases h
theorem putAll_env {K : PySem.W.Frag} {H : Hp} {ρ : List Addr} : ∀ {is : List Nat} {vs : List V} {ds : List D} {σ : L2.St} {env : MP.Env}, EnvR K fa H ρ σ env → RpAll K fa H ρ vs ds → EnvR K fa H ρ (putAll is vs σ) ((is.zip ds).foldl (fun env p => env.set p.1 (some p.2)) env)
  | [], _, _, _, _, h, _ => h
  | i :: is, _, [], σ, env, h, r => by cases r; exact h
  | i :: is, _, d :: ds, σ, env, h, r => by
    cases r with
    | cons a b => exact putAll_env (is := is) (h.set i a) b
end
end MP
end
section
set_option maxRecDepth 100000
/-! EvW: the text does what the terms say: statements. -/
namespace MP
open PySem L2
section
variable {X : Cx} {Γ : Ga} {fa : Nat → Option Addr} {call : Nat → List D → Store → R D}
/-- what is to hold behind statements -/
def PostQ (K : PySem.W.Frag) (fa : Nat → Option Addr) (ρ : List Addr) (H : Hp) (E : Ends) : MP.Q → Prop
  | .nxt env S => ∀ ρ' H' σ', Ext ρ H ρ' H' → Rel K fa ρ' S H' → EnvR K fa H' ρ' σ' env → E.nx σ' H'
  | .ret d S => ∀ ρ' H' v, Ext ρ H ρ' H' → Rel K fa ρ' S H' → Rp K fa H' ρ' v d → E.rt v H'
  | .brk env S => ∀ ρ' H' σ', Ext ρ H ρ' H' → Rel K fa ρ' S H' → EnvR K fa H' ρ' σ' env → E.bk σ' H'
  | .cnt env S => ∀ ρ' H' σ', Ext ρ H ρ' H' → Rel K fa ρ' S H' → EnvR K fa H' ρ' σ' env → E.ct σ' H'
  | .exc _ _ _ => False
  | .stuck => False
theorem PostQ.ext {K : PySem.W.Frag} {ρ ρ1 : List Addr} {H H1 : Hp} {E : Ends} {q : MP.Q} (e : Ext ρ H ρ1 H1) (h : PostQ K fa ρ H E q) : PostQ K fa ρ1 H1 E q := by
  cases q with
  | nxt env S => exact fun ρ' H' σ' e' => h ρ' H' σ' (e.trans e')
  | ret d S => exact fun ρ' H' v e' => h ρ' H' v (e.trans e')
  | brk env S => exact fun ρ' H' σ' e' => h ρ' H' σ' (e.trans e')
  | cnt env S => exact fun ρ' H' σ' e' => h ρ' H' σ' (e.trans e')
  | exc => exact h
  | stuck => exact h
abbrev WS (X : Cx) (st : Stmt) : TS := fun E σ H => ∀ pins s, Inv X pins σ H s → wpAny (model X.prog X.w) X.A (exec st X.env) (SP X pins E) X.xe s
abbrev WSs (X : Cx) (st : List Stmt) : TS := fun E σ H => ∀ pins s, Inv X pins σ H s → wpAny (model X.prog X.w) X.A (execs st X.env) (SP X pins E) X.xe s
theorem ps_w {st : Stmt} : PS X st (WS X st) := ⟨fun pins s _ _ _ I h => h pins s I⟩
theorem pss_w {st : List Stmt} : PSs X st (WSs X st) := ⟨fun pins s _ _ _ I h => h pins s I⟩
theorem ws_of {st : Stmt} {t : TS} {E : Ends} {σ : L2.St} {H : Hp} (h : PS X st t) (q : t E σ H) : WS X st E σ H := fun pins s I => h.run pins s σ H E I q
theorem wss_of {st : List Stmt} {t : TS} {E : Ends} {σ : L2.St} {H : Hp} (h : PSs X st t) (q : t E σ H) : WSs X st E σ H := fun pins s I => h.run pins s σ H E I q
def SS (X : Cx) (fa : Nat → Option Addr) (st : Stmt) (f : MP.Env → Store → MP.Q) : Prop := ∀ (σ : L2.St) (H : Hp) (ρ : List Addr) (env : MP.Env) (S : Store) (E : Ends), Rel X.K fa ρ S H → EnvR X.K fa H ρ σ env → PostQ X.K fa ρ H E (f env S) → WS X st E σ H
def SSs (X : Cx) (fa : Nat → Option Addr) (st : List Stmt) (f : MP.Env → Store → MP.Q) : Prop := ∀ (σ : L2.St) (H : Hp) (ρ : List Addr) (env : MP.Env) (S : Store) (E : Ends), Rel X.K fa ρ S H → EnvR X.K fa H ρ σ env → PostQ X.K fa ρ H E (f env S) → WSs X st E σ H
theorem q_ok {K : PySem.W.Frag} {ρ : List Addr} {H : Hp} {E : Ends} {α : Type} {r : R α} {env : MP.Env} {g : α → Store → MP.Q} (h : PostQ K fa ρ H E (Q.of env r g)) : ∃ a S, r = .ok a S ∧ PostQ K fa ρ H E (g a S) := by
  cases r with
  | ok a S => exact ⟨a, S, rfl, h⟩
  | exc => exact h.elim
  | stuck => exact h.elim
theorem STt.ok {p : Expr} {f : MP.Env → Store → R Bool} {σ : L2.St} {H : Hp} {ρ : List Addr} {env : MP.Env} {S S1 : Store} {b : Bool} {Q : Bool → Hp → Prop} (se : STt X fa p f) (rel : Rel X.K fa ρ S H) (ev : EnvR X.K fa H ρ σ env) (e : f env S = .ok b S1)
    (k : ∀ ρ1 H1, Ext ρ H ρ1 H1 → Rel X.K fa ρ1 S1 H1 → EnvR X.K fa H1 ρ1 σ env → Q b H1) : WT X p σ H Q := by
  refine se σ H ρ env S Q rel ev ?_
  rw [e]
  intro ρ1 H1 v e1 r1 p1
  cases p1
  exact k ρ1 H1 e1 r1 (ev.ext e1 r1.clear)
theorem SA.ok {ps : List Expr} {f : MP.Env → Store → R (List D)} {σ : L2.St} {H : Hp} {ρ : List Addr} {env : MP.Env} {S S1 : Store} {d : List D} {Q : List V → Hp → Prop} (se : SA X fa ps f) (rel : Rel X.K fa ρ S H) (ev : EnvR X.K fa H ρ σ env) (e : f env S = .ok d S1)
    (k : ∀ ρ1 H1 v, Ext ρ H ρ1 H1 → Rel X.K fa ρ1 S1 H1 → RpAll X.K fa H1 ρ1 v d → EnvR X.K fa H1 ρ1 σ env → Q v H1) : WA X ps σ H Q := by
  refine se σ H ρ env S Q rel ev ?_
  rw [e]
  exact fun ρ1 H1 v e1 r1 p1 => k ρ1 H1 v e1 r1 p1 (ev.ext e1 r1.clear)
theorem ss_ret {e : E} {st : Stmt} (hs : Has X Γ fa call) (h : chkC Γ (.ret e) st = true) : SS X fa st (evC call (.ret e)) := by
  simp only [chkC] at h
  split at h <;> try (cases h; done)
  rename_i v pos
  intro σ H ρ env S E rel ev hq
  refine ws_of (ps_ret (pe_w (e := v))) ?_
  simp only [evC] at hq
  obtain ⟨d, S1, e1, q1⟩ := q_ok hq
  exact (snd e hs h).1.ok rel ev e1 fun ρ1 H1 v e2 r1 p1 ev1 => q1 ρ1 H1 v e2 r1 p1
theorem ss_ex {e : E} {st : Stmt} (hs : Has X Γ fa call) (h : chkC Γ (.ex e) st = true) : SS X fa st (evC call (.ex e)) := by
  simp only [chkC] at h
  split at h <;> try (cases h; done)
  rename_i v pos
  obtain ⟨h1, h2⟩ := and_tt h
  intro σ H ρ env S E rel ev hq
  refine ws_of (ps_expr (pe_w (e := v)) (nocomp_ok (by simpa using h1))) ?_
  simp only [evC] at hq
  obtain ⟨d, S1, e1, q1⟩ := q_ok hq
  exact (snd e hs h2).1.ok rel ev e1 fun ρ1 H1 v e2 r1 p1 ev1 => q1 ρ1 H1 σ e2 r1 ev1
theorem ss_tr {st : Stmt} {E : Ends} {σ : L2.St} {H : Hp} (h : WS X st { E with nx := fun σ H => TrK X.K H → E.nx σ H } σ H) : WS X st E σ H := fun pins s I =>
  thn (h pins s I) fun fl s' q => by
    cases fl with
    | next => obtain ⟨σ', H', I', q⟩ := q; exact ⟨σ', H', I', q (trK_of I')⟩
    | ret => exact q
    | brk => exact q
    | cont => exact q
theorem ss_asg {t : Tg} {e : E} {st : Stmt} (hs : Has X Γ fa call) (h : chkC Γ (.asg t e) st = true) : SS X fa st (evC call (.asg t e)) := by
  simp only [chkC] at h
  split at h <;> try (cases h; done)
  rename_i tg v pos
  obtain ⟨h1, h2'⟩ := and_tt h
  obtain ⟨h2, h3'⟩ := and_tt h2'
  obtain ⟨h3, h4'⟩ := and_tt h3'
  obtain ⟨h4, h5⟩ := and_tt h4'
  clear h2' h3' h4' h
  have hk : Γ.sc.kind = .function := by simpa using h1
  have hw : swappedStores [tg] v X.env = pure none := swapP_ok hs.sc hk (eq_of_beq h2)
  have hsw := compSwap_ok (tg := tg) (v := v) (l := pos.line) hs.sc hk
  have sg := sg_ok hs h4
  have h1' : (assignEach [tg] X.env).map (·.2) = [assign tg X.env] := by
    cases tg <;> first | rfl | (cases t <;> cases h4)
  intro σ H ρ env S E rel ev hq
  simp only [evC] at hq
  obtain ⟨d, S1, e1, q1⟩ := q_ok hq
  cases hb : bindT t d env with
  | none => rw [hb] at q1; exact q1.elim
  | some env' =>
  rw [hb] at q1
  cases hc : compSwap Γ.sc tg v with
  | false =>
    rw [hc] at hsw
    refine ws_of (ps_asg (pe_w (e := v)) (pg_w (tg := tg)) hsw hw h1') ?_
    exact (snd e hs h5).1.ok rel ev e1 fun ρ1 H1 u e2 r1 p1 ev1 => sg σ H1 ρ1 env S1 u d env' _ r1 ev1 p1 hb fun σ' ev' _ => q1 ρ1 H1 σ' e2 r1 ev'
  | true =>
    rw [hc] at hsw h3
    cases v <;> try (cases h3; done)
    rename_i x gs scope vp
    cases tg <;> try (cases hc; done)
    rename_i y py
    cases t <;> try (cases h4; done)
    rename_i i
    cases e <;> try (cases h5; done)
    rename_i m elt t it ifs own
    simp only [chkE] at h5
    split at h5
    · rename_i x' tg iter cs scope' pos' eq
      cases eq
      obtain ⟨own', wi, w1, ok, om, hf, main⟩ := comp_core (m := m) hs (fun _ _ h => sndi it hs h) (fun _ _ _ hs' h => sts_ok (fun e he _ h => snda ifs e he hs' h) h) (fun _ _ _ hs' h => snd elt hs' h) h5
      obtain ⟨k1, k2⟩ := and_tt h4
      obtain ⟨k1, k3⟩ := loc_of hs k1
      have hl : X.env.scope.names.lookup y = some .local := by
        rw [hs.sc]
        obtain ⟨z, _⟩ := and_tt (show (Γ.sc.names.lookup y == some NameKind.local && _) = true from hc)
        simpa using z
      refine ss_tr (ws_of (ps_setLc hs.ck.calm hs.nd k1 hl hsw w1 ok gB_ok sB_ok eB_ok hf) ?_)
      show tAsg _ _ _ _ _
      unfold tAsg
      rw [om]
      refine main σ H ρ env S _ rel ev ?_
      rw [e1]
      intro ρ1 H1 u e2 r1 p1
      cases hb
      exact q1 ρ1 H1 _ e2 r1 ((ev.ext e2 r1.clear).set i p1)
    · cases h5
theorem ss_star {is : List Nat} {k : Nat} {e : E} {st : Stmt} (hs : Has X Γ fa call) (h : chkC Γ (.star is k e) st = true) : SS X fa st (evC call (.star is k e)) := by
  simp only [chkC] at h
  split at h <;> try (cases h; done)
  rename_i ts j p v pos
  obtain ⟨h1, h2'⟩ := and_tt h
  obtain ⟨h2, h3'⟩ := and_tt h2'
  obtain ⟨h3, h4'⟩ := and_tt h3'
  obtain ⟨h4, h5⟩ := and_tt h4'
  clear h2' h3' h4' h
  have hk : Γ.sc.kind = .function := by simpa using h1
  have hw : swappedStores [.Tuple ts j p] v X.env = pure none := swapP_ok hs.sc hk (eq_of_beq h2)
  have hnc : isComp v = false := by simpa using h3
  have hsw : swapsWith v (some (.Tuple ts j p)) pos.line X.env = pure false := by cases v <;> first | rfl | cases hnc
  obtain ⟨t, t1, t2, t3, t4⟩ := star_ok hs h4
  intro σ H ρ env S E rel ev hq
  simp only [evC] at hq
  obtain ⟨d, S1, e1, q1⟩ := q_ok hq
  cases d <;> try (exact q1.elim)
  rename_i ds
  cases hb : bindStar is k ds env with
  | none => simp only [hb] at q1; exact q1.elim
  | some env' =>
  simp only [hb] at q1
  unfold bindStar at hb
  cases hc : decide (is.length ≤ ds.length) && decide (ds.length ≤ most) with
  | false => rw [hc] at hb; cases hb
  | true =>
  rw [hc] at hb
  cases hb
  obtain ⟨c1, c2⟩ := and_tt hc
  have c1 := bdec c1
  refine ws_of (ps_asg (pe_w (e := v)) (pg_star hs.ck.calm t1 t2 t3) hsw hw rfl) ?_
  refine (snd e hs h5).1.ok rel ev e1 fun ρ1 H1 u e2 r1 p1 ev1 => ?_
  obtain ⟨a, vs, rfl, hq, m, rv⟩ := rp_tup p1
  refine ⟨a, vs, rfl, hq, by rw [rv.len]; exact c1, fun q hp => ?_⟩
  have e3 := Ext.new (ρ := ρ1) (.lst (vs.drop is.length)) hp
  have rel2 := r1.new (o := .lst (vs.drop is.length)) hp
  have pn : q ∉ ρ1 := fun hm => by
    obtain ⟨i, hi, ei⟩ := List.getElem_of_mem hm
    have hl : i < S1.length := by rw [← r1.len]; exact hi
    have := r1.cell i S1[i] q (by simp [hl]) (by simp [hi, ei])
    exact this.live hp
  refine t4 _ _ _ _ _ (by rw [List.length_take, rv.len]; omega) (q1 ρ1 _ _ (e2.trans e3) rel2 ?_)
  have ev2 := ev1.ext e3 r1.clear
  have rv2 := rv.ext e3 r1.clear
  have hz : is.zip (ds.take is.length) = is.zip ds := by
    have : is.zip ds = _ := List.zip_eq_zip_take_min
    rw [Nat.min_eq_left c1, List.take_length] at this
    exact this.symm
  rw [← hz]
  exact (putAll_env ev2 (rv2.take is.length)).set k (.lst upd_same pn (rv2.drop is.length))
end
end MP
end
section
set_option maxRecDepth 100000
/-! EvX: the text does what the terms say: more statements. -/
namespace MP
open PySem L2
section
variable {X : Cx} {Γ : Ga} {fa : Nat → Option Addr} {call : Nat → List D → Store → R D}
theorem ss_pass {st : Stmt} (h : chkC Γ .pass st = true) : SS X fa st (evC call .pass) := by
  simp only [chkC] at h
  split at h <;> try (cases h; done)
  intro σ H ρ env S E rel ev hq
  simp only [evC] at hq
  exact ws_of ps_pass (hq ρ H σ (Ext.refl _ _) rel ev)
theorem ss_brk {st : Stmt} (h : chkC Γ .brk st = true) : SS X fa st (evC call .brk) := by
  simp only [chkC] at h
  split at h <;> try (cases h; done)
  intro σ H ρ env S E rel ev hq
  simp only [evC] at hq
  exact ws_of ps_break (hq ρ H σ (Ext.refl _ _) rel ev)
theorem ss_cont {st : Stmt} (h : chkC Γ .cont st = true) : SS X fa st (evC call .cont) := by
  simp only [chkC] at h
  split at h <;> try (cases h; done)
  intro σ H ρ env S E rel ev hq
  simp only [evC] at hq
  exact ws_of ps_continue (hq ρ H σ (Ext.refl _ _) rel ev)
theorem ss_retn {st : Stmt} (h : chkC Γ .retn st = true) : SS X fa st (evC call .retn) := by
  simp only [chkC] at h
  split at h <;> try (cases h; done)
  intro σ H ρ env S E rel ev hq
  simp only [evC] at hq
  exact ws_of ps_retN (hq ρ H .non (Ext.refl _ _) rel .non)
theorem ne_of {i j : Nat} (h : (i != j) = true) : i ≠ j := by simpa using h
theorem rpAll3 {K : PySem.W.Frag} {H : Hp} {ρ : List Addr} {xs : List V} {d e f : D} (h : RpAll K fa H ρ xs [d, e, f]) : ∃ x y z, xs = [x, y, z] ∧ Rp K fa H ρ x d ∧ Rp K fa H ρ y e ∧ Rp K fa H ρ z f := by
  cases h with
  | cons a b =>
    obtain ⟨y, z, rfl, h1, h2⟩ := rpAll2 b
    exact ⟨_, y, z, rfl, a, h1, h2⟩
theorem ss_par {is : List Nat} {es : List E} {st : Stmt} (hs : Has X Γ fa call) (h : chkC Γ (.par is es) st = true) : SS X fa st (evC call (.par is es)) := by
  simp only [chkC] at h
  split at h <;> try (cases h; done)
  rename_i ts k1 p1 vs k2 p2 pos
  obtain ⟨h1, h2'⟩ := and_tt h
  obtain ⟨h2, h3⟩ := and_tt h2'
  clear h2' h
  have hk : Γ.sc.kind = .function := by simpa using h1
  have sa := snds es hs h2
  intro σ H ρ env S E rel ev hq
  simp only [evC] at hq
  obtain ⟨ds, S1, e1, q1⟩ := q_ok hq
  split at h3
  · rename_i i j x px y py a b
    obtain ⟨a1, b1⟩ := and_tt h3
    obtain ⟨a2, b2⟩ := and_tt b1
    obtain ⟨a3, b3⟩ := and_tt b2
    obtain ⟨a4, b4⟩ := and_tt b3
    obtain ⟨a5, a6⟩ := and_tt b4
    have hw := swapP_ok (v := .Tuple [a, b] k2 p2) hs.sc hk (eq_of_beq a6)
    have lx : X.env.scope.names.lookup x = some .local := by rw [hs.sc]; simpa using a4
    have ly : X.env.scope.names.lookup y = some .local := by rw [hs.sc]; simpa using a5
    refine ws_of (ps_par hs.ck.calm hs.nd (loc_of hs a1).1 (loc_of hs a2).1 (ne_of a3) lx ly (pa_w (es := [a, b])) hw rfl) ?_
    refine sa.ok rel ev e1 fun ρ1 H1 us e2 r1 p1 ev1 => ?_
    match ds, q1, p1 with
    | [], q1, _ => exact q1.elim
    | [_], q1, _ => exact q1.elim
    | _ :: _ :: _ :: _, q1, _ => exact q1.elim
    | [d1, d2], q1, p1 =>
      obtain ⟨u, w, rfl, r2, r3⟩ := rpAll2 p1
      exact ⟨u, w, rfl, q1 ρ1 H1 _ e2 r1 ((ev1.set i r2).set j r3)⟩
  · rename_i i j l x px y py z pz a b c
    obtain ⟨a1, b1⟩ := and_tt h3
    obtain ⟨a2, b2⟩ := and_tt b1
    obtain ⟨a3, b3⟩ := and_tt b2
    obtain ⟨a4, b4⟩ := and_tt b3
    obtain ⟨a5, b5⟩ := and_tt b4
    obtain ⟨a6, b6⟩ := and_tt b5
    obtain ⟨a7, b7⟩ := and_tt b6
    obtain ⟨a8, b8⟩ := and_tt b7
    obtain ⟨a9, a10⟩ := and_tt b8
    have hw := swapP_ok (v := .Tuple [a, b, c] k2 p2) hs.sc hk (eq_of_beq a10)
    have lx : X.env.scope.names.lookup x = some .local := by rw [hs.sc]; simpa using a7
    have ly : X.env.scope.names.lookup y = some .local := by rw [hs.sc]; simpa using a8
    have lz : X.env.scope.names.lookup z = some .local := by rw [hs.sc]; simpa using a9
    refine ws_of (ps_par3 hs.ck.calm hs.nd (loc_of hs a1).1 (loc_of hs a2).1 (loc_of hs a3).1 (ne_of a4) (ne_of a5) (ne_of a6) lx ly lz (pa_w (es := [a, b, c])) hw rfl) ?_
    refine sa.ok rel ev e1 fun ρ1 H1 us e2 r1 p1 ev1 => ?_
    match ds, q1, p1 with
    | [], q1, _ => exact q1.elim
    | [_], q1, _ => exact q1.elim
    | [_, _], q1, _ => exact q1.elim
    | _ :: _ :: _ :: _ :: _, q1, _ => exact q1.elim
    | [d1, d2, d3], q1, p1 =>
      obtain ⟨u, w, w', rfl, r2, r3, r4⟩ := rpAll3 p1
      exact ⟨u, w, w', rfl, q1 ρ1 H1 _ e2 r1 (((ev1.set i r2).set j r3).set l r4)⟩
  · cases h3
/-- op= by values -/
def rIp (K : PySem.W.Frag) (fa : Nat → Option Addr) (op : O2) : TIp := fun x y H Q => ∃ ρ S dx dy, Rel K fa ρ S H ∧ Rp K fa H ρ x dx ∧ Rp K fa H ρ y dy ∧ Post K fa (rD K fa) ρ H Q (aug2 op dx dy S)
theorem ip_ok (op : O2) : PIp X (opOf op) (rIp X.K fa op) := by
  intro pins s σ H x y v u Q I rx ry h
  obtain ⟨ρ, S, dx, dy, rel, px, py, h⟩ := h
  unfold aug2 at h
  split at h
  · obtain rfl := rp_int px
    obtain rfl := rp_int py
    exact ip_add pins s σ H _ _ v u Q I rx ry ⟨_, _, rfl, rfl, h.fin rel (.int _)⟩
  · obtain rfl := rp_int px
    obtain rfl := rp_int py
    exact ip_sub pins s σ H _ _ v u Q I rx ry ⟨_, _, rfl, rfl, h.fin rel (.int _)⟩
  · obtain ⟨c, h⟩ := mk_ok h
    obtain ⟨rfl, z1⟩ := rp_str px
    obtain ⟨rfl, z2⟩ := rp_str py
    have c := bdec c
    refine iop_add_str pins s σ H _ _ v u Q I rx ry ⟨_, _, rfl, rfl, ?_, ?_⟩
    · show (List.toArray _).size + (List.toArray _).size ≤ sizeLine
      simp only [List.size_toArray]
      exact line_of c
    · rw [str_app]
      exact h.fin rel (.str _ (by rw [List.length_append]; exact line_of c))
  · exact h.elim
theorem ss_aug {i : Nat} {op : O2} {e : E} {st : Stmt} (hs : Has X Γ fa call) (h : chkC Γ (.aug i op e) st = true) : SS X fa st (evC call (.aug i op e)) := by
  simp only [chkC] at h
  split at h <;> try (cases h; done)
  rename_i x px o v pos
  obtain ⟨h1, h2'⟩ := and_tt h
  obtain ⟨h2, h3'⟩ := and_tt h2'
  obtain ⟨h3, h4⟩ := and_tt h3'
  clear h2' h3' h
  have e := bdec h1; subst e
  obtain ⟨g1, g2⟩ := loc_of hs h2
  have hx : Loc X.env.scope x ∧ (X.fn x = true ∨ X.env.scope.names.lookup x = some .local) := by
    rcases Bool.or_eq_true_iff.mp h3 with z | z
    · have z : X.env.scope.names.lookup x = some .local := by rw [hs.sc]; simpa using z
      exact ⟨.inl z, .inr z⟩
    · obtain ⟨z1, z2⟩ := and_tt z
      exact ⟨.inr (by rw [hs.sc]; simpa using z1), .inl (by rw [hs.hfn]; exact z2)⟩
  intro σ H ρ env S E rel ev hq
  simp only [evC] at hq
  split at hq
  · rename_i d ed
    obtain ⟨w, w1, w2⟩ := ev.2 i d ed
    obtain ⟨d2, S1, e1, q1⟩ := q_ok hq
    obtain ⟨d3, S2, e2, q2⟩ := q_ok q1
    refine ws_of (ps_aug hs.nd g1 hx.1 (pe_w (e := v)) (ip_ok (fa := fa) op) hx.2) ⟨w, w1, ?_⟩
    refine (snd _ hs h4).1.ok rel ev e1 fun ρ1 H1 u ex1 r1 p1 ev1 => ?_
    refine ⟨ρ1, S1, d, d2, r1, w2.ext ex1 r1.clear, p1, ?_⟩
    rw [e2]
    exact fun ρ2 H2 u2 ex2 r2 p2 => q2 ρ2 H2 _ (ex1.trans ex2) r2 ((ev1.ext ex2 r2.clear).set i p2)
  · exact hq.elim
theorem ss_seti {o i e : E} {st : Stmt} (hs : Has X Γ fa call) (h : chkC Γ (.seti o i e) st = true) : SS X fa st (evC call (.seti o i e)) := by
  simp only [chkC] at h
  split at h <;> try (cases h; done)
  rename_i x y px v pos
  obtain ⟨h1, h2'⟩ := and_tt h
  obtain ⟨h2, h3'⟩ := and_tt h2'
  obtain ⟨h3, h4⟩ := and_tt h3'
  clear h2' h3' h
  have ha : ∀ w, assign (.Subscript x y px) X.env w = (do
      let ov ← holding [w] (eval x X.env)
      let iv ← holding [w, ov] (eval y X.env)
      standAt px
      holding [w, ov, iv] (setItem ov iv w)
      release [w, ov, iv] []) := by
    intro w
    cases y <;> first | rfl | cases h1
  have hsw : swapsWithSole [.Subscript x y px] v pos.line X.env = pure false := by
    cases v <;> rfl
  have hw : swappedStores [.Subscript x y px] v X.env = pure none := by
    cases v <;> rfl
  intro σ H ρ env S E rel ev hq
  simp only [evC] at hq
  obtain ⟨d, S1, e1, q1⟩ := q_ok hq
  obtain ⟨d2, S2, e2, q2⟩ := q_ok q1
  obtain ⟨d3, S3, e3, q3⟩ := q_ok q2
  obtain ⟨u0, S4, e4, q4⟩ := q_ok q3
  refine ws_of (ps_asg (pe_w (e := v)) (pg_sub (pe_w (e := x)) (pe_w (e := y)) set_list ha) hsw hw rfl) ?_
  refine (snd _ hs h4).1.ok rel ev e1 fun ρ1 H1 w ex1 r1 p1 ev1 => ?_
  refine (snd _ hs h2).1.ok r1 ev1 e2 fun ρ2 H2 ov ex2 r2 p2 ev2 => ?_
  refine (snd _ hs h3).1.ok r2 ev2 e3 fun ρ3 H3 iv ex3 r3 p3 ev3 => ?_
  unfold setAt at e4
  split at e4
  · rename_i n
    split at e4
    · rename_i xs hc
      split at e4
      · rename_i k
        split at e4
        · rename_i j hj
          cases e4
          have p2' := p2.ext ex3 r3.clear
          have p1' := (p1.ext ex2 r2.clear).ext ex3 r3.clear
          obtain ⟨p, vs, rfl, hp, hq', rv⟩ := cell_list r3 p2' hc
          obtain rfl := rp_int p3
          have pm : p ∈ ρ3 := List.mem_of_getElem? hp
          have es := Ext.set (H := H3) (o := .lst (vs.set j w)) pm
          have r4 := r3.set (c := .lst (xs.set j d)) hp ⟨_, upd_same, (rv.set p1' j).ext es r3.clear⟩
          refine ⟨p, vs, k, j, rfl, rfl, hq', by rw [rv.len]; exact hj, ?_⟩
          exact q4 ρ3 _ _ (((ex1.trans ex2).trans ex3).trans es) r4 (ev3.ext es r3.clear)
        · cases e4
      · cases e4
    · cases e4
  · cases e4
end
end MP
end
section
set_option maxRecDepth 100000
/-! EvY: the text does what the terms say: blocks and loops. -/
namespace MP
open PySem L2
section
variable {X : Cx} {Γ : Ga} {fa : Nat → Option Addr} {call : Nat → List D → Store → R D}
theorem sss_nil {sts : List Stmt} (h : chkCs Γ [] sts = true) : SSs X fa sts (evCs call []) := by
  cases sts <;> try (cases h; done)
  intro σ H ρ env S E rel ev hq
  simp only [evCs] at hq
  exact wss_of pss_nil (hq ρ H σ (Ext.refl _ _) rel ev)
theorem sss_cons {c : C} {cs : List C} {sts : List Stmt} (hc : ∀ st, chkC Γ c st = true → SS X fa st (evC call c)) (hcs : ∀ sts, chkCs Γ cs sts = true → SSs X fa sts (evCs call cs)) (h : chkCs Γ (c :: cs) sts = true) : SSs X fa sts (evCs call (c :: cs)) := by
  cases sts with
  | nil => cases h
  | cons st sts =>
  obtain ⟨h1, h2⟩ := and_tt h
  intro σ H ρ env S E rel ev hq
  simp only [evCs] at hq
  refine wss_of (pss_cons (ps_w (st := st)) (pss_w (st := sts))) ?_
  refine hc st h1 σ H ρ env S _ rel ev ?_
  cases q : evC call c env S with
  | nxt env1 S1 =>
    rw [q] at hq
    exact fun ρ1 H1 σ1 e1 r1 ev1 => hcs sts h2 σ1 H1 ρ1 env1 S1 E r1 ev1 (PostQ.ext e1 hq)
  | ret => rw [q] at hq; exact hq
  | brk => rw [q] at hq; exact hq
  | cnt => rw [q] at hq; exact hq
  | exc => rw [q] at hq; exact hq
  | stuck => rw [q] at hq; exact hq
theorem q_test {K : PySem.W.Frag} {ρ : List Addr} {H : Hp} {E : Ends} {r : R D} {env : MP.Env} {g : Bool → Store → MP.Q} (h : PostQ K fa ρ H E (Q.of env r fun x S => Q.of env (test x S) g)) : ∃ b S, r.bind test = .ok b S ∧ PostQ K fa ρ H E (g b S) := by
  obtain ⟨d, S1, e1, h1⟩ := q_ok h
  obtain ⟨b, S2, e2, h2⟩ := q_ok (α := Bool) (r := test d S1) (g := g) h1
  exact ⟨b, S2, by rw [e1]; exact e2, h2⟩
theorem ss_ife {c : E} {a b : List C} {st : Stmt} (hs : Has X Γ fa call) (ha : ∀ sts, chkCs Γ a sts = true → SSs X fa sts (evCs call a)) (hb : ∀ sts, chkCs Γ b sts = true → SSs X fa sts (evCs call b)) (h : chkC Γ (.ife c a b) st = true) : SS X fa st (evC call (.ife c a b)) := by
  simp only [chkC] at h
  split at h <;> try (cases h; done)
  rename_i t xs ys pos
  obtain ⟨h1, h2'⟩ := and_tt h
  obtain ⟨h2, h3⟩ := and_tt h2'
  intro σ H ρ env S E rel ev hq
  simp only [evC] at hq
  obtain ⟨k, S1, e1, q1⟩ := q_test hq
  refine ws_of (ps_if (pt_w (e := t)) (pss_w (st := xs)) (pss_w (st := ys))) ?_
  refine (snd _ hs h1).2.ok rel ev e1 fun ρ1 H1 ex1 r1 ev1 => ?_
  cases k with
  | true => exact ha xs h2 σ H1 ρ1 env S1 E r1 ev1 (PostQ.ext ex1 q1)
  | false => exact hb ys h3 σ H1 ρ1 env S1 E r1 ev1 (PostQ.ext ex1 q1)
theorem forGo_stays {K : PySem.W.Frag} {ρ : List Addr} {H : Hp} {E : Ends} {w : Row} {bnd : D → MP.Env → Option MP.Env} {body : MP.Env → Store → MP.Q} {ds : List D} {env : MP.Env} {S : Store} (h : PostQ K fa ρ H E (forGo w bnd body ds env S)) : w.stays S = true := by
  cases c : w.stays S with
  | true => rfl
  | false =>
    cases ds with
    | nil => simp only [forGo, c] at h; exact h.elim
    | cons d ds => simp only [forGo, c] at h; exact h.elim
theorem ss_for {t : Tg} {it : E} {b : List C} {st : Stmt} (hs : Has X Γ fa call) (hb : ∀ sts, chkCs Γ b sts = true → SSs X fa sts (evCs call b)) (h : chkC Γ (.for_ t it b) st = true) : SS X fa st (evC call (.for_ t it b)) := by
  simp only [chkC] at h
  split at h <;> try (cases h; done)
  rename_i tg iter xs pos
  obtain ⟨h1, h2'⟩ := and_tt h
  obtain ⟨h2, h3⟩ := and_tt h2'
  obtain ⟨wi, w1, w2⟩ := sndi it hs h2
  intro σ H ρ env S E rel ev hq
  simp only [evC] at hq
  obtain ⟨w, S1, e1, q1⟩ := q_ok hq
  refine ws_of (ps_for hs.own hs.ck.calm w1 (pg_w (tg := tg)) (pss_w (st := xs)) (chkI_fold h2)) ?_
  refine w2 σ H ρ env S _ rel ev ?_
  rw [e1]
  intro ρ1 H1 J ex1 r1 fd
  obtain ⟨G, g1, g2, g3, g4, g5, g6⟩ := fd.ex
  refine for_it (J := J) (n := w.items.length) (G := G) (Y := J.yld) ⟨g1, g2, fun _ _ _ _ _ _ y => y⟩
    (fun i σ' H' => G H' ∧ ∃ ρ' S' env', Ext ρ1 H1 ρ' H' ∧ Rel X.K fa ρ' S' H' ∧ EnvR X.K fa H' ρ' σ' env' ∧ PostQ X.K fa ρ H E (forGo w (bindT t) (fun env S => evCs call b env S) (w.items.drop i) env' S'))
    ⟨g3, ρ1, S1, env, Ext.refl _ _, r1, ev.ext ex1 r1.clear, q1⟩ (fun i σ' H' _ p => p.1) (fun i xv σ2 H2 H3 hi ⟨pG, ρ2, S2, env2, ex2, r2, ev2, q2⟩ y => ?_) (fun σ2 H2 ⟨pG, ρ2, S2, env2, ex2, r2, ev2, q2⟩ => ?_)
  · have st := forGo_stays q2
    obtain ⟨d, i1, ex3, r3, px⟩ := g6 i ρ2 S2 H2 xv H3 hi ex2 r2 st y
    have hdrop : w.items.drop i = d :: w.items.drop (i + 1) := by
      obtain ⟨k1, k2⟩ := List.getElem?_eq_some_iff.mp i1
      rw [List.drop_eq_getElem_cons k1, k2]
    rw [hdrop] at q2
    simp only [forGo, st] at q2
    cases hbt : bindT t d env2 with
    | none => rw [hbt] at q2; exact q2.elim
    | some env3 =>
    rw [hbt] at q2
    simp only at q2
    have ex13 := ex2.trans ex3
    refine sg_ok hs h1 σ2 H3 ρ2 env2 S2 xv d env3 _ r3 (ev2.ext ex3 r3.clear) px hbt fun σ3 ev3 _ => ?_
    refine hb xs h3 σ3 H3 ρ2 env3 S2 _ r3 ev3 ?_
    cases qb : evCs call b env3 S2 with
    | nxt env4 S4 =>
      rw [qb] at q2
      exact fun ρ4 H4 σ4 ex4 r4 ev4 => ⟨g5 ρ4 S4 H4 (ex13.trans ex4) r4 (forGo_stays q2), ρ4, S4, env4, ex13.trans ex4, r4, ev4, q2⟩
    | cnt env4 S4 =>
      rw [qb] at q2
      exact fun ρ4 H4 σ4 ex4 r4 ev4 => ⟨g5 ρ4 S4 H4 (ex13.trans ex4) r4 (forGo_stays q2), ρ4, S4, env4, ex13.trans ex4, r4, ev4, q2⟩
    | brk env4 S4 =>
      rw [qb] at q2
      exact fun ρ4 H4 σ4 ex4 r4 ev4 => q2 ρ4 H4 σ4 ((ex1.trans ex13).trans ex4) r4 ev4
    | ret v S4 =>
      rw [qb] at q2
      exact fun ρ4 H4 v4 ex4 r4 p4 => q2 ρ4 H4 v4 ((ex1.trans ex13).trans ex4) r4 p4
    | exc => rw [qb] at q2; exact q2
    | stuck => rw [qb] at q2; exact q2
  · have st := forGo_stays q2
    rw [List.drop_length] at q2
    simp only [forGo, st] at q2
    exact q2 ρ2 H2 σ2 (ex1.trans ex2) r2 ev2
theorem ss_while {c : E} {b : List C} {st : Stmt} (hs : Has X Γ fa call) (hb : ∀ sts, chkCs Γ b sts = true → SSs X fa sts (evCs call b)) (h : chkC Γ (.while_ c b) st = true) : SS X fa st (evC call (.while_ c b)) := by
  simp only [chkC] at h
  split at h <;> try (cases h; done)
  rename_i t xs pos
  obtain ⟨h1, h2⟩ := and_tt h
  intro σ H ρ env S E rel ev hq
  simp only [evC] at hq
  refine ws_of (ps_while hs.own (pt_w (e := t)) (pss_w (st := xs))) ?_
  refine ⟨fun m σ' H' => ∃ ρ' S' env', Ext ρ H ρ' H' ∧ Rel X.K fa ρ' S' H' ∧ EnvR X.K fa H' ρ' σ' env' ∧ PostQ X.K fa ρ H E (whileGo (fun env S => (evE call c env S).bind test) (fun env S => evCs call b env S) m env' S'),
    ⟨turns, ρ, S, env, Ext.refl _ _, rel, ev, hq⟩, ?_⟩
  rintro m σ1 H1 ⟨ρ1, S1, env1, ex1, r1, ev1, q1⟩
  cases m with
  | zero => exact q1.elim
  | succ m =>
  simp only [whileGo] at q1
  obtain ⟨k, S2, e2, q2⟩ := q_ok q1
  refine (snd _ hs h1).2.ok r1 ev1 e2 fun ρ2 H2 ex2 r2 ev2 => ?_
  have ex12 := ex1.trans ex2
  cases k with
  | false =>
    simp only [Bool.false_eq_true, if_false]
    exact q2 ρ2 H2 σ1 ex12 r2 ev2
  | true =>
    simp only [if_true]
    simp only at q2
    refine ⟨fun σ' H' => ∃ ρ' S' env', Ext ρ H ρ' H' ∧ Rel X.K fa ρ' S' H' ∧ EnvR X.K fa H' ρ' σ' env' ∧ PostQ X.K fa ρ H E (whileGo (fun env S => (evE call c env S).bind test) (fun env S => evCs call b env S) m env' S'),
      fun σ' H' p => ⟨m, Nat.lt_succ_self m, p⟩, ?_⟩
    refine hb xs h2 σ1 H2 ρ2 env1 S2 _ r2 ev2 ?_
    cases qb : evCs call b env1 S2 with
    | nxt env4 S4 =>
      rw [qb] at q2
      exact fun ρ4 H4 σ4 ex4 r4 ev4 => ⟨ρ4, S4, env4, ex12.trans ex4, r4, ev4, q2⟩
    | cnt env4 S4 =>
      rw [qb] at q2
      exact fun ρ4 H4 σ4 ex4 r4 ev4 => ⟨ρ4, S4, env4, ex12.trans ex4, r4, ev4, q2⟩
    | brk env4 S4 =>
      rw [qb] at q2
      exact fun ρ4 H4 σ4 ex4 r4 ev4 => q2 ρ4 H4 σ4 (ex12.trans ex4) r4 ev4
    | ret v S4 =>
      rw [qb] at q2
      exact fun ρ4 H4 v4 ex4 r4 p4 => q2 ρ4 H4 v4 (ex12.trans ex4) r4 p4
    | exc => rw [qb] at q2; exact q2
    | stuck => rw [qb] at q2; exact q2
mutual
theorem sndc (hs : Has X Γ fa call) : ∀ (c : C) {st : Stmt}, chkC Γ c st = true → SS X fa st (evC call c)
  | .asg t e, _, h => ss_asg hs h
  | .par is es, _, h => ss_par hs h
  | .aug i op e, _, h => ss_aug hs h
  | .seti o i e, _, h => ss_seti hs h
  | .ife c a b, _, h => ss_ife hs (fun _ h => sndcs hs a h) (fun _ h => sndcs hs b h) h
  | .for_ t it b, _, h => ss_for hs (fun _ h => sndcs hs b h) h
  | .while_ c b, _, h => ss_while hs (fun _ h => sndcs hs b h) h
  | .ret e, _, h => ss_ret hs h
  | .retn, _, h => ss_retn h
  | .ex e, _, h => ss_ex hs h
  | .pass, _, h => ss_pass h
  | .brk, _, h => ss_brk h
  | .cont, _, h => ss_cont h
  | .star is k e, _, h => ss_star hs h
  | .stk, _, h => fun _ _ _ _ _ _ _ _ hq => by simp only [evC] at hq; exact hq.elim
theorem sndcs (hs : Has X Γ fa call) : ∀ (cs : List C) {sts : List Stmt}, chkCs Γ cs sts = true → SSs X fa sts (evCs call cs)
  | [], _, h => sss_nil h
  | c :: cs, _, h => sss_cons (fun _ h => sndc hs c h) (fun _ h => sndcs hs cs h) h
end
end
end MP
end
section
set_option maxRecDepth 100000
/-! EvZ: the defs of a law do what the table says. -/
namespace MP
open PySem L2
section
variable {K : PySem.W.Frag} {fa : Nat → Option Addr}
/-- a def's end -/
theorem fin_post {ρ : List Addr} {H : Hp} {S S' : Store} {leak : Bool} {d : D} {Q : VK} (rel : Rel K fa ρ S H) (h : Post K fa (rD K fa) ρ H Q (fin leak S d S')) : ∀ ρ' H' v, Ext ρ H ρ' H' → Rel K fa ρ' S' H' → Rp K fa H' ρ' v d → Q v H' := by
  intro ρ' H' v e r p
  unfold fin at h
  split at h
  · exact h ρ' H' v e r p
  · split at h
    · rename_i c
      obtain ⟨c1, c2⟩ := and_tt c
      have kept : Kept S S' := @of_decide_eq_true _ (Classical.propDecidable _) c2
      obtain ⟨l, rfl, e'⟩ := e.split
      exact h ρ H' v e'.less (Rel.less rel r kept) (Rp.frozen r rel.len c1 p)
    · exact h.elim
theorem outQ_post {ρ : List Addr} {H : Hp} {S : Store} {leak : Bool} {q : MP.Q} {Q : VK} (rel : Rel K fa ρ S H) (h : Post K fa (rD K fa) ρ H Q (outQ leak S q)) : PostQ K fa ρ H { nx := fun _ H' => Q .non H', rt := Q } q := by
  cases q with
  | nxt env S' => exact fun ρ' H' σ' e r _ => fin_post rel h ρ' H' .non e r .non
  | ret d S' => exact fun ρ' H' v e r p => fin_post rel h ρ' H' v e r p
  | brk => exact h.elim
  | cnt => exact h.elim
  | exc => exact h.elim
  | stuck => exact h.elim
/-- a way to call: what it binds -/
structure KwOk (K : PySem.W.Frag) (fa : Nat → Option Addr) (fd : FuncData) (ps : List Str) (k : Kw) : Prop where
  ex : ∃ (its : List Value) (dvs : List V), Vals dvs its ∧ (∀ ρ H, Clear K ρ → RpAll K fa H ρ dvs (k.dv.map Fl.d)) ∧
    ∀ (s : Shared) (us ws out : List Value), K.In s.heap → us.length = k.n → ws.length = k.ks.length → pickN k.how (us ++ ws ++ its) = some out → BindsTo s fd ⟨us, k.ks.zip ws⟩ (ps.zip out)
/-- a def of the law: its function object, its text checked -/
structure DfOk (K : PySem.W.Frag) (fa : Nat → Option Addr) (names : List Str) (gls : List (Str × D)) (bts : Bs) (f : Nat) (F : Fn) (a : Addr) : Prop where
  ex : ∃ (ps N : List Str) (x qual : Str) (params : Arguments) (text : List Stmt) (sc : Scope) (dvs : List V) (kws : List (Str × V)) (fd : FuncData), FunD K x qual params text sc dvs kws a fd ∧ FnScope N ps sc ∧ ps.length = F.np ∧ N.length = F.n ∧
    (∀ (s : Shared) (us : List Value), K.In s.heap → us.length = ps.length → BindsTo s fd ⟨us, []⟩ (ps.zip us)) ∧ (∀ k ∈ bts.kws, k.f = f → KwOk K fa fd ps k) ∧ chkCs ⟨N, sc, fun _ => true, names, gls, bts⟩ F.body text = true
/-- what the top leaves -/
structure TopOk (K : PySem.W.Frag) (w : World) (fa : Nat → Option Addr) (mg : Str → Option Value) (names : List Str) (gls : List (Str × D)) (bts : Bs) (Fs : List Fn) : Prop where
  defs : ∀ (f : Nat) (F : Fn) (a : Addr), Fs[f]? = some F → fa f = some a → DfOk K fa names gls bts f F a
  fns : ∀ (f : Nat) (x : Str), names[f]? = some x → ∃ a, mg x = some (.ref a) ∧ fa f = some a ∧ PySem.W.keepIn K (.ref a) = true
  gls : ∀ (x : Str) (d : D), (x, d) ∈ gls → ∃ (u : Value) (v : V), mg x = some u ∧ RelV v u ∧ ∀ ρ H, Clear K ρ → Rp K fa H ρ v d
  bts : ∀ x : Str, x ∈ bts.l → mg x = none
  sys : K.lookup sysModules ≠ none
  tabs : ∀ (j : Nat) (a : Addr), fa (1000 + j) = some a → ∃ es n, KDict K w a es n
theorem start_env {H : Hp} {ρ : List Addr} {N : List Str} {vs : List V} {ds : List D} {n : Nat} (r : RpAll K fa H ρ vs ds) (hl : N.length = n) (hp : ds.length ≤ n) : EnvR K fa H ρ (L2.start N vs) (ds.map some ++ List.replicate (n - ds.length) none) := by
  have h1 := r.len
  refine ⟨by unfold L2.start; simp [h1, hl], fun i d q => ?_⟩
  by_cases hi : i < ds.length
  · rw [List.getElem?_append_left (by simpa using hi)] at q
    have q' : ds[i]? = some d := by
      rw [List.getElem?_map] at q
      cases e : ds[i]? with
      | none => rw [e] at q; cases q
      | some d' => rw [e] at q; cases q; rfl
    obtain ⟨v, e1, e2⟩ := r.get q'
    refine ⟨v, ?_, e2⟩
    unfold L2.start
    rw [List.getElem?_append_left (by rw [List.length_map, h1]; exact hi), List.getElem?_map, e1]
    rfl
  · rw [List.getElem?_append_right (by simpa using hi), List.getElem?_replicate] at q
    split at q <;> cases q
variable {P : Program} {w : World} {mg : Str → Option Value} {base : Heap} {names : List Str} {gls : List (Str × D)} {bts : Bs} {Fs : List Fn}
/-- what a call leaves -/
def CallEnd (P : Program) (w : World) (outer : List PySem.Env) (H : Hp) (s : Shared) (Q : VK) (r : Result) (s' : Shared) : Prop := match r with
  | .ok (.ret u) => CE outer P w H s Q u s'
  | _ => False
/-- calls to a depth are right, by places and by keywords -/
def Calls (P : Program) (w : World) (K : PySem.W.Frag) (fa : Nat → Option Addr) (mg : Str → Option Value) (base : Heap) (bts : Bs) (Fs : List Fn) (k : Nat) : Prop := ∀ X : Cx, X.prog = P → X.w = w → X.K = K → X.mg = mg → X.base = base → Room k X.A → X.A.guards = some [] →
  (∀ (f : Nat) (a : Addr), fa f = some a → CallR X (.ref a) (rBt X.K fa (callN Fs k f))) ∧
  ∀ (kw : Kw), kw ∈ bts.kws → ∀ (a : Addr), fa kw.f = some a → ∀ (pins : List (Addr × Obj)) (s : Shared) (σ : L2.St) (H : Hp) (vs zs : List V) (us ws : List Value) (Q : VK), Inv X pins σ H s → Vals vs us → Vals zs ws → us.length = kw.n → ws.length = kw.ks.length → rKw X.K fa (callN Fs k) kw vs zs H Q →
    wpAny (model X.prog X.w) X.A (PySem.call (.ref a) us (kw.ks.zip ws)) (EP X pins σ Q) X.xe s
theorem pick_rel {H : Hp} {ρ : List Addr} : ∀ {how : List Nat} {ds out : List D} {vs : List V} {us : List Value}, RpAll K fa H ρ vs ds → Vals vs us → pickN how ds = some out → ∃ vo uo, pickN how us = some uo ∧ RpAll K fa H ρ vo out ∧ Vals vo uo
  | [], ds, out, vs, us, _, _, h => by
    cases h
    exact ⟨[], [], rfl, .nil, .nil⟩
  | i :: how, ds, out, vs, us, r, v, h => by
    simp only [pickN] at h
    cases q : ds[i]? with
    | none => rw [q] at h; cases h
    | some d =>
      rw [q] at h
      simp only at h
      cases q2 : pickN how ds with
      | none => rw [q2] at h; cases h
      | some o2 =>
        rw [q2] at h
        cases h
        obtain ⟨x, e1, e2⟩ := r.get q
        obtain ⟨u, e3, e4⟩ := v.get e1
        obtain ⟨vo, uo, h1, h2, h3⟩ := pick_rel r v q2
        refine ⟨x :: vo, u :: uo, ?_, .cons e2 h2, .cons e4 h3⟩
        simp only [pickN, e3, h1, Option.map_some]
/-- a def's run, its values bound -/
theorem run_core (T : TopOk K w fa mg names gls bts Fs) {k f : Nat} {a : Addr} {F : Fn} (hF : Fs[f]? = some F) {ps N : List Str} {x qual : Str} {params : Arguments} {text : List Stmt} {sc : Scope} {dvs : List V} {kws : List (Str × V)} {fd : FuncData}
    (FD : FunD K x qual params text sc dvs kws a fd) (SC : FnScope N ps sc) (lp : ps.length = F.np) (lN : N.length = F.n) (chk : chkCs ⟨N, sc, fun _ => true, names, gls, bts⟩ F.body text = true)
    (ih : Calls P w K fa mg base bts Fs k)
    {A : Around} {outer : List PySem.Env} {s : Shared} {H : Hp} {args : Args} {us : List Value} {vs : List V} {Q : VK} {ρ : List Addr} {S : Store} {ds : List D} (hr : Room (k + 1) A) (hgd : A.guards = some []) (e0 : Env0 P w K mg base A outer s H) (r : Vals vs us)
    (rel : Rel K fa ρ S H) (ra : RpAll K fa H ρ vs ds) (bnd : K.In s.heap → us.length = ps.length → BindsTo s fd args (ps.zip us)) (hq : Post K fa (rD K fa) ρ H Q (callN Fs (k + 1) f ds S)) : codeAny (model P w) A (.call (.ref a) args) (CallEnd P w outer H s Q) s := by
  simp only [callN] at hq
  rw [hF] at hq
  simp only at hq
  cases hl : decide (ds.length = F.np) with
  | false => rw [hl] at hq; exact hq.elim
  | true =>
  rw [hl] at hq
  simp only at hq
  have hnp := bdec hl
  obtain ⟨oc, od, dV, kV, doc, pm, an, cdv, ct, osl, rfl, lk, hcd, _, _⟩ := FD.ex
  have inH : K.In s.heap := e0.mod.kin.keeps fun b o e => (e0.bs b o e).1
  have lv : vs.length = ps.length := by rw [ra.len, hnp, lp]
  have lu : us.length = ps.length := by rw [← r.length, lv]
  have kinds : ∀ y ∈ ps.zip us, sc.names.lookup y.1 = some .local ∨ (sc.names.lookup y.1 = some .cell ∧ ((cellsFrom (s.heap.objs.size + 1) sc.names []).lookup y.1).isSome = true) := fun y hy => by
    rcases SC.par y.1 (List.of_mem_zip (a := y.1) (b := y.2) hy).1 with q | q
    · exact .inl q
    · exact .inr ⟨q, PySem.W.cellsFrom_some _ _ _ (.inl q)⟩
  refine codeAny_call_function hr.depth (inH _ _ lk) rfl SC.co SC.gen rfl (PySem.W.codeRec_of inH hcd) (bnd inH lu _ _ _ _ ?_)
  refine wpAny_newFunctionEnv_cells SC.kind kinds fun env he s1 st => ?_
  subst he
  refine ⟨(e0.mod.nolimit.keeps fun b o e => (e0.bs b o e).1).keeps st.toInCall.keep, codeAny_func ?_⟩
  have I0 := inv_start (CX := fun _ _ _ _ _ _ => False) (E := fun _ _ _ => False) (cd := cdv) (f := a) (qual := qual) SC hr.hd e0 lv r st
  have I := I0.wish fun _ _ => False
  have rk := hr.deeper (PyProof.Rows.envOfC qual sc s.heap.objs.size a cdv)
  have hs : Has ((cxOf (fun _ _ _ _ _ _ => False) P w K mg base N qual sc a cdv A outer s H (fun _ _ _ => False)).wish fun _ _ => False) ⟨N, sc, fun _ => true, names, gls, bts⟩ fa (callN Fs k) :=
    ⟨rfl, rfl, rfl, ⟨rfl, T.sys, by have := rk.un; show A.units + 3 + 200 < cLine; have : A.units + 3 + 16 * k + 200 < cLine := this; omega, hgd, T.tabs⟩, SC.nd, T.fns, T.gls, T.bts,
      fun X' h1 h2 h3 h4 h5 h6 f a e => (ih X' h1 h2 h3 h4 h5 (by rw [h6]; exact rk) (by rw [h6]; exact hgd)).1 f a e,
      fun X' h1 h2 h3 h4 h5 h6 kw hk a e => (ih X' h1 h2 h3 h4 h5 (by rw [h6]; exact rk) (by rw [h6]; exact hgd)).2 kw hk a e, PassesOwn.never⟩
  have main := sndcs hs F.body chk (L2.start N vs) H ρ _ S { nx := fun _ H' => Q .non H', rt := Q } rel (start_env ra lN (by rw [hnp, ← lp, ← lN]; have := congrArg List.length SC.pre; rw [List.length_take] at this; omega)) (by rw [hnp]; exact outQ_post rel hq)
  refine wpAny_mono (main [] s1 I) (fun fl s' q => ?_) fun e s' q => q.elim
  cases fl with
  | ret u =>
    obtain ⟨v, σ', H', J, rv, q⟩ := q
    exact ⟨v, H', J.os, J.bare, J.base, J.hok, rv, q⟩
  | next =>
    obtain ⟨σ', H', J, q⟩ := q
    exact ⟨.non, H', J.os, J.bare, J.base, J.hok, rfl, q⟩
  | brk => obtain ⟨_, _, _, q⟩ := q; exact q.elim
  | cont => obtain ⟨_, _, _, q⟩ := q; exact q.elim
theorem callN_fn {k f : Nat} {H : Hp} {ρ : List Addr} {S : Store} {ds : List D} {Q : VK} (hq : Post K fa (rD K fa) ρ H Q (callN Fs (k + 1) f ds S)) : ∃ F, Fs[f]? = some F := by
  simp only [callN] at hq
  cases hF : Fs[f]? with
  | none => rw [hF] at hq; exact hq.elim
  | some F => exact ⟨F, rfl⟩
theorem run_def (T : TopOk K w fa mg names gls bts Fs) {k f : Nat} {a : Addr} (hfa : fa f = some a)
    (ih : Calls P w K fa mg base bts Fs k)
    {A : Around} {outer : List PySem.Env} {s : Shared} {H : Hp} {us : List Value} {vs : List V} {Q : VK} {ρ : List Addr} {S : Store} {ds : List D} (hr : Room (k + 1) A) (hgd : A.guards = some []) (e0 : Env0 P w K mg base A outer s H) (r : Vals vs us)
    (rel : Rel K fa ρ S H) (ra : RpAll K fa H ρ vs ds) (hq : Post K fa (rD K fa) ρ H Q (callN Fs (k + 1) f ds S)) : codeAny (model P w) A (.call (.ref a) ⟨us, []⟩) (CallEnd P w outer H s Q) s := by
  obtain ⟨F, hF⟩ := callN_fn hq
  obtain ⟨ps, N, x, qual, params, text, sc, dvs, kws, fd, FD, SC, lp, lN, bnd, _, chk⟩ := (T.defs f F a hF hfa).ex
  exact run_core T hF FD SC lp lN chk ih hr hgd e0 r rel ra (fun h l => bnd s us h l) hq
theorem run_defk (T : TopOk K w fa mg names gls bts Fs) {k : Nat} {kw : Kw} (hm : kw ∈ bts.kws) {a : Addr} (hfa : fa kw.f = some a)
    (ih : Calls P w K fa mg base bts Fs k)
    {A : Around} {outer : List PySem.Env} {s : Shared} {H : Hp} {us ws : List Value} {vs zs : List V} {Q : VK} (hr : Room (k + 1) A) (hgd : A.guards = some []) (e0 : Env0 P w K mg base A outer s H) (r : Vals vs us) (rz : Vals zs ws) (l1 : us.length = kw.n) (l2 : ws.length = kw.ks.length)
    (h : rKw K fa (callN Fs (k + 1)) kw vs zs H Q) : codeAny (model P w) A (.call (.ref a) ⟨us, kw.ks.zip ws⟩) (CallEnd P w outer H s Q) s := by
  obtain ⟨ρ, S, ds, kds, rel, ra, rk, hq⟩ := h
  cases q : pickN kw.how (ds ++ kds ++ kw.dv.map Fl.d) with
  | none => rw [q] at hq; exact hq.elim
  | some out =>
  rw [q] at hq
  obtain ⟨F, hF⟩ := callN_fn hq
  obtain ⟨ps, N, x, qual, params, text, sc, dvs, kws, fd, FD, SC, lp, lN, _, kbnd, chk⟩ := (T.defs kw.f F a hF hfa).ex
  obtain ⟨its, dv, v1, v2, v3⟩ := (kbnd kw hm rfl).ex
  obtain ⟨vo, uo, h1, h2, h3⟩ := pick_rel ((ra.append rk).append (v2 ρ H rel.clear)) ((r.append rz).append v1) q
  exact run_core T hF FD SC lp lN chk ih hr hgd e0 h3 rel h2 (fun hI _ => v3 s us ws uo hI l1 l2 h1) hq
/-- calls, to any depth -/
theorem calls_ok (T : TopOk K w fa mg names gls bts Fs) : ∀ (k : Nat), Calls P w K fa mg base bts Fs k
  | 0 => fun X _ _ _ _ _ _ _ => ⟨fun f a _ => by
    intro pins s σ H xs us Q I r h
    obtain ⟨ρ, S, ds, _, _, h⟩ := h
    exact h.elim, fun kw hm a e pins s σ H vs zs us ws Q I r rz l1 l2 h => by
    obtain ⟨ρ, S, ds, kds, _, _, _, h⟩ := h
    cases q : pickN kw.how (ds ++ kds ++ kw.dv.map Fl.d) with
    | none => rw [q] at h; exact h.elim
    | some out => rw [q] at h; exact h.elim⟩
  | k + 1 => by
    intro X h1 h2 h3 h4 h5 hr hg
    have ih := calls_ok T k
    subst h1 h2 h3 h4 h5
    refine ⟨fun f a e => ?_, fun kw hm a e pins s σ H vs zs us ws Q I r rz l1 l2 h => ?_⟩
    · intro pins s σ H xs us Q I r h
      obtain ⟨ρ, S, ds, rel, ra, hq⟩ := h
      refine wpAny_call (codeAny_mono (run_def T e ih hr hg I.env0 r rel ra hq) fun r s' q => ?_)
      cases r with
      | error => exact q.elim
      | ok fl =>
        cases fl with
        | ret u => exact I.after q
        | next => exact q.elim
        | brk => exact q.elim
        | cont => exact q.elim
    · refine wpAny_call (codeAny_mono (run_defk T hm e ih hr hg I.env0 r rz l1 l2 h) fun r s' q => ?_)
      cases r with
      | error => exact q.elim
      | ok fl =>
        cases fl with
        | ret u => exact I.after q
        | next => exact q.elim
        | brk => exact q.elim
        | cont => exact q.elim
end
end MP
end
section
set_option maxRecDepth 100000
/-! EvZa: a law's call, from the table's answer. -/
namespace MP
open PySem L2
section
variable {K : PySem.W.Frag} {fa : Nat → Option Addr} {P : Program} {w : World} {mg mb : Str → Option Value} {names : List Str} {gls : List (Str × D)} {bts : Bs} {Fs : List Fn}
theorem rp_ints {H : Hp} {ρ : List Addr} : ∀ ns : List Int, RpAll K fa H ρ (ns.map V.int) (ns.map D.int)
  | [] => .nil
  | n :: ns => .cons (.int n) (rp_ints ns)
/-- the script alone may be tracked, for good -/
def Lone (K : PySem.W.Frag) (a : Addr) (H : Hp) : Prop := ∀ b, H b = none ∨ (b = a ∧ K.lookup a = none ∧ ∃ o xs, H b = some (.frz o (.lst xs)))
def lay (a : Addr) (vs : List Value) (ns : List Int) : Hp := fun b => if b = a then some (HO.frz { cls := .type "list", data := .seq vs.toArray } (.lst (ns.map V.int))) else none
theorem law_end {k f : Nat} {a g : Addr} {t : Shared} {vs : List Value} {ns : List Int} {S' : Store} (kin : K.In t.heap) (ng : t.heap.Ns mainGlobals mg) (nb : t.heap.Ns builtinsNs mb) (bb : ∀ x : Str, x ≠ "__name__" → mb x = bootBuiltins x) (lim : t.heap.NoLimit) (bare : t.gens = #[])
    (la : t.heap.get? a = some { cls := .type "list", data := .seq vs.toArray }) (iv : PyProof.Rows.IntsAre vs ns) (short : ns.length ≤ sizeLine) (room : Room (k + 1) callerA) (T : TopOk K w fa mg names gls bts Fs) (hfa : fa f = some g)
    (ans : callN Fs (k + 1) f [.row (ns.map D.int)] [] = .ok (.bl true) S') :
    codeAny (model P w) callerA (.call (.ref g) ⟨[.ref a], []⟩) (fun r t' => r = .ok (.ret (.bool true)) ∧ OldK t.heap t'.heap ∧ t'.os = t.os ∧ PyProof.Rows.AllBare t'.gens) t := by
  have main : ∀ H : Hp, Lone K a H → SqL K H a (ns.map V.int) → HOk P w H t.heap →
      codeAny (model P w) callerA (.call (.ref g) ⟨[.ref a], []⟩) (fun r t' => r = .ok (.ret (.bool true)) ∧ OldK t.heap t'.heap ∧ t'.os = t.os ∧ PyProof.Rows.AllBare t'.gens) t := fun H lone sq good => by
    have kept : ∀ {b : Addr} {o : Obj}, t.heap.get? b = some o → (b = a → K.lookup a = none → False) → (hidT t.heap H).get? b = some o := fun {b o} e no => by
      rcases lone b with z | ⟨z1, z2, _⟩
      · exact hidT_get e z
      · exact (no z1 z2).elim
    have spaces : ∀ {b : Addr} {m : Str → Option Value}, t.heap.Ns b m → (hidT t.heap H).Ns b m := fun {b m} h => by
      obtain ⟨o, es, ep, e, d, q⟩ := h
      refine ⟨o, es, ep, kept e fun z _ => ?_, d, q⟩
      rw [z, la] at e
      cases e
      cases d
    have kb : K.In (hidT t.heap H) := fun b o e => kept (kin b o e) fun z1 z2 => by
      rw [z1, z2] at e
      cases e
    have env : Env0 P w K mg (hidT t.heap H) callerA [] t H :=
      { frames := rfl
        mod := ⟨kb, spaces ng, ⟨mb, spaces nb, bb⟩, by obtain ⟨mc, l1, l2⟩ := lim; exact ⟨mc, spaces l1, l2⟩⟩
        bs := fun b o e => of_hidT e
        bsz := Nat.le_of_eq (hidT_size _ _)
        funs := trivial
        frf := fun b hb => nomatch hb
        hok := good
        bare := .of_eq bare }
    have rel : Rel K fa [] [] H := ⟨rfl, List.nodup_nil, fun _ _ _ => List.not_mem_nil, fun n c b e => nomatch e⟩
    have ra : RpAll K fa H [] [.ref a] [.row (ns.map D.int)] := .cons (.row sq List.not_mem_nil (rp_ints ns)) .nil
    have post : Post K fa (rD K fa) [] H (fun v _ => v = .bl true) (callN Fs (k + 1) f [.row (ns.map D.int)] []) := by
      rw [ans]
      exact fun ρ' H' v _ _ p => rp_bl p
    refine codeAny_mono (run_def T hfa (calls_ok T k) room rfl env (vs := [.ref a]) (.cons (show RelV (.ref a) (.ref a) from rfl) .nil) rel ra post) fun r t' q => ?_
    cases r with
    | error => exact q.elim
    | ok fl =>
      cases fl with
      | next => exact q.elim
      | brk => exact q.elim
      | cont => exact q.elim
      | ret u =>
        obtain ⟨v, H', os, br, un, good', rv, qv⟩ := q
        have qv : v = .bl true := qv
        subst qv
        obtain rfl : u = Value.bool true := rv
        refine ⟨rfl, OldK.of_keep fun b o e => ?_, os, br⟩
        rcases lone b with z | ⟨_, _, ob, xs, z⟩
        · exact un.keep b o e z (fun m => nomatch m) (fun m => nomatch m)
        · have z2 := un.frzs b ob _ z
          obtain ⟨e1, _⟩ := good b _ z
          obtain ⟨e2, _⟩ := good' b _ z2
          rw [e] at e1
          cases e1
          exact e2
  have rv := vals_ints iv
  have lv := iv.length
  cases hk : K.lookup a with
  | some o =>
    have e := kin a o hk
    rw [la] at e
    cases e
    exact main (fun _ => none) (fun _ => .inl rfl) (.inr ⟨_, vs.toArray, _, hk, rfl, rfl, rfl, by rw [List.size_toArray, lv]; exact short, by simpa using rv⟩) (fun b u z => nomatch (show (none : Option HO) = some u from z))
  | none =>
    have at_a : ∀ b : Addr, b = a → lay a vs ns b = some (HO.frz { cls := .type "list", data := .seq vs.toArray } (.lst (ns.map V.int))) := fun b z => if_pos z
    have off : ∀ b : Addr, ¬ b = a → lay a vs ns b = none := fun b z => if_neg z
    refine main (lay a vs ns) (fun b => ?_) (.inl (.inr ⟨_, at_a a rfl⟩)) fun b u z => ?_
    · by_cases h : b = a
      · exact .inr ⟨h, hk, _, _, at_a b h⟩
      · exact .inl (off b h)
    · by_cases h : b = a
      · rw [at_a b h] at z
        cases z
        subst h
        exact ⟨la, by rw [List.length_map]; exact short, vs, _, rv, la⟩
      · rw [off b h] at z
        cases z
/-- a law, from its head's facts -/
theorem law_walk {l : PySem.W.OpenLaw} {k f : Nat} {q : Program} {loose : List Str} {XP : (Str → Option Value) → Heap → Prop} {YP : World → Heap → Prop} {d : DefRec} (hn : l.most = some 63) (hdf : d.params.defaults = []) (room : Room (k + 1) callerA)
    (F : ∀ (w : World) (mg : Str → Option Value) (g : Addr) (h : Heap), YP w h → h.Ns mainGlobals mg → mg d.name = some (.ref g) → ∃ (K : PySem.W.Frag) (fa : Nat → Option Addr), K.In h ∧ fa f = some g ∧ TopOk K w fa mg names gls bts Fs)
    (ans : ∀ ns : List Int, ns.length ≤ 63 → ∃ S', callN Fs (k + 1) f [.row (ns.map D.int)] [] = .ok (.bl true) S') :
    PySem.W.WalkO q loose XP YP l.row.toRowW d [] (fun f vs => PySem.call f vs) := by
  refine Att.attach_call hn hdf fun w s₀ t mg mb g o pm cd doc a vs ns G Y ho hd hcd hmg hobj hints hlen hg => ?_
  obtain ⟨K, fa, kin, hfa, T⟩ := F w mg g _ Y G.T.g hmg
  obtain ⟨S', e⟩ := ans ns hlen
  exact law_end kin G.T.g G.T.b G.T.builtins G.T.nolimit hg hobj hints (Nat.le_trans hlen (by rw [sizeLine_eq]; decide)) room T hfa e
end
end MP
end
section
set_option maxRecDepth 100000
/-! EvZb: what a head is to show of the top's end. -/
namespace MP
open PySem L2
/-! ### a module's constants -/
/-- a written table: its name, its keys -/
abbrev Tb : Type := Str × List Str
def flB (K : PySem.W.Frag) (names : List Str) (u : Value) : Fl → Bool
  | .non => match u with
    | .none => true
    | _ => false
  | .bl b => match u with
    | .bool c => b == c
    | _ => false
  | .int i => match u with
    | .int j _ => decide (i = j)
    | _ => false
  | .str x => match u with
    | .str y _ => decide (y = ⟨x.toArray⟩) && decide (x.length ≤ most)
    | _ => false
  | .fn f => match u with
    | .ref a => match names[f]? with
      | some x => decide (He.ga K x = a) && decide (f < 1000)
      | none => false
    | _ => false
def keyB (kvs : List (List Nat × Fl)) (e : DictEntry) : Bool := match e.key with
  | .str x _ => kvs.any fun p => decide (x = ⟨p.1.toArray⟩)
  | _ => false
def tabB (K : PySem.W.Frag) (names : List Str) (a : Addr) (kvs : List (List Nat × Fl)) : Bool := (match K.lookup a with
    | some ⟨_, _, .dict es _, _⟩ => es.toList.all (keyB kvs)
    | _ => false) && kvs.all fun p => match PySem.W.nsIn K a ⟨p.1.toArray⟩ with
  | some (some u) => flB K names u p.2
  | _ => false
mutual
def dB (K : PySem.W.Frag) (names : List Str) (tabs : List Tb) : Value → D → Bool
  | u, .non => match u with
    | .none => true
    | _ => false
  | u, .bl b => match u with
    | .bool c => b == c
    | _ => false
  | u, .int i => match u with
    | .int j _ => decide (i = j)
    | _ => false
  | u, .str x => match u with
    | .str y _ => decide (y = ⟨x.toArray⟩) && decide (x.length ≤ most)
    | _ => false
  | u, .tup ds => match u with
    | .ref a => match K.lookup a with
      | some ⟨.type c, _, .seq its _, _⟩ => decide (c = "tuple") && (decide (its.size ≤ sizeLine) && dBs K names tabs its.toList ds)
      | _ => false
    | _ => false
  | u, .row ds => match u with
    | .ref a => match K.lookup a with
      | some ⟨.type c, none, .seq its _, _⟩ => decide (c = "list") && (decide (its.size ≤ sizeLine) && dBs K names tabs its.toList ds)
      | _ => false
    | _ => false
  | u, .fn f => match u with
    | .ref a => match names[f]? with
      | some x => decide (He.ga K x = a) && decide (f < 1000)
      | none => false
    | _ => false
  | u, .tab j kvs => match u with
    | .ref a => match tabs[j]? with
      | some x => decide (He.ga K x.1 = a) && tabB K names a kvs
      | none => false
    | _ => false
  | _, .lst _ => false
  | _, .dct _ => false
  | _, .ref _ => false
def dBs (K : PySem.W.Frag) (names : List Str) (tabs : List Tb) : List Value → List D → Bool
  | us, [] => match us with
    | [] => true
    | _ => false
  | us, d :: ds => match us with
    | u :: us => dB K names tabs u d && dBs K names tabs us ds
    | [] => false
end
/-- where the defs lie -/
def fas (K : PySem.W.Frag) (names : List Str) (tabs : List Tb) : Nat → Option Addr := fun f => match decide (f < 1000) with
  | true => (names[f]?).map (He.ga K)
  | false => (tabs[f - 1000]?).map fun t => He.ga K t.1
section
variable {K : PySem.W.Frag} {names : List Str} {tabs : List Tb}
theorem fas_fn {f : Nat} {x : Str} (h : f < 1000) (e : names[f]? = some x) : fas K names tabs f = some (He.ga K x) := by
  unfold fas
  rw [decide_eq_true h]
  simp [e]
theorem fas_tab {j : Nat} {x : Tb} (e : tabs[j]? = some x) : fas K names tabs (1000 + j) = some (He.ga K x.1) := by
  unfold fas
  rw [decide_eq_false (show ¬ 1000 + j < 1000 by omega)]
  simp [e]
theorem flB_ok {f : Fl} {u : Value} (h : flB K names u f = true) : ∃ v, RelV v u ∧ FlV (fas K names tabs) v f := by
  cases f with
  | non => cases u <;> first | exact ⟨.non, rfl, rfl⟩ | cases h
  | bl b =>
    cases u <;> try (cases h; done)
    have e := eq_of_beq (show (b == _) = true from h)
    subst e
    exact ⟨.bl b, rfl, rfl⟩
  | int i =>
    cases u <;> try (cases h; done)
    have e := bdec h
    subst e
    exact ⟨.int i, ⟨_, rfl⟩, rfl⟩
  | str x =>
    cases u <;> try (cases h; done)
    obtain ⟨h1, h2⟩ := and_tt (show (decide (_ = (⟨x.toArray⟩ : Str)) && decide (x.length ≤ most)) = true from h)
    have e := bdec h1
    subst e
    exact ⟨.str ⟨x.toArray⟩, ⟨_, rfl⟩, rfl, line_of (bdec h2)⟩
  | fn f =>
    simp only [flB] at h
    split at h
    · split at h
      · rename_i a x e
        obtain ⟨h1, h2⟩ := and_tt h
        have e2 := bdec h1
        subst e2
        exact ⟨.ref _, rfl, _, rfl, fas_fn (bdec h2) e⟩
      · cases h
    · cases h
theorem lookup_mem {k : List Nat} {f : Fl} : ∀ {kvs : List (List Nat × Fl)}, kvs.lookup k = some f → (k, f) ∈ kvs
  | [], h => by cases h
  | (k', f') :: kvs, h => by
    rw [List.lookup_cons] at h
    split at h
    · rename_i e
      have e := eq_of_beq e
      cases h
      subst e
      exact List.mem_cons_self
    · exact List.mem_cons_of_mem _ (lookup_mem h)
theorem lookup_none {k : List Nat} : ∀ {kvs : List (List Nat × Fl)}, kvs.lookup k = none → ∀ p ∈ kvs, p.1 ≠ k
  | [], _, p, hp => by cases hp
  | (k', f') :: kvs, h, p, hp => by
    rw [List.lookup_cons] at h
    split at h
    · cases h
    · rename_i e
      rcases List.mem_cons.mp hp with z | z
      · subst z
        intro q
        have : (k == k') = true := by rw [← q]; exact beq_self_eq_true _
        rw [this] at e; cases e
      · exact lookup_none h p z
theorem tabB_ok {a : Addr} {kvs : List (List Nat × Fl)} (h : tabB K names a kvs = true) : TabOk K (fas K names tabs) a kvs := by
  obtain ⟨h1, h2⟩ := and_tt h
  refine ⟨fun k f e => ?_, fun k e => ?_⟩
  · have h3 := List.all_eq_true.mp h2 _ (lookup_mem e)
    simp only at h3
    split at h3
    · rename_i u q
      obtain ⟨v, r1, r2⟩ := flB_ok (tabs := tabs) h3
      exact ⟨u, v, q, r1, r2⟩
    · cases h3
  · split at h1
    · rename_i c d es n sl lk
      have hk : ∀ e' ∈ es.toList, ∃ x t, e'.key = .str x t ∧ x ≠ ⟨k.toArray⟩ := fun e' he => by
        have h3 := List.all_eq_true.mp h1 e' he
        unfold keyB at h3
        split at h3
        · rename_i x t q
          obtain ⟨p, hp, h4⟩ := List.any_eq_true.mp h3
          have h5 := bdec h4
          refine ⟨x, t, q, fun z => lookup_none e p hp ?_⟩
          rw [h5] at z
          have := Str.mk.inj z
          have := congrArg Array.toList this
          simpa using this
        · cases h3
      unfold PySem.W.nsIn
      rw [lk]
      simp only
      have hf : es.toList.find? (fun d => d.key.isStr ⟨k.toArray⟩) = none := List.find?_eq_none.mpr fun e' he => by
        obtain ⟨x, t, q, ne⟩ := hk e' he
        rw [q]
        simp [Value.isStr, ne]
      have ha : es.toList.any (fun d => d.refKey) = false := List.any_eq_false.mpr fun e' he => by
        obtain ⟨x, t, q, ne⟩ := hk e' he
        simp [DictEntry.refKey, q]
      rw [hf]
      simp only
      rw [ha]
      rfl
    · cases h1
mutual
theorem dB_ok : ∀ {d : D} {u : Value}, dB K names tabs u d = true → ∃ v, RelV v u ∧ ∀ ρ H, Clear K ρ → Rp K (fas K names tabs) H ρ v d
  | .non, u, h => by
    cases u <;> try (cases h; done)
    exact ⟨.non, rfl, fun _ _ _ => .non⟩
  | .bl b, u, h => by
    cases u <;> try (cases h; done)
    have e := eq_of_beq (show (b == _) = true from h)
    subst e
    exact ⟨.bl b, rfl, fun _ _ _ => .bl b⟩
  | .int i, u, h => by
    cases u <;> try (cases h; done)
    have e := bdec h
    subst e
    exact ⟨.int i, ⟨_, rfl⟩, fun _ _ _ => .int i⟩
  | .str x, u, h => by
    cases u <;> try (cases h; done)
    obtain ⟨h1, h2⟩ := and_tt (show (decide (_ = (⟨x.toArray⟩ : Str)) && decide (x.length ≤ most)) = true from h)
    have e := bdec h1
    subst e
    exact ⟨.str ⟨x.toArray⟩, ⟨_, rfl⟩, fun _ _ _ => .str x (line_of (bdec h2))⟩
  | .tup ds, u, h => by
    simp only [dB] at h
    split at h
    · split at h
      · rename_i a _ c dd its n sl lk
        obtain ⟨h1, h2⟩ := and_tt h
        obtain ⟨h2, h3⟩ := and_tt h2
        obtain ⟨vs, r1, r2⟩ := dBs_ok h3
        have e := bdec h1
        subst e
        exact ⟨.ref a, rfl, fun ρ H cl => .tup (.inr ⟨_, its, n, lk, rfl, rfl, bdec h2, r1⟩) (cl a _ lk) (r2 ρ H cl)⟩
      · cases h
    · cases h
  | .row ds, u, h => by
    simp only [dB] at h
    split at h
    · split at h
      · rename_i a _ c its n sl lk
        obtain ⟨h1, h2⟩ := and_tt h
        obtain ⟨h2, h3⟩ := and_tt h2
        obtain ⟨vs, r1, r2⟩ := dBs_ok h3
        have e := bdec h1
        subst e
        exact ⟨.ref a, rfl, fun ρ H cl => .row (.inr ⟨_, its, n, lk, rfl, rfl, rfl, bdec h2, r1⟩) (cl a _ lk) (r2 ρ H cl)⟩
      · cases h
    · cases h
  | .fn f, u, h => by
    simp only [dB] at h
    split at h
    · split at h
      · rename_i a x e
        obtain ⟨h1, h2⟩ := and_tt h
        have e2 := bdec h1
        subst e2
        exact ⟨.ref _, rfl, fun ρ H cl => .fn (fas_fn (bdec h2) e)⟩
      · cases h
    · cases h
  | .tab j kvs, u, h => by
    simp only [dB] at h
    split at h
    · split at h
      · rename_i a x e
        obtain ⟨h1, h2⟩ := and_tt h
        have e2 := bdec h1
        subst e2
        exact ⟨.ref _, rfl, fun ρ H cl => .tab (fas_tab e) (tabB_ok h2)⟩
      · cases h
    · cases h
  | .lst _, u, h => by simp [dB] at h
  | .dct _, u, h => by simp [dB] at h
  | .ref _, u, h => by simp [dB] at h
theorem dBs_ok : ∀ {ds : List D} {us : List Value}, dBs K names tabs us ds = true → ∃ vs, Vals vs us ∧ ∀ ρ H, Clear K ρ → RpAll K (fas K names tabs) H ρ vs ds
  | [], us, h => by
    cases us <;> try (cases h; done)
    exact ⟨[], .nil, fun _ _ _ => .nil⟩
  | d :: ds, us, h => by
    cases us with
    | nil => cases h
    | cons u us =>
    obtain ⟨h1, h2⟩ := and_tt (show (dB K names tabs u d && dBs K names tabs us ds) = true from h)
    obtain ⟨v, a1, a2⟩ := dB_ok h1
    obtain ⟨vs, b1, b2⟩ := dBs_ok h2
    exact ⟨v :: vs, .cons a1 b1, fun ρ H cl => .cons (a2 ρ H cl) (b2 ρ H cl)⟩
end
end
/-! ### a law's defs -/
structure Df where
  d : He.DefD
  ps : List Str
  N : List Str
  fn : Fn
def scB (N ps : List Str) (sc : Scope) : Bool := sc.kind == .function && (!sc.isCoroutine && (!sc.isGenerator && (decide N.Nodup && (decide (N.take ps.length = ps) && (ps.all (fun x => sc.names.lookup x == some .local || sc.names.lookup x == some .cell) && sc.names.all fun y => !(y.2 == .free))))))
theorem scB_ok {N ps : List Str} {sc : Scope} (h : scB N ps sc = true) : FnScope N ps sc := by
  obtain ⟨h1, h2'⟩ := and_tt h
  obtain ⟨h2, h3'⟩ := and_tt h2'
  obtain ⟨h3, h4'⟩ := and_tt h3'
  obtain ⟨h4, h5'⟩ := and_tt h4'
  obtain ⟨h5, h6'⟩ := and_tt h5'
  obtain ⟨h6, h7⟩ := and_tt h6'
  refine ⟨by simpa using h1, by simpa using h2, by simpa using h3, bdec h4, bdec h5, fun x hx => ?_, fun y hy e => ?_⟩
  · have := List.all_eq_true.mp h6 x hx
    simpa using this
  · have := List.all_eq_true.mp h7 y hy
    rw [e] at this
    simp at this
def Df.good (names : List Str) (gls : List (Str × D)) (bts : Bs) (x : Df) : Bool := scB x.N x.ps x.d.scope && (decide (x.ps.length = x.fn.np) && (decide (x.N.length = x.fn.n) && chkCs ⟨x.N, x.d.scope, fun _ => true, names, gls, bts⟩ x.fn.body x.d.body))
def Df.binds (x : Df) : Prop := match x.d.dfl with
  | [] => ∀ (kV doc pm : Value) (an : Option Addr) (cdv ct : Value) (us : List Value), us.length = x.ps.length → bindArgs (PySem.W.fnOf x.d.name x.d.qual x.d.params x.d.body x.d.scope .none kV doc pm an cdv ct) ⟨us, []⟩ = pure (x.ps.zip us)
  | _ :: _ => ∀ (T : Addr) (kV doc pm : Value) (an : Option Addr) (cdv ct : Value) (us its : List Value), us.length = x.ps.length → its.length = x.d.dfl.length →
    ∃ c, bindArgs (PySem.W.fnOf x.d.name x.d.qual x.d.params x.d.body x.d.scope (.ref T) kV doc pm an cdv ct) ⟨us, []⟩ = seqItems? (.ref T) >>= c ∧ c (some its.toArray) = pure (x.ps.zip us)
def dvF : He.Dv → Fl → Bool
  | .non, f => f == .non
  | .bl b, f => f == .bl b
  | .int i, f => f == .int i
  | .str x, f => match f with
    | .str y => decide (x = ⟨y.toArray⟩) && decide (y.length ≤ most)
    | _ => false
  | _, _ => false
def dvFs : List He.Dv → List Fl → Bool
  | [], fs => fs.isEmpty
  | v :: vs, fs => match fs with
    | f :: fs => dvF v f && dvFs vs fs
    | [] => false
theorem dvF_ok {K : PySem.W.Frag} {fa : Nat → Option Addr} {H : Hp} {ρ : List Addr} {v : He.Dv} {f : Fl} (h : dvF v f = true) : Rp K fa H ρ (v.v K) f.d := by
  cases v with
  | non => have e := eq_of_beq (show (f == Fl.non) = true from h); subst e; exact .non
  | bl b => have e := eq_of_beq (show (f == Fl.bl b) = true from h); subst e; exact .bl b
  | int i => have e := eq_of_beq (show (f == Fl.int i) = true from h); subst e; exact .int i
  | str x =>
    cases f <;> try (cases h; done)
    rename_i y
    obtain ⟨h1, h2⟩ := and_tt (show (decide (x = (⟨y.toArray⟩ : Str)) && decide (y.length ≤ most)) = true from h)
    have e := bdec h1
    subst e
    exact .str y (line_of (bdec h2))
  | _ => cases h
theorem dvFs_ok {K : PySem.W.Frag} {fa : Nat → Option Addr} {H : Hp} {ρ : List Addr} : ∀ {vs : List He.Dv} {fs : List Fl}, dvFs vs fs = true → RpAll K fa H ρ (vs.map (He.Dv.v K)) (fs.map Fl.d)
  | [], fs, h => by
    cases fs with
    | nil => exact .nil
    | cons => cases h
  | v :: vs, fs, h => by
    cases fs with
    | nil => cases h
    | cons f fs =>
      obtain ⟨h1, h2⟩ := and_tt (show (dvF v f && dvFs vs fs) = true from h)
      exact .cons (dvF_ok h1) (dvFs_ok h2)
/-- a way to call binds as it says -/
def Df.bindsK (x : Df) (k : Kw) : Prop := dvFs x.d.dfl k.dv = true ∧ match x.d.dfl with
  | [] => ∀ (kV doc pm : Value) (an : Option Addr) (cdv ct : Value) (us ws : List Value), us.length = k.n → ws.length = k.ks.length → match pickN k.how (us ++ ws) with
    | some out => bindArgs (PySem.W.fnOf x.d.name x.d.qual x.d.params x.d.body x.d.scope .none kV doc pm an cdv ct) ⟨us, k.ks.zip ws⟩ = pure (x.ps.zip out)
    | none => True
  | _ :: _ => ∀ (T : Addr) (kV doc pm : Value) (an : Option Addr) (cdv ct : Value) (us ws its : List Value), us.length = k.n → ws.length = k.ks.length → its.length = x.d.dfl.length → match pickN k.how (us ++ ws ++ its) with
    | some out => ∃ c, bindArgs (PySem.W.fnOf x.d.name x.d.qual x.d.params x.d.body x.d.scope (.ref T) kV doc pm an cdv ct) ⟨us, k.ks.zip ws⟩ = seqItems? (.ref T) >>= c ∧ c (some its.toArray) = pure (x.ps.zip out)
    | none => True
section
variable {K : PySem.W.Frag} {fa : Nat → Option Addr} {x : Df} {kws : List (Str × V)} {f : Addr} {fd : FuncData}
theorem Df.pos_ok (FD : FunD K x.d.name x.d.qual x.d.params x.d.body x.d.scope (x.d.dvs K) kws f fd) (hb : x.binds) (s : Shared) (us : List Value) (hI : K.In s.heap) (hl : us.length = x.ps.length) : BindsTo s fd ⟨us, []⟩ (x.ps.zip us) := by
  unfold Df.binds at hb
  unfold He.DefD.dvs at FD
  cases q : x.d.dfl with
  | nil =>
    rw [q] at FD hb
    exact FD.bindsA hb s us hl
  | cons v vs =>
    rw [q] at FD hb
    obtain ⟨oc, od, dV, kV, doc, pm, an, cdv, ct, osl, rfl, lk, hcd, hD, hK⟩ := FD.ex
    rcases hD with ⟨e, _⟩ | ⟨_, T, o, its, m, rfl, lT, oT, rT⟩
    · cases e
    · have l1 : its.length = (v :: vs).length := by rw [← rT.length, List.length_map]
      obtain ⟨c, e1, e2⟩ := hb T kV doc pm an cdv ct us its hl l1
      refine BindsTo.of_looks fun M => ?_
      rw [e1]
      exact looks_items hI lT oT (.of_pure e2)
theorem Df.kw_ok (FD : FunD K x.d.name x.d.qual x.d.params x.d.body x.d.scope (x.d.dvs K) kws f fd) {k : Kw} (hb : x.bindsK k) : KwOk K fa fd x.ps k := by
  obtain ⟨hd, hb⟩ := hb
  unfold He.DefD.dvs at FD
  cases q : x.d.dfl with
  | nil =>
    rw [q] at FD hb hd
    obtain ⟨oc, od, dV, kV, doc, pm, an, cdv, ct, osl, rfl, lk, hcd, hD, hK⟩ := FD.ex
    refine ⟨[], [], .nil, fun ρ H _ => dvFs_ok (K := K) (vs := []) hd, fun s us ws out hI l1 l2 e => ?_⟩
    rcases hD with ⟨_, rfl⟩ | ⟨e, _⟩
    · have h := hb kV doc pm an cdv ct us ws l1 l2
      rw [List.append_nil] at e
      rw [e] at h
      exact .of_eq h
    · exact absurd rfl e
  | cons v vs =>
    rw [q] at FD hb hd
    obtain ⟨oc, od, dV, kV, doc, pm, an, cdv, ct, osl, rfl, lk, hcd, hD, hK⟩ := FD.ex
    rcases hD with ⟨e, _⟩ | ⟨_, T, o, its, m, rfl, lT, oT, rT⟩
    · cases e
    · have l1 : its.length = (v :: vs).length := by rw [← rT.length, List.length_map]
      refine ⟨its, _, rT, fun ρ H _ => dvFs_ok hd, fun s us ws out hI h1 h2 e => ?_⟩
      have h := hb T kV doc pm an cdv ct us ws its h1 h2 l1
      rw [e] at h
      obtain ⟨c, e1, e2⟩ := h
      refine BindsTo.of_looks fun M => ?_
      rw [e1]
      exact looks_items hI lT oT (.of_pure e2)
end
abbrev AlM : Type := He.AlD × List (Option (List (Option (Str × Int))))
def okM (gls : List (Str × D)) (bts : Bs) (names : List Str) (tabs : List Tb) (fn : List He.DefD) (K : PySem.W.Frag) : Bool := (K.lookup sysModules).isSome && (bts.l.all (fun x => (He.Fa.free x).ok K) && (names.all (fun x => (He.Fa.glo x).ok K) && (decide (names.length ≤ 1000) &&
  (gls.all (fun p => match PySem.W.nsIn K mainGlobals p.1 with
    | some (some u) => dB K names tabs u p.2
    | _ => false) && fn.all fun d => d.ok K))))
def obsM (gls : List (Str × D)) (bts : Bs) (names : List Str) (tabs : List Tb) (fn : List He.DefD) (K : PySem.W.Frag) : AlM := ((okM gls bts names tabs fn K, fn.map fun d => He.fnW K d.at_), tabs.map fun t => He.dicW K (He.ga K t.1))
def valM (tabs : List Tb) (fn : List He.DefD) (w : World) : AlM := ((true, fn.map He.DefD.val), tabs.map fun t => some (He.keysIn w.params t.2))
def obsMG (n : Nat) (gls : List (Str × D)) (bts : Bs) (names : List Str) (tabs : List Tb) (fn : List He.DefD) (g : Addr → Option Obj) : AlM := obsM gls bts names tabs fn (He.frG g (sysModules :: He.asD g n))
def hookM (n : Nat) (gls : List (Str × D)) (bts : Bs) (names : List Str) (tabs : List Tb) (fn : List He.DefD) : PySem.W.Hook where
  α := AlM
  obs := fun s => obsMG n gls bts names tabs fn s.heap.get?
  val := fun w => valM tabs fn w
  says := fun w h => ∃ K : PySem.W.Frag, K.In h ∧ obsM gls bts names tabs fn K = valM tabs fn w
  of := fun _ _ e => ⟨_, He.frG_in, e⟩
  keeps := fun _ _ _ ⟨K, hK, c⟩ k => ⟨K, PySem.W.Frag.In.keeps hK k, c⟩
theorem obsMG_eq {n : Nat} {gls : List (Str × D)} {bts : Bs} {names : List Str} {tabs : List Tb} {fn : List He.DefD} {g : Addr → Option Obj} {s : Shared} (h : ∀ a, g a = s.heap.get? a) : obsMG n gls bts names tabs fn g = (hookM n gls bts names tabs fn).obs s := by
  have e : g = s.heap.get? := funext h
  rw [e] <;> rfl
theorem top_of {K : PySem.W.Frag} {h : Heap} {mg : Str → Option Value} {gls : List (Str × D)} {bts : Bs} {dfs : List Df} {tabs : List Tb} {w : World} (kin : K.In h) (ns : h.Ns mainGlobals mg)
    (hg : ∀ x ∈ dfs, x.good (dfs.map fun x => x.d.name) gls bts = true) (hb : ∀ x ∈ dfs, x.binds) (hbk : ∀ k ∈ bts.kws, ∀ x, dfs[k.f]? = some x → x.bindsK k) (hat : ∀ x ∈ dfs, x.d.at_ = (x.d.name, none)) (e : obsM gls bts (dfs.map fun x => x.d.name) tabs (dfs.map (·.d)) K = valM tabs (dfs.map (·.d)) w) :
    TopOk K w (fas K (dfs.map fun x => x.d.name) tabs) mg (dfs.map fun x => x.d.name) gls bts (dfs.map (·.fn)) := by
  have e0 : tabs.map (fun t => He.dicW K (He.ga K t.1)) = tabs.map fun t => some (He.keysIn w.params t.2) := congrArg Prod.snd e
  have e := congrArg Prod.fst e
  have e1 : okM gls bts (dfs.map fun x => x.d.name) tabs (dfs.map (·.d)) K = true := congrArg Prod.fst e
  have e2 : (dfs.map (·.d)).map (fun d => He.fnW K d.at_) = (dfs.map (·.d)).map He.DefD.val := congrArg Prod.snd e
  obtain ⟨o1, o2'⟩ := and_tt e1
  obtain ⟨o2, o3'⟩ := and_tt o2'
  obtain ⟨o3, o4'⟩ := and_tt o3'
  obtain ⟨oL, o4'⟩ := and_tt o4'
  obtain ⟨o4, o5⟩ := and_tt o4'
  have oL := bdec oL
  have names_ok : ∀ (f : Nat) (x : Str), (dfs.map fun x => x.d.name)[f]? = some x → mg x = some (.ref (He.ga K x)) ∧ fas K (dfs.map fun x => x.d.name) tabs f = some (He.ga K x) := fun f x q => by
    have hl := (List.getElem?_eq_some_iff.mp q).1
    exact ⟨He.glo_ok kin ns (List.all_eq_true.mp o3 x (List.mem_of_getElem? q)), fas_fn (by omega) q⟩
  have defs : ∀ (f : Nat) (x : Df), dfs[f]? = some x → ∃ fd, FunD K x.d.name x.d.qual x.d.params x.d.body x.d.scope (x.d.dvs K) (x.d.kws K) (He.ga K x.d.name) fd := fun f x q => by
    have hm := List.mem_of_getElem? q
    have q1 : ((dfs.map (·.d)).map fun d => He.fnW K d.at_)[f]? = ((dfs.map (·.d)).map He.DefD.val)[f]? := by rw [e2]
    simp only [List.getElem?_map, q, Option.map_some, Option.some.injEq] at q1
    obtain ⟨fd, F⟩ := He.DefD.funD q1 (List.all_eq_true.mp o5 x.d (List.mem_map.mpr ⟨x, hm, rfl⟩))
    rw [hat x hm] at F
    exact ⟨fd, F⟩
  refine ⟨fun f F a q1 q2 => ?_, fun f x q => ?_, fun x d hm => ?_, fun x hx => He.free_ok kin ns (List.all_eq_true.mp o2 x hx), fun z => (by rw [z] at o1; cases o1), fun j a q => ?_⟩
  · rw [List.getElem?_map] at q1
    cases q : dfs[f]? with
    | none => rw [q] at q1; cases q1
    | some x =>
    rw [q] at q1
    cases q1
    have hm := List.mem_of_getElem? q
    obtain ⟨fd, FD⟩ := defs f x q
    have q3 : (dfs.map fun x => x.d.name)[f]? = some x.d.name := by rw [List.getElem?_map, q]; rfl
    rw [(names_ok f _ q3).2] at q2
    cases q2
    obtain ⟨g1, g2'⟩ := and_tt (hg x hm)
    obtain ⟨g2, g3'⟩ := and_tt g2'
    obtain ⟨g3, g5⟩ := and_tt g3'
    exact ⟨x.ps, x.N, _, _, _, _, _, _, _, fd, FD, scB_ok g1, bdec g2, bdec g3, fun s us hI hl => Df.pos_ok FD (hb x hm) s us hI hl, fun k hk e => Df.kw_ok FD (hbk k hk x (by rw [e]; exact q)), g5⟩
  · have hx := names_ok f x q
    refine ⟨_, hx.1, hx.2, ?_⟩
    rw [List.getElem?_map] at q
    cases q' : dfs[f]? with
    | none => rw [q'] at q; cases q
    | some y =>
    rw [q'] at q
    cases q
    obtain ⟨fd, FD⟩ := defs f y q'
    exact FD.kp
  · have := List.all_eq_true.mp o4 (x, d) hm
    simp only at this
    cases q : PySem.W.nsIn K mainGlobals x with
    | none => rw [q] at this; cases this
    | some o =>
    rw [q] at this
    cases o with
    | none => cases this
    | some u =>
    obtain ⟨v, r1, r2⟩ := dB_ok this
    exact ⟨u, v, PySem.W.mg_of kin ns q, r1, r2⟩
  · have hj : ∃ t, tabs[j]? = some t ∧ He.ga K t.1 = a := by
      unfold fas at q
      rw [decide_eq_false (show ¬ 1000 + j < 1000 by omega)] at q
      simp only [Nat.add_sub_cancel_left] at q
      cases z : tabs[j]? with
      | none => rw [z] at q; cases q
      | some t => rw [z] at q; cases q; exact ⟨t, rfl, rfl⟩
    obtain ⟨t, h1, rfl⟩ := hj
    have e2 : (tabs.map fun t => He.dicW K (He.ga K t.1))[j]? = (tabs.map fun t => some (He.keysIn w.params t.2))[j]? := by rw [e0]
    rw [List.getElem?_map, List.getElem?_map, h1] at e2
    exact He.dicW_ok (Option.some.inj e2)
end MP
end
section
set_option maxRecDepth 100000
set_option maxHeartbeats 0
namespace LW
open PySem L2 MP
def t_0 : List (List Nat × Fl) := [([116, 105, 101], .int (1)), ([111, 110, 101], .int (1)), ([97, 108, 108], .int (2)), ([110, 111, 110, 101], .int (2)), ([98, 105, 110, 100], .int (2)), ([112, 97, 105, 114], .int (3)), ([109, 101, 110, 117], .int (2)), ([112, 105, 99, 107], .int (3)), ([107, 101, 101, 112], .int (2)), ([117, 115, 101], .int (2)), ([119, 97, 115, 116, 101], .int (2)), ([97, 103, 97, 105, 110], .int (2)), ([99, 117, 116], .int (3))]
def top (i : Nat) : Stmt := PySem.Challenge.pw_spendproofs_k40_measures.main.body.getD i (.Pass ⟨0, 0, 0, 0⟩)
/-- parts_of -/
def b_0 : List C := [
  (.ife (.cmp .isin (.idx (.var 0) (.lit (.int (0)))) (.glob "LEAVES" (.tup [.str [116, 104, 105, 110, 103], .str [100, 101, 98, 116]]))) [(.ret (.tup []))] []),
  (.ret (.slc false (.var 0) (some (.lit (.int (1)))) none))]
def f_0 : Fn := ⟨1, 1, false, b_0⟩
def x_0 : Df := ⟨⟨("parts_of", none), "parts_of", "parts_of", defArgs (top 2), defBody (top 2), defScope (top 2), [], []⟩, ([Str.ofString "saying"] : List Str), ([Str.ofString "saying"] : List Str), f_0⟩
theorem y_0 : x_0.binds := fun _ _ _ _ _ _ us hl => match us, hl with | [_], _ => rfl
/-- words_of -/
def b_1 : List C := [
  (.asg (.nm 1) (.lst true [(.idx (.var 0) (.lit (.int (0))))])),
  (.for_ (.nm 2) (.seq (.call 0 [(.var 0)])) [(.ex (.meth .extend (.var 1) [(.call 1 [(.var 2)])]))]),
  (.ret (.var 1))]
def f_1 : Fn := ⟨1, 3, false, b_1⟩
def x_1 : Df := ⟨⟨("words_of", none), "words_of", "words_of", defArgs (top 3), defBody (top 3), defScope (top 3), [], []⟩, ([Str.ofString "saying"] : List Str), ([Str.ofString "saying", Str.ofString "found", Str.ofString "part"] : List Str), f_1⟩
theorem y_1 : x_1.binds := fun _ _ _ _ _ _ us hl => match us, hl with | [_], _ => rfl
/-- signs -/
def b_2 : List C := [
  (.ret (.blt false .len [(.call 1 [(.var 0)])]))]
def f_2 : Fn := ⟨1, 1, false, b_2⟩
def x_2 : Df := ⟨⟨("signs", none), "signs", "signs", defArgs (top 4), defBody (top 4), defScope (top 4), [], []⟩, ([Str.ofString "saying"] : List Str), ([Str.ofString "saying"] : List Str), f_2⟩
theorem y_2 : x_2.binds := fun _ _ _ _ _ _ us hl => match us, hl with | [_], _ => rfl
/-- proofs_above -/
def b_3 : List C := [
  (.ret (.slc false (.var 0) (some (.idx (.glob "HEAD_LONG" (.tab 0 t_0)) (.idx (.var 0) (.lit (.int (0)))))) none))]
def f_3 : Fn := ⟨1, 1, false, b_3⟩
def x_3 : Df := ⟨⟨("proofs_above", none), "proofs_above", "proofs_above", defArgs (top 7), defBody (top 7), defScope (top 7), [], []⟩, ([Str.ofString "account"] : List Str), ([Str.ofString "account"] : List Str), f_3⟩
theorem y_3 : x_3.binds := fun _ _ _ _ _ _ us hl => match us, hl with | [_], _ => rfl
/-- steps -/
def b_4 : List C := [
  (.ret (.bin false .add (.lit (.int (1))) (.blt false .sum [(.comp false (.call 4 [(.var 1)]) (.nm 1) (.seq (.call 3 [(.var 0)])) [] [1])])))]
def f_4 : Fn := ⟨1, 2, false, b_4⟩
def x_4 : Df := ⟨⟨("steps", none), "steps", "steps", defArgs (top 9), defBody (top 9), defScope (top 9), [], []⟩, ([Str.ofString "account"] : List Str), ([Str.ofString "account", Str.ofString "part"] : List Str), f_4⟩
theorem y_4 : x_4.binds := fun _ _ _ _ _ _ us hl => match us, hl with | [_], _ => rfl
/-- measures -/
def b_5 : List C := [
  (.asg (.nm 1) (.lst true [])),
  (.ife (.cmp .eq (.idx (.var 0) (.lit (.int (0)))) (.lit (.str [99, 117, 116]))) [(.ex (.meth .append (.var 1) [(.tup [(.call 2 [(.idx (.var 0) (.lit (.int (1))))]), (.bin false .add (.call 4 [(.idx (.var 0) (.lit (.int (3))))]) (.call 4 [(.idx (.var 0) (.lit (.int (4))))]))])]))] []),
  (.for_ (.nm 2) (.seq (.call 3 [(.var 0)])) [(.ex (.meth .extend (.var 1) [(.call 5 [(.var 2)])]))]),
  (.ret (.blt false .tuple [(.var 1)]))]
def f_5 : Fn := ⟨1, 3, false, b_5⟩
def x_5 : Df := ⟨⟨("measures", none), "measures", "measures", defArgs (top 11), defBody (top 11), defScope (top 11), [], []⟩, ([Str.ofString "account"] : List Str), ([Str.ofString "account", Str.ofString "found", Str.ofString "part"] : List Str), f_5⟩
theorem y_5 : x_5.binds := fun _ _ _ _ _ _ us hl => match us, hl with | [_], _ => rfl
/-- _law_pot -/
def b_6 : List C := [
  (.asg (.nm 1) (.lit (.int (41)))),
  (.for_ (.tup [(.nm 2), (.nm 3)]) (.enum (.slc false (.var 0) none (some (.lit (.int (63)))))) [(.asg (.nm 1) (.bin false .mod (.bin false .add (.bin false .add (.bin false .add (.bin false .mul (.var 1) (.lit (.int (1000003)))) (.bin false .mod (.var 3) (.lit (.int (2305843009213693951))))) (.bin false .mul (.lit (.int (37))) (.var 2))) (.lit (.int (11)))) (.lit (.int (2305843009213693951)))))]),
  (.ret (.lst true [(.comp true (.bin false .mod (.blt false .abs [(.var 3)]) (.bin false .pow (.bin false .pow (.lit (.int (10))) (.lit (.int (60)))) (.lit (.int (12))))) (.nm 3) (.seq (.slc false (.var 0) none (some (.lit (.int (63)))))) [(.cmp .ge (.blt false .abs [(.var 3)]) (.bin false .pow (.lit (.int (10))) (.lit (.int (18)))))] [3]), (.var 1), (.lit (.int (0)))]))]
def f_6 : Fn := ⟨1, 4, true, b_6⟩
def x_6 : Df := ⟨⟨("_law_pot", none), "_law_pot", "_law_pot", defArgs (top 13), defBody (top 13), defScope (top 13), [], []⟩, ([Str.ofString "_law_script"] : List Str), ([Str.ofString "_law_script", Str.ofString "_law_seed", Str.ofString "_law_k", Str.ofString "_law_cell"] : List Str), f_6⟩
theorem y_6 : x_6.binds := fun _ _ _ _ _ _ us hl => match us, hl with | [_], _ => rfl
/-- _law_take -/
def b_7 : List C := [
  (.while_ (.and (.cmp .ne (.idx (.var 0) (.lit (.int (0)))) (.lst false [])) (.cmp .eq (.idx (.idx (.var 0) (.lit (.int (0)))) (.lit (.int (0)))) (.lit (.int (0))))) [(.ex (.meth .popAt (.idx (.var 0) (.lit (.int (0)))) [(.lit (.int (0)))]))]),
  (.ife (.cmp .ne (.idx (.var 0) (.lit (.int (0)))) (.lst false [])) [(.asg (.nm 4) (.bin false .mod (.idx (.idx (.var 0) (.lit (.int (0)))) (.lit (.int (0)))) (.var 1))), (.seti (.idx (.var 0) (.lit (.int (0)))) (.lit (.int (0))) (.bin false .fdiv (.idx (.idx (.var 0) (.lit (.int (0)))) (.lit (.int (0)))) (.var 1))), (.ret (.var 4))] []),
  (.asg (.nm 2) (.bin false .add (.idx (.var 0) (.lit (.int (2)))) (.lit (.int (1))))),
  (.seti (.var 0) (.lit (.int (2))) (.var 2)),
  (.asg (.nm 3) (.bin false .mul (.bin false .add (.bin false .add (.idx (.var 0) (.lit (.int (1)))) (.bin false .mul (.bin false .mul (.lit (.int (65537))) (.var 2)) (.var 2))) (.bin false .mul (.lit (.int (15485863))) (.var 2))) (.lit (.int (48271))))),
  (.asg (.nm 3) (.bin false .mod (.var 3) (.lit (.int (2305843009213693921))))),
  (.asg (.nm 3) (.bin false .mul (.var 3) (.bin false .add (.bin false .add (.bin false .mod (.var 3) (.lit (.int (1000003)))) (.bin false .mul (.lit (.int (99991))) (.var 2))) (.lit (.int (7)))))),
  (.asg (.nm 3) (.bin false .mod (.var 3) (.lit (.int (2305843009213693907))))),
  (.ret (.bin false .mod (.bin false .add (.bin false .fdiv (.var 3) (.lit (.int (97)))) (.bin false .fdiv (.var 3) (.lit (.int (1000033))))) (.var 1)))]
def f_7 : Fn := ⟨2, 5, false, b_7⟩
def x_7 : Df := ⟨⟨("_law_take", none), "_law_take", "_law_take", defArgs (top 14), defBody (top 14), defScope (top 14), [], []⟩, ([Str.ofString "_law_pot_here", Str.ofString "_law_many_here"] : List Str), ([Str.ofString "_law_pot_here", Str.ofString "_law_many_here", Str.ofString "_law_turn", Str.ofString "_law_mixed", Str.ofString "_law_digit"] : List Str), f_7⟩
theorem y_7 : x_7.binds := fun _ _ _ _ _ _ us hl => match us, hl with | [_, _], _ => rfl
/-- _law_of -/
def b_8 : List C := [
  (.ret (.idx (.var 1) (.call 7 [(.var 0), (.blt false .len [(.var 1)])])))]
def f_8 : Fn := ⟨2, 2, false, b_8⟩
def x_8 : Df := ⟨⟨("_law_of", none), "_law_of", "_law_of", defArgs (top 15), defBody (top 15), defScope (top 15), [], []⟩, ([Str.ofString "_law_pot_here", Str.ofString "_law_some"] : List Str), ([Str.ofString "_law_pot_here", Str.ofString "_law_some"] : List Str), f_8⟩
theorem y_8 : x_8.binds := fun _ _ _ _ _ _ us hl => match us, hl with | [_, _], _ => rfl
/-- _law_other -/
def b_9 : List C := [
  (.asg (.nm 1) (.lst false [(.lit (.str [116, 104, 105, 110, 103])), (.lit (.str [100, 101, 98, 116])), (.lit (.str [112, 97, 105, 114])), (.lit (.str [98, 105, 110, 100])), (.lit (.str [109, 101, 110, 117])), (.lit (.str [112, 105, 99, 107])), (.lit (.str [111, 110, 101])), (.lit (.str [110, 111, 110, 101])), (.lit (.str [97, 108, 108])), (.lit (.str [110, 101, 118, 101, 114]))])),
  (.asg (.nm 2) (.meth .index (.var 1) [(.var 0)])),
  (.ret (.idx (.var 1) (.bin false .sub (.bin false .add (.var 2) (.lit (.int (1)))) (.bin false .mul (.lit (.int (2))) (.bin false .mod (.var 2) (.lit (.int (2))))))))]
def f_9 : Fn := ⟨1, 3, false, b_9⟩
def x_9 : Df := ⟨⟨("_law_other", none), "_law_other", "_law_other", defArgs (top 16), defBody (top 16), defScope (top 16), [], []⟩, ([Str.ofString "_law_word"] : List Str), ([Str.ofString "_law_word", Str.ofString "_law_row", Str.ofString "_law_at"] : List Str), f_9⟩
theorem y_9 : x_9.binds := fun _ _ _ _ _ _ us hl => match us, hl with | [_], _ => rfl
/-- _law_about -/
def b_10 : List C := [
  (.ife (.cmp .isin (.idx (.var 0) (.lit (.int (0)))) (.tup [(.lit (.str [116, 104, 105, 110, 103])), (.lit (.str [100, 101, 98, 116]))])) [(.ret (.tup [(.call 9 [(.idx (.var 0) (.lit (.int (0))))]), (.idx (.var 0) (.lit (.int (1))))]))] []),
  (.ret (.bin false .add (.tup [(.call 9 [(.idx (.var 0) (.lit (.int (0))))])]) (.blt false .tuple [(.comp false (.call 10 [(.var 1)]) (.nm 1) (.seq (.slc false (.var 0) (some (.lit (.int (1)))) none)) [] [1])])))]
def f_10 : Fn := ⟨1, 2, false, b_10⟩
def x_10 : Df := ⟨⟨("_law_about", none), "_law_about", "_law_about", defArgs (top 17), defBody (top 17), defScope (top 17), [], []⟩, ([Str.ofString "_law_saying_here"] : List Str), ([Str.ofString "_law_saying_here", Str.ofString "_law_part"] : List Str), f_10⟩
theorem y_10 : x_10.binds := fun _ _ _ _ _ _ us hl => match us, hl with | [_], _ => rfl
/-- _law_many -/
def b_11 : List C := [
  (.ife (.cmp .isin (.idx (.var 0) (.lit (.int (0)))) (.tup [(.lit (.str [116, 104, 105, 110, 103])), (.lit (.str [100, 101, 98, 116]))])) [(.ret (.lit (.int (1))))] []),
  (.ret (.bin false .add (.lit (.int (1))) (.blt false .sum [(.comp false (.call 11 [(.var 1)]) (.nm 1) (.seq (.slc false (.var 0) (some (.lit (.int (1)))) none)) [] [1])])))]
def f_11 : Fn := ⟨1, 2, false, b_11⟩
def x_11 : Df := ⟨⟨("_law_many", none), "_law_many", "_law_many", defArgs (top 18), defBody (top 18), defScope (top 18), [], []⟩, ([Str.ofString "_law_saying_here"] : List Str), ([Str.ofString "_law_saying_here", Str.ofString "_law_part"] : List Str), f_11⟩
theorem y_11 : x_11.binds := fun _ _ _ _ _ _ us hl => match us, hl with | [_], _ => rfl
/-- _law_deep -/
def b_12 : List C := [
  (.ife (.or (.cmp .isin (.idx (.var 0) (.lit (.int (0)))) (.tup [(.lit (.str [116, 104, 105, 110, 103])), (.lit (.str [100, 101, 98, 116]))])) (.cmp .eq (.blt false .len [(.var 0)]) (.lit (.int (1))))) [(.ret (.lit (.int (1))))] []),
  (.ret (.bin false .add (.lit (.int (1))) (.blt false .max2 [(.comp false (.call 12 [(.var 1)]) (.nm 1) (.seq (.slc false (.var 0) (some (.lit (.int (1)))) none)) [] [1])])))]
def f_12 : Fn := ⟨1, 2, false, b_12⟩
def x_12 : Df := ⟨⟨("_law_deep", none), "_law_deep", "_law_deep", defArgs (top 19), defBody (top 19), defScope (top 19), [], []⟩, ([Str.ofString "_law_saying_here"] : List Str), ([Str.ofString "_law_saying_here", Str.ofString "_law_part"] : List Str), f_12⟩
theorem y_12 : x_12.binds := fun _ _ _ _ _ _ us hl => match us, hl with | [_], _ => rfl
/-- _law_fits -/
def b_13 : List C := [
  (.asg (.nm 1) (.blt false .sum [(.comp false (.call 11 [(.var 2)]) (.nm 2) (.seq (.var 0)) [] [2])])),
  (.ret (.and (.cmp .lt (.blt false .len [(.var 0)]) (.lit (.int (9)))) (.and (.cmp .lt (.var 1) (.lit (.int (25)))) (.blt false .all [(.comp false (.cmp .lt (.call 12 [(.var 2)]) (.lit (.int (7)))) (.nm 2) (.seq (.var 0)) [] [2])]))))]
def f_13 : Fn := ⟨1, 3, false, b_13⟩
def x_13 : Df := ⟨⟨("_law_fits", none), "_law_fits", "_law_fits", defArgs (top 20), defBody (top 20), defScope (top 20), [], []⟩, ([Str.ofString "_law_aim"] : List Str), ([Str.ofString "_law_aim", Str.ofString "_law_words", Str.ofString "_law_saying_here"] : List Str), f_13⟩
theorem y_13 : x_13.binds := fun _ _ _ _ _ _ us hl => match us, hl with | [_], _ => rfl
/-- _law_name -/
def b_14 : List C := [
  (.asg (.nm 1) (.meth .join (.lit (.str [])) [(.comp false (.call 8 [(.var 0), (.lit (.str [97, 98, 99, 100, 101, 102, 103, 104, 105, 106, 107, 108, 109, 110, 111, 112, 113, 114, 115, 116, 117, 118, 119, 120, 121, 122]))]) (.nm 2) (.range1 (.bin false .add (.lit (.int (1))) (.call 7 [(.var 0), (.lit (.int (6)))]))) [] [2])])),
  (.ret (.call 8 [(.var 0), (.lst false [(.lit (.str [97])), (.lit (.str [98])), (.lit (.str [97, 98])), (.lit (.str [122, 122, 122, 122, 122, 122])), (.lit (.str [97, 97, 97, 97, 97, 98])), (.var 1)])]))]
def f_14 : Fn := ⟨1, 3, false, b_14⟩
def x_14 : Df := ⟨⟨("_law_name", none), "_law_name", "_law_name", defArgs (top 21), defBody (top 21), defScope (top 21), [], []⟩, ([Str.ofString "_law_pot_here"] : List Str), ([Str.ofString "_law_pot_here", Str.ofString "_law_letters", Str.ofString "_law_k"] : List Str), f_14⟩
theorem y_14 : x_14.binds := fun _ _ _ _ _ _ us hl => match us, hl with | [_], _ => rfl
/-- _law_saying -/
def b_15 : List C := [
  (.asg (.nm 2) (.call 7 [(.var 0), (.lit (.int (9)))])),
  (.ife (.or (.cmp .lt (.var 1) (.lit (.int (2)))) (.cmp .lt (.var 2) (.lit (.int (4))))) [(.asg (.nm 4) (.idx (.lst false [(.tup [(.lit (.str [111, 110, 101]))]), (.tup [(.lit (.str [110, 111, 110, 101]))]), (.tup [(.lit (.str [97, 108, 108]))]), (.tup [(.lit (.str [110, 101, 118, 101, 114]))])]) (.call 7 [(.var 0), (.lit (.int (4)))]))), (.asg (.nm 5) (.tup [(.idx (.lst false [(.lit (.str [116, 104, 105, 110, 103])), (.lit (.str [100, 101, 98, 116]))]) (.call 7 [(.var 0), (.lit (.int (2)))])), (.call 14 [(.var 0)])])), (.ret (.ite (.cmp .eq (.call 7 [(.var 0), (.lit (.int (3)))]) (.lit (.int (0)))) (.var 4) (.var 5)))] []),
  (.asg (.nm 3) (.idx (.lst false [(.lit (.str [112, 97, 105, 114])), (.lit (.str [98, 105, 110, 100])), (.lit (.str [109, 101, 110, 117])), (.lit (.str [112, 105, 99, 107]))]) (.call 7 [(.var 0), (.lit (.int (4)))]))),
  (.ret (.tup [(.var 3), (.call 15 [(.var 0), (.bin false .sub (.var 1) (.lit (.int (1))))]), (.call 15 [(.var 0), (.bin false .sub (.var 1) (.lit (.int (1))))])]))]
def f_15 : Fn := ⟨2, 6, false, b_15⟩
def x_15 : Df := ⟨⟨("_law_saying", none), "_law_saying", "_law_saying", defArgs (top 22), defBody (top 22), defScope (top 22), [], []⟩, ([Str.ofString "_law_pot_here", Str.ofString "_law_far"] : List Str), ([Str.ofString "_law_pot_here", Str.ofString "_law_far", Str.ofString "_law_way", Str.ofString "_law_word", Str.ofString "_law_empty", Str.ofString "_law_named"] : List Str), f_15⟩
theorem y_15 : x_15.binds := fun _ _ _ _ _ _ us hl => match us, hl with | [_, _], _ => rfl
/-- _law_begin -/
def b_16 : List C := [
  (.par [2, 3, 4] [(.call 7 [(.var 0), (.lit (.int (6)))]), (.call 14 [(.var 0)]), (.call 7 [(.var 0), (.lit (.int (3)))])]),
  (.ife (.cmp .eq (.var 2) (.lit (.int (0)))) [(.ret (.tup [(.tup [(.tup [(.lit (.str [111, 110, 101]))])]), (.tup [(.lit (.str [111, 110, 101]))])]))] []),
  (.ife (.cmp .eq (.var 2) (.lit (.int (1)))) [(.asg (.nm 5) (.comp false (.call 15 [(.var 0), (.lit (.int (2)))]) (.nm 6) (.range1 (.call 7 [(.var 0), (.lit (.int (3)))])) [] [6])), (.asg (.nm 4) (.blt false .min2 [(.var 4), (.blt false .len [(.var 5)])])), (.ret (.tup [(.blt false .tuple [(.bin false .add (.bin false .add (.slc false (.var 5) none (some (.var 4))) (.lst false [(.tup [(.lit (.str [97, 108, 108]))])])) (.slc false (.var 5) (some (.var 4)) none))]), (.tup [(.lit (.str [97, 108, 108])), (.var 4)])]))] []),
  (.asg (.nm 1) (.tup [(.tup [(.lit (.str [116, 104, 105, 110, 103])), (.var 3)]), (.tup [(.lit (.str [100, 101, 98, 116])), (.var 3)])])),
  (.ret (.tup [(.idx (.lst false [(.var 1), (.rev false (.var 1))]) (.bin false .mod (.var 4) (.lit (.int (2))))), (.tup [(.lit (.str [116, 105, 101]))])]))]
def f_16 : Fn := ⟨1, 7, false, b_16⟩
def x_16 : Df := ⟨⟨("_law_begin", none), "_law_begin", "_law_begin", defArgs (top 23), defBody (top 23), defScope (top 23), [], []⟩, ([Str.ofString "_law_pot_here"] : List Str), ([Str.ofString "_law_pot_here", Str.ofString "_law_both", Str.ofString "_law_way", Str.ofString "_law_name_here", Str.ofString "_law_at", Str.ofString "_law_some", Str.ofString "_law_k"] : List Str), f_16⟩
theorem y_16 : x_16.binds := fun _ _ _ _ _ _ us hl => match us, hl with | [_], _ => rfl
/-- _law_merged -/
def b_17 : List C := [
  (.par [3, 4] [(.lst true []), (.lst false [(.blt true .list [(.var 1)]), (.blt true .list [(.var 2)])])]),
  (.while_ (.or (.cmp .ne (.idx (.var 4) (.lit (.int (0)))) (.lst false [])) (.cmp .ne (.idx (.var 4) (.lit (.int (1)))) (.lst false []))) [(.asg (.nm 5) (.call 7 [(.var 0), (.lit (.int (2)))])), (.asg (.nm 5) (.ite (.cmp .ne (.idx (.var 4) (.var 5)) (.lst false [])) (.var 5) (.bin false .sub (.lit (.int (1))) (.var 5)))), (.ex (.meth .append (.var 3) [(.tup [(.var 5), (.meth .popAt (.idx (.var 4) (.var 5)) [(.lit (.int (0)))])])]))]),
  (.ret (.var 3))]
def f_17 : Fn := ⟨3, 6, false, b_17⟩
def x_17 : Df := ⟨⟨("_law_merged", none), "_law_merged", "_law_merged", defArgs (top 24), defBody (top 24), defScope (top 24), [], []⟩, ([Str.ofString "_law_pot_here", Str.ofString "_law_ones", Str.ofString "_law_others"] : List Str), ([Str.ofString "_law_pot_here", Str.ofString "_law_ones", Str.ofString "_law_others", Str.ofString "_law_found_here", Str.ofString "_law_rows", Str.ofString "_law_side"] : List Str), f_17⟩
theorem y_17 : x_17.binds := fun _ _ _ _ _ _ us hl => match us, hl with | [_, _, _], _ => rfl
/-- _law_paired -/
def b_18 : List C := [
  (.asg (.tup [(.nm 11), (.nm 12)]) (.tup [(.call 7 [(.var 0), (.lit (.int (2)))]), (.call 7 [(.var 0), (.bin false .sub (.blt false .len [(.idx (.var 1) (.lit (.int (0))))]) (.var 3))])])),
  (.asg (.nm 4) (.call 7 [(.var 0), (.blt false .len [(.idx (.var 2) (.lit (.int (0))))])])),
  (.asg (.nm 5) (.comp false (.tup [(.lit (.int (0))), (.var 15)]) (.nm 15) (.seq (.slc false (.idx (.var 1) (.lit (.int (0)))) (some (.bin false .sub (.blt false .len [(.idx (.var 1) (.lit (.int (0))))]) (.var 3))) none)) [] [15])),
  (.asg (.nm 6) (.call 17 [(.var 0), (.slc false (.idx (.var 1) (.lit (.int (0)))) none (some (.var 12))), (.slc false (.idx (.var 2) (.lit (.int (0)))) none (some (.var 4)))])),
  (.asg (.nm 7) (.bin false .add (.call 17 [(.var 0), (.slc false (.idx (.var 1) (.lit (.int (0)))) (some (.bin false .add (.var 12) (.lit (.int (1))))) (some (.bin false .sub (.blt false .len [(.idx (.var 1) (.lit (.int (0))))]) (.var 3)))), (.slc false (.idx (.var 2) (.lit (.int (0)))) (some (.bin false .add (.var 4) (.lit (.int (1))))) none)]) (.var 5))),
  (.asg (.nm 8) (.lst false [(.tup [(.idx (.idx (.var 1) (.lit (.int (0)))) (.var 12)), (.idx (.var 1) (.lit (.int (1))))]), (.tup [(.idx (.idx (.var 2) (.lit (.int (0)))) (.var 4)), (.idx (.var 2) (.lit (.int (1))))])])),
  (.par [13, 14] [(.idx (.var 8) (.var 11)), (.idx (.var 8) (.bin false .sub (.lit (.int (1))) (.var 11)))]),
  (.asg (.nm 9) (.bin false .add (.bin false .add (.var 6) (.lst false [(.tup [(.lit (.int (2))), (.tup [(.lit (.str [112, 97, 105, 114])), (.idx (.var 13) (.lit (.int (0)))), (.idx (.var 14) (.lit (.int (0))))])])])) (.var 7))),
  (.asg (.nm 10) (.blt false .tuple [(.comp false (.var 16) (.tup [(.nm 16), (.nm 17)]) (.enum (.var 9)) [(.cmp .eq (.idx (.var 17) (.lit (.int (0)))) (.var 11))] [16, 17])])),
  (.ret (.tup [(.blt false .tuple [(.comp false (.var 15) (.tup [(.nm 18), (.nm 15)]) (.seq (.var 9)) [] [18, 15])]), (.tup [(.lit (.str [112, 97, 105, 114])), (.blt false .len [(.var 6)]), (.var 10), (.idx (.var 13) (.lit (.int (1)))), (.idx (.var 14) (.lit (.int (1))))])]))]
def f_18 : Fn := ⟨4, 19, false, b_18⟩
def x_18 : Df := ⟨⟨("_law_paired", none), "_law_paired", "_law_paired", defArgs (top 25), defBody (top 25), defScope (top 25), [], []⟩, ([Str.ofString "_law_pot_here", Str.ofString "_law_one", Str.ofString "_law_other_here", Str.ofString "_law_held"] : List Str), ([Str.ofString "_law_pot_here", Str.ofString "_law_one", Str.ofString "_law_other_here", Str.ofString "_law_held", Str.ofString "_law_there", Str.ofString "_law_ends", Str.ofString "_law_front", Str.ofString "_law_back", Str.ofString "_law_both", Str.ofString "_law_row", Str.ofString "_law_places", Str.ofString "_law_turn", Str.ofString "_law_at", Str.ofString "_law_first", Str.ofString "_law_second", Str.ofString "_law_saying_here", Str.ofString "_law_place", Str.ofString "_law_pair", Str.ofString "_law_side"] : List Str), f_18⟩
theorem y_18 : x_18.binds := fun _ _ _ _ _ _ us hl => match us, hl with | [_, _, _, _], _ => rfl
/-- _law_step_on -/
def b_19 : List C := [
  (.asg (.tup [(.nm 6), (.tup [(.nm 12), (.nm 13)]), (.nm 7)]) (.tup [(.call 7 [(.var 0), (.lit (.int (6)))]), (.var 1), (.call 15 [(.var 0), (.lit (.int (3)))])])),
  (.asg (.nm 3) (.bin false .sub (.blt false .len [(.var 12)]) (.var 2))),
  (.par [4, 8] [(.call 7 [(.var 0), (.bin false .add (.var 3) (.lit (.int (1))))]), (.call 7 [(.var 0), (.lit (.int (2)))])]),
  (.ife (.or (.cmp .eq (.var 6) (.lit (.int (0)))) (.cmp .eq (.var 3) (.lit (.int (0))))) [(.ret (.tup [(.bin false .add (.bin false .add (.slc false (.var 12) none (some (.var 4))) (.tup [(.tup [(.lit (.str [110, 111, 110, 101]))])])) (.slc false (.var 12) (some (.var 4)) none)), (.tup [(.lit (.str [110, 111, 110, 101])), (.var 4), (.var 13)])]))] []),
  (.ife (.and (.cmp .eq (.var 6) (.lit (.int (1)))) (.cmp .gt (.var 3) (.lit (.int (1))))) [(.asg (.nm 4) (.blt false .min2 [(.var 4), (.bin false .sub (.var 3) (.lit (.int (2))))])), (.ret (.tup [(.bin false .add (.bin false .add (.slc false (.var 12) none (some (.var 4))) (.tup [(.tup [(.lit (.str [98, 105, 110, 100])), (.idx (.var 12) (.var 4)), (.idx (.var 12) (.bin false .add (.var 4) (.lit (.int (1)))))])])) (.slc false (.var 12) (some (.bin false .add (.var 4) (.lit (.int (2))))) none)), (.tup [(.lit (.str [98, 105, 110, 100])), (.var 4), (.var 13)])]))] []),
  (.asg (.nm 4) (.blt false .min2 [(.var 4), (.bin false .sub (.var 3) (.lit (.int (1))))])),
  (.asg (.nm 5) (.ite (.cmp .eq (.var 8) (.lit (.int (0)))) (.tup [(.lit (.str [112, 105, 99, 107])), (.idx (.var 12) (.var 4)), (.var 7)]) (.tup [(.lit (.str [112, 105, 99, 107])), (.var 7), (.idx (.var 12) (.var 4))]))),
  (.ife (.cmp .lt (.var 6) (.lit (.int (4)))) [(.asg (.nm 9) (.tup [(.bin false .add (.bin false .add (.slc false (.var 12) none (some (.var 4))) (.tup [(.var 5)])) (.slc false (.var 12) (some (.bin false .add (.var 4) (.lit (.int (1))))) none)), (.tup [(.lit (.str [112, 105, 99, 107])), (.var 4), (.var 8), (.var 13)])])), (.ife (.cmp .eq (.var 6) (.lit (.int (2)))) [(.ret (.var 9))] []), (.asg (.nm 10) (.lst false [(.tup [(.idx (.var 12) (.var 4)), (.var 13)]), (.tup [(.var 5), (.idx (.var 9) (.lit (.int (1))))]), (.tup [(.idx (.var 12) (.var 4)), (.var 13)])])), (.par [14, 15] [(.idx (.var 10) (.var 8)), (.idx (.var 10) (.bin false .add (.var 8) (.lit (.int (1)))))]), (.asg (.nm 11) (.tup [(.lit (.str [109, 101, 110, 117])), (.idx (.var 14) (.lit (.int (0)))), (.idx (.var 15) (.lit (.int (0))))])), (.ret (.tup [(.bin false .add (.bin false .add (.slc false (.var 12) none (some (.var 4))) (.tup [(.var 11)])) (.slc false (.var 12) (some (.bin false .add (.var 4) (.lit (.int (1))))) none)), (.tup [(.lit (.str [109, 101, 110, 117])), (.var 4), (.idx (.var 14) (.lit (.int (1)))), (.idx (.var 15) (.lit (.int (1))))])]))] []),
  (.ret (.call 18 [(.var 0), (.var 1), (.call 16 [(.var 0)]), (.var 2)]))]
def f_19 : Fn := ⟨3, 16, false, b_19⟩
def x_19 : Df := ⟨⟨("_law_step_on", none), "_law_step_on", "_law_step_on", defArgs (top 26), defBody (top 26), defScope (top 26), [], []⟩, ([Str.ofString "_law_pot_here", Str.ofString "_law_one", Str.ofString "_law_held"] : List Str), ([Str.ofString "_law_pot_here", Str.ofString "_law_one", Str.ofString "_law_held", Str.ofString "_law_free", Str.ofString "_law_at", Str.ofString "_law_picked", Str.ofString "_law_way", Str.ofString "_law_extra", Str.ofString "_law_side", Str.ofString "_law_more", Str.ofString "_law_some", Str.ofString "_law_menu", Str.ofString "_law_aim", Str.ofString "_law_work", Str.ofString "_law_first", Str.ofString "_law_second"] : List Str), f_19⟩
theorem y_19 : x_19.binds := fun _ _ _ _ _ _ us hl => match us, hl with | [_, _, _], _ => rfl
/-- _law_above -/
def b_20 : List C := [
  (.ret (.slc false (.var 0) (some (.bin false .sub (.blt false .len [(.var 0)]) (.meth .get (.dict false [(.lit (.str [116, 105, 101])), (.lit (.int (0))), (.lit (.str [111, 110, 101])), (.lit (.int (0))), (.lit (.str [97, 108, 108])), (.lit (.int (0))), (.lit (.str [112, 97, 105, 114])), (.lit (.int (2))), (.lit (.str [109, 101, 110, 117])), (.lit (.int (2))), (.lit (.str [99, 117, 116])), (.lit (.int (2)))]) [(.idx (.var 0) (.lit (.int (0)))), (.lit (.int (1)))]))) none))]
def f_20 : Fn := ⟨1, 1, false, b_20⟩
def x_20 : Df := ⟨⟨("_law_above", none), "_law_above", "_law_above", defArgs (top 27), defBody (top 27), defScope (top 27), [], []⟩, ([Str.ofString "_law_work"] : List Str), ([Str.ofString "_law_work"] : List Str), f_20⟩
theorem y_20 : x_20.binds := fun _ _ _ _ _ _ us hl => match us, hl with | [_], _ => rfl
/-- _law_size -/
def b_21 : List C := [
  (.ret (.bin false .add (.lit (.int (1))) (.blt false .sum [(.comp false (.call 21 [(.var 1)]) (.nm 1) (.seq (.call 20 [(.var 0)])) [] [1])])))]
def f_21 : Fn := ⟨1, 2, false, b_21⟩
def x_21 : Df := ⟨⟨("_law_size", none), "_law_size", "_law_size", defArgs (top 28), defBody (top 28), defScope (top 28), [], []⟩, ([Str.ofString "_law_work"] : List Str), ([Str.ofString "_law_work", Str.ofString "_law_part"] : List Str), f_21⟩
theorem y_21 : x_21.binds := fun _ _ _ _ _ _ us hl => match us, hl with | [_], _ => rfl
/-- _law_grown -/
def b_22 : List C := [
  (.for_ (.nm 4) (.range1 (.var 2)) [(.asg (.nm 5) (.call 19 [(.var 0), (.var 1), (.var 3)])), (.asg (.nm 1) (.ite (.and (.call 13 [(.idx (.var 5) (.lit (.int (0))))]) (.cmp .lt (.call 21 [(.idx (.var 5) (.lit (.int (1))))]) (.lit (.int (25))))) (.var 5) (.var 1)))]),
  (.ret (.var 1))]
def f_22 : Fn := ⟨4, 6, false, b_22⟩
def x_22 : Df := ⟨⟨("_law_grown", none), "_law_grown", "_law_grown", defArgs (top 29), defBody (top 29), defScope (top 29), [], []⟩, ([Str.ofString "_law_pot_here", Str.ofString "_law_one", Str.ofString "_law_many_here", Str.ofString "_law_held"] : List Str), ([Str.ofString "_law_pot_here", Str.ofString "_law_one", Str.ofString "_law_many_here", Str.ofString "_law_held", Str.ofString "_law_k", Str.ofString "_law_more"] : List Str), f_22⟩
theorem y_22 : x_22.binds := fun _ _ _ _ _ _ us hl => match us, hl with | [_, _, _, _], _ => rfl
/-- _law_mirror -/
def b_23 : List C := [
  (.asg (.nm 1) (.idx (.var 0) (.lit (.int (0))))),
  (.ife (.cmp .isin (.var 1) (.tup [(.lit (.str [116, 104, 105, 110, 103])), (.lit (.str [100, 101, 98, 116]))])) [(.ret (.tup [(.lit (.str [116, 105, 101]))]))] []),
  (.ife (.cmp .eq (.blt false .len [(.var 0)]) (.lit (.int (1)))) [(.asg (.nm 2) (.dict false [(.lit (.str [111, 110, 101])), (.tup [(.lit (.str [110, 111, 110, 101])), (.lit (.int (1))), (.tup [(.lit (.str [111, 110, 101]))])]), (.lit (.str [110, 111, 110, 101])), (.tup [(.lit (.str [110, 111, 110, 101])), (.lit (.int (0))), (.tup [(.lit (.str [111, 110, 101]))])])])), (.ret (.meth .get (.var 2) [(.var 1), (.tup [(.lit (.str [97, 108, 108])), (.blt false .int [(.cmp .eq (.var 1) (.lit (.str [110, 101, 118, 101, 114])))])])]))] []),
  (.par [3, 4] [(.call 23 [(.idx (.var 0) (.lit (.int (1))))]), (.call 23 [(.idx (.var 0) (.lit (.int (2))))])]),
  (.ife (.cmp .eq (.var 1) (.lit (.str [112, 97, 105, 114]))) [(.ret (.tup [(.lit (.str [98, 105, 110, 100])), (.lit (.int (1))), (.tup [(.lit (.str [112, 97, 105, 114])), (.lit (.int (0))), (.tup [(.lit (.int (1)))]), (.var 3), (.var 4)])]))] []),
  (.ife (.cmp .eq (.var 1) (.lit (.str [98, 105, 110, 100]))) [(.ret (.tup [(.lit (.str [98, 105, 110, 100])), (.lit (.int (0))), (.tup [(.lit (.str [112, 97, 105, 114])), (.lit (.int (2))), (.tup [(.lit (.int (0)))]), (.var 3), (.var 4)])]))] []),
  (.ife (.cmp .eq (.var 1) (.lit (.str [109, 101, 110, 117]))) [(.ret (.tup [(.lit (.str [109, 101, 110, 117])), (.lit (.int (0))), (.tup [(.lit (.str [112, 105, 99, 107])), (.lit (.int (1))), (.lit (.int (0))), (.var 3)]), (.tup [(.lit (.str [112, 105, 99, 107])), (.lit (.int (1))), (.lit (.int (1))), (.var 4)])]))] []),
  (.ret (.tup [(.lit (.str [109, 101, 110, 117])), (.lit (.int (1))), (.tup [(.lit (.str [112, 105, 99, 107])), (.lit (.int (0))), (.lit (.int (0))), (.var 3)]), (.tup [(.lit (.str [112, 105, 99, 107])), (.lit (.int (0))), (.lit (.int (1))), (.var 4)])]))]
def f_23 : Fn := ⟨1, 5, false, b_23⟩
def x_23 : Df := ⟨⟨("_law_mirror", none), "_law_mirror", "_law_mirror", defArgs (top 30), defBody (top 30), defScope (top 30), [], []⟩, ([Str.ofString "_law_saying_here"] : List Str), ([Str.ofString "_law_saying_here", Str.ofString "_law_word", Str.ofString "_law_empties", Str.ofString "_law_one", Str.ofString "_law_other_here"] : List Str), f_23⟩
theorem y_23 : x_23.binds := fun _ _ _ _ _ _ us hl => match us, hl with | [_], _ => rfl
/-- _law_cut -/
def b_24 : List C := [
  (.asg (.nm 3) (.call 17 [(.var 0), (.slc false (.idx (.var 1) (.lit (.int (0)))) none (some (.neg (.lit (.int (1)))))), (.slc false (.idx (.var 2) (.lit (.int (0)))) none (some (.neg (.lit (.int (1))))))])),
  (.asg (.nm 4) (.blt false .tuple [(.comp false (.var 5) (.tup [(.nm 5), (.nm 6)]) (.enum (.var 3)) [(.cmp .eq (.idx (.var 6) (.lit (.int (0)))) (.lit (.int (0))))] [5, 6])])),
  (.ret (.tup [(.blt false .tuple [(.comp false (.var 8) (.tup [(.nm 7), (.nm 8)]) (.seq (.var 3)) [] [7, 8])]), (.tup [(.lit (.str [99, 117, 116])), (.idx (.idx (.var 1) (.lit (.int (0)))) (.neg (.lit (.int (1))))), (.var 4), (.idx (.var 1) (.lit (.int (1)))), (.idx (.var 2) (.lit (.int (1))))])]))]
def f_24 : Fn := ⟨3, 9, false, b_24⟩
def x_24 : Df := ⟨⟨("_law_cut", none), "_law_cut", "_law_cut", defArgs (top 31), defBody (top 31), defScope (top 31), [], []⟩, ([Str.ofString "_law_pot_here", Str.ofString "_law_one", Str.ofString "_law_other_here"] : List Str), ([Str.ofString "_law_pot_here", Str.ofString "_law_one", Str.ofString "_law_other_here", Str.ofString "_law_row", Str.ofString "_law_places", Str.ofString "_law_place", Str.ofString "_law_pair", Str.ofString "_law_side", Str.ofString "_law_saying_here"] : List Str), f_24⟩
theorem y_24 : x_24.binds := fun _ _ _ _ _ _ us hl => match us, hl with | [_, _, _], _ => rfl
/-- _law_cut_more -/
def b_25 : List C := [
  (.par [5, 6] [(.call 7 [(.var 0), (.lit (.int (2)))]), (.call 7 [(.var 0), (.lit (.int (3)))])]),
  (.asg (.nm 2) (.idx (.idx (.var 1) (.lit (.int (0)))) (.neg (.lit (.int (1)))))),
  (.asg (.nm 3) (.tup [(.tup [(.var 2), (.call 10 [(.var 2)])]), (.call 23 [(.var 2)])])),
  (.asg (.nm 3) (.call 22 [(.var 0), (.var 3), (.var 6), (.lit (.int (1)))])),
  (.asg (.nm 4) (.ite (.cmp .eq (.var 5) (.lit (.int (0)))) (.call 24 [(.var 0), (.var 1), (.var 3)]) (.call 24 [(.var 0), (.var 3), (.var 1)]))),
  (.ret (.ite (.and (.call 13 [(.idx (.var 4) (.lit (.int (0))))]) (.and (.cmp .lt (.call 11 [(.var 2)]) (.lit (.int (9)))) (.cmp .lt (.call 21 [(.idx (.var 4) (.lit (.int (1))))]) (.lit (.int (60)))))) (.var 4) (.var 1)))]
def f_25 : Fn := ⟨2, 7, false, b_25⟩
def x_25 : Df := ⟨⟨("_law_cut_more", none), "_law_cut_more", "_law_cut_more", defArgs (top 32), defBody (top 32), defScope (top 32), [], []⟩, ([Str.ofString "_law_pot_here", Str.ofString "_law_one"] : List Str), ([Str.ofString "_law_pot_here", Str.ofString "_law_one", Str.ofString "_law_saying_here", Str.ofString "_law_about_here", Str.ofString "_law_more", Str.ofString "_law_turn", Str.ofString "_law_many_here"] : List Str), f_25⟩
theorem y_25 : x_25.binds := fun _ _ _ _ _ _ us hl => match us, hl with | [_, _], _ => rfl
/-- _law_drawn -/
def b_26 : List C := [
  (.asg (.nm 2) (.call 22 [(.var 0), (.call 16 [(.var 0)]), (.call 7 [(.var 0), (.lit (.int (5)))]), (.lit (.int (0)))])),
  (.for_ (.nm 3) (.range1 (.var 1)) [(.asg (.nm 2) (.call 25 [(.var 0), (.var 2)])), (.asg (.nm 2) (.call 22 [(.var 0), (.var 2), (.call 7 [(.var 0), (.lit (.int (3)))]), (.lit (.int (0)))]))]),
  (.ret (.var 2))]
def f_26 : Fn := ⟨2, 4, false, b_26⟩
def x_26 : Df := ⟨⟨("_law_drawn", none), "_law_drawn", "_law_drawn", defArgs (top 33), defBody (top 33), defScope (top 33), [], []⟩, ([Str.ofString "_law_pot_here", Str.ofString "_law_cut_many"] : List Str), ([Str.ofString "_law_pot_here", Str.ofString "_law_cut_many", Str.ofString "_law_one", Str.ofString "_law_k"] : List Str), f_26⟩
theorem y_26 : x_26.binds := fun _ _ _ _ _ _ us hl => match us, hl with | [_, _], _ => rfl
/-- _law_beside -/
def b_27 : List C := [
  (.par [2, 3] [(.call 26 [(.var 0), (.lit (.int (1)))]), (.call 26 [(.var 0), (.lit (.int (1)))])]),
  (.asg (.nm 1) (.call 18 [(.var 0), (.var 2), (.var 3), (.lit (.int (0)))])),
  (.ret (.ite (.call 13 [(.idx (.var 1) (.lit (.int (0))))]) (.var 1) (.var 2)))]
def f_27 : Fn := ⟨1, 4, false, b_27⟩
def x_27 : Df := ⟨⟨("_law_beside", none), "_law_beside", "_law_beside", defArgs (top 34), defBody (top 34), defScope (top 34), [], []⟩, ([Str.ofString "_law_pot_here"] : List Str), ([Str.ofString "_law_pot_here", Str.ofString "_law_both", Str.ofString "_law_one", Str.ofString "_law_other_here"] : List Str), f_27⟩
theorem y_27 : x_27.binds := fun _ _ _ _ _ _ us hl => match us, hl with | [_], _ => rfl
/-- _law_found -/
def b_28 : List C := [
  (.asg (.nm 2) (.lst false [])),
  (.for_ (.tup [(.nm 4), (.nm 5)]) (.enum (.call 20 [(.var 0)])) [(.asg (.nm 2) (.bin false .add (.var 2) (.call 28 [(.var 5), (.bin false .add (.var 1) (.tup [(.var 4)]))])))]),
  (.ife (.cmp .ne (.idx (.var 0) (.lit (.int (0)))) (.lit (.str [99, 117, 116]))) [(.ret (.var 2))] []),
  (.asg (.nm 3) (.call 11 [(.idx (.var 0) (.lit (.int (1))))])),
  (.ret (.bin false .add (.lst false [(.tup [(.var 1), (.tup [(.var 3), (.bin false .add (.call 21 [(.idx (.var 0) (.lit (.int (3))))]) (.call 21 [(.idx (.var 0) (.lit (.int (4))))]))]), (.cmp .eq (.var 2) (.lst false []))])]) (.var 2)))]
def f_28 : Fn := ⟨2, 6, false, b_28⟩
def x_28 : Df := ⟨⟨("_law_found", none), "_law_found", "_law_found", defArgs (top 35), defBody (top 35), defScope (top 35), [], []⟩, ([Str.ofString "_law_work", Str.ofString "_law_path"] : List Str), ([Str.ofString "_law_work", Str.ofString "_law_path", Str.ofString "_law_found_here", Str.ofString "_law_many_here", Str.ofString "_law_turn", Str.ofString "_law_part"] : List Str), f_28⟩
theorem y_28 : x_28.binds := fun _ _ _ _ _ _ us hl => match us, hl with | [_, _], _ => rfl
/-- law -/
def b_29 : List C := [
  (.asg (.nm 1) (.call 6 [(.var 0)])),
  (.for_ (.nm 2) (.range1 (.lit (.int (4)))) [(.asg (.nm 3) (.call 7 [(.var 1), (.lit (.int (4)))])), (.asg (.tup [(.nm 5), (.nm 6)]) (.ite (.cmp .eq (.var 3) (.lit (.int (0)))) (.call 27 [(.var 1)]) (.call 26 [(.var 1), (.idx (.lst false [(.lit (.int (0))), (.lit (.int (1))), (.lit (.int (2)))]) (.bin false .sub (.var 3) (.lit (.int (1)))))]))), (.asg (.nm 4) (.blt false .tuple [(.comp false (.var 8) (.tup [(.nm 7), (.nm 8), (.nm 9)]) (.seq (.call 28 [(.var 6), (.tup [])])) [] [7, 8, 9])])), (.ife (.or (.cmp .ne (.blt false .repr [(.call 5 [(.var 6)])]) (.blt false .repr [(.var 4)])) (.cmp .ne (.blt false .repr [(.callk 5 [] [(.var 6)] ([Str.ofString "account"] : List Str) [0] [])]) (.blt false .repr [(.var 4)]))) [(.ret (.lit (.bl false)))] [])]),
  (.ret (.lit (.bl true)))]
def f_29 : Fn := ⟨1, 10, false, b_29⟩
def x_29 : Df := ⟨⟨("law", none), "law", "law", defArgs (top 36), defBody (top 36), defScope (top 36), [], []⟩, ([Str.ofString "_law_script"] : List Str), ([Str.ofString "_law_script", Str.ofString "_law_pot_here", Str.ofString "_law_k", Str.ofString "_law_way", Str.ofString "_law_due", Str.ofString "_law_aim", Str.ofString "_law_work", Str.ofString "_law_path", Str.ofString "_law_pair", Str.ofString "_law_ripe"] : List Str), f_29⟩
theorem y_29 : x_29.binds := fun _ _ _ _ _ _ us hl => match us, hl with | [_], _ => rfl
def dfs : List Df := [x_0, x_1, x_2, x_3, x_4, x_5, x_6, x_7, x_8, x_9, x_10, x_11, x_12, x_13, x_14, x_15, x_16, x_17, x_18, x_19, x_20, x_21, x_22, x_23, x_24, x_25, x_26, x_27, x_28, x_29]
def Fs : List Fn := [f_0, f_1, f_2, f_3, f_4, f_5, f_6, f_7, f_8, f_9, f_10, f_11, f_12, f_13, f_14, f_15, f_16, f_17, f_18, f_19, f_20, f_21, f_22, f_23, f_24, f_25, f_26, f_27, f_28, f_29]
def gls : List (Str × D) := [(Str.ofString "LEAVES", D.tup [.str [116, 104, 105, 110, 103], .str [100, 101, 98, 116]]), (Str.ofString "HEAD_LONG", D.tab 0 t_0)]
theorem z_0 : x_5.bindsK ⟨5, 0, ([Str.ofString "account"] : List Str), [0], []⟩ := ⟨by decide +kernel, fun _ _ _ _ _ _ us ws h1 h2 => match us, ws, h1, h2 with | [], [_], _, _ => rfl⟩
def bts : Bs := ⟨([Str.ofString "len", Str.ofString "sum", Str.ofString "tuple", Str.ofString "enumerate", Str.ofString "abs", Str.ofString "max", Str.ofString "all", Str.ofString "range", Str.ofString "min", Str.ofString "list", Str.ofString "int", Str.ofString "repr"] : List Str), [⟨5, 0, ([Str.ofString "account"] : List Str), [0], []⟩]⟩
def tabs : List Tb := [(Str.ofString "HEAD_LONG", ([Str.ofString "tie", Str.ofString "one", Str.ofString "all", Str.ofString "none", Str.ofString "bind", Str.ofString "pair", Str.ofString "menu", Str.ofString "pick", Str.ofString "keep", Str.ofString "use", Str.ofString "waste", Str.ofString "again", Str.ofString "cut"] : List Str))]
def names : List Str := dfs.map fun x => x.d.name
abbrev fn : List He.DefD := dfs.map (·.d)
theorem good : dfs.all (fun x => x.good names gls bts) = true := by decide +kernel
theorem bound : ∀ x ∈ dfs, x.binds := by
  intro x hx
  simp only [dfs, List.mem_cons, List.not_mem_nil, or_false] at hx
  rcases hx with rfl | rfl | rfl | rfl | rfl | rfl | rfl | rfl | rfl | rfl | rfl | rfl | rfl | rfl | rfl | rfl | rfl | rfl | rfl | rfl | rfl | rfl | rfl | rfl | rfl | rfl | rfl | rfl | rfl | rfl
  · exact y_0
  · exact y_1
  · exact y_2
  · exact y_3
  · exact y_4
  · exact y_5
  · exact y_6
  · exact y_7
  · exact y_8
  · exact y_9
  · exact y_10
  · exact y_11
  · exact y_12
  · exact y_13
  · exact y_14
  · exact y_15
  · exact y_16
  · exact y_17
  · exact y_18
  · exact y_19
  · exact y_20
  · exact y_21
  · exact y_22
  · exact y_23
  · exact y_24
  · exact y_25
  · exact y_26
  · exact y_27
  · exact y_28
  · exact y_29
theorem boundk : ∀ k ∈ bts.kws, ∀ x, dfs[k.f]? = some x → x.bindsK k := by
  intro k hk x hx
  simp only [bts, List.mem_cons, List.not_mem_nil, or_false] at hk
  rcases hk with rfl
  · cases Option.some.inj (show some x_5 = some x from hx); exact z_0
theorem ats : ∀ x ∈ dfs, x.d.at_ = (x.d.name, none) := by
  intro x hx
  simp only [dfs, List.mem_cons, List.not_mem_nil, or_false] at hx
  rcases hx with rfl | rfl | rfl | rfl | rfl | rfl | rfl | rfl | rfl | rfl | rfl | rfl | rfl | rfl | rfl | rfl | rfl | rfl | rfl | rfl | rfl | rfl | rfl | rfl | rfl | rfl | rfl | rfl | rfl | rfl <;> rfl
abbrev OR : PySem.W.OpenRow := PySem.W.OpenLaw.row PySem.Challenge.rw_spendproofs_k40_measures
abbrev hk : PySem.W.Hook := hookM 4 gls bts names tabs fn
def ob (s : PySem.W.SharedT) : AlM := obsMG 4 gls bts names tabs fn (HandSHeadRun.getT s)
theorem ob_eq (s : PySem.W.SharedT) : ob s = hk.obs s.abs := obsMG_eq (HandSHeadRun.getT_eq s)
def looseN : List Str := ([Str.ofString "LEAVES", Str.ofString "parts_of", Str.ofString "words_of", Str.ofString "signs", Str.ofString "HEAD_LONG", Str.ofString "proofs_above", Str.ofString "steps", Str.ofString "measures", Str.ofString "_law_pot", Str.ofString "_law_take", Str.ofString "_law_of", Str.ofString "_law_other", Str.ofString "_law_about", Str.ofString "_law_many", Str.ofString "_law_deep", Str.ofString "_law_fits", Str.ofString "_law_name", Str.ofString "_law_saying", Str.ofString "_law_begin", Str.ofString "_law_merged"] : List Str) ++ ([Str.ofString "_law_paired", Str.ofString "_law_step_on", Str.ofString "_law_above", Str.ofString "_law_size", Str.ofString "_law_grown", Str.ofString "_law_mirror", Str.ofString "_law_cut", Str.ofString "_law_cut_more", Str.ofString "_law_drawn", Str.ofString "_law_beside", Str.ofString "_law_found"] : List Str)
theorem runF (w : World) : HandSHeadRun.RunEq OR (PySem.W.view OR.prog [36]) hk ob 4000 looseN (w.withFollow "special-get-raises" false) := by
  intro os
  kernel_rfl
theorem runT (w : World) : HandSHeadRun.RunEq OR (PySem.W.view OR.prog [36]) hk ob 4000 looseN (w.withFollow "special-get-raises" true) := by
  intro os
  kernel_rfl
theorem run (w : World) : HandSHeadRun.RunEq OR (PySem.W.view OR.prog [36]) hk ob 4000 looseN w := PySem.W.byRow2 "special-get-raises" (P := fun w => HandSHeadRun.RunEq OR (PySem.W.view OR.prog [36]) hk ob 4000 looseN w) runF runT w
/-- what the law's own part is to show -/
def Ans : Prop := ∀ ns : List Int, ns.length ≤ 63 → ∃ S', callN Fs 121 29 [.row (ns.map D.int)] [] = .ok (.bl true) S'
end LW
open PySem PySem.W PySem.Calls PyProof.Rows
theorem law_of (ans : LW.Ans) : PySem.Challenge.rw_spendproofs_k40_measures.Holds := by
  w_on; o_law
  refine HandSHeadRun.head_any (r := OpenLaw.row PySem.Challenge.rw_spendproofs_k40_measures) (q := view (OpenLaw.row PySem.Challenge.rw_spendproofs_k40_measures).prog [36]) (H := LW.hk) (ob := LW.ob) (M := 4000) (loose := LW.looseN) (d := HandSHeadRun.topDef (OpenLaw.row PySem.Challenge.rw_spendproofs_k40_measures).prog 36) (kwd := []) LW.ob_eq
    (by kernel_rfl) (fun s => by kernel_rfl) LW.run (by kernel_rfl) (by kernel_rfl) (by kernel_rfl) (by rfl) (by first | assumption | decide +kernel) (by decide +kernel) ⟨rfl, rfl, rfl, rfl, rfl, by decide +kernel⟩ ?hw ?hc
  case hw => w_witness2
  case hc =>
    refine MP.law_walk (l := PySem.Challenge.rw_spendproofs_k40_measures) (k := 120) (f := 29) (names := LW.names) (gls := LW.gls) (bts := LW.bts) (Fs := LW.Fs) rfl (by kernel_rfl) ⟨rfl, by decide, by decide⟩ ?F ans
    intro w mg g h Y G hmg0
    obtain ⟨K, KX, c⟩ := Y
    have hmg : mg ("law" : PySem.Str) = some (.ref g) := by
      have e : (HandSHeadRun.topDef (OpenLaw.row PySem.Challenge.rw_spendproofs_k40_measures).prog 36).name = ("law" : PySem.Str) := by kernel_rfl
      rw [← e]
      exact hmg0
    have T := MP.top_of (dfs := LW.dfs) (tabs := LW.tabs) KX G (List.all_eq_true.mp LW.good) LW.bound LW.boundk LW.ats c
    obtain ⟨a, h1, h2, _⟩ := T.fns 29 "law" rfl
    rw [hmg] at h1
    cases h1
    exact ⟨K, _, KX, h2, T⟩
end
section
set_option maxRecDepth 100000
set_option exponentiation.threshold 3000
/-! Pl0: plain laws of the small language. -/
namespace MP
theorem okMul_l {i j : Int} (h : i.natAbs < 2 ^ 64) : okMul i j = true := by unfold okMul; simp [h]
theorem okMul_r {i j : Int} (h : j.natAbs < 2 ^ 64) : okMul i j = true := by unfold okMul; simp [h]
/-! ### the evaluator, a step at a time -/
section
variable {call : Nat → List D → Store → R D} {env : Env} {S : Store}
theorem call_eq {P : List Fn} {F : Fn} {k f : Nat} {ds : List D} (h : P[f]? = some F) (hl : ds.length = F.np) : callN P (k + 1) f ds S = outQ F.leak S (evCs (callN P k) F.body (ds.map some ++ List.replicate (F.n - F.np) none) S) := by
  simp only [callN, h]
  rw [decide_eq_true hl]
@[simp] theorem ev_var {i : Nat} {d : D} (h : env[i]? = some (some d)) : evE call (.var i) env S = .ok d S := by simp only [evE, h]
@[simp] theorem ev_lit (d : D) : evE call (.lit d) env S = .ok d S := by simp only [evE]
@[simp] theorem ev_glob (x : PySem.Str) (d : D) : evE call (.glob x d) env S = .ok d S := by simp only [evE]
@[simp] theorem ev_bin (m : Bool) (op : O2) (a b : E) : evE call (.bin m op a b) env S = (evE call a env S).bind fun x S => (evE call b env S).bind fun y S => op2 m op x y S := by simp only [evE]
@[simp] theorem ev_not (a : E) : evE call (.not a) env S = (evE call a env S).bind fun x S => (test x S).bind fun b S => .ok (.bl (!b)) S := by simp only [evE]
@[simp] theorem ev_and (a b : E) : evE call (.and a b) env S = (evE call a env S).bind fun x S => (test x S).bind fun t S => match t with
    | true => evE call b env S
    | false => .ok x S := by simp only [evE] <;> rfl
@[simp] theorem ev_or (a b : E) : evE call (.or a b) env S = (evE call a env S).bind fun x S => (test x S).bind fun t S => match t with
    | true => .ok x S
    | false => evE call b env S := by simp only [evE] <;> rfl
@[simp] theorem ev_cmp (op : Cp) (a b : E) : evE call (.cmp op a b) env S = (evE call a env S).bind fun x S => (evE call b env S).bind fun y S => cp2 op x y S := by simp only [evE]
@[simp] theorem ev_tup (es : List E) : evE call (.tup es) env S = (evEs call es env S).bind fun ds S => mk? (decide (ds.length ≤ most)) (.tup ds) S := by simp only [evE]
theorem ev_lst (m : Bool) (es : List E) : evE call (.lst m es) env S = (evEs call es env S).bind fun ds S => match decide (ds.length ≤ most) with
    | true => mkL m ds S
    | false => .stuck := by simp only [evE] <;> rfl
@[simp] theorem ev_idx (a i : E) : evE call (.idx a i) env S = (evE call a env S).bind fun x S => (evE call i env S).bind fun y S => atD x y S := by simp only [evE]
@[simp] theorem ev_call (f : Nat) (es : List E) : evE call (.call f es) env S = (evEs call es env S).bind fun ds S => call f ds S := by simp only [evE]
@[simp] theorem ev_blt (m : Bool) (f : Bt) (es : List E) : evE call (.blt m f es) env S = (evEs call es env S).bind fun ds S => bt m f ds S := by simp only [evE]
@[simp] theorem ev_isi (a : E) (t : Ty) : evE call (.isi a t) env S = (evE call a env S).bind fun x S => match isiB S x t with
    | some b => .ok (.bl b) S
    | none => .stuck := by simp only [evE] <;> rfl
theorem ev_comp (m : Bool) (elt : E) (t : Tg) (it : E) (ifs : List E) (own : List Nat) : evE call (.comp m elt t it ifs own) env S = (evI call it env S).bind fun w S =>
    (compGo w S.length (fun d => bindT t d (wipeE env own)) (fun env S => evTs call ifs env S) (fun env S => evE call elt env S) w.items (S ++ [.lst []])).bind fun acc S' => compEnd m S acc S' := by simp only [evE]
@[simp] theorem evi_seq (a : E) : evI call (.seq a) env S = (evE call a env S).bind seqRow := by simp only [evI]
@[simp] theorem evi_range1 (a : E) : evI call (.range1 a) env S = (evE call a env S).bind fun x S => match x with
    | .int n => rangeRow 0 n S
    | _ => .stuck := by simp only [evI] <;> rfl
theorem ev_chain (op op' : Cp) (a b c : E) : evE call (.chain op op' a b c) env S = (evE call a env S).bind fun x S => (evE call b env S).bind fun y S => (cp2 op x y S).bind fun t S => match t with
    | .bl true => (evE call c env S).bind fun z S => cp2 op' y z S
    | .bl false => .ok (.bl false) S
    | _ => .stuck := by simp only [evE] <;> rfl
@[simp] theorem evs_nil : evEs call [] env S = .ok [] S := by simp only [evEs]
@[simp] theorem evs_cons (e : E) (es : List E) : evEs call (e :: es) env S = (evE call e env S).bind fun d S => (evEs call es env S).bind fun ds S => .ok (d :: ds) S := by simp only [evEs]
@[simp] theorem test_bl (b : Bool) : test (.bl b) S = .ok b S := rfl
@[simp] theorem cs_nil : evCs call [] env S = .nxt env S := by simp only [evCs]
@[simp] theorem cs_ret (e : E) (cs : List C) : evCs call (.ret e :: cs) env S = Q.of env (evE call e env S) fun d S => .ret d S := by
  simp only [evCs, evC]
  cases evE call e env S <;> rfl
theorem fin_same (leak : Bool) (v : D) : fin leak S v S = .ok v S := by simp [fin]
@[simp] theorem out_ret (leak : Bool) (v : D) : outQ leak S (.ret v S) = .ok v S := fin_same leak v
end
theorem stays_nil {w : Row} (h : w.watch = []) (S : Store) : w.stays S = true := stays_iff.mpr fun p hp => by rw [h] at hp; cases hp
/-- a comprehension without a test, over items that stay -/
theorem compGo_ok {w : Row} (hw : w.watch = []) {k : Nat} {bnd : D → Option Env} {ifs : Env → Store → R Bool} {elt : Env → Store → R D} (hifs : ∀ env S, ifs env S = .ok true S) (I : Store → Prop) (P : D → Prop) : ∀ (ds : List D),
    (∀ d ∈ ds, ∃ env, bnd d = some env ∧ ∀ S acc, I S → S[k]? = some (.lst acc) → ∃ y S2, elt env S = .ok y S2 ∧ P y ∧ S2[k]? = some (.lst acc) ∧ I (S2.set k (.lst (acc ++ [y])))) →
    ∀ S acc, I S → S[k]? = some (.lst acc) → acc.length + ds.length ≤ most → ∃ ys S', compGo w k bnd ifs elt ds S = .ok (acc ++ ys) S' ∧ I S' ∧ S'[k]? = some (.lst (acc ++ ys)) ∧ ys.length = ds.length ∧ ∀ y ∈ ys, P y
  | [], _, S, acc, hI, hk, _ => ⟨[], S, by simp [compGo, stays_nil hw, hk], hI, by simpa using hk, rfl, fun y hy => by cases hy⟩
  | d :: ds, step, S, acc, hI, hk, hm => by
    obtain ⟨env, hb, he⟩ := step d List.mem_cons_self
    obtain ⟨y, S2, e1, p, e2, i2⟩ := he S acc hI hk
    have hlt : k < S2.length := (List.getElem?_eq_some_iff.mp e2).1
    have e3 : (S2.set k (.lst (acc ++ [y])))[k]? = some (.lst (acc ++ [y])) := List.getElem?_set_self hlt
    rw [List.length_cons] at hm
    obtain ⟨ys, S', f1, f2, f3, f4, f5⟩ := compGo_ok hw hifs I P ds (fun d hd => step d (List.mem_cons_of_mem _ hd)) _ _ i2 e3 (by rw [List.length_append, List.length_singleton]; omega)
    refine ⟨y :: ys, S', ?_, f2, by simpa using f3, by simp [f4], fun z hz => ?_⟩
    · have hac : decide (acc.length < most) = true := decide_eq_true (by omega)
      simp only [compGo, stays_nil hw, hb, hifs, R.bind_ok, e1, e2, hac]
      rw [f1]
      simp
    · rcases List.mem_cons.mp hz with q | q
      · rw [q]; exact p
      · exact f5 z q
/-- a comprehension without a test, its parts pure: the items' images -/
theorem compGo_pure {w : Row} (hw : w.watch = []) {k : Nat} {bnd : D → Option Env} {ifs : Env → Store → R Bool} {elt : Env → Store → R D} (f : D → D) (hifs : ∀ env S, ifs env S = .ok true S) : ∀ (ds : List D),
    (∀ d ∈ ds, ∃ env, bnd d = some env ∧ ∀ S, elt env S = .ok (f d) S) → ∀ S acc, S[k]? = some (.lst acc) → acc.length + ds.length ≤ most → compGo w k bnd ifs elt ds S = .ok (acc ++ ds.map f) (S.set k (.lst (acc ++ ds.map f)))
  | [], _, S, acc, hk, _ => by
    have e : S.set k (.lst acc) = S := by
      obtain ⟨h1, h2⟩ := List.getElem?_eq_some_iff.mp hk
      rw [← h2]
      exact List.set_getElem_self h1
    simp [compGo, stays_nil hw, hk, e]
  | d :: ds, step, S, acc, hk, hm => by
    obtain ⟨env, hb, he⟩ := step d List.mem_cons_self
    have hlt : k < S.length := (List.getElem?_eq_some_iff.mp hk).1
    rw [List.length_cons] at hm
    have ih := compGo_pure hw f hifs ds (fun d hd => step d (List.mem_cons_of_mem _ hd)) (S.set k (.lst (acc ++ [f d]))) (acc ++ [f d]) (List.getElem?_set_self hlt) (by rw [List.length_append, List.length_singleton]; omega)
    have hac : decide (acc.length < most) = true := decide_eq_true (by omega)
    simp only [compGo, stays_nil hw, hb, hifs, R.bind_ok, he, hk, hac]
    rw [ih]
    simp [List.set_set]
theorem comp_end_pure {S : Store} {ys : List D} (h : undAll S.length ys = true) : compEnd false S ys ((S ++ [Cell.lst []]).set S.length (.lst ys)) = .ok (.lst ys) S := by
  have e : (S ++ [Cell.lst []]).set S.length (.lst ys) = S ++ [.lst ys] := by
    rw [List.set_append_right _ _ (Nat.le_refl _)]
    simp
  have kept : Kept S (S ++ [.lst ys]) := fun i hi => .inl (by rw [List.getElem?_append_left hi])
  rw [e]
  unfold compEnd
  have c1 : (false || decide ((S ++ [Cell.lst ys]).length ≠ S.length + 1)) = false := by simp
  rw [c1]
  simp [h, kept]
end MP
namespace MP
/-- a for without a way out, over items that stay -/
theorem forGo_ok {w : Row} (hw : w.watch = []) {bnd : D → Env → Option Env} {body : Env → Store → Q} (I : Nat → Env → Store → Prop) : ∀ (ds : List D) (j : Nat),
    (∀ d ∈ ds, ∀ i env S, I i env S → i < j + ds.length → ∃ env1, bnd d env = some env1 ∧ ∃ env2 S2, body env1 S = .nxt env2 S2 ∧ I (i + 1) env2 S2) →
    ∀ env S, I j env S → ∃ env' S', forGo w bnd body ds env S = .nxt env' S' ∧ I (j + ds.length) env' S'
  | [], j, _, env, S, h => ⟨env, S, by simp [forGo, stays_nil hw], h⟩
  | d :: ds, j, step, env, S, h => by
    obtain ⟨env1, hb, env2, S2, e, h2⟩ := step d List.mem_cons_self j env S h (by simp)
    obtain ⟨env', S', e2, h3⟩ := forGo_ok hw I ds (j + 1) (fun d hd i env S hi hl => step d (List.mem_cons_of_mem _ hd) i env S hi (by rw [List.length_cons]; omega)) env2 S2 h2
    refine ⟨env', S', ?_, by rw [List.length_cons]; have : j + (ds.length + 1) = j + 1 + ds.length := by omega
                             rw [this]; exact h3⟩
    simp only [forGo, stays_nil hw, hb, e]
    exact e2
end MP
namespace MP
/-- a comprehension without a test, over items that stay, told by the turn -/
theorem compGo_ix {w : Row} (hw : w.watch = []) {k : Nat} {bnd : D → Option Env} {ifs : Env → Store → R Bool} {elt : Env → Store → R D} (hifs : ∀ env S, ifs env S = .ok true S) (I : Nat → List D → Store → Prop) : ∀ (ds : List D) (j : Nat),
    (∀ d ∈ ds, ∃ env, bnd d = some env ∧ ∀ i S acc, i < j + ds.length → I i acc S → S[k]? = some (.lst acc) → ∃ y S2, elt env S = .ok y S2 ∧ S2[k]? = some (.lst acc) ∧ I (i + 1) (acc ++ [y]) (S2.set k (.lst (acc ++ [y])))) →
    ∀ S acc, I j acc S → S[k]? = some (.lst acc) → acc.length + ds.length ≤ most → ∃ ys S', compGo w k bnd ifs elt ds S = .ok ys S' ∧ I (j + ds.length) ys S' ∧ S'[k]? = some (.lst ys)
  | [], j, _, S, acc, hI, hk, _ => ⟨acc, S, by simp [compGo, stays_nil hw, hk], hI, hk⟩
  | d :: ds, j, step, S, acc, hI, hk, hm => by
    obtain ⟨env, hb, he⟩ := step d List.mem_cons_self
    obtain ⟨y, S2, e1, e2, i2⟩ := he j S acc (by simp) hI hk
    have hlt : k < S2.length := (List.getElem?_eq_some_iff.mp e2).1
    have e3 : (S2.set k (.lst (acc ++ [y])))[k]? = some (.lst (acc ++ [y])) := List.getElem?_set_self hlt
    rw [List.length_cons] at hm
    obtain ⟨ys, S', f1, f2, f3⟩ := compGo_ix hw hifs I ds (j + 1) (fun d hd => by
      obtain ⟨env, hb, he⟩ := step d (List.mem_cons_of_mem _ hd)
      exact ⟨env, hb, fun i S acc hi => he i S acc (by rw [List.length_cons]; omega)⟩) _ _ i2 e3 (by rw [List.length_append, List.length_singleton]; omega)
    have hac : decide (acc.length < most) = true := decide_eq_true (by omega)
    have ej : j + (d :: ds).length = j + 1 + ds.length := by rw [List.length_cons]; omega
    refine ⟨ys, S', ?_, by rw [ej]; exact f2, f3⟩
    simp only [compGo, stays_nil hw, hb, hifs, R.bind_ok, e1, e2, hac]
    exact f1
end MP
end
section
set_option maxRecDepth 100000
set_option exponentiation.threshold 3000
/-! PlZ: operators, a case at a time. -/
namespace MP
open PySem
section
variable {m : Bool} {S : Store} {i j : Int} {a b : List Nat} {xs ys : List D}
@[simp] theorem mk_true (d : D) : mk? true d S = .ok d S := rfl
@[simp] theorem mk_false (d : D) : mk? false d S = .stuck := rfl
theorem mk_of {c : Bool} (h : c = true) (d : D) : mk? c d S = .ok d S := by rw [h]; rfl
@[simp] theorem op_add_ii : op2 m .add (.int i) (.int j) S = .ok (.int (i + j)) S := rfl
@[simp] theorem op_sub_ii : op2 m .sub (.int i) (.int j) S = .ok (.int (i - j)) S := rfl
@[simp] theorem op_mul_ii : op2 m .mul (.int i) (.int j) S = mk? (okMul i j) (.int (i * j)) S := rfl
@[simp] theorem op_fdiv_ii : op2 m .fdiv (.int i) (.int j) S = mk? (decide (0 < j) && decide (j < 1073741824)) (.int (i / j)) S := rfl
@[simp] theorem op_mod_ii : op2 m .mod (.int i) (.int j) S = mk? (decide (0 < j)) (.int (i % j)) S := rfl
@[simp] theorem op_pow_ii : op2 m .pow (.int i) (.int j) S = mk? (decide (0 ≤ j) && (decide (j ≤ 1000000) && decide (i.natAbs < 2 ^ 64) || decide (j ≤ 100) && decide (i.natAbs < 2 ^ 1000))) (.int (i ^ j.toNat)) S := rfl
@[simp] theorem op_add_ss : op2 m .add (.str a) (.str b) S = mk? (decide (a.length + b.length ≤ most)) (.str (a ++ b)) S := rfl
@[simp] theorem op_add_tt : op2 m .add (.tup xs) (.tup ys) S = mk? (decide (xs.length + ys.length ≤ most)) (.tup (xs ++ ys)) S := rfl
theorem op_add_ll (h : xs.length + ys.length ≤ most) : op2 m .add (.lst xs) (.lst ys) S = mkL m (xs ++ ys) S := by
  simp [op2, lsOf, h]
@[simp] theorem mkL_false : mkL false xs S = .ok (.lst xs) S := rfl
@[simp] theorem mkL_true : mkL true xs S = .ok (.ref S.length) (S ++ [.lst xs]) := rfl
@[simp] theorem eqv_ii : (D.int i).eqv (.int j) = decide (i = j) := by
  rw [Bool.eq_iff_iff]; simp [D.eqv, D.py, PyData.eqv]
@[simp] theorem eqv_ss : (D.str a).eqv (.str b) = decide (a = b) := by
  rw [Bool.eq_iff_iff]; simp [D.eqv, D.py, PyData.eqv]
@[simp] theorem cp_lt_ii : cp2 .lt (.int i) (.int j) S = .ok (.bl (decide (i < j))) S := rfl
@[simp] theorem cp_le_ii : cp2 .le (.int i) (.int j) S = .ok (.bl (decide (i ≤ j))) S := rfl
@[simp] theorem cp_gt_ii : cp2 .gt (.int i) (.int j) S = .ok (.bl (decide (j < i))) S := rfl
@[simp] theorem cp_ge_ii : cp2 .ge (.int i) (.int j) S = .ok (.bl (decide (j ≤ i))) S := rfl
@[simp] theorem cp_eq_ii : cp2 .eq (.int i) (.int j) S = .ok (.bl (decide (i = j))) S := by
  simp [cp2, eqD, view, eqOk, D.plain, D.deep]
@[simp] theorem cp_ne_ii : cp2 .ne (.int i) (.int j) S = .ok (.bl (!decide (i = j))) S := by
  simp [cp2, eqD, view, eqOk, D.plain, D.deep]
@[simp] theorem cp_eq_ss : cp2 .eq (.str a) (.str b) S = .ok (.bl (decide (a = b))) S := by
  simp [cp2, eqD, view, eqOk, D.plain, D.deep]
@[simp] theorem cp_ne_ss : cp2 .ne (.str a) (.str b) S = .ok (.bl (!decide (a = b))) S := by
  simp [cp2, eqD, view, eqOk, D.plain, D.deep]
@[simp] theorem cp_eq_nil : cp2 .eq (.tup xs) (.tup []) S = .ok (.bl xs.isEmpty) S := rfl
@[simp] theorem cp_ne_nil : cp2 .ne (.tup xs) (.tup []) S = .ok (.bl (!xs.isEmpty)) S := rfl
theorem eqD_of {x y : D} (h : eqOk (view S x) (view S y) = true) : eqD S x y = some ((view S x).eqv (view S y)) := by
  unfold eqD
  split
  · rename_i xs
    cases xs with
    | nil => rfl
    | cons x xs => simp [view, D.eqv, D.py, pyAll, PyData.eqv, PyData.eqvAll]
  · rw [h]
theorem cp_eq_of {x y : D} (h : eqOk (view S x) (view S y) = true) : cp2 .eq x y S = .ok (.bl ((view S x).eqv (view S y))) S := by
  simp only [cp2, eqD_of h]
theorem cp_ne_of {x y : D} (h : eqOk (view S x) (view S y) = true) : cp2 .ne x y S = .ok (.bl (!(view S x).eqv (view S y))) S := by
  simp only [cp2, eqD_of h]
@[simp] theorem cp_is_non (d : D) : cp2 .is d .non S = .ok (.bl (isNone d)) S := rfl
@[simp] theorem cp_isnot_non (d : D) : cp2 .isnot d .non S = .ok (.bl (!isNone d)) S := rfl
@[simp] theorem len_str : bt m .len [.str a] S = .ok (.int a.length) S := rfl
@[simp] theorem len_lst : bt m .len [.lst xs] S = .ok (.int xs.length) S := rfl
@[simp] theorem len_tup : bt m .len [.tup xs] S = .ok (.int xs.length) S := rfl
@[simp] theorem len_row : bt m .len [.row xs] S = .ok (.int xs.length) S := rfl
@[simp] theorem abs_i : bt m .abs [.int i] S = .ok (.int (if i < 0 then -i else i)) S := rfl
@[simp] theorem int_i : bt m .int [.int i] S = .ok (.int i) S := rfl
@[simp] theorem int_b (b : Bool) : bt m .int [.bl b] S = .ok (.int (if b then 1 else 0)) S := rfl
@[simp] theorem min_ii : bt m .min2 [.int i, .int j] S = .ok (.int (if j < i then j else i)) S := rfl
@[simp] theorem max_ii : bt m .max2 [.int i, .int j] S = .ok (.int (if j > i then j else i)) S := rfl
@[simp] theorem tuple_tup : bt m .tuple [.tup xs] S = .ok (.tup xs) S := rfl
@[simp] theorem tuple_lst : bt m .tuple [.lst xs] S = .ok (.tup xs) S := rfl
@[simp] theorem test_int : test (.int i) S = .ok (i != 0) S := rfl
@[simp] theorem test_str : test (.str a) S = .ok (!a.isEmpty) S := rfl
@[simp] theorem test_lst : test (.lst xs) S = .ok (!xs.isEmpty) S := rfl
@[simp] theorem test_tup : test (.tup xs) S = .ok (!xs.isEmpty) S := rfl
theorem at_lst {k : Int} {n : Nat} {d : D} (h : ixn xs.length k = some n) (e : xs[n]? = some d) : atD (.lst xs) (.int k) S = .ok d S := by
  simp [atD, atSeq, sqOf, h, e]
theorem at_tup {k : Int} {n : Nat} {d : D} (h : ixn xs.length k = some n) (e : xs[n]? = some d) : atD (.tup xs) (.int k) S = .ok d S := by
  simp [atD, atSeq, sqOf, h, e]
theorem at_row {k : Int} {n : Nat} {d : D} (h : ixn xs.length k = some n) (e : xs[n]? = some d) : atD (.row xs) (.int k) S = .ok d S := by
  simp [atD, atSeq, sqOf, h, e]
theorem at_str {k : Int} {n c : Nat} (h : ixn a.length k = some n) (e : a[n]? = some c) : atD (.str a) (.int k) S = .ok (.str [c]) S := by
  simp [atD, atSeq, h, e]
@[simp] theorem at_tab {j : Nat} {kvs : List (List Nat × Fl)} : atD (.tab j kvs) (.str a) S = match kvs.lookup a with
    | some f => .ok f.d S
    | none => .stuck := rfl
@[simp] theorem get_tab {j : Nat} {kvs : List (List Nat × Fl)} : mt .get (.tab j kvs) [.str a] S = .ok (((kvs.lookup a).map Fl.d).getD .non) S := rfl
@[simp] theorem get_tab2 {j : Nat} {kvs : List (List Nat × Fl)} (d : D) : mt .get (.tab j kvs) [.str a, d] S = .ok (((kvs.lookup a).map Fl.d).getD d) S := rfl
@[simp] theorem rdy_get {j : Nat} {kvs : List (List Nat × Fl)} : mtRdy .get (.tab j kvs) S = true := rfl
@[simp] theorem rdy_getd {es : List (D × D)} : mtRdy .get (.dct es) S = true := rfl
@[simp] theorem rdy_join : mtRdy .join (.str a) S = true := rfl
@[simp] theorem rdy_upper : mtRdy .upper (.str a) S = true := rfl
@[simp] theorem rdy_index : mtRdy .index (.lst xs) S = true := rfl
@[simp] theorem in_tab {j : Nat} {kvs : List (List Nat × Fl)} : cp2 .isin (.str a) (.tab j kvs) S = .ok (.bl (kvs.lookup a).isSome) S := rfl
@[simp] theorem notin_tab {j : Nat} {kvs : List (List Nat × Fl)} : cp2 .notin (.str a) (.tab j kvs) S = .ok (.bl (!(kvs.lookup a).isSome)) S := rfl
theorem in_strs (a : List Nat) (ws : List (List Nat)) : cp2 .isin (.str a) (.tup (ws.map D.str)) S = .ok (.bl (ws.contains a)) S := by
  have p : ∀ ws : List (List Nat), plainAll (ws.map D.str) = true := fun ws => by induction ws <;> simp_all [plainAll, D.plain]
  have d : ∀ ws : List (List Nat), deepAll (ws.map D.str) = 0 := fun ws => by induction ws <;> simp_all [deepAll, D.deep]
  have e : ((ws.map D.str).any fun d => d.eqv (.str a)) = ws.contains a := by
    rw [List.any_map, Bool.eq_iff_iff]
    simp only [List.any_eq_true, List.contains_iff_exists_mem_beq, Function.comp, eqv_ss, decide_eq_true_eq, beq_iff_eq]
    exact ⟨fun ⟨x, h1, h2⟩ => ⟨x, h1, h2.symm⟩, fun ⟨x, h1, h2⟩ => ⟨x, h1, h2.symm⟩⟩
  simp [cp2, inOf, sqOf, view, D.plain, D.deep, p, d, far, e]
@[simp] theorem in_2 {b c : List Nat} : cp2 .isin (.str a) (.tup [.str b, .str c]) S = .ok (.bl (decide (a = b) || decide (a = c))) S := by
  have := in_strs (S := S) a [b, c]
  simpa using this
@[simp] theorem tab_view {j : Nat} {kvs : List (List Nat × Fl)} : view S (.tab j kvs) = .tab j kvs := rfl
theorem ixn_in {n : Nat} {k : Int} (h0 : 0 ≤ k) (h1 : k < n) : ixn n k = some k.toNat := by
  unfold ixn; rw [if_pos h0, if_pos h1]
end
section
variable {call : Nat → List D → Store → R D} {env : Env} {S : Store}
theorem ev_v (i : Nat) : evE call (.var i) env S = match env[i]? with
    | some (some d) => .ok d S
    | _ => .stuck := by simp only [evE] <;> rfl
@[simp] theorem ev_neg (a : E) : evE call (.neg a) env S = (evE call a env S).bind fun x S => match x with
    | .int i => .ok (.int (-i)) S
    | _ => .stuck := by simp only [evE] <;> rfl
@[simp] theorem ev_ite (c a b : E) : evE call (.ite c a b) env S = (evE call c env S).bind fun x S => (test x S).bind fun t S => match t with
    | true => evE call a env S
    | false => evE call b env S := by simp only [evE] <;> rfl
@[simp] theorem ev_meth (f : Mt) (o : E) (es : List E) : evE call (.meth f o es) env S = (evE call o env S).bind fun x S => match mtRdy f x S with
    | true => (evEs call es env S).bind fun ds S => mt f x ds S
    | false => .stuck := by simp only [evE] <;> rfl
@[simp] theorem ev_slc (m : Bool) (a : E) (lo hi : Option E) : evE call (.slc m a lo hi) env S = (evE call a env S).bind fun x S => (evO call lo env S).bind fun l S => (evO call hi env S).bind fun h S => slice m x l h S := by simp only [evE]
@[simp] theorem evO_none : evO call none env S = .ok none S := by simp only [evO]
@[simp] theorem evO_some (e : E) : evO call (some e) env S = (evE call e env S).bind fun d S => match d with
    | .int i => .ok (some i) S
    | _ => .stuck := by simp only [evO] <;> rfl
@[simp] theorem ev_range2 (a b : E) : evI call (.range2 a b) env S = (evE call a env S).bind fun x S => (evE call b env S).bind fun y S => match x, y with
    | .int i, .int j => rangeRow i j S
    | _, _ => .stuck := by simp only [evI] <;> rfl
@[simp] theorem ev_enum (a : E) : evI call (.enum a) env S = (evE call a env S).bind fun x S => enRow x S := by simp only [evI]
@[simp] theorem enRow_lst (xs : List D) : enRow (.lst xs) S = .ok ⟨enumL 0 xs, []⟩ S := rfl
@[simp] theorem enRow_row (xs : List D) : enRow (.row xs) S = .ok ⟨enumL 0 xs, []⟩ S := rfl
@[simp] theorem enRow_tup (xs : List D) : enRow (.tup xs) S = .ok ⟨enumL 0 xs, []⟩ S := rfl
@[simp] theorem ev_zip (a b : E) : evI call (.zip a b) env S = (evE call a env S).bind fun x S => (evE call b env S).bind fun y S => zipRow x y S := by simp only [evI]
/-! statements -/
@[simp] theorem cs_cons (c : C) (cs : List C) : evCs call (c :: cs) env S = (evC call c env S).then fun env S => evCs call cs env S := by simp only [evCs]
@[simp] theorem c_asg (t : Tg) (e : E) : evC call (.asg t e) env S = Q.of env (evE call e env S) fun d S => match bindT t d env with
    | some env => .nxt env S
    | none => .stuck := by simp only [evC] <;> rfl
@[simp] theorem c_ife (c : E) (a b : List C) : evC call (.ife c a b) env S = Q.of env (evE call c env S) fun x S => Q.of env (test x S) fun t S => match t with
    | true => evCs call a env S
    | false => evCs call b env S := by simp only [evC] <;> rfl
@[simp] theorem c_for (t : Tg) (it : E) (b : List C) : evC call (.for_ t it b) env S = Q.of env (evI call it env S) fun w S => forGo w (bindT t) (fun env S => evCs call b env S) w.items env S := by simp only [evC]
@[simp] theorem c_ret (e : E) : evC call (.ret e) env S = Q.of env (evE call e env S) fun d S => .ret d S := by simp only [evC]
@[simp] theorem c_ex (e : E) : evC call (.ex e) env S = Q.of env (evE call e env S) fun _ S => .nxt env S := by simp only [evC]
@[simp] theorem c_par (is : List Nat) (es : List E) : evC call (.par is es) env S = Q.of env (evEs call es env S) fun ds S => match setMany is ds env with
    | some env => .nxt env S
    | none => .stuck := by simp only [evC] <;> rfl
@[simp] theorem c_seti (o i e : E) : evC call (.seti o i e) env S = Q.of env (evE call e env S) fun d S => Q.of env (evE call o env S) fun x S => Q.of env (evE call i env S) fun y S => Q.of env (setAt x y d S) fun _ S => .nxt env S := by simp only [evC]
@[simp] theorem bindT_nm (i : Nat) (d : D) : bindT (.nm i) d env = some (env.set i (some d)) := rfl
end
end MP
namespace MP
theorem bools_true : ∀ {ys : List D}, (∀ y ∈ ys, y = .bl true) → boolsOf ys = some (List.replicate ys.length true)
  | [], _ => rfl
  | y :: ys, h => by
    rw [h y List.mem_cons_self]
    simp [boolsOf, bools_true fun y hy => h y (List.mem_cons_of_mem _ hy), List.replicate_succ]
theorem und_true {n : Nat} : ∀ {ys : List D}, (∀ y ∈ ys, y = .bl true) → undAll n ys = true
  | [], _ => rfl
  | y :: ys, h => by
    rw [h y List.mem_cons_self]
    simp [undAll, D.und, und_true fun y hy => h y (List.mem_cons_of_mem _ hy)]
/-- all([.. for ..]) over truths, at a law's end -/
theorem all_end {m : Bool} {ys : List D} {S' : Store} (h : ∀ y ∈ ys, y = .bl true) (e : S'[0]? = some (.lst ys)) : ∃ T, ((compEnd false [] ys S').bind fun d S => bt m .all [d] S) = .ok (.bl true) T := by
  unfold compEnd
  cases q : (false || decide (S'.length ≠ ([] : Store).length + 1)) with
  | true =>
    refine ⟨S', ?_⟩
    simp [bt, lsOf, e, bools_true h]
  | false =>
    have kept : Kept [] S' := fun i hi => by cases hi
    refine ⟨S'.take ([] : Store).length, ?_⟩
    simp [bt, lsOf, bools_true h, und_true h, kept]
end MP
namespace MP
theorem range0 {n : Int} {S : Store} (h0 : 0 ≤ n) (h : n ≤ 1000000) : rangeRow 0 n S = .ok ⟨rangeL 0 n.toNat, []⟩ S := by
  have c1 : (decide ((0 : Int).natAbs ≤ most) && decide (n.natAbs ≤ most)) = true := by
    have : n.natAbs ≤ most := by unfold most; omega
    simp [this]
  unfold rangeRow
  rw [c1]
  simp
/-- a law's end: a truth -/
theorem fin_bl (b : Bool) (T : Store) : ∃ T', fin false [] (.bl b) T = .ok (.bl b) T' := by
  have kept : Kept [] T := fun i hi => by cases hi
  by_cases h : T.length = ([] : Store).length
  · exact ⟨T, by simp [fin, h]⟩
  · have hd : decide (T = []) = false := decide_eq_false fun e => h (by rw [e])
    exact ⟨T.take 0, by simp [fin, fzD, D.und, kept, hd]⟩
end MP
namespace MP
theorem R.bind_bind {α β γ : Type} (r : R α) (f : α → Store → R β) (g : β → Store → R γ) : (r.bind f).bind g = r.bind fun a S => (f a S).bind g := by
  cases r <;> rfl
end MP
namespace MP
section
variable {call : Nat → List D → Store → R D} {env env' : Env} {S S' S1 : Store}
theorem cs_step {c : C} {cs : List C} (h : evC call c env S = .nxt env' S') : evCs call (c :: cs) env S = evCs call cs env' S' := by
  rw [cs_cons, h]; rfl
theorem c_for_of {t : Tg} {it : E} {b : List C} {w : Row} (h : evI call it env S = .ok w S1) (g : forGo w (bindT t) (fun env S => evCs call b env S) w.items env S1 = .nxt env' S') : evC call (.for_ t it b) env S = .nxt env' S' := by
  rw [c_for, h]; exact g
theorem c_asg_of {i : Nat} {e : E} {d : D} (h : evE call e env S = .ok d S1) : evC call (.asg (.nm i) e) env S = .nxt (env.set i (some d)) S1 := by
  rw [c_asg, h]; rfl
theorem cs_ret_of {e : E} {cs : List C} {d : D} (h : evE call e env S = .ok d S1) : evCs call (.ret e :: cs) env S = .ret d S1 := by
  rw [cs_ret, h]; rfl
end
end MP
end
section
set_option maxRecDepth 100000
set_option exponentiation.threshold 3000
/-! PlW: what a reading comes to, a step at a time: its value and its store are so. -/
namespace MP
open PySem
/-- the reading ends well, its value and store are so -/
def W {α : Type} (r : R α) (P : α → Store → Prop) : Prop := ∃ a S, r = .ok a S ∧ P a S
/-- a choice by a truth -/
def br {α : Type} (t : Bool) (a b : α) : α := match t with
  | true => a
  | false => b
/-- a step that needs a truth -/
def ck {α : Type} (t : Bool) (r : R α) : R α := match t with
  | true => r
  | false => .stuck
/-- what is to be shown of a statement's ends -/
structure Kn where
  n : Env → Store → Prop
  r : D → Store → Prop
  b : Env → Store → Prop := fun _ _ => False
  c : Env → Store → Prop := fun _ _ => False
def WQ (q : Q) (k : Kn) : Prop := match q with
  | .nxt e S => k.n e S
  | .ret v S => k.r v S
  | .brk e S => k.b e S
  | .cnt e S => k.c e S
  | .exc _ _ _ => False
  | .stuck => False
section
variable {α β : Type} {S : Store} {env : Env} {k : Kn}
theorem W.mono {r : R α} {P P' : α → Store → Prop} (h : W r P) (f : ∀ a S, P a S → P' a S) : W r P' := by
  obtain ⟨a, S, e, p⟩ := h
  exact ⟨a, S, e, f a S p⟩
theorem W.ex {r : R α} {P : α → Store → Prop} (h : W r P) : ∃ a S, r = .ok a S ∧ P a S := h
theorem br_t {a b : α} : br true a b = a := rfl
theorem br_f {a b : α} : br false a b = b := rfl
theorem ck_t {r : R α} : ck true r = r := rfl
theorem w_ok {a : α} {P : α → Store → Prop} : W (.ok a S) P ↔ P a S := ⟨fun ⟨_, _, e, p⟩ => by cases e; exact p, fun p => ⟨a, S, rfl, p⟩⟩
theorem w_bind {r : R α} {f : α → Store → R β} {P : β → Store → Prop} : W (r.bind f) P ↔ W r fun a S => W (f a S) P := by
  constructor
  · rintro ⟨b, T, e, p⟩
    cases r with
    | ok a S => exact ⟨a, S, rfl, b, T, e, p⟩
    | exc x S => cases e
    | stuck => cases e
  · rintro ⟨a, S, rfl, p⟩
    exact p
theorem w_br {t : Bool} {a b : R α} {P : α → Store → Prop} : W (br t a b) P ↔ (t = true → W a P) ∧ (t = false → W b P) := by cases t <;> simp [br]
theorem wq_br {t : Bool} {a b : Q} : WQ (br t a b) k ↔ (t = true → WQ a k) ∧ (t = false → WQ b k) := by cases t <;> simp [br]
theorem br_or {t y : Bool} : br t (R.ok (D.bl t) S) (R.ok (D.bl y) S) = .ok (D.bl (t || y)) S := by cases t <;> rfl
theorem br_and {t y : Bool} : br t (R.ok (D.bl y) S) (R.ok (D.bl t) S) = .ok (D.bl (t && y)) S := by cases t <;> rfl
theorem br_ok {α : Type} {t : Bool} {x y : α} : br t (R.ok x S) (R.ok y S) = .ok (br t x y) S := by cases t <;> rfl
theorem w_ck {t : Bool} {r : R α} {P : α → Store → Prop} : W (ck t r) P ↔ t = true ∧ W r P := by
  cases t
  · exact ⟨fun ⟨_, _, e, _⟩ => (nomatch e), fun ⟨e, _⟩ => (nomatch e)⟩
  · simp [ck]
theorem w_mk {c : Bool} {d : D} {P : D → Store → Prop} : W (mk? c d S) P ↔ c = true ∧ P d S := by
  cases c
  · exact ⟨fun ⟨_, _, e, _⟩ => (nomatch e), fun ⟨e, _⟩ => (nomatch e)⟩
  · simp [mk?, w_ok]
theorem w_stuck {P : α → Store → Prop} : W (.stuck : R α) P ↔ False := ⟨fun ⟨_, _, e, _⟩ => (nomatch e), False.elim⟩
theorem wq_then {q : Q} {f : Env → Store → Q} : WQ (q.then f) k ↔ WQ q { n := fun e S => WQ (f e S) k, r := k.r, b := k.b, c := k.c } := by cases q <;> rfl
theorem wq_of {r : R α} {f : α → Store → Q} : WQ (Q.of env r f) k ↔ W r fun a S => WQ (f a S) k := by
  cases r with
  | ok a S => simp [w_ok]
  | exc x S => exact ⟨fun h => h.elim, fun ⟨_, _, e, _⟩ => nomatch e⟩
  | stuck => exact ⟨fun h => h.elim, fun ⟨_, _, e, _⟩ => nomatch e⟩
theorem wq_nxt : WQ (.nxt env S) k ↔ k.n env S := Iff.rfl
theorem wq_ret {v : D} : WQ (.ret v S) k ↔ k.r v S := Iff.rfl
theorem wq_brk : WQ (.brk env S) k ↔ k.b env S := Iff.rfl
theorem wq_cnt : WQ (.cnt env S) k ↔ k.c env S := Iff.rfl
theorem wq_stuck : WQ .stuck k ↔ False := Iff.rfl
/-- what comes behind is looked at later -/
theorem w_hide {r : R α} {P : α → Store → Prop} (h : ∀ P', P' = P → W r P') : W r P := h P rfl
/-- a choice -/
def BR (t : Bool) (A B : Prop) : Prop := (t = true → A) ∧ (t = false → B)
theorem BR_t {A B : Prop} : BR true A B = A := by simp [BR]
theorem BR_f {A B : Prop} : BR false A B = B := by simp [BR]
theorem BR_i {t : Bool} {A B : Prop} (h1 : t = true → A) (h2 : t = false → B) : BR t A B := ⟨h1, h2⟩
theorem BR_p {p : Prop} [Decidable p] {A B : Prop} (h1 : p → A) (h2 : ¬ p → B) : BR (decide p) A B := ⟨fun h => h1 (of_decide_eq_true h), fun h => h2 (of_decide_eq_false h)⟩
/-- a name bound -/
def KB (o : Option Env) (F : Env → Prop) : Prop := ∃ e, o = some e ∧ F e
theorem KB_some {e : Env} {F : Env → Prop} : KB (some e) F = F e := by simp [KB]
/-- a def's end -/
theorem w_out {leak : Bool} {q : Q} {P : D → Store → Prop} : W (outQ leak S q) P ↔ WQ q { n := fun _ S' => W (fin leak S .non S') P, r := fun v S' => W (fin leak S v S') P } := by
  cases q with
  | nxt e S' => exact Iff.rfl
  | ret v S' => exact Iff.rfl
  | brk e S' => exact w_stuck
  | cnt e S' => exact w_stuck
  | exc x e S' => exact ⟨fun ⟨_, _, e, _⟩ => (nomatch e), False.elim⟩
  | stuck => exact w_stuck
/-- a choice by a truth that is known -/
theorem W.eqn {r : R α} {a : α} {T : Store} {P : α → Store → Prop} (h : r = .ok a T) (p : P a T) : W r P := ⟨a, T, h, p⟩
end
/-! ### expressions -/
section
variable {call : Nat → List D → Store → R D} {env : Env} {S : Store}
theorem e_and (a b : E) : evE call (.and a b) env S = (evE call a env S).bind fun x S => (test x S).bind fun t S => br t (evE call b env S) (.ok x S) := by simp only [evE] <;> rfl
theorem e_or (a b : E) : evE call (.or a b) env S = (evE call a env S).bind fun x S => (test x S).bind fun t S => br t (.ok x S) (evE call b env S) := by simp only [evE] <;> rfl
theorem e_ite (c a b : E) : evE call (.ite c a b) env S = (evE call c env S).bind fun x S => (test x S).bind fun t S => br t (evE call a env S) (evE call b env S) := by simp only [evE] <;> rfl
theorem e_lst (m : Bool) (es : List E) : evE call (.lst m es) env S = (evEs call es env S).bind fun ds S => ck (decide (ds.length ≤ most)) (mkL m ds S) := by simp only [evE] <;> rfl
theorem e_meth (f : Mt) (o : E) (es : List E) : evE call (.meth f o es) env S = (evE call o env S).bind fun x S => ck (mtRdy f x S) ((evEs call es env S).bind fun ds S => mt f x ds S) := by simp only [evE] <;> rfl
/-- a truth between -/
def ch2 (d : D) (r : R D) (S : Store) : R D := match d with
  | .bl true => r
  | .bl false => .ok (.bl false) S
  | _ => .stuck
theorem ch2_bl (b : Bool) (r : R D) : ch2 (.bl b) r S = br b r (.ok (.bl false) S) := by cases b <;> rfl
theorem e_chain (op op' : Cp) (a b c : E) : evE call (.chain op op' a b c) env S = (evE call a env S).bind fun x S => (evE call b env S).bind fun y S => (cp2 op x y S).bind fun t S => ch2 t ((evE call c env S).bind fun z S => cp2 op' y z S) S := by
  rw [ev_chain] <;> rfl
def ng (x : D) (S : Store) : R D := match x with
  | .int i => .ok (.int (-i)) S
  | _ => .stuck
theorem ng_int (i : Int) : ng (.int i) S = .ok (.int (-i)) S := rfl
theorem e_neg (a : E) : evE call (.neg a) env S = (evE call a env S).bind fun x S => ng x S := by simp only [evE] <;> rfl
def oI (x : D) (S : Store) : R (Option Int) := match x with
  | .int i => .ok (some i) S
  | _ => .stuck
theorem oI_int (i : Int) : oI (.int i) S = .ok (some i) S := rfl
theorem e_O (e : E) : evO call (some e) env S = (evE call e env S).bind fun d S => oI d S := by simp only [evO] <;> rfl
def rg1 (x : D) (S : Store) : R Row := match x with
  | .int n => rangeRow 0 n S
  | _ => .stuck
def rg2 (x y : D) (S : Store) : R Row := match x, y with
  | .int n, .int m => rangeRow n m S
  | _, _ => .stuck
theorem rg1_int (i : Int) : rg1 (.int i) S = ck (decide (i.natAbs ≤ most)) (.ok ⟨rangeL 0 i.toNat, []⟩ S) := by
  simp only [rg1, rangeRow]
  cases h : decide (i.natAbs ≤ most) <;> simp [ck]
theorem rg2_int (i j : Int) : rg2 (.int i) (.int j) S = ck (decide (i.natAbs ≤ most) && decide (j.natAbs ≤ most)) (.ok ⟨rangeL i (j - i).toNat, []⟩ S) := by
  simp only [rg2, rangeRow]
  cases h : (decide (i.natAbs ≤ most) && decide (j.natAbs ≤ most)) <;> rfl
theorem i_range1 (a : E) : evI call (.range1 a) env S = (evE call a env S).bind fun x S => rg1 x S := by simp only [evI] <;> rfl
theorem i_range2 (a b : E) : evI call (.range2 a b) env S = (evE call a env S).bind fun x S => (evE call b env S).bind fun y S => rg2 x y S := by simp only [evI] <;> rfl
theorem i_enum (a : E) : evI call (.enum a) env S = (evE call a env S).bind fun x S => enRow x S := by simp only [evI]
theorem seq_l (xs : List D) : seqRow (.lst xs) S = .ok ⟨xs, []⟩ S := rfl
theorem seq_t (xs : List D) : seqRow (.tup xs) S = .ok ⟨xs, []⟩ S := rfl
theorem seq_r (xs : List D) : seqRow (.row xs) S = .ok ⟨xs, []⟩ S := rfl
theorem seq_s (xs : List Nat) : seqRow (.str xs) S = .ok ⟨chars xs, []⟩ S := rfl
/-- a test of a clause -/
theorem t_cons (e : E) (es : List E) : evTs call (e :: es) env S = (evE call e env S).bind fun x S => (test x S).bind fun b S => br b (evTs call es env S) (.ok false S) := by simp only [evTs] <;> rfl
theorem t_nil : evTs call [] env S = .ok true S := by simp only [evTs]
/-! statements -/
def nx (o : Option Env) (S : Store) : Q := match o with
  | some env => .nxt env S
  | none => .stuck
theorem nx_some (e : Env) : nx (some e) S = .nxt e S := rfl
theorem s_asg (t : Tg) (e : E) : evC call (.asg t e) env S = Q.of env (evE call e env S) fun d S => nx (bindT t d env) S := by simp only [evC] <;> rfl
theorem s_par (is : List Nat) (es : List E) : evC call (.par is es) env S = Q.of env (evEs call es env S) fun ds S => nx (setMany is ds env) S := by simp only [evC] <;> rfl
theorem s_ife (c : E) (a b : List C) : evC call (.ife c a b) env S = Q.of env (evE call c env S) fun x S => Q.of env (test x S) fun t S => br t (evCs call a env S) (evCs call b env S) := by simp only [evC] <;> rfl
def st1 (d : D) (is : List Nat) (k : Nat) (env : Env) (S : Store) : Q := match d with
  | .tup ds => nx (bindStar is k ds env) S
  | _ => .stuck
theorem st1_tup (ds : List D) (is : List Nat) (k : Nat) : st1 (.tup ds) is k env S = nx (bindStar is k ds env) S := rfl
theorem s_star (is : List Nat) (k : Nat) (e : E) : evC call (.star is k e) env S = Q.of env (evE call e env S) fun d S => st1 d is k env S := by
  simp only [evC] <;> rfl
def ag (o : Option (Option D)) (f : D → Q) : Q := match o with
  | some (some x) => f x
  | _ => .stuck
theorem ag_some (x : D) (f : D → Q) : ag (some (some x)) f = f x := rfl
theorem s_aug (i : Nat) (op : O2) (e : E) : evC call (.aug i op e) env S = ag (env[i]?) fun x => Q.of env (evE call e env S) fun y S => Q.of env (aug2 op x y S) fun z S => .nxt (env.set i (some z)) S := by simp only [evC] <;> rfl
theorem s_while (c : E) (b : List C) : evC call (.while_ c b) env S = whileGo (fun env S => (evE call c env S).bind test) (fun env S => evCs call b env S) turns env S := by simp only [evC]
theorem s_brk : evC call .brk env S = .brk env S := by simp only [evC]
theorem s_cnt : evC call .cont env S = .cnt env S := by simp only [evC]
theorem s_pass : evC call .pass env S = .nxt env S := by simp only [evC]
theorem s_retn : evC call .retn env S = .ret .non S := by simp only [evC]
/-- a name read -/
def vl (o : Option (Option D)) (S : Store) : R D := match o with
  | some (some d) => .ok d S
  | _ => .stuck
theorem vl_some (d : D) : vl (some (some d)) S = .ok d S := rfl
theorem e_var (i : Nat) : evE call (.var i) env S = vl env[i]? S := by simp only [evE] <;> rfl
/-! items -/
theorem a0 {x : D} {xs : List D} : atD (.tup (x :: xs)) (.int 0) S = .ok x S := at_tup (n := 0) (by unfold ixn; simp) rfl
theorem a1 {x y : D} {xs : List D} : atD (.tup (x :: y :: xs)) (.int 1) S = .ok y S := at_tup (n := 1) (by unfold ixn; simp; omega) rfl
theorem a2 {x y z : D} {xs : List D} : atD (.tup (x :: y :: z :: xs)) (.int 2) S = .ok z S := at_tup (n := 2) (by unfold ixn; simp; omega) rfl
theorem a3 {x y z u : D} {xs : List D} : atD (.tup (x :: y :: z :: u :: xs)) (.int 3) S = .ok u S := at_tup (n := 3) (by unfold ixn; simp; omega) rfl
theorem a4 {x y z u v : D} {xs : List D} : atD (.tup (x :: y :: z :: u :: v :: xs)) (.int 4) S = .ok v S := at_tup (n := 4) (by unfold ixn; simp; omega) rfl
theorem l0 {x : D} {xs : List D} : atD (.lst (x :: xs)) (.int 0) S = .ok x S := at_lst (n := 0) (by unfold ixn; simp) rfl
theorem l1 {x y : D} {xs : List D} : atD (.lst (x :: y :: xs)) (.int 1) S = .ok y S := at_lst (n := 1) (by unfold ixn; simp; omega) rfl
theorem l2 {x y z : D} {xs : List D} : atD (.lst (x :: y :: z :: xs)) (.int 2) S = .ok z S := at_lst (n := 2) (by unfold ixn; simp; omega) rfl
theorem l3 {x y z u : D} {xs : List D} : atD (.lst (x :: y :: z :: u :: xs)) (.int 3) S = .ok u S := at_lst (n := 3) (by unfold ixn; simp; omega) rfl
theorem sl_t {m : Bool} {xs : List D} {lo hi : Option Int} : slice m (.tup xs) lo hi S = .ok (.tup (cutL xs lo hi)) S := rfl
theorem sl_l {m : Bool} {xs : List D} {lo hi : Option Int} : slice m (.lst xs) lo hi S = mkL m (cutL xs lo hi) S := rfl
theorem sl_r {m : Bool} {xs : List D} {lo hi : Option Int} : slice m (.row xs) lo hi S = mkL m (cutL xs lo hi) S := rfl
theorem sl_s {m : Bool} {xs : List Nat} {lo hi : Option Int} : slice m (.str xs) lo hi S = .ok (.str (cutL xs lo hi)) S := rfl
theorem o_add_ll {m : Bool} {xs ys : List D} : op2 m .add (.lst xs) (.lst ys) S = ck (decide (xs.length + ys.length ≤ most)) (mkL m (xs ++ ys) S) := by
  simp only [op2, lsOf]
  cases h : decide (xs.length + ys.length ≤ most) <;> rfl
def rvT (x : D) (m : Bool) (S : Store) : R D := match x with
  | .tup xs => .ok (.tup xs.reverse) S
  | x => match lsOf S x with
    | some xs => mkL m xs.reverse S
    | none => .stuck
theorem rvT_tup {m : Bool} {xs : List D} : rvT (.tup xs) m S = .ok (.tup xs.reverse) S := rfl
theorem rvT_lst {m : Bool} {xs : List D} : rvT (.lst xs) m S = mkL m xs.reverse S := rfl
theorem e_rev (m : Bool) (a : E) : evE call (.rev m a) env S = (evE call a env S).bind fun x S => rvT x m S := by
  simp only [evE] <;> rfl
theorem l_list_t {m : Bool} {xs : List D} : bt m .list [.tup xs] S = mkL m xs S := rfl
theorem l_list_l {m : Bool} {xs : List D} : bt m .list [.lst xs] S = mkL m xs S := rfl
theorem e_cons {c : C} {cs : List C} : evCs call (c :: cs) env S = (evC call c env S).then fun env S => evCs call cs env S := by simp only [evCs]
end
/-! ### statements, one at a time -/
section
variable {call : Nat → List D → Store → R D} {env : Env} {S : Store} {cs : List C} {k : Kn}
theorem cs_append : ∀ (a b : List C) (env : Env) (S : Store), evCs call (a ++ b) env S = (evCs call a env S).then fun e S => evCs call b e S
  | [], b, env, S => by simp only [List.nil_append, cs_nil, Q.then_nxt]
  | c :: a, b, env, S => by
    rw [List.cons_append, e_cons, e_cons]
    cases evC call c env S with
    | nxt e S => exact cs_append a b e S
    | ret v S => rfl
    | brk e S => rfl
    | cnt e S => rfl
    | exc x e S => rfl
    | stuck => rfl
theorem k_nil (h : k.n env S) : WQ (evCs call [] env S) k := by rw [cs_nil]; exact h
theorem k_asg {t : Tg} {e : E} (h : W (evE call e env S) fun d S1 => KB (bindT t d env) fun e1 => WQ (evCs call cs e1 S1) k) : WQ (evCs call (.asg t e :: cs) env S) k := by
  rw [e_cons, wq_then, s_asg, wq_of]
  refine h.mono ?_
  rintro d S1 ⟨e1, h1, h2⟩
  rw [h1]
  exact h2
theorem k_par {is : List Nat} {es : List E} (h : W (evEs call es env S) fun ds S1 => KB (setMany is ds env) fun e1 => WQ (evCs call cs e1 S1) k) : WQ (evCs call (.par is es :: cs) env S) k := by
  rw [e_cons, wq_then, s_par, wq_of]
  refine h.mono ?_
  rintro d S1 ⟨e1, h1, h2⟩
  rw [h1]
  exact h2
theorem k_star {is : List Nat} {j : Nat} {e : E} (h : W (evE call e env S) fun d S1 => ∃ ds, d = .tup ds ∧ KB (bindStar is j ds env) fun e1 => WQ (evCs call cs e1 S1) k) : WQ (evCs call (.star is j e :: cs) env S) k := by
  rw [e_cons, wq_then, s_star, wq_of]
  refine h.mono ?_
  rintro d S1 ⟨ds, rfl, e1, h1, h2⟩
  rw [st1_tup, h1]
  exact h2
theorem k_ife {c : E} {a b : List C} (h : W ((evE call c env S).bind test) fun t S2 => BR t (WQ (evCs call (a ++ cs) env S2) k) (WQ (evCs call (b ++ cs) env S2) k)) : WQ (evCs call (.ife c a b :: cs) env S) k := by
  rw [e_cons, wq_then, s_ife, wq_of]
  refine (w_bind.mp h).mono ?_
  intro x S1 g
  rw [wq_of]
  refine g.mono ?_
  intro t S2 ⟨g1, g2⟩
  cases t with
  | true => have := g1 rfl; rw [cs_append, wq_then] at this; exact this
  | false => have := g2 rfl; rw [cs_append, wq_then] at this; exact this
theorem k_ret {e : E} (h : W (evE call e env S) k.r) : WQ (evCs call (.ret e :: cs) env S) k := by
  rw [e_cons, wq_then, c_ret, wq_of]
  exact h.mono fun d S1 h => h
theorem k_retn (h : k.r .non S) : WQ (evCs call (.retn :: cs) env S) k := by
  rw [e_cons, wq_then, s_retn]
  exact h
theorem k_ex {e : E} (h : W (evE call e env S) fun _ S1 => WQ (evCs call cs env S1) k) : WQ (evCs call (.ex e :: cs) env S) k := by
  rw [e_cons, wq_then, c_ex, wq_of]
  exact h.mono fun d S1 h => h
theorem k_seti {o i e : E} (h : W ((evE call e env S).bind fun d S1 => (evE call o env S1).bind fun x S2 => (evE call i env S2).bind fun y S3 => setAt x y d S3) fun _ S4 => WQ (evCs call cs env S4) k) : WQ (evCs call (.seti o i e :: cs) env S) k := by
  rw [e_cons, wq_then, c_seti, wq_of]
  refine (w_bind.mp h).mono fun d S1 h => ?_
  rw [wq_of]
  refine (w_bind.mp h).mono fun x S2 h => ?_
  rw [wq_of]
  refine (w_bind.mp h).mono fun y S3 h => ?_
  rw [wq_of]
  exact h.mono fun _ S4 h => h
theorem k_aug {i : Nat} {op : O2} {e : E} (h : W ((vl env[i]? S).bind fun x _ => (evE call e env S).bind fun y S1 => aug2 op x y S1) fun z S2 => WQ (evCs call cs (env.set i (some z)) S2) k) : WQ (evCs call (.aug i op e :: cs) env S) k := by
  rw [e_cons, wq_then, s_aug]
  obtain ⟨x, T, e1, h⟩ := w_bind.mp h
  cases q : env[i]? with
  | none => rw [q] at e1; cases e1
  | some o => cases o with
    | none => rw [q] at e1; cases e1
    | some z =>
      rw [q, vl_some] at e1
      cases e1
      rw [ag_some, wq_of]
      refine (w_bind.mp h).mono fun y S1 h => ?_
      rw [wq_of]
      exact h.mono fun _ S4 h => h
theorem k_for {t : Tg} {it : E} {b : List C} (h : W (evI call it env S) fun w S1 => WQ (forGo w (bindT t) (fun env S => evCs call b env S) w.items env S1) { n := fun e S => WQ (evCs call cs e S) k, r := k.r, b := k.b, c := k.c }) : WQ (evCs call (.for_ t it b :: cs) env S) k := by
  rw [e_cons, wq_then, c_for, wq_of]
  exact h
theorem k_while {c : E} {b : List C} (h : WQ (whileGo (fun env S => (evE call c env S).bind test) (fun env S => evCs call b env S) turns env S) { n := fun e S => WQ (evCs call cs e S) k, r := k.r, b := k.b, c := k.c }) : WQ (evCs call (.while_ c b :: cs) env S) k := by
  rw [e_cons, wq_then, s_while]
  exact h
theorem k_brk (h : k.b env S) : WQ (evCs call (.brk :: cs) env S) k := by
  rw [e_cons, wq_then, s_brk]
  exact h
theorem k_cnt (h : k.c env S) : WQ (evCs call (.cont :: cs) env S) k := by
  rw [e_cons, wq_then, s_cnt]
  exact h
theorem k_pass (h : WQ (evCs call cs env S) k) : WQ (evCs call (.pass :: cs) env S) k := by
  rw [e_cons, wq_then, s_pass]
  exact h
end
/-- a call, met in a reading -/
theorem w_call {P : List Fn} {F : Fn} {k f : Nat} {ds : List D} {S : Store} {T : D → Store → Prop} (h : P[f]? = some F) (hl : ds.length = F.np)
    (g : WQ (evCs (callN P k) F.body (ds.map some ++ List.replicate (F.n - F.np) none) S) { n := fun _ S' => W (fin F.leak S .non S') T, r := fun v S' => W (fin F.leak S v S') T }) : W (callN P (k + 1) f ds S) T := by
  rw [call_eq h hl]
  exact w_out.mpr g
/-- a for over items that stay: what holds of those still to come -/
theorem w_for {w : Row} (hw : w.watch = []) {bnd : D → Env → Option Env} {body : Env → Store → Q} {k : Kn} (I : List D → Env → Store → Prop) :
    ∀ (ds : List D) (env : Env) (S : Store), I ds env S → (∀ env S, I [] env S → k.n env S) →
    (∀ d ds env S, I (d :: ds) env S → ∃ env1, bnd d env = some env1 ∧ WQ (body env1 S) { n := I ds, r := k.r, b := k.n, c := I ds }) → WQ (forGo w bnd body ds env S) k
  | [], env, S, h, e, _ => by simp only [forGo, stays_nil hw]; exact e env S h
  | d :: ds, env, S, h, e, st => by
    obtain ⟨env1, hb, g⟩ := st d ds env S h
    simp only [forGo, stays_nil hw, hb]
    cases q : body env1 S with
    | nxt e2 S2 => rw [q] at g; exact w_for hw I ds e2 S2 g e st
    | cnt e2 S2 => rw [q] at g; exact w_for hw I ds e2 S2 g e st
    | brk e2 S2 => rw [q] at g; exact g
    | ret v S2 => rw [q] at g; exact g
    | exc x e2 S2 => rw [q] at g; exact g.elim
    | stuck => rw [q] at g; exact g.elim
/-- a while: an invariant, a measure -/
theorem w_while {test : Env → Store → R Bool} {body : Env → Store → Q} {k : Kn} (I : Nat → Env → Store → Prop) :
    ∀ (m fuel : Nat) (env : Env) (S : Store), m < fuel → I m env S →
    (∀ m env S, I m env S → W (test env S) fun b S1 => (b = false → k.n env S1) ∧ (b = true → WQ (body env S1) { n := fun e S => ∃ m' < m, I m' e S, r := k.r, b := k.n, c := fun e S => ∃ m' < m, I m' e S })) → WQ (whileGo test body fuel env S) k := by
  intro m fuel
  induction fuel generalizing m with
  | zero => intro env S h; omega
  | succ fuel ih =>
    intro env S hf hI st
    unfold whileGo
    refine wq_of.mpr ((st m env S hI).mono ?_)
    intro b S1 ⟨h0, h1⟩
    cases b with
    | false => exact h0 rfl
    | true =>
      have g := h1 rfl
      cases q : body env S1 with
      | nxt e2 S2 => rw [q] at g; obtain ⟨m', l, i⟩ := g; exact ih m' e2 S2 (by omega) i st
      | cnt e2 S2 => rw [q] at g; obtain ⟨m', l, i⟩ := g; exact ih m' e2 S2 (by omega) i st
      | brk e2 S2 => rw [q] at g; exact g
      | ret v S2 => rw [q] at g; exact g
      | exc x e2 S2 => rw [q] at g; exact g.elim
      | stuck => rw [q] at g; exact g.elim
end MP
end
section
set_option maxRecDepth 100000
set_option exponentiation.threshold 3000
/-! Pl1: plain laws: data that can be shown. -/
namespace MP
open PySem
mutual
theorem data_und (n : Nat) : ∀ {d : D}, d.data = true → d.und n = true
  | .non, _ => rfl
  | .bl _, _ => rfl
  | .int _, _ => rfl
  | .str _, _ => rfl
  | .lst xs, h => dataAll_und n (by simpa [D.data] using h)
  | .tup xs, h => dataAll_und n (by simpa [D.data] using h)
  | .dct kvs, h => dataKv_und n (by simpa [D.data] using h)
  | .ref _, h => by cases h
  | .fn _, h => by cases h
  | .row _, h => by cases h
theorem dataAll_und (n : Nat) : ∀ {xs : List D}, dataAll xs = true → undAll n xs = true
  | [], _ => rfl
  | x :: xs, h => by
    obtain ⟨h1, h2⟩ := and_tt (show (x.data && dataAll xs) = true from by simpa [dataAll] using h)
    simp only [undAll, data_und n h1, dataAll_und n h2]
    rfl
theorem dataKv_und (n : Nat) : ∀ {es : List (D × D)}, dataKv es = true → undKv n es = true
  | [], _ => rfl
  | (k, d) :: es, h => by
    obtain ⟨h1, h2⟩ := and_tt (show (k.data && (d.data && dataKv es)) = true from by simpa [dataKv] using h)
    obtain ⟨h2, h3⟩ := and_tt h2
    simp only [undKv, data_und n h1, data_und n h2, dataKv_und n h3]
    rfl
end
theorem data_view {S : Store} {d : D} (h : d.data = true) : view S d = d := by
  cases d <;> first | rfl | cases h
/-- data that can be shown: how deep, how heavy -/
structure Thing (d : D) (n w : Nat) : Prop where
  data : d.data = true
  show_ : d.py.showable = true
  deep : d.deep ≤ n
  short : d.py.leavesShort 13 = true
  wt : d.py.weight ≤ w
theorem Thing.repr {d : D} {n w : Nat} (t : Thing d n w) (hn : n ≤ 150) (hw : w ≤ 60000) (m : Bool) (S : Store) : bt m .repr [d] S = .ok (.str d.shown) S := by
  have h := PyData.shown_le 13 (by decide) d.py t.short
  have h2 := t.wt
  have hl : d.shown.length ≤ most := by
    unfold D.shown most
    have : d.py.shown.cps.toList.length = d.py.shown.length := by simp [Str.length]
    omega
  simp only [bt, data_view t.data]
  have hd : d.deep ≤ far := Nat.le_trans t.deep hn
  simp [mk?, t.data, t.show_, hd, hl]
theorem thing_non : Thing .non 0 0 := ⟨rfl, rfl, Nat.le_refl _, rfl, Nat.le_refl _⟩
theorem thing_bl (b : Bool) : Thing (.bl b) 0 0 := ⟨rfl, rfl, Nat.le_refl _, rfl, Nat.le_refl _⟩
theorem thing_str {x : List Nat} (h : x.all (fun c => decide (c < 16 ^ 8)) = true) : Thing (.str x) 0 x.length := ⟨rfl, rfl, Nat.le_refl _, by simpa [D.py, PyData.leavesShort] using h, by simp [D.py, PyData.weight]⟩
theorem thing_tup1 {d : D} {n w : Nat} (t : Thing d n w) : Thing (.tup [d]) (n + 1) (w + 1) :=
  ⟨by simp [D.data, dataAll, t.data], by simp [D.py, pyAll, PyData.showable, PyData.showableAll, t.show_], by have := t.deep; simp [D.deep, deepAll]; omega, by simp [D.py, pyAll, PyData.leavesShort, PyData.leavesShortAll, t.short], by have := t.wt; simp [D.py, pyAll, PyData.weight, PyData.weightAll]; omega⟩
theorem thing_lst1 {d : D} {n w : Nat} (t : Thing d n w) : Thing (.lst [d]) (n + 1) (w + 1) :=
  ⟨by simp [D.data, dataAll, t.data], by simp [D.py, pyAll, PyData.showable, PyData.showableAll, t.show_], by have := t.deep; simp [D.deep, deepAll]; omega, by simp [D.py, pyAll, PyData.leavesShort, PyData.leavesShortAll, t.short], by have := t.wt; simp [D.py, pyAll, PyData.weight, PyData.weightAll]; omega⟩
theorem thing_tup2 {d e : D} {n w v : Nat} (s : Thing e 0 v) (t : Thing d n w) : Thing (.tup [e, d]) (n + 1) (w + v + 2) :=
  ⟨by simp [D.data, dataAll, t.data, s.data], by simp [D.py, pyAll, PyData.showable, PyData.showableAll, t.show_, s.show_], by have := t.deep; have := s.deep; simp [D.deep, deepAll]; omega, by simp [D.py, pyAll, PyData.leavesShort, PyData.leavesShortAll, t.short, s.short], by have := t.wt; have := s.wt; simp [D.py, pyAll, PyData.weight, PyData.weightAll]; omega⟩
theorem thing_dct1 {d e : D} {n w v : Nat} (s : Thing e 0 v) (t : Thing d n w) : Thing (.dct [(e, d)]) (n + 1) (w + v + 2) :=
  ⟨by simp [D.data, dataKv, t.data, s.data], by simp [D.py, pyKv, PyData.showable, PyData.showableKv, t.show_, s.show_], by have := t.deep; have := s.deep; simp [D.deep, deepKv]; omega, by simp [D.py, pyKv, PyData.leavesShort, PyData.leavesShortKv, t.short, s.short], by have := t.wt; have := s.wt; simp [D.py, pyKv, PyData.weight, PyData.weightKv]; omega⟩
theorem Thing.mono {d : D} {n w n' w' : Nat} (t : Thing d n w) (hn : n ≤ n') (hw : w ≤ w') : Thing d n' w' := ⟨t.data, t.show_, Nat.le_trans t.deep hn, t.short, Nat.le_trans t.wt hw⟩
/-- {k: v} -/
theorem ev_dict1 {call : Nat → List D → Store → R D} {env : Env} {S : Store} {a b : E} {x y : D} (ha : ∀ S, evE call a env S = .ok x S) (hb : ∀ S, evE call b env S = .ok y S) (hk : flatKey x = true) (hx : x.data = true) (hy : y.data = true) : evE call (.dict false [a, b]) env S = .ok (.dct [(x, y)]) S := by
  have e : (S ++ [Cell.dct []]).set S.length (.dct [(x, y)]) = S ++ [.dct [(x, y)]] := by
    rw [List.set_append_right _ _ (Nat.le_refl _)]
    simp
  have kept : Kept S (S ++ [.dct [(x, y)]]) := fun i hi => .inl (by rw [List.getElem?_append_left hi])
  have u : undKv S.length [(x, y)] = true := dataKv_und _ (by simp [dataKv, hx, hy])
  simp only [evE, evs_cons, evs_nil, ha, hb, R.bind_ok, pairUp, Option.map_some, List.getElem?_append_right (Nat.le_refl _), Nat.sub_self, List.getElem?_cons_zero, keysOk, hk]
  simp only [e, List.all_nil, Bool.and_self, List.length_singleton, Bool.true_and, decide_true]
  unfold dictEnd
  simp [u, kept]
end MP
end
section
set_option maxRecDepth 100000
/-! defs that several laws share -/
namespace KB
open PySem L2 MP
structure Ix where
  parts_of : Nat := 0
  words_of : Nat := 0
  signsP : Nat := 0
  proofs_above : Nat := 0
  steps : Nat := 0
  measures : Nat := 0
  pot : Nat := 0
  take : Nat := 0
  of : Nat := 0
  other : Nat := 0
  about : Nat := 0
  many : Nat := 0
  deep : Nat := 0
  fits : Nat := 0
  name : Nat := 0
  saying : Nat := 0
  begin : Nat := 0
  merged : Nat := 0
  paired : Nat := 0
  step_on : Nat := 0
  above : Nat := 0
  size : Nat := 0
  grown : Nat := 0
  mirror : Nat := 0
  cut : Nat := 0
  cut_more : Nat := 0
  drawn : Nat := 0
  beside : Nat := 0
  found : Nat := 0
  law : Nat := 0
  tHEAD_LONG : Nat := 0
def t_HEAD_LONG : List (List Nat × Fl) := [([116, 105, 101], .int (1)), ([111, 110, 101], .int (1)), ([97, 108, 108], .int (2)), ([110, 111, 110, 101], .int (2)), ([98, 105, 110, 100], .int (2)), ([112, 97, 105, 114], .int (3)), ([109, 101, 110, 117], .int (2)), ([112, 105, 99, 107], .int (3)), ([107, 101, 101, 112], .int (2)), ([117, 115, 101], .int (2)), ([119, 97, 115, 116, 101], .int (2)), ([97, 103, 97, 105, 110], .int (2)), ([99, 117, 116], .int (3))]
/-- _law_take -/
def b_take (ix : Ix) : List C := [
  (.while_ (.and (.cmp .ne (.idx (.var 0) (.lit (.int (0)))) (.lst false [])) (.cmp .eq (.idx (.idx (.var 0) (.lit (.int (0)))) (.lit (.int (0)))) (.lit (.int (0))))) [(.ex (.meth .popAt (.idx (.var 0) (.lit (.int (0)))) [(.lit (.int (0)))]))]),
  (.ife (.cmp .ne (.idx (.var 0) (.lit (.int (0)))) (.lst false [])) [(.asg (.nm 4) (.bin false .mod (.idx (.idx (.var 0) (.lit (.int (0)))) (.lit (.int (0)))) (.var 1))), (.seti (.idx (.var 0) (.lit (.int (0)))) (.lit (.int (0))) (.bin false .fdiv (.idx (.idx (.var 0) (.lit (.int (0)))) (.lit (.int (0)))) (.var 1))), (.ret (.var 4))] []),
  (.asg (.nm 2) (.bin false .add (.idx (.var 0) (.lit (.int (2)))) (.lit (.int (1))))),
  (.seti (.var 0) (.lit (.int (2))) (.var 2)),
  (.asg (.nm 3) (.bin false .mul (.bin false .add (.bin false .add (.idx (.var 0) (.lit (.int (1)))) (.bin false .mul (.bin false .mul (.lit (.int (65537))) (.var 2)) (.var 2))) (.bin false .mul (.lit (.int (15485863))) (.var 2))) (.lit (.int (48271))))),
  (.asg (.nm 3) (.bin false .mod (.var 3) (.lit (.int (2305843009213693921))))),
  (.asg (.nm 3) (.bin false .mul (.var 3) (.bin false .add (.bin false .add (.bin false .mod (.var 3) (.lit (.int (1000003)))) (.bin false .mul (.lit (.int (99991))) (.var 2))) (.lit (.int (7)))))),
  (.asg (.nm 3) (.bin false .mod (.var 3) (.lit (.int (2305843009213693907))))),
  (.ret (.bin false .mod (.bin false .add (.bin false .fdiv (.var 3) (.lit (.int (97)))) (.bin false .fdiv (.var 3) (.lit (.int (1000033))))) (.var 1)))]
def f_take (ix : Ix) : Fn := ⟨2, 5, false, b_take ix⟩
/-- _law_of -/
def b_of (ix : Ix) : List C := [
  (.ret (.idx (.var 1) (.call ix.take [(.var 0), (.blt false .len [(.var 1)])])))]
def f_of (ix : Ix) : Fn := ⟨2, 2, false, b_of ix⟩
/-- _law_other -/
def b_other (ix : Ix) : List C := [
  (.asg (.nm 1) (.lst false [(.lit (.str [116, 104, 105, 110, 103])), (.lit (.str [100, 101, 98, 116])), (.lit (.str [112, 97, 105, 114])), (.lit (.str [98, 105, 110, 100])), (.lit (.str [109, 101, 110, 117])), (.lit (.str [112, 105, 99, 107])), (.lit (.str [111, 110, 101])), (.lit (.str [110, 111, 110, 101])), (.lit (.str [97, 108, 108])), (.lit (.str [110, 101, 118, 101, 114]))])),
  (.asg (.nm 2) (.meth .index (.var 1) [(.var 0)])),
  (.ret (.idx (.var 1) (.bin false .sub (.bin false .add (.var 2) (.lit (.int (1)))) (.bin false .mul (.lit (.int (2))) (.bin false .mod (.var 2) (.lit (.int (2))))))))]
def f_other (ix : Ix) : Fn := ⟨1, 3, false, b_other ix⟩
/-- _law_about -/
def b_about (ix : Ix) : List C := [
  (.ife (.cmp .isin (.idx (.var 0) (.lit (.int (0)))) (.tup [(.lit (.str [116, 104, 105, 110, 103])), (.lit (.str [100, 101, 98, 116]))])) [(.ret (.tup [(.call ix.other [(.idx (.var 0) (.lit (.int (0))))]), (.idx (.var 0) (.lit (.int (1))))]))] []),
  (.ret (.bin false .add (.tup [(.call ix.other [(.idx (.var 0) (.lit (.int (0))))])]) (.blt false .tuple [(.comp false (.call ix.about [(.var 1)]) (.nm 1) (.seq (.slc false (.var 0) (some (.lit (.int (1)))) none)) [] [1])])))]
def f_about (ix : Ix) : Fn := ⟨1, 2, false, b_about ix⟩
/-- _law_many -/
def b_many (ix : Ix) : List C := [
  (.ife (.cmp .isin (.idx (.var 0) (.lit (.int (0)))) (.tup [(.lit (.str [116, 104, 105, 110, 103])), (.lit (.str [100, 101, 98, 116]))])) [(.ret (.lit (.int (1))))] []),
  (.ret (.bin false .add (.lit (.int (1))) (.blt false .sum [(.comp false (.call ix.many [(.var 1)]) (.nm 1) (.seq (.slc false (.var 0) (some (.lit (.int (1)))) none)) [] [1])])))]
def f_many (ix : Ix) : Fn := ⟨1, 2, false, b_many ix⟩
/-- _law_deep -/
def b_deep (ix : Ix) : List C := [
  (.ife (.or (.cmp .isin (.idx (.var 0) (.lit (.int (0)))) (.tup [(.lit (.str [116, 104, 105, 110, 103])), (.lit (.str [100, 101, 98, 116]))])) (.cmp .eq (.blt false .len [(.var 0)]) (.lit (.int (1))))) [(.ret (.lit (.int (1))))] []),
  (.ret (.bin false .add (.lit (.int (1))) (.blt false .max2 [(.comp false (.call ix.deep [(.var 1)]) (.nm 1) (.seq (.slc false (.var 0) (some (.lit (.int (1)))) none)) [] [1])])))]
def f_deep (ix : Ix) : Fn := ⟨1, 2, false, b_deep ix⟩
/-- _law_fits -/
def b_fits (ix : Ix) : List C := [
  (.asg (.nm 1) (.blt false .sum [(.comp false (.call ix.many [(.var 2)]) (.nm 2) (.seq (.var 0)) [] [2])])),
  (.ret (.and (.cmp .lt (.blt false .len [(.var 0)]) (.lit (.int (9)))) (.and (.cmp .lt (.var 1) (.lit (.int (25)))) (.blt false .all [(.comp false (.cmp .lt (.call ix.deep [(.var 2)]) (.lit (.int (7)))) (.nm 2) (.seq (.var 0)) [] [2])]))))]
def f_fits (ix : Ix) : Fn := ⟨1, 3, false, b_fits ix⟩
/-- _law_name -/
def b_name (ix : Ix) : List C := [
  (.asg (.nm 1) (.meth .join (.lit (.str [])) [(.comp false (.call ix.of [(.var 0), (.lit (.str [97, 98, 99, 100, 101, 102, 103, 104, 105, 106, 107, 108, 109, 110, 111, 112, 113, 114, 115, 116, 117, 118, 119, 120, 121, 122]))]) (.nm 2) (.range1 (.bin false .add (.lit (.int (1))) (.call ix.take [(.var 0), (.lit (.int (6)))]))) [] [2])])),
  (.ret (.call ix.of [(.var 0), (.lst false [(.lit (.str [97])), (.lit (.str [98])), (.lit (.str [97, 98])), (.lit (.str [122, 122, 122, 122, 122, 122])), (.lit (.str [97, 97, 97, 97, 97, 98])), (.var 1)])]))]
def f_name (ix : Ix) : Fn := ⟨1, 3, false, b_name ix⟩
/-- _law_saying -/
def b_saying (ix : Ix) : List C := [
  (.asg (.nm 2) (.call ix.take [(.var 0), (.lit (.int (9)))])),
  (.ife (.or (.cmp .lt (.var 1) (.lit (.int (2)))) (.cmp .lt (.var 2) (.lit (.int (4))))) [(.asg (.nm 4) (.idx (.lst false [(.tup [(.lit (.str [111, 110, 101]))]), (.tup [(.lit (.str [110, 111, 110, 101]))]), (.tup [(.lit (.str [97, 108, 108]))]), (.tup [(.lit (.str [110, 101, 118, 101, 114]))])]) (.call ix.take [(.var 0), (.lit (.int (4)))]))), (.asg (.nm 5) (.tup [(.idx (.lst false [(.lit (.str [116, 104, 105, 110, 103])), (.lit (.str [100, 101, 98, 116]))]) (.call ix.take [(.var 0), (.lit (.int (2)))])), (.call ix.name [(.var 0)])])), (.ret (.ite (.cmp .eq (.call ix.take [(.var 0), (.lit (.int (3)))]) (.lit (.int (0)))) (.var 4) (.var 5)))] []),
  (.asg (.nm 3) (.idx (.lst false [(.lit (.str [112, 97, 105, 114])), (.lit (.str [98, 105, 110, 100])), (.lit (.str [109, 101, 110, 117])), (.lit (.str [112, 105, 99, 107]))]) (.call ix.take [(.var 0), (.lit (.int (4)))]))),
  (.ret (.tup [(.var 3), (.call ix.saying [(.var 0), (.bin false .sub (.var 1) (.lit (.int (1))))]), (.call ix.saying [(.var 0), (.bin false .sub (.var 1) (.lit (.int (1))))])]))]
def f_saying (ix : Ix) : Fn := ⟨2, 6, false, b_saying ix⟩
/-- _law_begin -/
def b_begin (ix : Ix) : List C := [
  (.par [2, 3, 4] [(.call ix.take [(.var 0), (.lit (.int (6)))]), (.call ix.name [(.var 0)]), (.call ix.take [(.var 0), (.lit (.int (3)))])]),
  (.ife (.cmp .eq (.var 2) (.lit (.int (0)))) [(.ret (.tup [(.tup [(.tup [(.lit (.str [111, 110, 101]))])]), (.tup [(.lit (.str [111, 110, 101]))])]))] []),
  (.ife (.cmp .eq (.var 2) (.lit (.int (1)))) [(.asg (.nm 5) (.comp false (.call ix.saying [(.var 0), (.lit (.int (2)))]) (.nm 6) (.range1 (.call ix.take [(.var 0), (.lit (.int (3)))])) [] [6])), (.asg (.nm 4) (.blt false .min2 [(.var 4), (.blt false .len [(.var 5)])])), (.ret (.tup [(.blt false .tuple [(.bin false .add (.bin false .add (.slc false (.var 5) none (some (.var 4))) (.lst false [(.tup [(.lit (.str [97, 108, 108]))])])) (.slc false (.var 5) (some (.var 4)) none))]), (.tup [(.lit (.str [97, 108, 108])), (.var 4)])]))] []),
  (.asg (.nm 1) (.tup [(.tup [(.lit (.str [116, 104, 105, 110, 103])), (.var 3)]), (.tup [(.lit (.str [100, 101, 98, 116])), (.var 3)])])),
  (.ret (.tup [(.idx (.lst false [(.var 1), (.rev false (.var 1))]) (.bin false .mod (.var 4) (.lit (.int (2))))), (.tup [(.lit (.str [116, 105, 101]))])]))]
def f_begin (ix : Ix) : Fn := ⟨1, 7, false, b_begin ix⟩
/-- _law_merged -/
def b_merged (ix : Ix) : List C := [
  (.par [3, 4] [(.lst true []), (.lst false [(.blt true .list [(.var 1)]), (.blt true .list [(.var 2)])])]),
  (.while_ (.or (.cmp .ne (.idx (.var 4) (.lit (.int (0)))) (.lst false [])) (.cmp .ne (.idx (.var 4) (.lit (.int (1)))) (.lst false []))) [(.asg (.nm 5) (.call ix.take [(.var 0), (.lit (.int (2)))])), (.asg (.nm 5) (.ite (.cmp .ne (.idx (.var 4) (.var 5)) (.lst false [])) (.var 5) (.bin false .sub (.lit (.int (1))) (.var 5)))), (.ex (.meth .append (.var 3) [(.tup [(.var 5), (.meth .popAt (.idx (.var 4) (.var 5)) [(.lit (.int (0)))])])]))]),
  (.ret (.var 3))]
def f_merged (ix : Ix) : Fn := ⟨3, 6, false, b_merged ix⟩
/-- _law_paired -/
def b_paired (ix : Ix) : List C := [
  (.asg (.tup [(.nm 11), (.nm 12)]) (.tup [(.call ix.take [(.var 0), (.lit (.int (2)))]), (.call ix.take [(.var 0), (.bin false .sub (.blt false .len [(.idx (.var 1) (.lit (.int (0))))]) (.var 3))])])),
  (.asg (.nm 4) (.call ix.take [(.var 0), (.blt false .len [(.idx (.var 2) (.lit (.int (0))))])])),
  (.asg (.nm 5) (.comp false (.tup [(.lit (.int (0))), (.var 15)]) (.nm 15) (.seq (.slc false (.idx (.var 1) (.lit (.int (0)))) (some (.bin false .sub (.blt false .len [(.idx (.var 1) (.lit (.int (0))))]) (.var 3))) none)) [] [15])),
  (.asg (.nm 6) (.call ix.merged [(.var 0), (.slc false (.idx (.var 1) (.lit (.int (0)))) none (some (.var 12))), (.slc false (.idx (.var 2) (.lit (.int (0)))) none (some (.var 4)))])),
  (.asg (.nm 7) (.bin false .add (.call ix.merged [(.var 0), (.slc false (.idx (.var 1) (.lit (.int (0)))) (some (.bin false .add (.var 12) (.lit (.int (1))))) (some (.bin false .sub (.blt false .len [(.idx (.var 1) (.lit (.int (0))))]) (.var 3)))), (.slc false (.idx (.var 2) (.lit (.int (0)))) (some (.bin false .add (.var 4) (.lit (.int (1))))) none)]) (.var 5))),
  (.asg (.nm 8) (.lst false [(.tup [(.idx (.idx (.var 1) (.lit (.int (0)))) (.var 12)), (.idx (.var 1) (.lit (.int (1))))]), (.tup [(.idx (.idx (.var 2) (.lit (.int (0)))) (.var 4)), (.idx (.var 2) (.lit (.int (1))))])])),
  (.par [13, 14] [(.idx (.var 8) (.var 11)), (.idx (.var 8) (.bin false .sub (.lit (.int (1))) (.var 11)))]),
  (.asg (.nm 9) (.bin false .add (.bin false .add (.var 6) (.lst false [(.tup [(.lit (.int (2))), (.tup [(.lit (.str [112, 97, 105, 114])), (.idx (.var 13) (.lit (.int (0)))), (.idx (.var 14) (.lit (.int (0))))])])])) (.var 7))),
  (.asg (.nm 10) (.blt false .tuple [(.comp false (.var 16) (.tup [(.nm 16), (.nm 17)]) (.enum (.var 9)) [(.cmp .eq (.idx (.var 17) (.lit (.int (0)))) (.var 11))] [16, 17])])),
  (.ret (.tup [(.blt false .tuple [(.comp false (.var 15) (.tup [(.nm 18), (.nm 15)]) (.seq (.var 9)) [] [18, 15])]), (.tup [(.lit (.str [112, 97, 105, 114])), (.blt false .len [(.var 6)]), (.var 10), (.idx (.var 13) (.lit (.int (1)))), (.idx (.var 14) (.lit (.int (1))))])]))]
def f_paired (ix : Ix) : Fn := ⟨4, 19, false, b_paired ix⟩
/-- _law_step_on -/
def b_step_on (ix : Ix) : List C := [
  (.asg (.tup [(.nm 6), (.tup [(.nm 12), (.nm 13)]), (.nm 7)]) (.tup [(.call ix.take [(.var 0), (.lit (.int (6)))]), (.var 1), (.call ix.saying [(.var 0), (.lit (.int (3)))])])),
  (.asg (.nm 3) (.bin false .sub (.blt false .len [(.var 12)]) (.var 2))),
  (.par [4, 8] [(.call ix.take [(.var 0), (.bin false .add (.var 3) (.lit (.int (1))))]), (.call ix.take [(.var 0), (.lit (.int (2)))])]),
  (.ife (.or (.cmp .eq (.var 6) (.lit (.int (0)))) (.cmp .eq (.var 3) (.lit (.int (0))))) [(.ret (.tup [(.bin false .add (.bin false .add (.slc false (.var 12) none (some (.var 4))) (.tup [(.tup [(.lit (.str [110, 111, 110, 101]))])])) (.slc false (.var 12) (some (.var 4)) none)), (.tup [(.lit (.str [110, 111, 110, 101])), (.var 4), (.var 13)])]))] []),
  (.ife (.and (.cmp .eq (.var 6) (.lit (.int (1)))) (.cmp .gt (.var 3) (.lit (.int (1))))) [(.asg (.nm 4) (.blt false .min2 [(.var 4), (.bin false .sub (.var 3) (.lit (.int (2))))])), (.ret (.tup [(.bin false .add (.bin false .add (.slc false (.var 12) none (some (.var 4))) (.tup [(.tup [(.lit (.str [98, 105, 110, 100])), (.idx (.var 12) (.var 4)), (.idx (.var 12) (.bin false .add (.var 4) (.lit (.int (1)))))])])) (.slc false (.var 12) (some (.bin false .add (.var 4) (.lit (.int (2))))) none)), (.tup [(.lit (.str [98, 105, 110, 100])), (.var 4), (.var 13)])]))] []),
  (.asg (.nm 4) (.blt false .min2 [(.var 4), (.bin false .sub (.var 3) (.lit (.int (1))))])),
  (.asg (.nm 5) (.ite (.cmp .eq (.var 8) (.lit (.int (0)))) (.tup [(.lit (.str [112, 105, 99, 107])), (.idx (.var 12) (.var 4)), (.var 7)]) (.tup [(.lit (.str [112, 105, 99, 107])), (.var 7), (.idx (.var 12) (.var 4))]))),
  (.ife (.cmp .lt (.var 6) (.lit (.int (4)))) [(.asg (.nm 9) (.tup [(.bin false .add (.bin false .add (.slc false (.var 12) none (some (.var 4))) (.tup [(.var 5)])) (.slc false (.var 12) (some (.bin false .add (.var 4) (.lit (.int (1))))) none)), (.tup [(.lit (.str [112, 105, 99, 107])), (.var 4), (.var 8), (.var 13)])])), (.ife (.cmp .eq (.var 6) (.lit (.int (2)))) [(.ret (.var 9))] []), (.asg (.nm 10) (.lst false [(.tup [(.idx (.var 12) (.var 4)), (.var 13)]), (.tup [(.var 5), (.idx (.var 9) (.lit (.int (1))))]), (.tup [(.idx (.var 12) (.var 4)), (.var 13)])])), (.par [14, 15] [(.idx (.var 10) (.var 8)), (.idx (.var 10) (.bin false .add (.var 8) (.lit (.int (1)))))]), (.asg (.nm 11) (.tup [(.lit (.str [109, 101, 110, 117])), (.idx (.var 14) (.lit (.int (0)))), (.idx (.var 15) (.lit (.int (0))))])), (.ret (.tup [(.bin false .add (.bin false .add (.slc false (.var 12) none (some (.var 4))) (.tup [(.var 11)])) (.slc false (.var 12) (some (.bin false .add (.var 4) (.lit (.int (1))))) none)), (.tup [(.lit (.str [109, 101, 110, 117])), (.var 4), (.idx (.var 14) (.lit (.int (1)))), (.idx (.var 15) (.lit (.int (1))))])]))] []),
  (.ret (.call ix.paired [(.var 0), (.var 1), (.call ix.begin [(.var 0)]), (.var 2)]))]
def f_step_on (ix : Ix) : Fn := ⟨3, 16, false, b_step_on ix⟩
/-- _law_above -/
def b_above (ix : Ix) : List C := [
  (.ret (.slc false (.var 0) (some (.bin false .sub (.blt false .len [(.var 0)]) (.meth .get (.dict false [(.lit (.str [116, 105, 101])), (.lit (.int (0))), (.lit (.str [111, 110, 101])), (.lit (.int (0))), (.lit (.str [97, 108, 108])), (.lit (.int (0))), (.lit (.str [112, 97, 105, 114])), (.lit (.int (2))), (.lit (.str [109, 101, 110, 117])), (.lit (.int (2))), (.lit (.str [99, 117, 116])), (.lit (.int (2)))]) [(.idx (.var 0) (.lit (.int (0)))), (.lit (.int (1)))]))) none))]
def f_above (ix : Ix) : Fn := ⟨1, 1, false, b_above ix⟩
/-- _law_size -/
def b_size (ix : Ix) : List C := [
  (.ret (.bin false .add (.lit (.int (1))) (.blt false .sum [(.comp false (.call ix.size [(.var 1)]) (.nm 1) (.seq (.call ix.above [(.var 0)])) [] [1])])))]
def f_size (ix : Ix) : Fn := ⟨1, 2, false, b_size ix⟩
/-- _law_grown -/
def b_grown (ix : Ix) : List C := [
  (.for_ (.nm 4) (.range1 (.var 2)) [(.asg (.nm 5) (.call ix.step_on [(.var 0), (.var 1), (.var 3)])), (.asg (.nm 1) (.ite (.and (.call ix.fits [(.idx (.var 5) (.lit (.int (0))))]) (.cmp .lt (.call ix.size [(.idx (.var 5) (.lit (.int (1))))]) (.lit (.int (25))))) (.var 5) (.var 1)))]),
  (.ret (.var 1))]
def f_grown (ix : Ix) : Fn := ⟨4, 6, false, b_grown ix⟩
/-- _law_mirror -/
def b_mirror (ix : Ix) : List C := [
  (.asg (.nm 1) (.idx (.var 0) (.lit (.int (0))))),
  (.ife (.cmp .isin (.var 1) (.tup [(.lit (.str [116, 104, 105, 110, 103])), (.lit (.str [100, 101, 98, 116]))])) [(.ret (.tup [(.lit (.str [116, 105, 101]))]))] []),
  (.ife (.cmp .eq (.blt false .len [(.var 0)]) (.lit (.int (1)))) [(.asg (.nm 2) (.dict false [(.lit (.str [111, 110, 101])), (.tup [(.lit (.str [110, 111, 110, 101])), (.lit (.int (1))), (.tup [(.lit (.str [111, 110, 101]))])]), (.lit (.str [110, 111, 110, 101])), (.tup [(.lit (.str [110, 111, 110, 101])), (.lit (.int (0))), (.tup [(.lit (.str [111, 110, 101]))])])])), (.ret (.meth .get (.var 2) [(.var 1), (.tup [(.lit (.str [97, 108, 108])), (.blt false .int [(.cmp .eq (.var 1) (.lit (.str [110, 101, 118, 101, 114])))])])]))] []),
  (.par [3, 4] [(.call ix.mirror [(.idx (.var 0) (.lit (.int (1))))]), (.call ix.mirror [(.idx (.var 0) (.lit (.int (2))))])]),
  (.ife (.cmp .eq (.var 1) (.lit (.str [112, 97, 105, 114]))) [(.ret (.tup [(.lit (.str [98, 105, 110, 100])), (.lit (.int (1))), (.tup [(.lit (.str [112, 97, 105, 114])), (.lit (.int (0))), (.tup [(.lit (.int (1)))]), (.var 3), (.var 4)])]))] []),
  (.ife (.cmp .eq (.var 1) (.lit (.str [98, 105, 110, 100]))) [(.ret (.tup [(.lit (.str [98, 105, 110, 100])), (.lit (.int (0))), (.tup [(.lit (.str [112, 97, 105, 114])), (.lit (.int (2))), (.tup [(.lit (.int (0)))]), (.var 3), (.var 4)])]))] []),
  (.ife (.cmp .eq (.var 1) (.lit (.str [109, 101, 110, 117]))) [(.ret (.tup [(.lit (.str [109, 101, 110, 117])), (.lit (.int (0))), (.tup [(.lit (.str [112, 105, 99, 107])), (.lit (.int (1))), (.lit (.int (0))), (.var 3)]), (.tup [(.lit (.str [112, 105, 99, 107])), (.lit (.int (1))), (.lit (.int (1))), (.var 4)])]))] []),
  (.ret (.tup [(.lit (.str [109, 101, 110, 117])), (.lit (.int (1))), (.tup [(.lit (.str [112, 105, 99, 107])), (.lit (.int (0))), (.lit (.int (0))), (.var 3)]), (.tup [(.lit (.str [112, 105, 99, 107])), (.lit (.int (0))), (.lit (.int (1))), (.var 4)])]))]
def f_mirror (ix : Ix) : Fn := ⟨1, 5, false, b_mirror ix⟩
/-- _law_cut -/
def b_cut (ix : Ix) : List C := [
  (.asg (.nm 3) (.call ix.merged [(.var 0), (.slc false (.idx (.var 1) (.lit (.int (0)))) none (some (.neg (.lit (.int (1)))))), (.slc false (.idx (.var 2) (.lit (.int (0)))) none (some (.neg (.lit (.int (1))))))])),
  (.asg (.nm 4) (.blt false .tuple [(.comp false (.var 5) (.tup [(.nm 5), (.nm 6)]) (.enum (.var 3)) [(.cmp .eq (.idx (.var 6) (.lit (.int (0)))) (.lit (.int (0))))] [5, 6])])),
  (.ret (.tup [(.blt false .tuple [(.comp false (.var 8) (.tup [(.nm 7), (.nm 8)]) (.seq (.var 3)) [] [7, 8])]), (.tup [(.lit (.str [99, 117, 116])), (.idx (.idx (.var 1) (.lit (.int (0)))) (.neg (.lit (.int (1))))), (.var 4), (.idx (.var 1) (.lit (.int (1)))), (.idx (.var 2) (.lit (.int (1))))])]))]
def f_cut (ix : Ix) : Fn := ⟨3, 9, false, b_cut ix⟩
/-- _law_cut_more -/
def b_cut_more (ix : Ix) : List C := [
  (.par [5, 6] [(.call ix.take [(.var 0), (.lit (.int (2)))]), (.call ix.take [(.var 0), (.lit (.int (3)))])]),
  (.asg (.nm 2) (.idx (.idx (.var 1) (.lit (.int (0)))) (.neg (.lit (.int (1)))))),
  (.asg (.nm 3) (.tup [(.tup [(.var 2), (.call ix.about [(.var 2)])]), (.call ix.mirror [(.var 2)])])),
  (.asg (.nm 3) (.call ix.grown [(.var 0), (.var 3), (.var 6), (.lit (.int (1)))])),
  (.asg (.nm 4) (.ite (.cmp .eq (.var 5) (.lit (.int (0)))) (.call ix.cut [(.var 0), (.var 1), (.var 3)]) (.call ix.cut [(.var 0), (.var 3), (.var 1)]))),
  (.ret (.ite (.and (.call ix.fits [(.idx (.var 4) (.lit (.int (0))))]) (.and (.cmp .lt (.call ix.many [(.var 2)]) (.lit (.int (9)))) (.cmp .lt (.call ix.size [(.idx (.var 4) (.lit (.int (1))))]) (.lit (.int (60)))))) (.var 4) (.var 1)))]
def f_cut_more (ix : Ix) : Fn := ⟨2, 7, false, b_cut_more ix⟩
/-- _law_drawn -/
def b_drawn (ix : Ix) : List C := [
  (.asg (.nm 2) (.call ix.grown [(.var 0), (.call ix.begin [(.var 0)]), (.call ix.take [(.var 0), (.lit (.int (5)))]), (.lit (.int (0)))])),
  (.for_ (.nm 3) (.range1 (.var 1)) [(.asg (.nm 2) (.call ix.cut_more [(.var 0), (.var 2)])), (.asg (.nm 2) (.call ix.grown [(.var 0), (.var 2), (.call ix.take [(.var 0), (.lit (.int (3)))]), (.lit (.int (0)))]))]),
  (.ret (.var 2))]
def f_drawn (ix : Ix) : Fn := ⟨2, 4, false, b_drawn ix⟩
/-- _law_beside -/
def b_beside (ix : Ix) : List C := [
  (.par [2, 3] [(.call ix.drawn [(.var 0), (.lit (.int (1)))]), (.call ix.drawn [(.var 0), (.lit (.int (1)))])]),
  (.asg (.nm 1) (.call ix.paired [(.var 0), (.var 2), (.var 3), (.lit (.int (0)))])),
  (.ret (.ite (.call ix.fits [(.idx (.var 1) (.lit (.int (0))))]) (.var 1) (.var 2)))]
def f_beside (ix : Ix) : Fn := ⟨1, 4, false, b_beside ix⟩
/-- parts_of -/
def b_parts_of (ix : Ix) : List C := [
  (.ife (.cmp .isin (.idx (.var 0) (.lit (.int (0)))) (.glob "LEAVES" (.tup [.str [116, 104, 105, 110, 103], .str [100, 101, 98, 116]]))) [(.ret (.tup []))] []),
  (.ret (.slc false (.var 0) (some (.lit (.int (1)))) none))]
def f_parts_of (ix : Ix) : Fn := ⟨1, 1, false, b_parts_of ix⟩
/-- words_of -/
def b_words_of (ix : Ix) : List C := [
  (.asg (.nm 1) (.lst true [(.idx (.var 0) (.lit (.int (0))))])),
  (.for_ (.nm 2) (.seq (.call ix.parts_of [(.var 0)])) [(.ex (.meth .extend (.var 1) [(.call ix.words_of [(.var 2)])]))]),
  (.ret (.var 1))]
def f_words_of (ix : Ix) : Fn := ⟨1, 3, false, b_words_of ix⟩
/-- signs -/
def b_signsP (ix : Ix) : List C := [
  (.ret (.blt false .len [(.call ix.words_of [(.var 0)])]))]
def f_signsP (ix : Ix) : Fn := ⟨1, 1, false, b_signsP ix⟩
/-- proofs_above -/
def b_proofs_above (ix : Ix) : List C := [
  (.ret (.slc false (.var 0) (some (.idx (.glob "HEAD_LONG" (.tab ix.tHEAD_LONG t_HEAD_LONG)) (.idx (.var 0) (.lit (.int (0)))))) none))]
def f_proofs_above (ix : Ix) : Fn := ⟨1, 1, false, b_proofs_above ix⟩
/-- steps -/
def b_steps (ix : Ix) : List C := [
  (.ret (.bin false .add (.lit (.int (1))) (.blt false .sum [(.comp false (.call ix.steps [(.var 1)]) (.nm 1) (.seq (.call ix.proofs_above [(.var 0)])) [] [1])])))]
def f_steps (ix : Ix) : Fn := ⟨1, 2, false, b_steps ix⟩
/-- measures -/
def b_measures (ix : Ix) : List C := [
  (.asg (.nm 1) (.lst true [])),
  (.ife (.cmp .eq (.idx (.var 0) (.lit (.int (0)))) (.lit (.str [99, 117, 116]))) [(.ex (.meth .append (.var 1) [(.tup [(.call ix.signsP [(.idx (.var 0) (.lit (.int (1))))]), (.bin false .add (.call ix.steps [(.idx (.var 0) (.lit (.int (3))))]) (.call ix.steps [(.idx (.var 0) (.lit (.int (4))))]))])]))] []),
  (.for_ (.nm 2) (.seq (.call ix.proofs_above [(.var 0)])) [(.ex (.meth .extend (.var 1) [(.call ix.measures [(.var 2)])]))]),
  (.ret (.blt false .tuple [(.var 1)]))]
def f_measures (ix : Ix) : Fn := ⟨1, 3, false, b_measures ix⟩
/-- _law_pot -/
def b_pot (ix : Ix) : List C := [
  (.asg (.nm 1) (.lit (.int (41)))),
  (.for_ (.tup [(.nm 2), (.nm 3)]) (.enum (.slc false (.var 0) none (some (.lit (.int (63)))))) [(.asg (.nm 1) (.bin false .mod (.bin false .add (.bin false .add (.bin false .add (.bin false .mul (.var 1) (.lit (.int (1000003)))) (.bin false .mod (.var 3) (.lit (.int (2305843009213693951))))) (.bin false .mul (.lit (.int (37))) (.var 2))) (.lit (.int (11)))) (.lit (.int (2305843009213693951)))))]),
  (.ret (.lst true [(.comp true (.bin false .mod (.blt false .abs [(.var 3)]) (.bin false .pow (.bin false .pow (.lit (.int (10))) (.lit (.int (60)))) (.lit (.int (12))))) (.nm 3) (.seq (.slc false (.var 0) none (some (.lit (.int (63)))))) [(.cmp .ge (.blt false .abs [(.var 3)]) (.bin false .pow (.lit (.int (10))) (.lit (.int (18)))))] [3]), (.var 1), (.lit (.int (0)))]))]
def f_pot (ix : Ix) : Fn := ⟨1, 4, true, b_pot ix⟩
/-- _law_found -/
def b_found (ix : Ix) : List C := [
  (.asg (.nm 2) (.lst false [])),
  (.for_ (.tup [(.nm 4), (.nm 5)]) (.enum (.call ix.above [(.var 0)])) [(.asg (.nm 2) (.bin false .add (.var 2) (.call ix.found [(.var 5), (.bin false .add (.var 1) (.tup [(.var 4)]))])))]),
  (.ife (.cmp .ne (.idx (.var 0) (.lit (.int (0)))) (.lit (.str [99, 117, 116]))) [(.ret (.var 2))] []),
  (.asg (.nm 3) (.call ix.many [(.idx (.var 0) (.lit (.int (1))))])),
  (.ret (.bin false .add (.lst false [(.tup [(.var 1), (.tup [(.var 3), (.bin false .add (.call ix.size [(.idx (.var 0) (.lit (.int (3))))]) (.call ix.size [(.idx (.var 0) (.lit (.int (4))))]))]), (.cmp .eq (.var 2) (.lst false []))])]) (.var 2)))]
def f_found (ix : Ix) : Fn := ⟨2, 6, false, b_found ix⟩
structure OkA (Fs : List Fn) (ix : Ix) : Prop where
  take : Fs[ix.take]? = some (f_take ix)
  of : Fs[ix.of]? = some (f_of ix)
  other : Fs[ix.other]? = some (f_other ix)
  about : Fs[ix.about]? = some (f_about ix)
  many : Fs[ix.many]? = some (f_many ix)
  deep : Fs[ix.deep]? = some (f_deep ix)
  fits : Fs[ix.fits]? = some (f_fits ix)
  name : Fs[ix.name]? = some (f_name ix)
  saying : Fs[ix.saying]? = some (f_saying ix)
  begin : Fs[ix.begin]? = some (f_begin ix)
  merged : Fs[ix.merged]? = some (f_merged ix)
  paired : Fs[ix.paired]? = some (f_paired ix)
  step_on : Fs[ix.step_on]? = some (f_step_on ix)
  above : Fs[ix.above]? = some (f_above ix)
  size : Fs[ix.size]? = some (f_size ix)
  grown : Fs[ix.grown]? = some (f_grown ix)
  mirror : Fs[ix.mirror]? = some (f_mirror ix)
  cut : Fs[ix.cut]? = some (f_cut ix)
  cut_more : Fs[ix.cut_more]? = some (f_cut_more ix)
  drawn : Fs[ix.drawn]? = some (f_drawn ix)
  beside : Fs[ix.beside]? = some (f_beside ix)
structure OkP (Fs : List Fn) (ix : Ix) : Prop where
  parts_of : Fs[ix.parts_of]? = some (f_parts_of ix)
  words_of : Fs[ix.words_of]? = some (f_words_of ix)
  signsP : Fs[ix.signsP]? = some (f_signsP ix)
  proofs_above : Fs[ix.proofs_above]? = some (f_proofs_above ix)
  steps : Fs[ix.steps]? = some (f_steps ix)
  measures : Fs[ix.measures]? = some (f_measures ix)
structure OkK (Fs : List Fn) (ix : Ix) : Prop where
  pot : Fs[ix.pot]? = some (f_pot ix)
  found : Fs[ix.found]? = some (f_found ix)
end KB
end
section
set_option maxRecDepth 100000
set_option exponentiation.threshold 3000
/-! Q0: a hand, drawn from; local cells behind it. -/
namespace MP
open PySem
/-- the hand at n: drawn from at most B times -/
def Hand (S : Store) (n : Nat) (B : Nat) : Prop := ∃ g m c : Int, S[n]? = some (.lst [.int g, .int m, .int c]) ∧ 0 ≤ c ∧ c ≤ B
/-- the hand alone may be otherwise -/
def Upd (n : Nat) (S S' : Store) : Prop := ∃ v, S' = S.set n v
theorem Upd.refl {n : Nat} {S : Store} {B : Nat} (h : Hand S n B) : Upd n S S := by
  obtain ⟨g, m, c, e, _⟩ := h
  obtain ⟨h1, h2⟩ := List.getElem?_eq_some_iff.mp e
  exact ⟨S[n], (List.set_getElem_self h1).symm⟩
theorem Upd.trans {n : Nat} {S S1 S2 : Store} (a : Upd n S S1) (b : Upd n S1 S2) : Upd n S S2 := by
  obtain ⟨v, rfl⟩ := a
  obtain ⟨u, rfl⟩ := b
  exact ⟨u, List.set_set ..⟩
theorem Upd.len {n : Nat} {S S' : Store} (a : Upd n S S') : S'.length = S.length := by
  obtain ⟨v, rfl⟩ := a
  simp
theorem Upd.get {n i : Nat} {S S' : Store} (a : Upd n S S') (h : i ≠ n) : S'[i]? = S[i]? := by
  obtain ⟨v, rfl⟩ := a
  rw [List.getElem?_set_ne (Ne.symm h)]
theorem Hand.mono {S : Store} {n B B' : Nat} (h : Hand S n B) (le : B ≤ B') : Hand S n B' := by
  obtain ⟨g, m, c, h1, h2, h3⟩ := h
  exact ⟨g, m, c, h1, h2, by omega⟩
theorem Hand.lt {S : Store} {n B : Nat} (h : Hand S n B) : n < S.length := by
  obtain ⟨g, m, c, h1, h2, h3⟩ := h
  exact (List.getElem?_eq_some_iff.mp h1).1
/-- local cells behind -/
theorem Hand.app {S L : Store} {n B : Nat} (h : Hand S n B) : Hand (S ++ L) n B := by
  have hl := h.lt
  obtain ⟨g, m, c, h1, h2, h3⟩ := h
  exact ⟨g, m, c, by rw [List.getElem?_append_left hl]; exact h1, h2, h3⟩
theorem Hand.of_app {S L : Store} {n B : Nat} (h : Hand (S ++ L) n B) (hn : n < S.length) : Hand S n B := by
  obtain ⟨g, m, c, h1, h2, h3⟩ := h
  exact ⟨g, m, c, by rw [List.getElem?_append_left hn] at h1; exact h1, h2, h3⟩
theorem Upd.of_app {S L T : Store} {n : Nat} (u : Upd n (S ++ L) T) (hn : n < S.length) : ∃ S', T = S' ++ L ∧ Upd n S S' := by
  obtain ⟨v, rfl⟩ := u
  exact ⟨S.set n v, by rw [List.set_append_left _ _ hn], v, rfl⟩
/-- what a draw leaves -/
structure Dr (S : Store) (n B : Nat) (S' : Store) : Prop where
  hand : Hand S' n B
  upd : Upd n S S'
theorem Dr.len {S S' : Store} {n B : Nat} (d : Dr S n B S') : S'.length = S.length := d.upd.len
theorem Dr.lt {S S' : Store} {n B : Nat} (d : Dr S n B S') : n < S.length := by rw [← d.len]; exact d.hand.lt
theorem Dr.refl {S : Store} {n B : Nat} (h : Hand S n B) : Dr S n B S := ⟨h, Upd.refl h⟩
theorem Dr.trans {S S1 S2 : Store} {n B B' : Nat} (a : Dr S n B S1) (b : Dr S1 n B' S2) : Dr S n B' S2 := ⟨b.hand, a.upd.trans b.upd⟩
theorem Dr.mono {S S' : Store} {n B B' : Nat} (a : Dr S n B S') (h : B ≤ B') : Dr S n B' S' := ⟨a.hand.mono h, a.upd⟩
theorem Dr.of_app {S L T : Store} {n B : Nat} (d : Dr (S ++ L) n B T) (hn : n < S.length) : ∃ S', T = S' ++ L ∧ Dr S n B S' := by
  obtain ⟨S', rfl, u⟩ := d.upd.of_app hn
  exact ⟨S', rfl, d.hand.of_app (by rw [u.len]; exact hn), u⟩
theorem Dr.kept {S S' L : Store} {n B : Nat} (d : Dr S n B S') : Kept S (S' ++ L) := fun i hi => by
  have hl : i < S'.length := by rw [d.len]; exact hi
  by_cases hne : i = n
  · subst hne
    obtain ⟨g, m, c, e, _⟩ := d.hand
    exact .inr ⟨_, by rw [List.getElem?_append_left hl]; exact e, rfl⟩
  · exact .inl (by rw [List.getElem?_append_left hl, d.upd.get hne])
/-- a def's end: its own cells are dropped -/
theorem fin_app {S S' L : Store} {n B : Nat} {v w : D} (d : Dr S n B S') (hv : fzD (S' ++ L) S.length v = w) (hw : w.und S.length = true) (h1 : L = [] → w = v) : fin false S v (S' ++ L) = .ok w S' := by
  have kept : Kept S (S' ++ L) := d.kept
  have hl := d.len
  cases L with
  | nil =>
    rw [List.append_nil]
    unfold fin
    rw [h1 rfl]
    simp [hl]
  | cons c L =>
    have hne : decide ((S' ++ c :: L).length = S.length) = false := decide_eq_false (by rw [List.length_append, List.length_cons]; omega)
    unfold fin
    rw [hne, hv]
    simp only [Bool.false_or]
    rw [hw]
    simp [kept]
    rw [← hl]
    exact List.take_left
mutual
/-- data is as it is -/
theorem fz_data {S : Store} {n : Nat} : ∀ {d : D}, d.data = true → fzD S n d = d
  | .non, _ => rfl
  | .bl _, _ => rfl
  | .int _, _ => rfl
  | .str _, _ => rfl
  | .lst xs, h => by rw [fzD, fz_dataAll (by simpa [D.data] using h)]
  | .tup xs, h => by rw [fzD, fz_dataAll (by simpa [D.data] using h)]
  | .dct _, _ => rfl
  | .ref _, h => by cases h
  | .fn _, h => by cases h
  | .row _, h => by cases h
  | .tab _ _, h => by cases h
theorem fz_dataAll {S : Store} {n : Nat} : ∀ {ds : List D}, dataAll ds = true → fzAll S n ds = ds
  | [], _ => rfl
  | d :: ds, h => by
    obtain ⟨h1, h2⟩ := and_tt (show (d.data && dataAll ds) = true from by simpa [dataAll] using h)
    rw [fzAll, fz_data h1, fz_dataAll h2]
end
theorem fin_data {S S' L : Store} {n B : Nat} {v : D} (d : Dr S n B S') (h : v.data = true) : fin false S v (S' ++ L) = .ok v S' := fin_app d (fz_data h) (data_und _ h) fun _ => rfl
theorem fin_data0 {S S' : Store} {n B : Nat} {v : D} (d : Dr S n B S') (leak : Bool) : fin leak S v S' = .ok v S' := by simp [fin, d.len]
/-- a def's own list handed out -/
theorem fin_own {S S' : Store} {n B : Nat} {ys : List D} (d : Dr S n B S') (h : dataAll ys = true) : fin false S (.ref S.length) (S' ++ [.lst ys]) = .ok (.lst ys) S' := by
  refine fin_app d ?_ (dataAll_und _ h) fun e => by cases e
  simp [fzD, ← d.len]
theorem dataAll_mem {ys : List D} (h : ∀ y ∈ ys, y.data = true) : dataAll ys = true := by
  induction ys with
  | nil => rfl
  | cons y ys ih => simp [dataAll, h y List.mem_cons_self, ih fun y hy => h y (List.mem_cons_of_mem _ hy)]
/-- a def's own list handed out, the store as it was -/
theorem fin_new {S : Store} {ys : List D} (h : dataAll ys = true) : fin false S (.ref S.length) (S ++ [.lst ys]) = .ok (.lst ys) S := by
  have kept : Kept S (S ++ [.lst ys]) := fun i hi => .inl (by rw [List.getElem?_append_left hi])
  have c1 : (false || decide ((S ++ [Cell.lst ys]).length = S.length)) = false := by simp
  have hf : fzD (S ++ [Cell.lst ys]) S.length (.ref S.length) = .lst ys := by simp [fzD]
  have hu : (D.lst ys).und S.length = true := by simpa [D.und] using dataAll_und S.length h
  unfold fin
  rw [c1, hf, hu]
  simp [kept]
/-- a comprehension that draws: a new frozen list -/
theorem comp_draws {w : Row} (hw : w.watch = []) {bnd : D → Option MP.Env} {ifs : MP.Env → Store → R Bool} {elt : MP.Env → Store → R D} (hifs : ∀ env S, ifs env S = .ok true S) {n c : Nat} (P : D → Prop) (hP : ∀ y, P y → y.data = true)
    {S : Store} {B M : Nat} (hS : Hand S n B) (hM : B + c * w.items.length ≤ M)
    (step : ∀ d ∈ w.items, ∃ env, bnd d = some env ∧ ∀ T b, Hand T n b → b + c ≤ M → ∃ y T', elt env T = .ok y T' ∧ P y ∧ Dr T n (b + c) T') (hm : w.items.length ≤ most) :
    ∃ ys S', ((compGo w S.length bnd ifs elt w.items (S ++ [.lst []])).bind fun acc S' => compEnd false S acc S') = .ok (.lst ys) S' ∧ (∀ y ∈ ys, P y) ∧ ys.length = w.items.length ∧ Dr S n (B + c * w.items.length) S' := by
  have main : ∀ (ds : List D), (∀ d ∈ ds, d ∈ w.items) → ∀ (T : Store) (acc : List D) (b : Nat), Dr S n b T → b + c * ds.length ≤ M → acc.length + ds.length ≤ most → (∀ y ∈ acc, P y) →
      ∃ ys T', compGo w S.length bnd ifs elt ds (T ++ [.lst acc]) = .ok (acc ++ ys) (T' ++ [.lst (acc ++ ys)]) ∧ (∀ y ∈ ys, P y) ∧ ys.length = ds.length ∧ Dr S n (b + c * ds.length) T' := by
    intro ds
    induction ds with
    | nil =>
      intro _ T acc b hT _ _ hacc
      refine ⟨[], T, ?_, fun y hy => (by cases hy), rfl, by simpa using hT⟩
      simp [compGo, stays_nil hw, ← hT.len]
    | cons d ds ih =>
      intro hd T acc b hT hb hl hacc
      obtain ⟨env, e1, st⟩ := step d (hd d List.mem_cons_self)
      have hn : n < T.length := hT.hand.lt
      rw [List.length_cons] at hb hl
      have hb' : b + c + c * ds.length ≤ M := by rw [Nat.mul_succ] at hb; omega
      obtain ⟨y, T1, e2, py, dr⟩ := st (T ++ [.lst acc]) b hT.hand.app (by omega)
      obtain ⟨T2, rfl, dr2⟩ := dr.of_app hn
      have hT2 := hT.trans dr2
      obtain ⟨ys, T', e3, p3, l3, d3⟩ := ih (fun x hx => hd x (List.mem_cons_of_mem _ hx)) T2 (acc ++ [y]) (b + c) hT2 hb' (by rw [List.length_append, List.length_singleton]; omega) (fun z hz => by
        rcases List.mem_append.mp hz with q | q
        · exact hacc z q
        · have : z = y := by simpa using q
          rw [this]; exact py)
      refine ⟨y :: ys, T', ?_, fun z hz => ?_, by simp [l3], ?_⟩
      · have hac : decide (acc.length < most) = true := decide_eq_true (by omega)
        have hget : (T2 ++ [Cell.lst acc])[S.length]? = some (.lst acc) := by rw [← hT2.len]; simp
        have hset : (T2 ++ [Cell.lst acc]).set S.length (.lst (acc ++ [y])) = T2 ++ [.lst (acc ++ [y])] := by
          rw [← hT2.len, List.set_append_right _ _ (Nat.le_refl _)]
          simp
        simp only [compGo, stays_nil hw, e1, hifs, R.bind_ok, e2, hget, hac, hset]
        rw [e3]
        simp
      · rcases List.mem_cons.mp hz with q | q
        · rw [q]; exact py
        · exact p3 z q
      · rw [List.length_cons, Nat.mul_succ]
        exact d3.mono (by omega)
  obtain ⟨ys, T', e, p, l, d⟩ := main w.items (fun _ h => h) S [] B (Dr.refl hS) hM (by simpa using hm) (fun y hy => nomatch hy)
  refine ⟨ys, T', ?_, p, l, d⟩
  simp only [List.nil_append] at e
  rw [e]
  simp only [R.bind_ok]
  have kept : Kept S (T' ++ [.lst ys]) := d.kept
  have hl := d.len
  unfold compEnd
  have c1 : (false || decide ((T' ++ [Cell.lst ys]).length ≠ S.length + 1)) = false := by simp [hl]
  rw [c1]
  simp [dataAll_und S.length (dataAll_mem fun y hy => hP y (p y hy)), kept]
  rw [← hl]
  exact List.take_left
end MP
end
section
set_option maxRecDepth 100000
/-! defs that several laws share -/
namespace QL
open PySem L2 MP
structure Ix where
  is_nameP : Nat := 0
  is_within : Nat := 0
  is_sayingP : Nat := 0
  parts_of : Nat := 0
  turnedP : Nat := 0
  words_of : Nat := 0
  signsP : Nat := 0
  hand : Nat := 0
  take : Nat := 0
  pick : Nat := 0
  names : Nat := 0
  leaf : Nat := 0
  saying : Nat := 0
  chain : Nat := 0
  turned : Nat := 0
  right : Nat := 0
  law : Nat := 0
  is_goalP : Nat := 0
  goal : Nat := 0
  deep : Nat := 0
  is_name : Nat := 0
  is_saying : Nat := 0
  is_goal : Nat := 0
  odd : Nat := 0
  bent : Nat := 0
  asked : Nat := 0
  show_saying : Nat := 0
  show_goal : Nat := 0
  name_at : Nat := 0
  leaf_at : Nat := 0
  joined_at : Nat := 0
  saying_at : Nat := 0
  saying_in : Nat := 0
  read_saying : Nat := 0
  read_goal : Nat := 0
  text : Nat := 0
  tPARTS : Nat := 0
  tTURNED : Nat := 0
  tEMPTY : Nat := 0
  tAHEAD : Nat := 0
  tMARKS : Nat := 0
  tBY_MARK : Nat := 0
  tBY_EMPTY : Nat := 0
  tBY_AHEAD : Nat := 0
def t_PARTS : List (List Nat × Fl) := [([112, 97, 105, 114], .int (2)), ([98, 105, 110, 100], .int (2)), ([109, 101, 110, 117], .int (2)), ([112, 105, 99, 107], .int (2)), ([111, 110, 101], .int (0)), ([110, 111, 110, 101], .int (0)), ([97, 108, 108], .int (0)), ([110, 101, 118, 101, 114], .int (0)), ([107, 101, 101, 112], .int (1)), ([100, 114, 97, 119], .int (1))]
def t_TURNED : List (List Nat × Fl) := [([116, 104, 105, 110, 103], .str [100, 101, 98, 116]), ([100, 101, 98, 116], .str [116, 104, 105, 110, 103]), ([112, 97, 105, 114], .str [98, 105, 110, 100]), ([98, 105, 110, 100], .str [112, 97, 105, 114]), ([109, 101, 110, 117], .str [112, 105, 99, 107]), ([112, 105, 99, 107], .str [109, 101, 110, 117]), ([111, 110, 101], .str [110, 111, 110, 101]), ([110, 111, 110, 101], .str [111, 110, 101]), ([97, 108, 108], .str [110, 101, 118, 101, 114]), ([110, 101, 118, 101, 114], .str [97, 108, 108]), ([107, 101, 101, 112], .str [100, 114, 97, 119]), ([100, 114, 97, 119], .str [107, 101, 101, 112])]
def t_EMPTY : List (List Nat × Fl) := [([111, 110, 101], .str [49]), ([110, 111, 110, 101], .str [48]), ([97, 108, 108], .str [84]), ([110, 101, 118, 101, 114], .str [70])]
def t_AHEAD : List (List Nat × Fl) := [([107, 101, 101, 112], .str [33]), ([100, 114, 97, 119], .str [63])]
def t_MARKS : List (List Nat × Fl) := [([112, 97, 105, 114], .str [42]), ([98, 105, 110, 100], .str [124]), ([109, 101, 110, 117], .str [38]), ([112, 105, 99, 107], .str [43])]
def t_BY_MARK : List (List Nat × Fl) := [([42], .str [112, 97, 105, 114]), ([124], .str [98, 105, 110, 100]), ([38], .str [109, 101, 110, 117]), ([43], .str [112, 105, 99, 107])]
def t_BY_EMPTY : List (List Nat × Fl) := [([49], .str [111, 110, 101]), ([48], .str [110, 111, 110, 101]), ([84], .str [97, 108, 108]), ([70], .str [110, 101, 118, 101, 114])]
def t_BY_AHEAD : List (List Nat × Fl) := [([33], .str [107, 101, 101, 112]), ([63], .str [100, 114, 97, 119])]
/-- _law_take -/
def b_take (ix : Ix) : List C := [
  (.ife (.cmp .gt (.idx (.var 0) (.lit (.int (0)))) (.lit (.int (0)))) [(.asg (.nm 3) (.bin false .mod (.idx (.var 0) (.lit (.int (0)))) (.var 1))), (.seti (.var 0) (.lit (.int (0))) (.bin false .fdiv (.idx (.var 0) (.lit (.int (0)))) (.var 1))), (.ret (.var 3))] []),
  (.seti (.var 0) (.lit (.int (2))) (.bin false .add (.idx (.var 0) (.lit (.int (2)))) (.lit (.int (1))))),
  (.asg (.nm 2) (.bin false .mod (.bin false .mul (.bin false .add (.bin false .add (.idx (.var 0) (.lit (.int (1)))) (.bin false .mul (.bin false .mul (.lit (.int (65537))) (.idx (.var 0) (.lit (.int (2))))) (.idx (.var 0) (.lit (.int (2)))))) (.lit (.int (11)))) (.lit (.int (48271)))) (.lit (.int (2305843009213693921))))),
  (.asg (.nm 2) (.bin false .mod (.bin false .mul (.var 2) (.bin false .add (.bin false .mod (.var 2) (.lit (.int (1000003)))) (.bin false .mul (.lit (.int (99991))) (.idx (.var 0) (.lit (.int (2))))))) (.lit (.int (2305843009213693907))))),
  (.ret (.bin false .mod (.bin false .add (.bin false .fdiv (.var 2) (.lit (.int (97)))) (.bin false .fdiv (.var 2) (.lit (.int (1000033))))) (.var 1)))]
def f_take (ix : Ix) : Fn := ⟨2, 4, false, b_take ix⟩
/-- _law_pick -/
def b_pick (ix : Ix) : List C := [
  (.ret (.idx (.var 1) (.call ix.take [(.var 0), (.blt false .len [(.var 1)])])))]
def f_pick (ix : Ix) : Fn := ⟨2, 2, false, b_pick ix⟩
/-- _law_hand -/
def b_hand (ix : Ix) : List C := [
  (.asg (.nm 2) (.ite (.cmp .lt (.var 1) (.blt false .len [(.var 0)])) (.idx (.var 0) (.var 1)) (.lit (.int (0))))),
  (.asg (.nm 3) (.bin false .mul (.bin false .mod (.blt false .abs [(.var 2)]) (.bin false .mul (.bin false .pow (.lit (.int (10))) (.lit (.int (60)))) (.bin false .pow (.lit (.int (10))) (.lit (.int (60)))))) (.blt false .int [(.cmp .ge (.blt false .abs [(.var 2)]) (.bin false .pow (.lit (.int (10))) (.lit (.int (18)))))]))),
  (.ret (.lst true [(.var 3), (.bin false .mod (.bin false .add (.bin false .add (.bin false .mod (.var 2) (.lit (.int (2305843009213693951)))) (.bin false .mul (.lit (.int (7919))) (.var 1))) (.lit (.int (3)))) (.lit (.int (2305843009213693951)))), (.lit (.int (0)))]))]
def f_hand (ix : Ix) : Fn := ⟨2, 4, true, b_hand ix⟩
/-- _law_names -/
def b_names (ix : Ix) : List C := [
  (.par [3, 4, 5] [(.bin false .add (.lit (.int (1))) (.call ix.take [(.var 0), (.lit (.int (6)))])), (.call ix.take [(.var 0), (.lit (.int (26)))]), (.call ix.pick [(.var 0), (.lst false [(.lit (.int (1))), (.lit (.int (3))), (.lit (.int (5))), (.lit (.int (7))), (.lit (.int (9))), (.lit (.int (11))), (.lit (.int (15)))])])]),
  (.asg (.nm 1) (.comp false (.call ix.pick [(.var 0), (.lit (.str [97, 98, 99, 100, 101, 102, 103, 104, 105, 106, 107, 108, 109, 110, 111, 112, 113, 114, 115, 116, 117, 118, 119, 120, 121, 122]))]) (.nm 2) (.range1 (.var 3)) [] [2])),
  (.par [6, 7] [(.call ix.take [(.var 0), (.var 3)]), (.lst true [])]),
  (.for_ (.nm 2) (.range1 (.bin false .add (.lit (.int (1))) (.call ix.take [(.var 0), (.lit (.int (4)))]))) [(.asg (.nm 8) (.idx (.lit (.str [97, 98, 99, 100, 101, 102, 103, 104, 105, 106, 107, 108, 109, 110, 111, 112, 113, 114, 115, 116, 117, 118, 119, 120, 121, 122])) (.bin false .mod (.bin false .add (.var 4) (.bin false .mul (.var 5) (.var 2))) (.lit (.int (26)))))), (.ex (.meth .append (.var 7) [(.meth .join (.lit (.str [])) [(.bin false .add (.bin false .add (.slc false (.var 1) none (some (.var 6))) (.lst false [(.var 8)])) (.slc false (.var 1) (some (.bin false .add (.var 6) (.lit (.int (1))))) none))])]))]),
  (.ret (.var 7))]
def f_names (ix : Ix) : Fn := ⟨1, 9, false, b_names ix⟩
/-- _law_leaf -/
def b_leaf (ix : Ix) : List C := [
  (.asg (.nm 2) (.call ix.pick [(.var 0), (.lst false [(.lit (.str [116, 104, 105, 110, 103])), (.lit (.str [100, 101, 98, 116])), (.lit (.str [116, 104, 105, 110, 103])), (.lit (.str [100, 101, 98, 116])), (.lit (.str [111, 110, 101])), (.lit (.str [110, 111, 110, 101])), (.lit (.str [97, 108, 108])), (.lit (.str [110, 101, 118, 101, 114]))])])),
  (.ret (.ite (.cmp .isin (.var 2) (.tup [(.lit (.str [116, 104, 105, 110, 103])), (.lit (.str [100, 101, 98, 116]))])) (.tup [(.var 2), (.call ix.pick [(.var 0), (.var 1)])]) (.tup [(.var 2)])))]
def f_leaf (ix : Ix) : Fn := ⟨2, 3, false, b_leaf ix⟩
/-- _law_saying -/
def b_saying (ix : Ix) : List C := [
  (.asg (.nm 4) (.call ix.take [(.var 0), (.lit (.int (4)))])),
  (.ife (.or (.cmp .eq (.var 4) (.lit (.int (0)))) (.or (.cmp .lt (.var 2) (.lit (.int (2)))) (.cmp .lt (.var 3) (.lit (.int (2)))))) [(.ret (.call ix.leaf [(.var 0), (.var 1)]))] []),
  (.asg (.nm 5) (.call ix.pick [(.var 0), (.lst false [(.lit (.str [112, 97, 105, 114])), (.lit (.str [98, 105, 110, 100])), (.lit (.str [109, 101, 110, 117])), (.lit (.str [112, 105, 99, 107])), (.lit (.str [107, 101, 101, 112])), (.lit (.str [100, 114, 97, 119]))])])),
  (.ife (.or (.cmp .lt (.var 2) (.lit (.int (3)))) (.cmp .isin (.var 5) (.tup [(.lit (.str [107, 101, 101, 112])), (.lit (.str [100, 114, 97, 119]))]))) [(.asg (.nm 5) (.ite (.cmp .isin (.var 5) (.tup [(.lit (.str [107, 101, 101, 112])), (.lit (.str [100, 114, 97, 119]))])) (.var 5) (.lit (.str [107, 101, 101, 112])))), (.ret (.tup [(.var 5), (.call ix.saying [(.var 0), (.var 1), (.bin false .sub (.var 2) (.lit (.int (1)))), (.bin false .sub (.var 3) (.lit (.int (1))))])]))] []),
  (.asg (.nm 6) (.bin false .add (.lit (.int (1))) (.call ix.take [(.var 0), (.bin false .sub (.var 2) (.lit (.int (2))))]))),
  (.asg (.nm 7) (.call ix.saying [(.var 0), (.var 1), (.var 6), (.bin false .sub (.var 3) (.lit (.int (1))))])),
  (.ret (.tup [(.var 5), (.var 7), (.call ix.saying [(.var 0), (.var 1), (.bin false .sub (.bin false .sub (.var 2) (.lit (.int (1)))) (.var 6)), (.bin false .sub (.var 3) (.lit (.int (1))))])]))]
def f_saying (ix : Ix) : Fn := ⟨4, 8, false, b_saying ix⟩
/-- _law_chain -/
def b_chain (ix : Ix) : List C := [
  (.asg (.nm 3) (.call ix.leaf [(.var 0), (.var 1)])),
  (.for_ (.nm 4) (.range1 (.bin false .sub (.var 2) (.lit (.int (1))))) [(.asg (.nm 5) (.call ix.pick [(.var 0), (.lst false [(.lit (.str [112, 97, 105, 114])), (.lit (.str [98, 105, 110, 100])), (.lit (.str [109, 101, 110, 117])), (.lit (.str [112, 105, 99, 107])), (.lit (.str [107, 101, 101, 112])), (.lit (.str [100, 114, 97, 119]))])])), (.asg (.nm 6) (.call ix.leaf [(.var 0), (.var 1)])), (.ife (.cmp .isin (.var 5) (.tup [(.lit (.str [107, 101, 101, 112])), (.lit (.str [100, 114, 97, 119]))])) [(.asg (.nm 3) (.tup [(.var 5), (.var 3)]))] [(.asg (.nm 3) (.call ix.pick [(.var 0), (.lst false [(.tup [(.var 5), (.var 3), (.var 6)]), (.tup [(.var 5), (.var 6), (.var 3)])])]))])]),
  (.ret (.var 3))]
def f_chain (ix : Ix) : Fn := ⟨3, 7, false, b_chain ix⟩
/-- is_name -/
def b_is_nameP (ix : Ix) : List C := [
  (.ret (.and (.isi (.var 0) .str) (.and (.chain .le .le (.lit (.int (1))) (.blt false .len [(.var 0)]) (.glob "MOST_SIGNS" (.int (6)))) (.blt false .all [(.comp false (.cmp .isin (.var 1) (.glob "SIGNS" (.str [97, 98, 99, 100, 101, 102, 103, 104, 105, 106, 107, 108, 109, 110, 111, 112, 113, 114, 115, 116, 117, 118, 119, 120, 121, 122]))) (.nm 1) (.seq (.var 0)) [] [1])]))))]
def f_is_nameP (ix : Ix) : Fn := ⟨1, 2, false, b_is_nameP ix⟩
/-- is_within -/
def b_is_within (ix : Ix) : List C := [
  (.ife (.or (.cmp .eq (.var 1) (.lit (.int (0)))) (.or (.not (.isi (.var 0) .tuple)) (.or (.cmp .eq (.var 0) (.tup [])) (.not (.isi (.idx (.var 0) (.lit (.int (0)))) .str))))) [(.ret (.lit (.bl false)))] []),
  (.star [2] 3 (.var 0)),
  (.ife (.cmp .isin (.var 2) (.glob "LEAVES" (.tup [.str [116, 104, 105, 110, 103], .str [100, 101, 98, 116]]))) [(.ret (.and (.cmp .eq (.blt false .len [(.var 3)]) (.lit (.int (1)))) (.call ix.is_nameP [(.idx (.var 3) (.lit (.int (0))))])))] []),
  (.ife (.cmp .ne (.meth .get (.glob "PARTS" (.tab ix.tPARTS t_PARTS)) [(.var 2)]) (.blt false .len [(.var 3)])) [(.ret (.lit (.bl false)))] []),
  (.ret (.blt false .all [(.comp false (.call ix.is_within [(.var 4), (.bin false .sub (.var 1) (.lit (.int (1))))]) (.nm 4) (.seq (.var 3)) [] [4])]))]
def f_is_within (ix : Ix) : Fn := ⟨2, 5, false, b_is_within ix⟩
/-- is_saying -/
def b_is_sayingP (ix : Ix) : List C := [
  (.ret (.call ix.is_within [(.var 0), (.glob "MOST_DEEP" (.int (6)))]))]
def f_is_sayingP (ix : Ix) : Fn := ⟨1, 1, false, b_is_sayingP ix⟩
/-- turned -/
def b_turnedP (ix : Ix) : List C := [
  (.star [1] 2 (.var 0)),
  (.ife (.cmp .isin (.var 1) (.glob "LEAVES" (.tup [.str [116, 104, 105, 110, 103], .str [100, 101, 98, 116]]))) [(.ret (.tup [(.idx (.glob "TURNED" (.tab ix.tTURNED t_TURNED)) (.var 1)), (.idx (.var 2) (.lit (.int (0))))]))] []),
  (.ret (.bin false .add (.tup [(.idx (.glob "TURNED" (.tab ix.tTURNED t_TURNED)) (.var 1))]) (.blt false .tuple [(.comp false (.call ix.turnedP [(.var 3)]) (.nm 3) (.seq (.var 2)) [] [3])])))]
def f_turnedP (ix : Ix) : Fn := ⟨1, 4, false, b_turnedP ix⟩
/-- parts_of -/
def b_parts_of (ix : Ix) : List C := [
  (.ife (.cmp .isin (.idx (.var 0) (.lit (.int (0)))) (.glob "LEAVES" (.tup [.str [116, 104, 105, 110, 103], .str [100, 101, 98, 116]]))) [(.ret (.tup []))] []),
  (.ret (.slc false (.var 0) (some (.lit (.int (1)))) none))]
def f_parts_of (ix : Ix) : Fn := ⟨1, 1, false, b_parts_of ix⟩
/-- words_of -/
def b_words_of (ix : Ix) : List C := [
  (.asg (.nm 1) (.lst true [(.idx (.var 0) (.lit (.int (0))))])),
  (.for_ (.nm 2) (.seq (.call ix.parts_of [(.var 0)])) [(.ex (.meth .extend (.var 1) [(.call ix.words_of [(.var 2)])]))]),
  (.ret (.var 1))]
def f_words_of (ix : Ix) : Fn := ⟨1, 3, false, b_words_of ix⟩
/-- signs -/
def b_signsP (ix : Ix) : List C := [
  (.ret (.blt false .len [(.call ix.words_of [(.var 0)])]))]
def f_signsP (ix : Ix) : Fn := ⟨1, 1, false, b_signsP ix⟩
/-- _law_turned -/
def b_turned (ix : Ix) : List C := [
  (.asg (.nm 1) (.lst false [(.lit (.str [116, 104, 105, 110, 103])), (.lit (.str [112, 97, 105, 114])), (.lit (.str [109, 101, 110, 117])), (.lit (.str [111, 110, 101])), (.lit (.str [97, 108, 108])), (.lit (.str [107, 101, 101, 112])), (.lit (.str [100, 114, 97, 119])), (.lit (.str [110, 101, 118, 101, 114])), (.lit (.str [110, 111, 110, 101])), (.lit (.str [112, 105, 99, 107])), (.lit (.str [98, 105, 110, 100])), (.lit (.str [100, 101, 98, 116]))])),
  (.asg (.nm 2) (.idx (.var 1) (.bin false .sub (.lit (.int (11))) (.meth .index (.var 1) [(.idx (.var 0) (.lit (.int (0))))])))),
  (.ife (.cmp .isin (.var 2) (.tup [(.lit (.str [116, 104, 105, 110, 103])), (.lit (.str [100, 101, 98, 116]))])) [(.ret (.tup [(.var 2), (.idx (.var 0) (.lit (.int (1))))]))] []),
  (.ret (.bin false .add (.tup [(.var 2)]) (.blt false .tuple [(.comp false (.call ix.turned [(.var 3)]) (.nm 3) (.seq (.slc false (.var 0) (some (.lit (.int (1)))) none)) [] [3])])))]
def f_turned (ix : Ix) : Fn := ⟨1, 4, false, b_turned ix⟩
/-- _law_goal -/
def b_goal (ix : Ix) : List C := [
  (.asg (.nm 2) (.call ix.pick [(.var 0), (.lst false [(.lit (.int (0))), (.lit (.int (1))), (.lit (.int (2))), (.lit (.int (3))), (.lit (.int (4))), (.lit (.int (8)))])])),
  (.asg (.nm 3) (.comp true (.call ix.saying [(.var 0), (.var 1), (.bin false .fdiv (.lit (.int (23))) (.blt false .max2 [(.lit (.int (1))), (.var 2)])), (.lit (.int (6)))]) (.nm 4) (.range1 (.var 2)) [] [4])),
  (.ife (.and (.cmp .eq (.var 2) (.lit (.int (2)))) (.cmp .eq (.call ix.take [(.var 0), (.lit (.int (2)))]) (.lit (.int (0))))) [(.seti (.var 3) (.call ix.take [(.var 0), (.lit (.int (2)))]) (.call ix.chain [(.var 0), (.var 1), (.lit (.int (6)))]))] []),
  (.ret (.blt false .tuple [(.var 3)]))]
def f_goal (ix : Ix) : Fn := ⟨2, 5, false, b_goal ix⟩
/-- _law_deep -/
def b_deep (ix : Ix) : List C := [
  (.for_ (.nm 2) (.range1 (.call ix.pick [(.var 0), (.lst false [(.lit (.int (1))), (.lit (.int (2))), (.lit (.int (7))), (.lit (.int (70)))])])) [(.asg (.nm 1) (.idx (.lst false [(.tup [(.var 1)]), (.lst false [(.var 1)]), (.tup [(.lit (.str [107, 101, 101, 112])), (.var 1)]), (.dict false [(.lit (.str [100, 114, 97, 119])), (.var 1)])]) (.call ix.take [(.var 0), (.lit (.int (4)))])))]),
  (.ret (.var 1))]
def f_deep (ix : Ix) : Fn := ⟨2, 3, false, b_deep ix⟩
/-- is_goal -/
def b_is_goalP (ix : Ix) : List C := [
  (.ret (.and (.isi (.var 0) .tuple) (.blt false .all [(.comp false (.call ix.is_sayingP [(.var 1)]) (.nm 1) (.seq (.var 0)) [] [1])])))]
def f_is_goalP (ix : Ix) : Fn := ⟨1, 2, false, b_is_goalP ix⟩
/-- show_saying -/
def b_show_saying (ix : Ix) : List C := [
  (.star [1] 4 (.var 0)),
  (.ife (.cmp .eq (.var 1) (.lit (.str [116, 104, 105, 110, 103]))) [(.ret (.idx (.var 4) (.lit (.int (0)))))] []),
  (.ife (.cmp .eq (.var 1) (.lit (.str [100, 101, 98, 116]))) [(.ret (.bin false .add (.lit (.str [45])) (.idx (.var 4) (.lit (.int (0))))))] []),
  (.ife (.cmp .isin (.var 1) (.glob "EMPTY" (.tab ix.tEMPTY t_EMPTY))) [(.ret (.idx (.glob "EMPTY" (.tab ix.tEMPTY t_EMPTY)) (.var 1)))] []),
  (.ife (.cmp .isin (.var 1) (.glob "AHEAD" (.tab ix.tAHEAD t_AHEAD))) [(.ret (.bin false .add (.idx (.glob "AHEAD" (.tab ix.tAHEAD t_AHEAD)) (.var 1)) (.call ix.show_saying [(.idx (.var 4) (.lit (.int (0))))])))] []),
  (.asg (.tup [(.nm 2), (.nm 3)]) (.var 4)),
  (.ret (.fstr [(.lit (.str [40])), (.call ix.show_saying [(.var 2)]), (.lit (.str [32])), (.idx (.glob "MARKS" (.tab ix.tMARKS t_MARKS)) (.var 1)), (.lit (.str [32])), (.call ix.show_saying [(.var 3)]), (.lit (.str [41]))]))]
def f_show_saying (ix : Ix) : Fn := ⟨1, 5, false, b_show_saying ix⟩
/-- show_goal -/
def b_show_goal (ix : Ix) : List C := [
  (.ret (.meth .join (.lit (.str [44, 32])) [(.comp false (.call ix.show_saying [(.var 1)]) (.nm 1) (.seq (.var 0)) [] [1])]))]
def f_show_goal (ix : Ix) : Fn := ⟨1, 2, false, b_show_goal ix⟩
/-- name_at -/
def b_name_at (ix : Ix) : List C := [
  (.asg (.nm 2) (.var 1)),
  (.while_ (.and (.cmp .lt (.var 2) (.blt false .len [(.var 0)])) (.cmp .isin (.idx (.var 0) (.var 2)) (.glob "SIGNS" (.str [97, 98, 99, 100, 101, 102, 103, 104, 105, 106, 107, 108, 109, 110, 111, 112, 113, 114, 115, 116, 117, 118, 119, 120, 121, 122])))) [(.aug 2 .add (.lit (.int (1))))]),
  (.ret (.slc false (.var 0) (some (.var 1)) (some (.var 2))))]
def f_name_at (ix : Ix) : Fn := ⟨2, 3, false, b_name_at ix⟩
/-- leaf_at -/
def b_leaf_at (ix : Ix) : List C := [
  (.asg (.nm 3) (.call ix.name_at [(.var 1), (.var 2)])),
  (.ife (.not (.chain .le .le (.lit (.int (1))) (.blt false .len [(.var 3)]) (.glob "MOST_SIGNS" (.int (6))))) [(.ret (.lit (.non)))] []),
  (.ret (.tup [(.tup [(.var 0), (.var 3)]), (.bin false .add (.var 2) (.blt false .len [(.var 3)]))]))]
def f_leaf_at (ix : Ix) : Fn := ⟨3, 4, false, b_leaf_at ix⟩
/-- joined_at -/
def b_joined_at (ix : Ix) : List C := [
  (.asg (.nm 3) (.call ix.saying_at [(.var 0), (.bin false .add (.var 1) (.lit (.int (1)))), (.bin false .sub (.var 2) (.lit (.int (1))))])),
  (.ife (.cmp .is (.var 3) (.lit (.non))) [(.ret (.lit (.non)))] []),
  (.asg (.tup [(.nm 6), (.nm 1)]) (.var 3)),
  (.asg (.nm 4) (.slc false (.var 0) (some (.bin false .add (.var 1) (.lit (.int (1))))) (some (.bin false .add (.var 1) (.lit (.int (2))))))),
  (.ife (.or (.cmp .notin (.var 4) (.glob "BY_MARK" (.tab ix.tBY_MARK t_BY_MARK))) (.cmp .ne (.slc false (.var 0) (some (.var 1)) (some (.bin false .add (.var 1) (.lit (.int (3)))))) (.fstr [(.lit (.str [32])), (.var 4), (.lit (.str [32]))]))) [(.ret (.lit (.non)))] []),
  (.asg (.nm 5) (.call ix.saying_at [(.var 0), (.bin false .add (.var 1) (.lit (.int (3)))), (.bin false .sub (.var 2) (.lit (.int (1))))])),
  (.ife (.cmp .is (.var 5) (.lit (.non))) [(.ret (.lit (.non)))] []),
  (.asg (.tup [(.nm 7), (.nm 1)]) (.var 5)),
  (.ife (.cmp .ne (.slc false (.var 0) (some (.var 1)) (some (.bin false .add (.var 1) (.lit (.int (1)))))) (.lit (.str [41]))) [(.ret (.lit (.non)))] []),
  (.ret (.tup [(.tup [(.idx (.glob "BY_MARK" (.tab ix.tBY_MARK t_BY_MARK)) (.var 4)), (.var 6), (.var 7)]), (.bin false .add (.var 1) (.lit (.int (1))))]))]
def f_joined_at (ix : Ix) : Fn := ⟨3, 8, false, b_joined_at ix⟩
/-- saying_at -/
def b_saying_at (ix : Ix) : List C := [
  (.asg (.nm 3) (.slc false (.var 0) (some (.var 1)) (some (.bin false .add (.var 1) (.lit (.int (1))))))),
  (.ife (.or (.cmp .eq (.var 2) (.lit (.int (0)))) (.cmp .eq (.var 3) (.lit (.str [])))) [(.ret (.lit (.non)))] []),
  (.ife (.cmp .eq (.var 3) (.lit (.str [40]))) [(.ret (.call ix.joined_at [(.var 0), (.var 1), (.var 2)]))] []),
  (.ife (.cmp .isin (.var 3) (.glob "BY_EMPTY" (.tab ix.tBY_EMPTY t_BY_EMPTY))) [(.ret (.tup [(.tup [(.idx (.glob "BY_EMPTY" (.tab ix.tBY_EMPTY t_BY_EMPTY)) (.var 3))]), (.bin false .add (.var 1) (.lit (.int (1))))]))] []),
  (.ife (.cmp .eq (.var 3) (.lit (.str [45]))) [(.ret (.call ix.leaf_at [(.lit (.str [100, 101, 98, 116])), (.var 0), (.bin false .add (.var 1) (.lit (.int (1))))]))] []),
  (.ife (.cmp .notin (.var 3) (.glob "BY_AHEAD" (.tab ix.tBY_AHEAD t_BY_AHEAD))) [(.ret (.call ix.leaf_at [(.lit (.str [116, 104, 105, 110, 103])), (.var 0), (.var 1)]))] []),
  (.asg (.nm 4) (.call ix.saying_at [(.var 0), (.bin false .add (.var 1) (.lit (.int (1)))), (.bin false .sub (.var 2) (.lit (.int (1))))])),
  (.ife (.cmp .is (.var 4) (.lit (.non))) [(.ret (.lit (.non)))] []),
  (.asg (.tup [(.nm 5), (.nm 1)]) (.var 4)),
  (.ret (.tup [(.tup [(.idx (.glob "BY_AHEAD" (.tab ix.tBY_AHEAD t_BY_AHEAD)) (.var 3)), (.var 5)]), (.var 1)]))]
def f_saying_at (ix : Ix) : Fn := ⟨3, 6, false, b_saying_at ix⟩
/-- saying_in -/
def b_saying_in (ix : Ix) : List C := [
  (.asg (.nm 1) (.call ix.saying_at [(.var 0), (.lit (.int (0))), (.glob "MOST_DEEP" (.int (6)))])),
  (.ife (.or (.cmp .is (.var 1) (.lit (.non))) (.cmp .ne (.idx (.var 1) (.lit (.int (1)))) (.blt false .len [(.var 0)]))) [(.ret (.lit (.non)))] []),
  (.ret (.idx (.var 1) (.lit (.int (0)))))]
def f_saying_in (ix : Ix) : Fn := ⟨1, 2, false, b_saying_in ix⟩
/-- read_saying -/
def b_read_saying (ix : Ix) : List C := [
  (.asg (.nm 1) (.lit (.non))),
  (.ife (.isi (.var 0) .str) [(.asg (.nm 1) (.call ix.saying_in [(.var 0)]))] []),
  (.ife (.cmp .is (.var 1) (.lit (.non))) [.stk] []),
  (.ret (.var 1))]
def f_read_saying (ix : Ix) : Fn := ⟨1, 2, false, b_read_saying ix⟩
/-- read_goal -/
def b_read_goal (ix : Ix) : List C := [
  (.ife (.not (.isi (.var 0) .str)) [.stk] []),
  (.asg (.nm 1) (.ite (.cmp .ne (.var 0) (.lit (.str []))) (.meth .split (.var 0) [(.lit (.str [44, 32]))]) (.lst false []))),
  (.asg (.nm 2) (.blt false .tuple [(.comp false (.call ix.saying_in [(.var 3)]) (.nm 3) (.seq (.var 1)) [] [3])])),
  (.ife (.cmp .isin (.lit (.non)) (.var 2)) [.stk] []),
  (.ret (.var 2))]
def f_read_goal (ix : Ix) : Fn := ⟨1, 4, false, b_read_goal ix⟩
/-- _law_text -/
def b_text (ix : Ix) : List C := [
  (.asg (.nm 1) (.idx (.var 0) (.lit (.int (0))))),
  (.ife (.cmp .isin (.var 1) (.tup [(.lit (.str [116, 104, 105, 110, 103])), (.lit (.str [100, 101, 98, 116]))])) [(.ret (.bin false .add (.idx (.dict false [(.lit (.str [116, 104, 105, 110, 103])), (.lit (.str [])), (.lit (.str [100, 101, 98, 116])), (.lit (.str [45]))]) (.var 1)) (.idx (.var 0) (.lit (.int (1))))))] []),
  (.ife (.cmp .isin (.var 1) (.tup [(.lit (.str [107, 101, 101, 112])), (.lit (.str [100, 114, 97, 119]))])) [(.ret (.bin false .add (.idx (.dict false [(.lit (.str [107, 101, 101, 112])), (.lit (.str [33])), (.lit (.str [100, 114, 97, 119])), (.lit (.str [63]))]) (.var 1)) (.call ix.text [(.idx (.var 0) (.lit (.int (1))))])))] []),
  (.ife (.cmp .eq (.blt false .len [(.var 0)]) (.lit (.int (1)))) [(.ret (.idx (.dict false [(.lit (.str [111, 110, 101])), (.lit (.str [49])), (.lit (.str [110, 111, 110, 101])), (.lit (.str [48])), (.lit (.str [97, 108, 108])), (.lit (.str [84])), (.lit (.str [110, 101, 118, 101, 114])), (.lit (.str [70]))]) (.var 1)))] []),
  (.asg (.nm 2) (.idx (.dict false [(.lit (.str [112, 97, 105, 114])), (.lit (.str [32, 42, 32])), (.lit (.str [98, 105, 110, 100])), (.lit (.str [32, 124, 32])), (.lit (.str [109, 101, 110, 117])), (.lit (.str [32, 38, 32])), (.lit (.str [112, 105, 99, 107])), (.lit (.str [32, 43, 32]))]) (.var 1))),
  (.ret (.bin false .add (.bin false .add (.bin false .add (.bin false .add (.lit (.str [40])) (.call ix.text [(.idx (.var 0) (.lit (.int (1))))])) (.var 2)) (.call ix.text [(.idx (.var 0) (.lit (.int (2))))])) (.lit (.str [41]))))]
def f_text (ix : Ix) : Fn := ⟨1, 3, false, b_text ix⟩
/-- _law_is_name -/
def b_is_name (ix : Ix) : List C := [
  (.ife (.or (.not (.isi (.var 0) .str)) (.not (.chain .le .le (.lit (.int (1))) (.blt false .len [(.var 0)]) (.lit (.int (6)))))) [(.ret (.lit (.bl false)))] []),
  (.ret (.blt false .all [(.comp false (.cmp .isin (.var 1) (.lit (.str [97, 98, 99, 100, 101, 102, 103, 104, 105, 106, 107, 108, 109, 110, 111, 112, 113, 114, 115, 116, 117, 118, 119, 120, 121, 122]))) (.nm 1) (.seq (.var 0)) [] [1])]))]
def f_is_name (ix : Ix) : Fn := ⟨1, 2, false, b_is_name ix⟩
/-- _law_is_saying -/
def b_is_saying (ix : Ix) : List C := [
  (.ife (.or (.cmp .eq (.var 1) (.lit (.int (0)))) (.or (.not (.isi (.var 0) .tuple)) (.or (.cmp .eq (.var 0) (.tup [])) (.not (.isi (.idx (.var 0) (.lit (.int (0)))) .str))))) [(.ret (.lit (.bl false)))] []),
  (.ife (.cmp .isin (.idx (.var 0) (.lit (.int (0)))) (.tup [(.lit (.str [116, 104, 105, 110, 103])), (.lit (.str [100, 101, 98, 116]))])) [(.ret (.and (.cmp .eq (.blt false .len [(.var 0)]) (.lit (.int (2)))) (.call ix.is_name [(.idx (.var 0) (.lit (.int (1))))])))] []),
  (.asg (.nm 2) (.dict false [(.lit (.str [111, 110, 101])), (.lit (.int (1))), (.lit (.str [110, 111, 110, 101])), (.lit (.int (1))), (.lit (.str [97, 108, 108])), (.lit (.int (1))), (.lit (.str [110, 101, 118, 101, 114])), (.lit (.int (1))), (.lit (.str [107, 101, 101, 112])), (.lit (.int (2))), (.lit (.str [100, 114, 97, 119])), (.lit (.int (2))), (.lit (.str [112, 97, 105, 114])), (.lit (.int (3))), (.lit (.str [98, 105, 110, 100])), (.lit (.int (3))), (.lit (.str [109, 101, 110, 117])), (.lit (.int (3))), (.lit (.str [112, 105, 99, 107])), (.lit (.int (3)))])),
  (.ife (.or (.cmp .notin (.idx (.var 0) (.lit (.int (0)))) (.var 2)) (.cmp .ne (.blt false .len [(.var 0)]) (.idx (.var 2) (.idx (.var 0) (.lit (.int (0))))))) [(.ret (.lit (.bl false)))] []),
  (.ret (.blt false .all [(.comp false (.call ix.is_saying [(.var 3), (.bin false .sub (.var 1) (.lit (.int (1))))]) (.nm 3) (.seq (.slc false (.var 0) (some (.lit (.int (1)))) none)) [] [3])]))]
def f_is_saying (ix : Ix) : Fn := ⟨2, 4, false, b_is_saying ix⟩
/-- _law_is_goal -/
def b_is_goal (ix : Ix) : List C := [
  (.ret (.and (.isi (.var 0) .tuple) (.blt false .all [(.comp false (.call ix.is_saying [(.var 1), (.lit (.int (6)))]) (.nm 1) (.seq (.var 0)) [] [1])])))]
def f_is_goal (ix : Ix) : Fn := ⟨1, 2, false, b_is_goal ix⟩
/-- _law_odd -/
def b_odd (ix : Ix) : List C := [
  (.asg (.nm 2) (.lst false [(.lit (.non)), (.lit (.bl true)), (.lit (.bl false)), (.lit (.int (0))), (.lit (.int (1))), (.neg (.lit (.int (1)))), (.lit (.int (7))), (.lit (.str [])), (.lit (.str [97])), (.lit (.str [116, 104, 105, 110, 103])), (.tup []), (.lst false []), (.dict0 false), (.tup [(.lit (.str [111, 110, 101]))]), (.tup [(.lit (.str [116, 104, 105, 110, 103])), (.lit (.str [97]))]), (.lst false [(.lit (.str [111, 110, 101]))]), (.lit (.str [84])), (.lit (.str [111, 110, 101]))])),
  (.ife (.isi (.var 1) .str) [(.asg (.nm 3) (.lst false [(.lit (.str [116, 104, 105, 110, 103])), (.lit (.str [100, 101, 98, 116])), (.lit (.str [112, 97, 105, 114])), (.lit (.str [98, 105, 110, 100])), (.lit (.str [109, 101, 110, 117])), (.lit (.str [112, 105, 99, 107])), (.lit (.str [111, 110, 101])), (.lit (.str [110, 111, 110, 101])), (.lit (.str [97, 108, 108])), (.lit (.str [110, 101, 118, 101, 114])), (.lit (.str [107, 101, 101, 112])), (.lit (.str [100, 114, 97, 119])), (.lit (.str [116, 105, 101]))])), (.asg (.nm 2) (.bin false .add (.bin false .add (.var 2) (.var 3)) (.lst false [(.bin false .add (.var 1) (.lit (.str [97]))), (.meth .upper (.var 1) []), (.slc false (.var 1) (some (.lit (.int (1)))) none), (.bin false .add (.var 1) (.lit (.str [32]))), (.lit (.str [97, 98, 99, 100, 101, 102, 103])), (.tup [(.var 1)]), (.lst false [(.var 1)])])))] []),
  (.ife (.isi (.var 1) .tuple) [(.asg (.nm 2) (.bin false .add (.var 2) (.bin false .mul (.lst false [(.blt false .list [(.var 1)]), (.rev false (.var 1)), (.bin false .add (.var 1) (.slc false (.var 1) (some (.neg (.lit (.int (1))))) none)), (.slc false (.var 1) none (some (.neg (.lit (.int (1)))))), (.tup [(.var 1)]), (.tup [(.lit (.str [107, 101, 101, 112])), (.var 1)])]) (.lit (.int (3))))))] []),
  (.ret (.call ix.pick [(.var 0), (.var 2)]))]
def f_odd (ix : Ix) : Fn := ⟨2, 4, false, b_odd ix⟩
/-- _law_bent -/
def b_bent (ix : Ix) : List C := [
  (.ife (.and (.isi (.var 1) .tuple) (.and (.cmp .ne (.var 1) (.tup [])) (.cmp .gt (.call ix.take [(.var 0), (.lit (.int (4)))]) (.lit (.int (0)))))) [(.asg (.nm 2) (.call ix.take [(.var 0), (.blt false .len [(.var 1)])])), (.ret (.bin false .add (.bin false .add (.slc false (.var 1) none (some (.var 2))) (.tup [(.call ix.bent [(.var 0), (.idx (.var 1) (.var 2))])])) (.slc false (.var 1) (some (.bin false .add (.var 2) (.lit (.int (1))))) none)))] []),
  (.ret (.call ix.odd [(.var 0), (.var 1)]))]
def f_bent (ix : Ix) : Fn := ⟨2, 3, false, b_bent ix⟩
/-- _law_asked -/
def b_asked (ix : Ix) : List C := [
  (.asg (.nm 1) (.blt false .repr [(.var 0)])),
  (.ife (.or (.cmp .ne (.blt false .repr [(.call ix.is_sayingP [(.var 0)])]) (.blt false .repr [(.call ix.is_saying [(.var 0), (.lit (.int (6)))])])) (.cmp .ne (.blt false .repr [(.call ix.is_goalP [(.var 0)])]) (.blt false .repr [(.call ix.is_goal [(.var 0)])]))) [(.ret (.lit (.bl false)))] []),
  (.ret (.cmp .eq (.blt false .repr [(.var 0)]) (.var 1)))]
def f_asked (ix : Ix) : Fn := ⟨1, 2, false, b_asked ix⟩
structure OkA1 (Fs : List Fn) (ix : Ix) : Prop where
  take : Fs[ix.take]? = some (f_take ix)
  pick : Fs[ix.pick]? = some (f_pick ix)
structure OkH (Fs : List Fn) (ix : Ix) : Prop where
  hand : Fs[ix.hand]? = some (f_hand ix)
structure OkA2 (Fs : List Fn) (ix : Ix) : Prop extends OkA1 Fs ix where
  names : Fs[ix.names]? = some (f_names ix)
  leaf : Fs[ix.leaf]? = some (f_leaf ix)
  saying : Fs[ix.saying]? = some (f_saying ix)
  chain : Fs[ix.chain]? = some (f_chain ix)
structure OkP1 (Fs : List Fn) (ix : Ix) : Prop where
  is_nameP : Fs[ix.is_nameP]? = some (f_is_nameP ix)
  is_within : Fs[ix.is_within]? = some (f_is_within ix)
  is_sayingP : Fs[ix.is_sayingP]? = some (f_is_sayingP ix)
structure OkP2 (Fs : List Fn) (ix : Ix) : Prop where
  turnedP : Fs[ix.turnedP]? = some (f_turnedP ix)
structure OkP3 (Fs : List Fn) (ix : Ix) : Prop where
  parts_of : Fs[ix.parts_of]? = some (f_parts_of ix)
  words_of : Fs[ix.words_of]? = some (f_words_of ix)
  signsP : Fs[ix.signsP]? = some (f_signsP ix)
structure OkK3 (Fs : List Fn) (ix : Ix) : Prop where
  turned : Fs[ix.turned]? = some (f_turned ix)
structure OkA3 (Fs : List Fn) (ix : Ix) : Prop extends OkA2 Fs ix where
  goal : Fs[ix.goal]? = some (f_goal ix)
structure OkD (Fs : List Fn) (ix : Ix) : Prop where
  deep : Fs[ix.deep]? = some (f_deep ix)
structure OkP1g (Fs : List Fn) (ix : Ix) : Prop extends OkP1 Fs ix where
  is_goalP : Fs[ix.is_goalP]? = some (f_is_goalP ix)
structure OkK5 (Fs : List Fn) (ix : Ix) : Prop where
  show_saying : Fs[ix.show_saying]? = some (f_show_saying ix)
  show_goal : Fs[ix.show_goal]? = some (f_show_goal ix)
  name_at : Fs[ix.name_at]? = some (f_name_at ix)
  leaf_at : Fs[ix.leaf_at]? = some (f_leaf_at ix)
  joined_at : Fs[ix.joined_at]? = some (f_joined_at ix)
  saying_at : Fs[ix.saying_at]? = some (f_saying_at ix)
  saying_in : Fs[ix.saying_in]? = some (f_saying_in ix)
  read_saying : Fs[ix.read_saying]? = some (f_read_saying ix)
  read_goal : Fs[ix.read_goal]? = some (f_read_goal ix)
  text : Fs[ix.text]? = some (f_text ix)
structure OkK2 (Fs : List Fn) (ix : Ix) : Prop where
  is_name : Fs[ix.is_name]? = some (f_is_name ix)
  is_saying : Fs[ix.is_saying]? = some (f_is_saying ix)
  is_goal : Fs[ix.is_goal]? = some (f_is_goal ix)
  odd : Fs[ix.odd]? = some (f_odd ix)
  bent : Fs[ix.bent]? = some (f_bent ix)
  asked : Fs[ix.asked]? = some (f_asked ix)
end QL
end
section
set_option maxRecDepth 100000
set_option exponentiation.threshold 3000
/-! QA: draws of the first family of laws: numbers, picks. -/
namespace MP
theorem cutL_take {α : Type} {xs : List α} {i : Int} (h : 0 ≤ i) : cutL xs none (some i) = xs.take i.toNat := by
  unfold cutL cutAt
  simp only [if_neg (show ¬ i < 0 by omega), List.drop_zero, Nat.sub_zero]
  by_cases hl : i.toNat ≤ xs.length
  · rw [Nat.min_eq_left hl]
  · rw [Nat.min_eq_right (by omega), List.take_of_length_le (Nat.le_refl _), List.take_of_length_le (by omega)]
theorem cutL_drop {α : Type} {xs : List α} {i : Int} (h : 0 ≤ i) : cutL xs (some i) none = xs.drop i.toNat := by
  unfold cutL cutAt
  simp only [if_neg (show ¬ i < 0 by omega)]
  by_cases hl : i.toNat ≤ xs.length
  · rw [Nat.min_eq_left hl, List.take_of_length_le (by simp)]
  · rw [Nat.min_eq_right (by omega), List.drop_of_length_le (Nat.le_refl _), List.drop_of_length_le (by omega)]
    simp
theorem cutL_map {α β : Type} (f : α → β) (xs : List α) (lo hi : Option Int) : cutL (xs.map f) lo hi = (cutL xs lo hi).map f := by
  unfold cutL
  simp [List.map_drop, List.map_take]
@[simp] theorem slice_lst {m : Bool} {xs : List D} {lo hi : Option Int} {S : Store} : slice m (.lst xs) lo hi S = mkL m (cutL xs lo hi) S := rfl
@[simp] theorem slice_tup {m : Bool} {xs : List D} {lo hi : Option Int} {S : Store} : slice m (.tup xs) lo hi S = .ok (.tup (cutL xs lo hi)) S := rfl
@[simp] theorem slice_str {m : Bool} {x : List Nat} {lo hi : Option Int} {S : Store} : slice m (.str x) lo hi S = .ok (.str (cutL x lo hi)) S := rfl
theorem rdy_append {n : Nat} {a : List D} {S : Store} (h : S[n]? = some (.lst a)) : mtRdy .append (.ref n) S = true := by simp [mtRdy, lsOf, h]
theorem rdy_extend {n : Nat} {a : List D} {S : Store} (h : S[n]? = some (.lst a)) : mtRdy .extend (.ref n) S = true := by simp [mtRdy, lsOf, h]
theorem mt_append {n : Nat} {a : List D} {S : Store} {y : D} (h : S[n]? = some (.lst a)) (hl : a.length < 1000000) : mt .append (.ref n) [y] S = .ok .non (S.set n (.lst (a ++ [y]))) := by simp [mt, h, most, hl]
theorem mt_extend {n : Nat} {a b : List D} {S : Store} (h : S[n]? = some (.lst a)) (hl : a.length + b.length ≤ 1000000) : mt .extend (.ref n) [.lst b] S = .ok .non (S.set n (.lst (a ++ b))) := by simp [mt, exOf, h, lsOf, most, hl]
def ch (c : Nat) : D := .str [c]
theorem strs_ch : ∀ cs : List Nat, strsOf (cs.map ch) = some (cs.map fun c => [c])
  | [] => rfl
  | c :: cs => by simp [ch, strsOf, strs_ch cs]
theorem joinL_ch : ∀ cs : List Nat, joinL [] (cs.map fun c => [c]) = cs
  | [] => rfl
  | [c] => rfl
  | c :: d :: cs => by
    have := joinL_ch (d :: cs)
    simp only [List.map_cons] at this ⊢
    simp [joinL, this]
theorem join_ch {cs : List Nat} {S : Store} (h : cs.length ≤ most) : mt .join (.str []) [.lst (cs.map ch)] S = .ok (.str cs) S := by
  have h' : cs.length ≤ 1000000 := h
  simp [mt, lsOf, strs_ch, joinL_ch, mk?, h', most]
end MP
namespace QL
open PySem L2 MP
def mix1 (m c : Int) : Int := (m + 65537 * c * c + 11) * 48271 % 2305843009213693921
def mix2 (m c : Int) : Int := mix1 m c * (mix1 m c % 1000003 + 99991 * c) % 2305843009213693907
variable {Fs : List Fn} {ix : Ix}
theorem take (ok : OkA1 Fs ix) {K n B : Nat} {S : Store} {many : Int} (hK : 1 ≤ K) (h : Hand S n B) (hB : B < 2 ^ 61) (h0 : 0 < many) (h1 : many < 1073741824) :
    ∃ d S', callN Fs K ix.take [.ref n, .int many] S = .ok (.int d) S' ∧ 0 ≤ d ∧ d < many ∧ Dr S n (B + 1) S' := by
  obtain ⟨k, rfl⟩ : ∃ k, K = k + 1 := ⟨K - 1, by omega⟩
  have hn := h.lt
  obtain ⟨g, m, c, hS, c0, c1⟩ := h
  by_cases hg : 0 < g
  · refine ⟨g % many, _, ?_, Int.emod_nonneg _ (by omega), Int.emod_lt_of_pos _ h0, ⟨g / many, m, c, List.getElem?_set_self hn, by omega, by omega⟩, _, rfl⟩
    rw [call_eq ok.take rfl]
    show outQ false S (evCs (callN Fs k) (b_take ix) [some (.ref n), some (.int many), none, none] S) = _
    unfold b_take
    simp [evCs, evC, evE, atD, atSeq, sqOf, hS, ixn, cp2, hg, test, truth, op2, mk?, h0, h1, setAt, bindT, outQ, fin]
  · have hA : ∀ x : Int, okMul x (c + 1) = true := fun x => okMul_r (by omega)
    have hB : ∀ x : Int, okMul x 48271 = true := fun x => okMul_r (by decide)
    have hC : ∀ x : Int, okMul 99991 x = true := fun x => okMul_l (by decide)
    have hD : ∀ x y : Int, okMul (x % 2305843009213693921) y = true := fun x y => okMul_l (by omega)
    have hn2 : ∀ v : Cell, (S.set n v)[n]? = some v := fun v => List.getElem?_set_self hn
    refine ⟨(mix2 m (c + 1) / 97 + mix2 m (c + 1) / 1000033) % many, _, ?_, Int.emod_nonneg _ (by omega), Int.emod_lt_of_pos _ h0, ⟨g, m, c + 1, hn2 _, by omega, by omega⟩, _, rfl⟩
    rw [call_eq ok.take rfl]
    show outQ false S (evCs (callN Fs k) (b_take ix) [some (.ref n), some (.int many), none, none] S) = _
    unfold b_take
    simp [evCs, evC, evE, atD, atSeq, sqOf, hS, ixn, cp2, hg, test, truth, op2, mk?, h0, h1, setAt, bindT, outQ, fin, hn2, hA, hB, hC, hD, mix2, mix1]
theorem pick_str (ok : OkA1 Fs ix) {K n B : Nat} {S : Store} {x : List Nat} (hK : 2 ≤ K) (h : Hand S n B) (hB : B < 2 ^ 61) (hx : 0 < x.length) (hx2 : x.length < 1073741824) :
    ∃ c S', callN Fs K ix.pick [.ref n, .str x] S = .ok (ch c) S' ∧ c ∈ x ∧ Dr S n (B + 1) S' := by
  obtain ⟨k, rfl⟩ : ∃ k, K = k + 1 := ⟨K - 1, by omega⟩
  obtain ⟨d, S', e1, e2, e3, e4⟩ := take ok (K := k) (many := x.length) (by omega) h hB (by omega) (by omega)
  have hd : d.toNat < x.length := by omega
  refine ⟨x[d.toNat], S', ?_, List.getElem_mem hd, e4⟩
  rw [call_eq ok.pick rfl]
  show outQ false S (evCs (callN Fs k) (b_pick ix) [some (.ref n), some (.str x)] S) = _
  unfold b_pick
  simp [ev_var (env := [some (.ref n), some (.str x)]) (i := 0) (d := .ref n) rfl, ev_var (env := [some (.ref n), some (.str x)]) (i := 1) (d := .str x) rfl, e1, at_str (ixn_in e2 e3) (show x[d.toNat]? = some x[d.toNat] by simp [hd]), outQ, fin_data0 e4, ch]
theorem pick_lst (ok : OkA1 Fs ix) {K n B : Nat} {S : Store} {xs : List D} (hK : 2 ≤ K) (h : Hand S n B) (hB : B < 2 ^ 61) (hx : 0 < xs.length) (hx2 : xs.length < 1073741824) :
    ∃ d S', callN Fs K ix.pick [.ref n, .lst xs] S = .ok d S' ∧ d ∈ xs ∧ Dr S n (B + 1) S' := by
  obtain ⟨k, rfl⟩ : ∃ k, K = k + 1 := ⟨K - 1, by omega⟩
  obtain ⟨d, S', e1, e2, e3, e4⟩ := take ok (K := k) (many := xs.length) (by omega) h hB (by omega) (by omega)
  have hd : d.toNat < xs.length := by omega
  refine ⟨xs[d.toNat], S', ?_, List.getElem_mem hd, e4⟩
  rw [call_eq ok.pick rfl]
  show outQ false S (evCs (callN Fs k) (b_pick ix) [some (.ref n), some (.lst xs)] S) = _
  unfold b_pick
  simp [ev_var (env := [some (.ref n), some (.lst xs)]) (i := 0) (d := .ref n) rfl, ev_var (env := [some (.ref n), some (.lst xs)]) (i := 1) (d := .lst xs) rfl, e1, at_lst (ixn_in e2 e3) (show xs[d.toNat]? = some xs[d.toNat] by simp [hd]), outQ, fin_data0 e4]
/-- a hand -/
theorem hand (ok : OkH Fs ix) {K : Nat} {S : Store} {ns : List Int} {i : Nat} (hK : 1 ≤ K) : ∃ T, callN Fs K ix.hand [.row (ns.map D.int), .int i] S = .ok (.ref S.length) (S ++ T) ∧ Hand (S ++ T) S.length 0 ∧ T.length = 1 := by
  obtain ⟨k, rfl⟩ : ∃ k, K = k + 1 := ⟨K - 1, by omega⟩
  have cell : ∃ c : Int, evE (callN Fs k) (.ite (.cmp .lt (.var 1) (.blt false .len [(.var 0)])) (.idx (.var 0) (.var 1)) (.lit (.int (0)))) [some (.row (ns.map D.int)), some (.int i), none, none] S = .ok (.int c) S := by
    have v0 : ∀ S, evE (callN Fs k) (.var 0) [some (.row (ns.map D.int)), some (.int i), none, none] S = .ok (.row (ns.map D.int)) S := fun S => ev_var rfl
    have v1 : ∀ S, evE (callN Fs k) (.var 1) [some (.row (ns.map D.int)), some (.int i), none, none] S = .ok (.int i) S := fun S => ev_var rfl
    by_cases h : i < ns.length
    · refine ⟨ns[i], ?_⟩
      simp [v0, v1, h, at_row (ixn_in (n := (ns.map D.int).length) (k := i) (by omega) (by simp; exact h)) (show (ns.map D.int)[(i : Int).toNat]? = some (.int ns[i]) by simp [h])]
    · refine ⟨0, ?_⟩
      simp [v0, v1, h]
  obtain ⟨c, hc⟩ := cell
  have p1 : okMul (1000000000000000000000000000000000000000000000000000000000000) (1000000000000000000000000000000000000000000000000000000000000) = true := by decide +kernel
  have p2 : ∀ x : Int, okMul 7919 x = true := fun x => okMul_l (by decide)
  have p3 : ∀ (x : Int) (p : Prop) [Decidable p], okMul x (if p then 1 else 0) = true := fun x p _ => okMul_r (by split <;> decide)
  refine ⟨[.lst [.int ((if c < 0 then -c else c) % (10 ^ 60 * 10 ^ 60) * (if decide (10 ^ 18 ≤ (if c < 0 then -c else c)) = true then 1 else 0)), .int ((c % 2305843009213693951 + 7919 * i + 3) % 2305843009213693951), .int 0]], ?_, ⟨_, _, 0, by simp; exact ⟨rfl, rfl⟩, by omega, by omega⟩, rfl⟩
  rw [call_eq ok.hand rfl]
  show outQ true S (evCs (callN Fs k) (b_hand ix) [some (.row (ns.map D.int)), some (.int i), none, none] S) = _
  unfold b_hand
  rw [evCs, evC, hc]
  simp [ev_lst, ev_var, p1, p2, p3, most, outQ, fin]
end QL
end
section
set_option maxRecDepth 100000
set_option exponentiation.threshold 3000
/-! QB: names drawn. -/
namespace QL
open PySem L2 MP
variable {Fs : List Fn} {ix : Ix}
def Lt (c : Nat) : Prop := 97 ≤ c ∧ c ≤ 122
def Nm (x : List Nat) : Prop := 1 ≤ x.length ∧ x.length ≤ 6 ∧ ∀ c ∈ x, Lt c
def abc : List Nat := [97, 98, 99, 100, 101, 102, 103, 104, 105, 106, 107, 108, 109, 110, 111, 112, 113, 114, 115, 116, 117, 118, 119, 120, 121, 122]
theorem abc_lt : ∀ c ∈ abc, Lt c := by unfold Lt; decide
theorem abc_at {i : Int} (h0 : 0 ≤ i) (h1 : i < 26) (S : Store) : ∃ c, atD (.str abc) (.int i) S = .ok (ch c) S ∧ Lt c := by
  have hl : i.toNat < abc.length := by show i.toNat < 26; omega
  exact ⟨abc[i.toNat], at_str (ixn_in h0 (by show i < ((26 : Nat) : Int); omega)) (by simp [hl]), abc_lt _ (List.getElem_mem hl)⟩
theorem chs_of {ys : List D} (h : ∀ y ∈ ys, ∃ c, y = ch c ∧ Lt c) : ∃ cs : List Nat, ys = cs.map ch ∧ ∀ c ∈ cs, Lt c := by
  induction ys with
  | nil => exact ⟨[], rfl, fun c hc => by cases hc⟩
  | cons y ys ih =>
    obtain ⟨c, rfl, hc⟩ := h _ List.mem_cons_self
    obtain ⟨cs, rfl, hcs⟩ := ih fun y hy => h y (List.mem_cons_of_mem _ hy)
    refine ⟨c :: cs, rfl, fun d hd => ?_⟩
    rcases List.mem_cons.mp hd with q | q
    · rw [q]; exact hc
    · exact hcs d q
theorem strs_data (xs : List (List Nat)) : dataAll (xs.map D.str) = true := by
  induction xs <;> simp_all [dataAll, D.data]
theorem names (ok : OkA2 Fs ix) {K n B : Nat} {S : Store} (hK : 3 ≤ K) (h : Hand S n B) (hB : B < 2 ^ 60) :
    ∃ (xs : List (List Nat)) (S' : Store), callN Fs K ix.names [.ref n] S = .ok (.lst (xs.map D.str)) S' ∧ 1 ≤ xs.length ∧ xs.length ≤ 4 ∧ (∀ x ∈ xs, Nm x) ∧ Dr S n (B + 20) S' := by
  obtain ⟨k, rfl⟩ : ∃ k, K = k + 1 := ⟨K - 1, by omega⟩
  have ok1 := ok.toOkA1
  obtain ⟨z, S1, a1, a2, a3, a4⟩ := take ok1 (K := k) (many := 6) (by omega) h (by omega) (by decide) (by decide)
  obtain ⟨fst, S2, b1, b2, b3, b4⟩ := take ok1 (K := k) (many := 26) (by omega) a4.hand (by omega) (by decide) (by decide)
  obtain ⟨by_, S3, c1, c2, c3⟩ := pick_lst ok1 (K := k) (xs := [.int 1, .int 3, .int 5, .int 7, .int 9, .int 11, .int 15]) (by omega) b4.hand (by omega) (by decide) (by decide)
  have hby : ∃ i : Int, by_ = .int i ∧ 0 ≤ i ∧ i ≤ 15 := by
    simp only [List.mem_cons, List.not_mem_nil, or_false] at c2
    rcases c2 with rfl | rfl | rfl | rfl | rfl | rfl | rfl <;> exact ⟨_, rfl, by omega, by omega⟩
  obtain ⟨bi, rfl, bi0, bi1⟩ := hby
  have d3 := (a4.trans b4).trans c3
  -- the stem
  obtain ⟨ys, S4, e1, e2, e3, e4⟩ := comp_draws (w := ⟨rangeL 0 (1 + z).toNat, []⟩) rfl (bnd := fun d => bindT (.nm 2) d (wipeE [some (.ref n), none, none, some (.int (1 + z)), some (.int fst), some (.int bi), none, none, none] [2]))
    (ifs := fun env S => evTs (callN Fs k) [] env S) (elt := fun env S => evE (callN Fs k) (.call ix.pick [(.var 0), (.lit (.str abc))]) env S) (fun env S => by simp [evTs]) (n := n) (c := 1) (fun y => ∃ c, y = ch c ∧ Lt c) (fun y ⟨c, e, _⟩ => by rw [e]; rfl)
    (S := S3) (B := B + 1 + 1 + 1) (M := B + 10) c3.hand (by simp [rangeL]; omega)
    (fun d hd => ⟨_, rfl, fun T b hT hb => by
      obtain ⟨c, T', q1, q2, q3⟩ := pick_str ok1 (K := k) (x := abc) (by omega) hT (by omega) (by decide) (by decide)
      exact ⟨_, T', by rw [ev_call]; simp [wipeE, evE, q1], ⟨c, rfl, abc_lt c q2⟩, q3⟩⟩) (by simp [rangeL, most]; omega)
  obtain ⟨cs, rfl, hcs⟩ := chs_of e2
  have hcl : cs.length = (1 + z).toNat := by simpa [rangeL] using e3
  have d4 := d3.trans e4
  -- the place
  obtain ⟨at_, S5, f1, f2, f3, f4⟩ := take ok1 (K := k) (many := 1 + z) (by omega) e4.hand (by simp [rangeL]; omega) (by omega) (by omega)
  have d5 := (d4.trans f4).mono (B' := B + 10) (by simp [rangeL]; omega)
  -- how many
  obtain ⟨m, T6, g1, g2, g3, g4⟩ := take ok1 (K := k) (many := 4) (S := S5 ++ [.lst []]) (by omega) d5.hand.app (by omega) (by decide) (by decide)
  obtain ⟨S6, rfl, g5⟩ := g4.of_app d5.hand.lt
  have d6 := d5.trans g5
  have hl : S6.length = S.length := d6.len
  have hl5 : S5.length = S.length := d5.len
  obtain ⟨env', T', i1, u, v, xs, rfl, rfl, x1, x2⟩ := forGo_ok (w := ⟨rangeL 0 (1 + m).toNat, []⟩) rfl (bnd := bindT (.nm 2))
    (body := fun env S => evCs (callN Fs k) [(.asg (.nm 8) (.idx (.lit (.str abc)) (.bin false .mod (.bin false .add (.var 4) (.bin false .mul (.var 5) (.var 2))) (.lit (.int (26)))))), (.ex (.meth .append (.var 7) [(.meth .join (.lit (.str [])) [(.bin false .add (.bin false .add (.slc false (.var 1) none (some (.var 6))) (.lst false [(.var 8)])) (.slc false (.var 1) (some (.bin false .add (.var 6) (.lit (.int (1))))) none))])]))] env S)
    (fun i env T => ∃ u v xs, env = [some (.ref n), some (.lst (cs.map ch)), u, some (.int (1 + z)), some (.int fst), some (.int bi), some (.int at_), some (.ref S.length), v] ∧ T = S6 ++ [.lst (xs.map D.str)] ∧ xs.length = i ∧ ∀ x ∈ xs, Nm x) (rangeL 0 (1 + m).toNat) 0
    (fun it hit i env T hI hi => by
      obtain ⟨u, v, xs, rfl, rfl, x1, x2⟩ := hI
      obtain ⟨j, hj, rfl⟩ := List.mem_map.mp hit
      obtain ⟨c, q1, q2⟩ := abc_at (i := (fst + bi * (j : Int)) % 26) (Int.emod_nonneg _ (by decide)) (Int.emod_lt_of_pos _ (by decide)) (S6 ++ [.lst (xs.map D.str)])
      have hi' : i < 4 := by simp [rangeL] at hi; omega
      refine ⟨_, rfl, [some (.ref n), some (.lst (cs.map ch)), some (.int (0 + (j : Int))), some (.int (1 + z)), some (.int fst), some (.int bi), some (.int at_), some (.ref S.length), some (ch c)], S6 ++ [.lst ((xs ++ [cs.take at_.toNat ++ [c] ++ cs.drop (at_ + 1).toNat]).map D.str)], ?_, _, _, _, rfl, rfl, by simp [x1], fun x hx => ?_⟩
      · have h2 : okMul bi (j : Int) = true := okMul_l (by omega)
        have o1 := fun T => op_add_ll (m := false) (S := T) (xs := List.take at_.toNat (List.map ch cs)) (ys := [ch c]) (by simp [most]; omega)
        have o2 := fun T => op_add_ll (m := false) (S := T) (xs := List.take at_.toNat (List.map ch cs) ++ [ch c]) (ys := List.drop (at_ + 1).toNat (List.map ch cs)) (by simp [most]; omega)
        have hat : (S6 ++ [Cell.lst (xs.map D.str)])[S.length]? = some (.lst (xs.map D.str)) := by rw [← hl]; simp
        have hset : ∀ v, (S6 ++ [Cell.lst (xs.map D.str)]).set S.length v = S6 ++ [v] := fun v => by rw [← hl, List.set_append_right _ _ (Nat.le_refl _)]; simp
        have hjn : mt .join (.str []) [.lst ((cs.take at_.toNat ++ [c] ++ cs.drop (at_ + 1).toNat).map ch)] (S6 ++ [.lst (xs.map D.str)]) = .ok (.str (cs.take at_.toNat ++ [c] ++ cs.drop (at_ + 1).toNat)) (S6 ++ [.lst (xs.map D.str)]) := join_ch (by simp [most]; omega)
        have hxl : xs.length < 1000000 := by omega
        simp at hjn
        simp [ev_lst, ev_v, h2, q1, cutL_map, cutL_take f2, cutL_drop (show (0 : Int) ≤ at_ + 1 by omega), most, o1, o2, rdy_append hat, hjn, MP.mt_append hat (by simpa using hxl), hset]
      · have hx' : x ∈ xs ∨ x = cs.take at_.toNat ++ [c] ++ cs.drop (at_ + 1).toNat := by simpa using hx
        rcases hx' with q | rfl
        · exact x2 x q
        · refine ⟨by simp; omega, by simp; omega, fun d hd => ?_⟩
          rcases List.mem_append.mp hd with r | r
          · rcases List.mem_append.mp r with r | r
            · exact hcs d (List.mem_of_mem_take r)
            · have : d = c := by simpa using r
              rw [this]; exact q2
          · exact hcs d (List.mem_of_mem_drop r))
    [some (.ref n), some (.lst (cs.map ch)), none, some (.int (1 + z)), some (.int fst), some (.int bi), some (.int at_), some (.ref S.length), none] (S6 ++ [.lst []]) ⟨none, none, [], rfl, rfl, rfl, fun x hx => by cases hx⟩
  refine ⟨xs, S6, ?_, by simp [rangeL] at x1; omega, by simp [rangeL] at x1; omega, x2, d6.mono (by omega)⟩
  rw [call_eq ok.names rfl]
  show outQ false S (evCs (callN Fs k) (b_names ix) [some (.ref n), none, none, none, none, none, none, none, none] S) = _
  unfold b_names
  unfold abc at e1 i1
  have p1 : evC (callN Fs k) (.par [3, 4, 5] [(.bin false .add (.lit (.int (1))) (.call ix.take [(.var 0), (.lit (.int (6)))])), (.call ix.take [(.var 0), (.lit (.int (26)))]), (.call ix.pick [(.var 0), (.lst false [(.lit (.int (1))), (.lit (.int (3))), (.lit (.int (5))), (.lit (.int (7))), (.lit (.int (9))), (.lit (.int (11))), (.lit (.int (15)))])])])
      [some (.ref n), none, none, none, none, none, none, none, none] S = .nxt [some (.ref n), none, none, some (.int (1 + z)), some (.int fst), some (.int bi), none, none, none] S3 := by
    simp [ev_lst, ev_var, a1, b1, c1, most, setMany]
  rw [cs_cons, p1]
  simp only [Q.then_nxt, cs_cons, c_asg, ev_comp, evi_range1]
  simp only [ev_v, R.bind_ok]
  simp only [List.getElem?_cons_succ, List.getElem?_cons_zero, R.bind_ok, range0 (n := 1 + z) (by omega) (by omega)]
  simp only at e1
  rw [e1]
  simp only [Q.of_ok, bindT_nm, Q.then_nxt]
  have p2 : evC (callN Fs k) (.par [6, 7] [(.call ix.take [(.var 0), (.var 3)]), (.lst true [])]) ([some (.ref n), none, none, some (.int (1 + z)), some (.int fst), some (.int bi), none, none, none].set 1 (some (.lst (cs.map ch)))) S4 =
      .nxt [some (.ref n), some (.lst (cs.map ch)), none, some (.int (1 + z)), some (.int fst), some (.int bi), some (.int at_), some (.ref S.length), none] (S5 ++ [.lst []]) := by
    simp [ev_lst, ev_v, f1, most, setMany, hl5]
  rw [p2]
  simp only [Q.then_nxt, c_for, evi_range1]
  have p3 : evE (callN Fs k) (.bin false .add (.lit (.int (1))) (.call ix.take [(.var 0), (.lit (.int (4)))])) [some (.ref n), some (.lst (cs.map ch)), none, some (.int (1 + z)), some (.int fst), some (.int bi), some (.int at_), some (.ref S.length), none] (S5 ++ [.lst []]) = .ok (.int (1 + m)) (S6 ++ [.lst []]) := by
    simp [ev_v, g1]
  rw [p3]
  simp only [R.bind_ok, range0 (n := 1 + m) (by omega) (by omega), Q.of_ok]
  rw [i1]
  simp only [Q.then_nxt, cs_ret, ev_v, List.getElem?_cons_succ, List.getElem?_cons_zero, Q.of_ok]
  show fin false S (.ref S.length) (S6 ++ [.lst (xs.map D.str)]) = _
  exact fin_own d6 (strs_data xs)
end QL
end
section
set_option maxRecDepth 100000
set_option exponentiation.threshold 3000
/-! QC: sayings; sayings drawn. -/
namespace QL
open PySem L2 MP
inductive Say where
  | thing (x : List Nat) | debt (x : List Nat) | pair (a b : Say) | bind (a b : Say) | menu (a b : Say) | pick (a b : Say)
  | one | none | all | never | keep (a : Say) | draw (a : Say)
  deriving Inhabited
def Say.d : Say → D
  | .thing x => .tup [.str [116, 104, 105, 110, 103], .str x]
  | .debt x => .tup [.str [100, 101, 98, 116], .str x]
  | .pair a b => .tup [.str [112, 97, 105, 114], a.d, b.d]
  | .bind a b => .tup [.str [98, 105, 110, 100], a.d, b.d]
  | .menu a b => .tup [.str [109, 101, 110, 117], a.d, b.d]
  | .pick a b => .tup [.str [112, 105, 99, 107], a.d, b.d]
  | .one => .tup [.str [111, 110, 101]]
  | .none => .tup [.str [110, 111, 110, 101]]
  | .all => .tup [.str [97, 108, 108]]
  | .never => .tup [.str [110, 101, 118, 101, 114]]
  | .keep a => .tup [.str [107, 101, 101, 112], a.d]
  | .draw a => .tup [.str [100, 114, 97, 119], a.d]
def Say.deep : Say → Nat
  | .pair a b => 1 + max a.deep b.deep
  | .bind a b => 1 + max a.deep b.deep
  | .menu a b => 1 + max a.deep b.deep
  | .pick a b => 1 + max a.deep b.deep
  | .keep a => 1 + a.deep
  | .draw a => 1 + a.deep
  | _ => 1
def Say.words : Say → Nat
  | .pair a b => 1 + a.words + b.words
  | .bind a b => 1 + a.words + b.words
  | .menu a b => 1 + a.words + b.words
  | .pick a b => 1 + a.words + b.words
  | .keep a => 1 + a.words
  | .draw a => 1 + a.words
  | _ => 1
def Say.Ok : Say → Prop
  | .thing x => Nm x
  | .debt x => Nm x
  | .pair a b => a.Ok ∧ b.Ok
  | .bind a b => a.Ok ∧ b.Ok
  | .menu a b => a.Ok ∧ b.Ok
  | .pick a b => a.Ok ∧ b.Ok
  | .keep a => a.Ok
  | .draw a => a.Ok
  | _ => True
theorem Say.data : ∀ s : Say, s.d.data = true
  | .thing x => rfl
  | .debt x => rfl
  | .pair a b => by simp [Say.d, D.data, dataAll, a.data, b.data]
  | .bind a b => by simp [Say.d, D.data, dataAll, a.data, b.data]
  | .menu a b => by simp [Say.d, D.data, dataAll, a.data, b.data]
  | .pick a b => by simp [Say.d, D.data, dataAll, a.data, b.data]
  | .one => rfl
  | .none => rfl
  | .all => rfl
  | .never => rfl
  | .keep a => by simp [Say.d, D.data, dataAll, a.data]
  | .draw a => by simp [Say.d, D.data, dataAll, a.data]
theorem Say.pos : ∀ s : Say, 1 ≤ s.deep := fun s => by cases s <;> simp [Say.deep] <;> omega
variable {Fs : List Fn} {ix : Ix}
theorem leaf (ok : OkA2 Fs ix) {K n B : Nat} {S : Store} {xs : List (List Nat)} (hK : 3 ≤ K) (h : Hand S n B) (hB : B < 2 ^ 60) (hx : 1 ≤ xs.length) (hx2 : xs.length ≤ 4) (hn : ∀ x ∈ xs, Nm x) :
    ∃ (s : Say) (S' : Store), callN Fs K ix.leaf [.ref n, .lst (xs.map D.str)] S = .ok s.d S' ∧ s.deep = 1 ∧ s.words = 1 ∧ s.Ok ∧ Dr S n (B + 2) S' := by
  obtain ⟨k, rfl⟩ : ∃ k, K = k + 1 := ⟨K - 1, by omega⟩
  have ok1 := ok.toOkA1
  obtain ⟨w, S1, a1, a2, a3⟩ := pick_lst ok1 (K := k) (xs := [.str [116, 104, 105, 110, 103], .str [100, 101, 98, 116], .str [116, 104, 105, 110, 103], .str [100, 101, 98, 116], .str [111, 110, 101], .str [110, 111, 110, 101], .str [97, 108, 108], .str [110, 101, 118, 101, 114]]) (by omega) h (by omega) (by decide) (by decide)
  obtain ⟨x', S2, b1, b2, b3⟩ := pick_lst ok1 (K := k) (xs := xs.map D.str) (by omega) a3.hand (by omega) (by simp; omega) (by simp; omega)
  obtain ⟨x, hx', rfl⟩ := List.mem_map.mp b2
  have nx := hn x hx'
  have d2 := a3.trans b3
  have go : ∀ (v : D) (T : Store), Dr S n (B + 2) T → evCs (callN Fs k) (b_leaf ix) [some (.ref n), some (.lst (xs.map D.str)), none] S = .ret v T → callN Fs (k + 1) ix.leaf [.ref n, .lst (xs.map D.str)] S = .ok v T := fun v T d e => by
    rw [call_eq ok.leaf rfl]
    show outQ false S (evCs (callN Fs k) (b_leaf ix) [some (.ref n), some (.lst (xs.map D.str)), none] S) = _
    rw [e]
    exact fin_data0 d false
  simp only [List.mem_cons, List.not_mem_nil, or_false] at a2
  have thing : w = .str [116, 104, 105, 110, 103] → ∃ (s : Say) (S' : Store), callN Fs (k + 1) ix.leaf [.ref n, .lst (xs.map D.str)] S = .ok s.d S' ∧ s.deep = 1 ∧ s.words = 1 ∧ s.Ok ∧ Dr S n (B + 2) S' := fun e => by
    subst e
    refine ⟨.thing x, S2, go _ _ d2 ?_, rfl, rfl, nx, d2⟩
    simp [b_leaf, ev_lst, ev_v, a1, b1, most, Say.d]
  have debt : w = .str [100, 101, 98, 116] → ∃ (s : Say) (S' : Store), callN Fs (k + 1) ix.leaf [.ref n, .lst (xs.map D.str)] S = .ok s.d S' ∧ s.deep = 1 ∧ s.words = 1 ∧ s.Ok ∧ Dr S n (B + 2) S' := fun e => by
    subst e
    refine ⟨.debt x, S2, go _ _ d2 ?_, rfl, rfl, nx, d2⟩
    simp [b_leaf, ev_lst, ev_v, a1, b1, most, Say.d]
  rcases a2 with e | e | e | e | rfl | rfl | rfl | rfl
  · exact thing e
  · exact debt e
  · exact thing e
  · exact debt e
  · refine ⟨.one, S1, go _ _ (a3.mono (by omega)) ?_, rfl, rfl, trivial, a3.mono (by omega)⟩
    simp [b_leaf, ev_lst, ev_v, a1, most, Say.d]
  · refine ⟨.none, S1, go _ _ (a3.mono (by omega)) ?_, rfl, rfl, trivial, a3.mono (by omega)⟩
    simp [b_leaf, ev_lst, ev_v, a1, most, Say.d]
  · refine ⟨.all, S1, go _ _ (a3.mono (by omega)) ?_, rfl, rfl, trivial, a3.mono (by omega)⟩
    simp [b_leaf, ev_lst, ev_v, a1, most, Say.d]
  · refine ⟨.never, S1, go _ _ (a3.mono (by omega)) ?_, rfl, rfl, trivial, a3.mono (by omega)⟩
    simp [b_leaf, ev_lst, ev_v, a1, most, Say.d]
end QL
end
section
set_option maxRecDepth 100000
set_option exponentiation.threshold 3000
/-! QD: sayings and chains drawn. -/
namespace QL
open PySem L2 MP
variable {Fs : List Fn} {ix : Ix}
structure IsTwo (w : D) (f : Say → Say → Say) : Prop where
  d : ∀ a b, (f a b).d = .tup [w, a.d, b.d]
  deep : ∀ a b, (f a b).deep = 1 + max a.deep b.deep
  words : ∀ a b, (f a b).words = 1 + a.words + b.words
  ok : ∀ a b, a.Ok → b.Ok → (f a b).Ok
structure IsOne (w : D) (f : Say → Say) : Prop where
  d : ∀ a, (f a).d = .tup [w, a.d]
  deep : ∀ a, (f a).deep = 1 + a.deep
  words : ∀ a, (f a).words = 1 + a.words
  ok : ∀ a, a.Ok → (f a).Ok
def six : List D := [.str [112, 97, 105, 114], .str [98, 105, 110, 100], .str [109, 101, 110, 117], .str [112, 105, 99, 107], .str [107, 101, 101, 112], .str [100, 114, 97, 119]]
/-- a drawn word of one part or two -/
theorem six_of {w : D} (h : w ∈ six) : (∃ f, IsTwo w f ∧ ∀ S, cp2 .isin w (.tup [.str [107, 101, 101, 112], .str [100, 114, 97, 119]]) S = .ok (.bl false) S) ∨ ∃ f, IsOne w f ∧ ∀ S, cp2 .isin w (.tup [.str [107, 101, 101, 112], .str [100, 114, 97, 119]]) S = .ok (.bl true) S := by
  simp only [six, List.mem_cons, List.not_mem_nil, or_false] at h
  rcases h with rfl | rfl | rfl | rfl | rfl | rfl
  · exact .inl ⟨.pair, ⟨fun _ _ => rfl, fun _ _ => rfl, fun _ _ => rfl, fun _ _ h g => ⟨h, g⟩⟩, fun S => by simp⟩
  · exact .inl ⟨.bind, ⟨fun _ _ => rfl, fun _ _ => rfl, fun _ _ => rfl, fun _ _ h g => ⟨h, g⟩⟩, fun S => by simp⟩
  · exact .inl ⟨.menu, ⟨fun _ _ => rfl, fun _ _ => rfl, fun _ _ => rfl, fun _ _ h g => ⟨h, g⟩⟩, fun S => by simp⟩
  · exact .inl ⟨.pick, ⟨fun _ _ => rfl, fun _ _ => rfl, fun _ _ => rfl, fun _ _ h g => ⟨h, g⟩⟩, fun S => by simp⟩
  · exact .inr ⟨.keep, ⟨fun _ => rfl, fun _ => rfl, fun _ => rfl, fun _ h => h⟩, fun S => by simp⟩
  · exact .inr ⟨.draw, ⟨fun _ => rfl, fun _ => rfl, fun _ => rfl, fun _ h => h⟩, fun S => by simp⟩
theorem keep_one : IsOne (.str [107, 101, 101, 112]) .keep := ⟨fun _ => rfl, fun _ => rfl, fun _ => rfl, fun _ h => h⟩
/-- how often a saying draws, at most -/
def cs : Nat → Nat
  | 0 => 5
  | d + 1 => 5 + 2 * cs d
theorem saying (ok : OkA2 Fs ix) {n : Nat} {xs : List (List Nat)} (hx : 1 ≤ xs.length) (hx2 : xs.length ≤ 4) (hn : ∀ x ∈ xs, Nm x) :
    ∀ (d : Nat) (K B : Nat) (S : Store) (room dp : Int), d + 4 ≤ K → Hand S n B → B + cs d < 2 ^ 60 → dp ≤ d → room ≤ 1000000 →
      ∃ (s : Say) (S' : Store), callN Fs K ix.saying [.ref n, .lst (xs.map D.str), .int room, .int dp] S = .ok s.d S' ∧ s.deep ≤ max 1 d ∧ s.words ≤ max 1 room.toNat ∧ s.Ok ∧ Dr S n (B + cs d) S' := by
  intro d
  induction d with
  | zero =>
    intro K B S room dp hK h hB hd hr
    obtain ⟨k, rfl⟩ : ∃ k, K = k + 1 := ⟨K - 1, by omega⟩
    obtain ⟨w, S1, a1, a2, a3, a4⟩ := take ok.toOkA1 (K := k) (many := 4) (by omega) h (by simp [cs] at hB; omega) (by decide) (by decide)
    obtain ⟨s, S2, b1, b2, b3, b4, b5⟩ := leaf ok (K := k) (by omega) a4.hand (by simp [cs] at hB; omega) hx hx2 hn
    have d2 := (a4.trans b5).mono (B' := B + cs 0) (by simp [cs])
    refine ⟨s, S2, ?_, by omega, by omega, b4, d2⟩
    rw [call_eq ok.saying rfl]
    show outQ false S (evCs (callN Fs k) (b_saying ix) [some (.ref n), some (.lst (xs.map D.str)), some (.int room), some (.int dp), none, none, none, none] S) = _
    have c3 : dp < 2 := by omega
    simp only [b_saying, cs_cons, c_asg, ev_call, evs_cons, evs_nil, ev_v, List.getElem?_cons_succ, List.getElem?_cons_zero, R.bind_ok, ev_lit, a1, Q.of_ok, bindT_nm, Q.then_nxt]
    by_cases w0 : w = 0
    · simp [ev_v, w0, b1, outQ, fin_data0 d2]
    · by_cases r2 : room < 2
      · simp [ev_v, w0, r2, b1, outQ, fin_data0 d2]
      · simp [ev_v, w0, r2, c3, b1, outQ, fin_data0 d2]
  | succ d ih =>
    intro K B S room dp hK h hB hd hr
    obtain ⟨k, rfl⟩ : ∃ k, K = k + 1 := ⟨K - 1, by omega⟩
    have hc : cs (d + 1) = 5 + 2 * cs d := rfl
    rw [hc] at hB
    obtain ⟨w, S1, a1, a2, a3, a4⟩ := take ok.toOkA1 (K := k) (many := 4) (by omega) h (by omega) (by decide) (by decide)
    rw [call_eq ok.saying rfl]
    show ∃ (s : Say) (S' : Store), outQ false S (evCs (callN Fs k) (b_saying ix) [some (.ref n), some (.lst (xs.map D.str)), some (.int room), some (.int dp), none, none, none, none] S) = .ok s.d S' ∧ _
    simp only [b_saying, cs_cons, c_asg, ev_call, evs_cons, evs_nil, ev_v, List.getElem?_cons_succ, List.getElem?_cons_zero, R.bind_ok, ev_lit, a1, Q.of_ok, bindT_nm, Q.then_nxt]
    by_cases c : w = 0 ∨ room < 2 ∨ dp < 2
    · obtain ⟨s, S2, b1, b2, b3, b4, b5⟩ := leaf ok (K := k) (by omega) a4.hand (by omega) hx hx2 hn
      have d2 := (a4.trans b5).mono (B' := B + cs (d + 1)) (by omega)
      refine ⟨s, S2, ?_, by omega, by omega, b4, d2⟩
      by_cases w0 : w = 0
      · simp [ev_v, w0, b1, outQ, fin_data0 d2]
      · by_cases r2 : room < 2
        · simp [ev_v, w0, r2, b1, outQ, fin_data0 d2]
        · have c3 : dp < 2 := by omega
          simp [ev_v, w0, r2, c3, b1, outQ, fin_data0 d2]
    · have w0 : ¬ w = 0 := by omega
      have r2 : ¬ room < 2 := by omega
      have c3 : ¬ dp < 2 := by omega
      obtain ⟨v, S2, b1, b2, b3⟩ := pick_lst ok.toOkA1 (K := k) (xs := six) (by omega) a4.hand (by omega) (by decide) (by decide)
      unfold six at b1
      rcases six_of b2 with ⟨f, hf, hv⟩ | ⟨f, hf, hv⟩
      · by_cases r3 : room < 3
        · obtain ⟨s, S3, e1, e2, e3, e4, e5⟩ := ih k _ S2 (room - 1) (dp - 1) (by omega) b3.hand (by omega) (by omega) (by omega)
          have d3 := ((a4.trans b3).trans e5).mono (B' := B + cs (d + 1)) (by omega)
          refine ⟨.keep s, S3, ?_, by rw [keep_one.deep]; omega, by rw [keep_one.words]; omega, e4, d3⟩
          simp [ev_v, ev_lst, most, w0, r2, r3, c3, b1, hv, e1, outQ, fin_data0 d3, keep_one.d]
        · obtain ⟨m, S3, e1, e2, e3, e4⟩ := take ok.toOkA1 (K := k) (many := room - 2) (by omega) b3.hand (by omega) (by omega) (by omega)
          obtain ⟨s, S4, f1, f2, f3, f4, f5⟩ := ih k _ S3 (1 + m) (dp - 1) (by omega) e4.hand (by omega) (by omega) (by omega)
          obtain ⟨s', S5, g1, g2, g3, g4, g5⟩ := ih k _ S4 (room - 1 - (1 + m)) (dp - 1) (by omega) f5.hand (by omega) (by omega) (by omega)
          have d5 := ((((a4.trans b3).trans e4).trans f5).trans g5).mono (B' := B + cs (d + 1)) (by omega)
          refine ⟨f s s', S5, ?_, by rw [hf.deep]; omega, by rw [hf.words]; omega, hf.ok s s' f4 g4, d5⟩
          simp [ev_v, ev_lst, most, w0, r2, r3, c3, b1, hv, e1, f1, g1, outQ, fin_data0 d5, hf.d]
      · obtain ⟨s, S3, e1, e2, e3, e4, e5⟩ := ih k _ S2 (room - 1) (dp - 1) (by omega) b3.hand (by omega) (by omega) (by omega)
        have d3 := ((a4.trans b3).trans e5).mono (B' := B + cs (d + 1)) (by omega)
        refine ⟨f s, S3, ?_, by rw [hf.deep]; omega, by rw [hf.words]; omega, hf.ok s e4, d3⟩
        by_cases r3 : room < 3
        · simp [ev_v, ev_lst, most, w0, r2, r3, c3, b1, hv, e1, outQ, fin_data0 d3, hf.d]
        · simp [ev_v, ev_lst, most, w0, r2, r3, c3, b1, hv, e1, outQ, fin_data0 d3, hf.d]
/-- a chain just so deep -/
theorem chain (ok : OkA2 Fs ix) {K n B : Nat} {S : Store} {xs : List (List Nat)} {m : Nat} (hK : 4 ≤ K) (h : Hand S n B) (hB : B + 6 * m < 2 ^ 59) (hm : 1 ≤ m) (hm2 : m ≤ 100) (hx : 1 ≤ xs.length) (hx2 : xs.length ≤ 4) (hn : ∀ x ∈ xs, Nm x) :
    ∃ (s : Say) (S' : Store), callN Fs K ix.chain [.ref n, .lst (xs.map D.str), .int m] S = .ok s.d S' ∧ s.deep = m ∧ s.words ≤ 2 * m ∧ s.Ok ∧ Dr S n (B + 6 * m) S' := by
  obtain ⟨k, rfl⟩ : ∃ k, K = k + 1 := ⟨K - 1, by omega⟩
  obtain ⟨s0, S1, a1, a2, a3, a4, a5⟩ := leaf ok (K := k) (by omega) h (by omega) hx hx2 hn
  obtain ⟨env', S', i1, s, u1, u2, u3, rfl, i2, i3, i4, i5⟩ := forGo_ok (w := ⟨rangeL 0 (m - 1), []⟩) rfl (bnd := bindT (.nm 4))
    (body := fun env S => evCs (callN Fs k) [(.asg (.nm 5) (.call ix.pick [(.var 0), (.lst false [(.lit (.str [112, 97, 105, 114])), (.lit (.str [98, 105, 110, 100])), (.lit (.str [109, 101, 110, 117])), (.lit (.str [112, 105, 99, 107])), (.lit (.str [107, 101, 101, 112])), (.lit (.str [100, 114, 97, 119]))])])), (.asg (.nm 6) (.call ix.leaf [(.var 0), (.var 1)])), (.ife (.cmp .isin (.var 5) (.tup [(.lit (.str [107, 101, 101, 112])), (.lit (.str [100, 114, 97, 119]))])) [(.asg (.nm 3) (.tup [(.var 5), (.var 3)]))] [(.asg (.nm 3) (.call ix.pick [(.var 0), (.lst false [(.tup [(.var 5), (.var 3), (.var 6)]), (.tup [(.var 5), (.var 6), (.var 3)])])]))])] env S)
    (fun i env T => ∃ (s : Say) (u1 u2 u3 : Option D), env = [some (.ref n), some (.lst (xs.map D.str)), some (.int m), some s.d, u1, u2, u3] ∧ s.deep = i + 1 ∧ s.words ≤ 2 * (i + 1) ∧ s.Ok ∧ Dr S n (B + 2 + 4 * i) T) (rangeL 0 (m - 1)) 0
    (fun it hit i env T hI hi => by
      obtain ⟨s, u1, u2, u3, rfl, i2, i3, i4, i5⟩ := hI
      have hi' : i < m - 1 := by simp [rangeL] at hi; omega
      obtain ⟨v, T1, b1, b2, b3⟩ := pick_lst ok.toOkA1 (K := k) (xs := six) (by omega) i5.hand (by omega) (by decide) (by decide)
      obtain ⟨l, T2, c1, c2, c3, c4, c5⟩ := leaf ok (K := k) (by omega) b3.hand (by omega) hx hx2 hn
      unfold six at b1
      have d2 := (i5.trans b3).trans c5
      rcases six_of b2 with ⟨f, hf, hv⟩ | ⟨f, hf, hv⟩
      · obtain ⟨r, T3, e1, e2, e3⟩ := pick_lst ok.toOkA1 (K := k) (xs := [.tup [v, s.d, l.d], .tup [v, l.d, s.d]]) (by omega) c5.hand (by omega) (by simp) (by simp)
        have d3 := (d2.trans e3).mono (B' := B + 2 + 4 * (i + 1)) (by omega)
        have hr : ∃ s' : Say, r = s'.d ∧ s'.deep = i + 1 + 1 ∧ s'.words ≤ 2 * (i + 1 + 1) ∧ s'.Ok := by
          simp only [List.mem_cons, List.not_mem_nil, or_false] at e2
          rcases e2 with rfl | rfl
          · exact ⟨f s l, (hf.d s l).symm, by rw [hf.deep]; omega, by rw [hf.words]; omega, hf.ok s l i4 c4⟩
          · exact ⟨f l s, (hf.d l s).symm, by rw [hf.deep]; omega, by rw [hf.words]; omega, hf.ok l s c4 i4⟩
        obtain ⟨s', rfl, r1, r2, r3⟩ := hr
        refine ⟨_, rfl, [some (.ref n), some (.lst (xs.map D.str)), some (.int m), some s'.d, some it, some v, some l.d], T3, ?_, s', _, _, _, rfl, r1, r2, r3, d3⟩
        simp [ev_v, ev_lst, most, b1, c1, hv, e1]
      · refine ⟨_, rfl, [some (.ref n), some (.lst (xs.map D.str)), some (.int m), some (f s).d, some it, some v, some l.d], T2, ?_, f s, _, _, _, rfl, by rw [hf.deep]; omega, by rw [hf.words]; omega, hf.ok s i4, d2.mono (by omega)⟩
        simp [ev_v, ev_lst, most, b1, c1, hv, hf.d])
    [some (.ref n), some (.lst (xs.map D.str)), some (.int m), some s0.d, none, none, none] S1 ⟨s0, none, none, none, rfl, a2, by omega, a4, a5⟩
  have hl : (rangeL 0 (m - 1)).length = m - 1 := by simp [rangeL]
  rw [hl] at i2 i3 i5
  have d' := i5.mono (B' := B + 6 * m) (by omega)
  refine ⟨s, S', ?_, by omega, by omega, i4, d'⟩
  rw [call_eq ok.chain rfl]
  show outQ false S (evCs (callN Fs k) (b_chain ix) [some (.ref n), some (.lst (xs.map D.str)), some (.int m), none, none, none, none] S) = _
  have hr : ((m : Int) - 1).toNat = m - 1 := by omega
  unfold b_chain
  refine (congrArg _ ((cs_step (env' := [some (.ref n), some (.lst (xs.map D.str)), some (.int m), some s0.d, none, none, none]) (S' := S1) (by simp [ev_v, a1])).trans
    ((cs_step (c_for_of (by simp [ev_v, range0 (n := (m : Int) - 1) (by omega) (by omega), hr]) i1)).trans (cs_ret_of (d := s.d) (S1 := S') (by simp [ev_v]))))).trans ?_
  exact fin_data0 d' false
end QL
end
section
set_option maxRecDepth 100000
set_option exponentiation.threshold 3000
/-! QE: what is told of sayings: turned, signs, is_saying. -/
namespace MP
section
variable {call : Nat → List D → Store → R D} {env : Env} {S : Store}
@[simp] theorem c_star (is : List Nat) (k : Nat) (e : E) : evC call (.star is k e) env S = Q.of env (evE call e env S) fun d S => match d with
    | .tup ds => match bindStar is k ds env with
      | some env => .nxt env S
      | none => .stuck
    | _ => .stuck := by simp only [evC] <;> rfl
theorem bind_star1 {i k : Nat} {x : D} {ds : List D} (h : ds.length < 1000000) : bindStar [i] k (x :: ds) env = some ((env.set i (some x)).set k (some (.lst ds))) := by
  have h1 : ds.length + 1 ≤ 1000000 := h
  simp [bindStar, most, h1]
end
/-- a comprehension over written items, its parts pure -/
theorem comp_map {α : Type} {as : List α} (e r : α → D) {w : Row} (hw : w.watch = []) (hi : w.items = as.map e) {bnd : D → Option Env} {ifs : Env → Store → R Bool} {elt : Env → Store → R D} (hifs : ∀ env S, ifs env S = .ok true S) {S : Store}
    (step : ∀ a ∈ as, ∃ env, bnd (e a) = some env ∧ ∀ S, elt env S = .ok (r a) S) (hu : ∀ a ∈ as, (r a).data = true) (hl : as.length ≤ most) :
    ((compGo w S.length bnd ifs elt w.items (S ++ [.lst []])).bind fun acc S' => compEnd false S acc S') = .ok (.lst (as.map r)) S := by
  have main : ∀ (as : List α), (∀ a ∈ as, ∃ env, bnd (e a) = some env ∧ ∀ S, elt env S = .ok (r a) S) → ∀ (acc : List D), acc.length + as.length ≤ most →
      compGo w S.length bnd ifs elt (as.map e) (S ++ [.lst acc]) = .ok (acc ++ as.map r) (S ++ [.lst (acc ++ as.map r)]) := by
    intro as
    induction as with
    | nil => intro _ acc _; simp [compGo, stays_nil hw]
    | cons a as ih =>
      intro st acc hl
      obtain ⟨env, e1, e2⟩ := st a List.mem_cons_self
      rw [List.length_cons] at hl
      have hac : decide (acc.length < most) = true := decide_eq_true (by omega)
      have hset : (S ++ [Cell.lst acc]).set S.length (.lst (acc ++ [r a])) = S ++ [.lst (acc ++ [r a])] := by
        rw [List.set_append_right _ _ (Nat.le_refl _)]
        simp
      have hget : (S ++ [Cell.lst acc])[S.length]? = some (.lst acc) := by simp
      simp only [List.map_cons, compGo, stays_nil hw, e1, hifs, R.bind_ok, e2, hget, hac, hset]
      rw [ih (fun x hx => st x (List.mem_cons_of_mem _ hx)) (acc ++ [r a]) (by rw [List.length_append, List.length_singleton]; omega)]
      simp
  rw [hi]
  have := main as step [] (by simpa using hl)
  simp only [List.nil_append] at this
  rw [this]
  simp only [R.bind_ok]
  have hd : undAll S.length (as.map r) = true := dataAll_und _ (dataAll_mem fun y hy => by
    obtain ⟨a, ha, rfl⟩ := List.mem_map.mp hy
    exact hu a ha)
  have kept : Kept S (S ++ [.lst (as.map r)]) := fun i hi => .inl (by rw [List.getElem?_append_left hi])
  unfold compEnd
  have c1 : (false || decide ((S ++ [Cell.lst (as.map r)]).length ≠ S.length + 1)) = false := by simp
  rw [c1]
  simp [hd, kept]
/-- [elt for name in row], its parts pure -/
theorem ev_comp_map {α : Type} {as : List α} (e r : α → D) {call : Nat → List D → Store → R D} {env : Env} {S : Store} {elt it : E} {j : Nat} {own : List Nat} (hi : evI call it env S = .ok ⟨as.map e, []⟩ S)
    (hs : ∀ a ∈ as, ∀ S, evE call elt ((wipeE env own).set j (some (e a))) S = .ok (r a) S) (hu : ∀ a ∈ as, (r a).data = true) (hl : as.length ≤ most) : evE call (.comp false elt (.nm j) it [] own) env S = .ok (.lst (as.map r)) S := by
  rw [ev_comp, hi]
  exact comp_map (as := as) e r (w := ⟨as.map e, []⟩) rfl rfl (fun env S => by simp [evTs]) (fun a ha => ⟨_, rfl, fun S => hs a ha S⟩) hu hl
theorem seq_lst {call : Nat → List D → Store → R D} {env : Env} {S : Store} {src : E} {xs : List D} (h : evE call src env S = .ok (.lst xs) S) : evI call (.seq src) env S = .ok ⟨xs, []⟩ S := by
  rw [evi_seq, h]; rfl
theorem seq_tup {call : Nat → List D → Store → R D} {env : Env} {S : Store} {src : E} {xs : List D} (h : evE call src env S = .ok (.tup xs) S) : evI call (.seq src) env S = .ok ⟨xs, []⟩ S := by
  rw [evi_seq, h]; rfl
end MP
namespace QL
open PySem L2 MP
variable {Fs : List Fn} {ix : Ix}
def Say.w : Say → List Nat
  | .thing _ => [116, 104, 105, 110, 103]
  | .debt _ => [100, 101, 98, 116]
  | .pair _ _ => [112, 97, 105, 114]
  | .bind _ _ => [98, 105, 110, 100]
  | .menu _ _ => [109, 101, 110, 117]
  | .pick _ _ => [112, 105, 99, 107]
  | .one => [111, 110, 101]
  | .none => [110, 111, 110, 101]
  | .all => [97, 108, 108]
  | .never => [110, 101, 118, 101, 114]
  | .keep _ => [107, 101, 101, 112]
  | .draw _ => [100, 114, 97, 119]
def Say.parts : Say → List Say
  | .pair a b => [a, b]
  | .bind a b => [a, b]
  | .menu a b => [a, b]
  | .pick a b => [a, b]
  | .keep a => [a]
  | .draw a => [a]
  | _ => []
def Say.isLeaf : Say → Bool
  | .thing _ => true
  | .debt _ => true
  | _ => false
def Say.turn : Say → Say
  | .thing x => .debt x
  | .debt x => .thing x
  | .pair a b => .bind a.turn b.turn
  | .bind a b => .pair a.turn b.turn
  | .menu a b => .pick a.turn b.turn
  | .pick a b => .menu a.turn b.turn
  | .one => .none
  | .none => .one
  | .all => .never
  | .never => .all
  | .keep a => .draw a.turn
  | .draw a => .keep a.turn
theorem Say.d_eq {s : Say} (h : s.isLeaf = false) : s.d = .tup (.str s.w :: s.parts.map Say.d) := by
  cases s <;> first | rfl | cases h
theorem Say.parts_lt {s p : Say} (h : p ∈ s.parts) : p.deep < s.deep := by
  cases s <;> simp only [Say.parts, List.mem_cons, List.not_mem_nil, or_false] at h <;> (first | (rcases h with rfl | rfl) | subst h) <;> simp only [Say.deep] <;> omega
theorem Say.parts_few {s : Say} : s.parts.length ≤ 2 := by cases s <;> simp [Say.parts]
theorem Say.turn_parts {s : Say} (h : s.isLeaf = false) : s.turn.d = .tup (.str s.turn.w :: s.parts.map fun p => p.turn.d) := by
  cases s <;> first | rfl | cases h
theorem Say.turn_turn : ∀ s : Say, s.turn.turn = s
  | .thing x => rfl
  | .debt x => rfl
  | .pair a b => by simp [Say.turn, a.turn_turn, b.turn_turn]
  | .bind a b => by simp [Say.turn, a.turn_turn, b.turn_turn]
  | .menu a b => by simp [Say.turn, a.turn_turn, b.turn_turn]
  | .pick a b => by simp [Say.turn, a.turn_turn, b.turn_turn]
  | .one => rfl
  | .none => rfl
  | .all => rfl
  | .never => rfl
  | .keep a => by simp [Say.turn, a.turn_turn]
  | .draw a => by simp [Say.turn, a.turn_turn]
theorem Say.turn_deep : ∀ s : Say, s.turn.deep = s.deep
  | .thing x => rfl
  | .debt x => rfl
  | .pair a b => by simp [Say.turn, Say.deep, a.turn_deep, b.turn_deep]
  | .bind a b => by simp [Say.turn, Say.deep, a.turn_deep, b.turn_deep]
  | .menu a b => by simp [Say.turn, Say.deep, a.turn_deep, b.turn_deep]
  | .pick a b => by simp [Say.turn, Say.deep, a.turn_deep, b.turn_deep]
  | .one => rfl
  | .none => rfl
  | .all => rfl
  | .never => rfl
  | .keep a => by simp [Say.turn, Say.deep, a.turn_deep]
  | .draw a => by simp [Say.turn, Say.deep, a.turn_deep]
theorem Say.turn_words : ∀ s : Say, s.turn.words = s.words
  | .thing x => rfl
  | .debt x => rfl
  | .pair a b => by simp [Say.turn, Say.words, a.turn_words, b.turn_words]
  | .bind a b => by simp [Say.turn, Say.words, a.turn_words, b.turn_words]
  | .menu a b => by simp [Say.turn, Say.words, a.turn_words, b.turn_words]
  | .pick a b => by simp [Say.turn, Say.words, a.turn_words, b.turn_words]
  | .one => rfl
  | .none => rfl
  | .all => rfl
  | .never => rfl
  | .keep a => by simp [Say.turn, Say.words, a.turn_words]
  | .draw a => by simp [Say.turn, Say.words, a.turn_words]
theorem Say.turn_ok : ∀ s : Say, s.Ok → s.turn.Ok
  | .thing x, h => h
  | .debt x, h => h
  | .pair a b, h => ⟨a.turn_ok h.1, b.turn_ok h.2⟩
  | .bind a b, h => ⟨a.turn_ok h.1, b.turn_ok h.2⟩
  | .menu a b, h => ⟨a.turn_ok h.1, b.turn_ok h.2⟩
  | .pick a b, h => ⟨a.turn_ok h.1, b.turn_ok h.2⟩
  | .one, _ => trivial
  | .none, _ => trivial
  | .all, _ => trivial
  | .never, _ => trivial
  | .keep a, h => a.turn_ok h
  | .draw a, h => a.turn_ok h
theorem Say.leaf_no {s : Say} (h : s.isLeaf = false) : (decide (s.w = [116, 104, 105, 110, 103]) || decide (s.w = [100, 101, 98, 116])) = false := by
  cases s <;> first | rfl | cases h
theorem Say.turned_at {s : Say} : t_TURNED.lookup s.w = some (.str s.turn.w) := by
  cases s <;> rfl
theorem turnedP (ok : OkP2 Fs ix) : ∀ (m K : Nat) (s : Say) (S : Store), s.deep ≤ m → m ≤ K → callN Fs K ix.turnedP [s.d] S = .ok s.turn.d S := by
  intro m
  induction m with
  | zero => intro K s S h; have := s.pos; omega
  | succ m ih =>
    intro K s S h hK
    obtain ⟨k, rfl⟩ : ∃ k, K = k + 1 := ⟨K - 1, by omega⟩
    rw [call_eq ok.turnedP rfl]
    show outQ false S (evCs (callN Fs k) (b_turnedP ix) [some s.d, none, none, none] S) = _
    cases hl : s.isLeaf with
    | true =>
      cases s <;> first | cases hl | skip
      · simp [b_turnedP, ev_v, Say.d, bind_star1, t_TURNED, List.lookup, Fl.d, most, at_lst, ixn, Say.turn]
      · simp [b_turnedP, ev_v, Say.d, bind_star1, t_TURNED, List.lookup, Fl.d, most, at_lst, ixn, Say.turn]
    | false =>
      rw [Say.d_eq hl, Say.turn_parts hl]
      have hlen : (s.parts.map Say.d).length < 1000000 := by have := s.parts_few; simp; omega
      have cm : evE (callN Fs k) (.comp false (.call ix.turnedP [(.var 3)]) (.nm 3) (.seq (.var 2)) [] [3]) [some (.tup (.str s.w :: s.parts.map Say.d)), some (.str s.w), some (.lst (s.parts.map Say.d)), none] S = .ok (.lst (s.parts.map fun p => p.turn.d)) S :=
        ev_comp_map (as := s.parts) Say.d (fun p => p.turn.d) (seq_lst (by simp [ev_v])) (fun p hp S => by
          have := Say.parts_lt hp
          simp [wipeE, ev_v, ih k p S (by omega) (by omega)]) (fun p _ => p.turn.data) (by have := s.parts_few; simp [most]; omega)
      have hno := Say.leaf_no hl
      have hfew : s.parts.length + 1 ≤ 1000000 := by have := s.parts_few; omega
      simp [b_turnedP, ev_v, bind_star1 hlen, hno, Say.turned_at, Fl.d, cm, most, hfew, Nat.add_comm 1]
      trace_state; done
end QL
end
section
set_option maxRecDepth 100000
set_option exponentiation.threshold 3000
/-! QF: the law's own turned; is_saying; signs. -/
namespace QL
open PySem L2 MP
variable {Fs : List Fn} {ix : Ix}
def table : List D := [.str [116, 104, 105, 110, 103], .str [112, 97, 105, 114], .str [109, 101, 110, 117], .str [111, 110, 101], .str [97, 108, 108], .str [107, 101, 101, 112], .str [100, 114, 97, 119], .str [110, 101, 118, 101, 114], .str [110, 111, 110, 101], .str [112, 105, 99, 107], .str [98, 105, 110, 100], .str [100, 101, 98, 116]]
theorem table_at (s : Say) (S : Store) : ∃ i : Int, mt .index (.lst table) [.str s.w] S = .ok (.int i) S ∧ atD (.lst table) (.int (11 - i)) S = .ok (.str s.turn.w) S := by
  cases s with
  | thing => exact ⟨0, by simp [MP.mt, lsOf, isFlat, findD, Say.w, table, List.findIdx?_cons], rfl⟩
  | debt => exact ⟨11, by simp [MP.mt, lsOf, isFlat, findD, Say.w, table, List.findIdx?_cons], rfl⟩
  | pair => exact ⟨1, by simp [MP.mt, lsOf, isFlat, findD, Say.w, table, List.findIdx?_cons], rfl⟩
  | bind => exact ⟨10, by simp [MP.mt, lsOf, isFlat, findD, Say.w, table, List.findIdx?_cons], rfl⟩
  | menu => exact ⟨2, by simp [MP.mt, lsOf, isFlat, findD, Say.w, table, List.findIdx?_cons], rfl⟩
  | pick => exact ⟨9, by simp [MP.mt, lsOf, isFlat, findD, Say.w, table, List.findIdx?_cons], rfl⟩
  | one => exact ⟨3, by simp [MP.mt, lsOf, isFlat, findD, Say.w, table, List.findIdx?_cons], rfl⟩
  | none => exact ⟨8, by simp [MP.mt, lsOf, isFlat, findD, Say.w, table, List.findIdx?_cons], rfl⟩
  | all => exact ⟨4, by simp [MP.mt, lsOf, isFlat, findD, Say.w, table, List.findIdx?_cons], rfl⟩
  | never => exact ⟨7, by simp [MP.mt, lsOf, isFlat, findD, Say.w, table, List.findIdx?_cons], rfl⟩
  | keep => exact ⟨5, by simp [MP.mt, lsOf, isFlat, findD, Say.w, table, List.findIdx?_cons], rfl⟩
  | draw => exact ⟨6, by simp [MP.mt, lsOf, isFlat, findD, Say.w, table, List.findIdx?_cons], rfl⟩
theorem Say.turn_leaf (s : Say) : s.turn.isLeaf = s.isLeaf := by cases s <;> rfl
theorem at0 {x : D} {xs : List D} {S : Store} : atD (.tup (x :: xs)) (.int 0) S = .ok x S := at_tup (n := 0) (by unfold ixn; simp) rfl
theorem at1 {x y : D} {xs : List D} {S : Store} : atD (.tup (x :: y :: xs)) (.int 1) S = .ok y S := at_tup (n := 1) (by unfold ixn; simp; omega) rfl
theorem turned (ok : OkK3 Fs ix) : ∀ (m K : Nat) (s : Say) (S : Store), s.deep ≤ m → m ≤ K → callN Fs K ix.turned [s.d] S = .ok s.turn.d S := by
  intro m
  induction m with
  | zero => intro K s S h; have := s.pos; omega
  | succ m ih =>
    intro K s S h hK
    obtain ⟨k, rfl⟩ : ∃ k, K = k + 1 := ⟨K - 1, by omega⟩
    rw [call_eq ok.turned rfl]
    show outQ false S (evCs (callN Fs k) (b_turned ix) [some s.d, none, none, none] S) = _
    obtain ⟨i, t1, t2⟩ := table_at s S
    unfold table at t1 t2
    cases hl : s.isLeaf with
    | true =>
      have ht : ∃ x, s.d = .tup [.str s.w, .str x] ∧ s.turn.d = .tup [.str s.turn.w, .str x] ∧ (decide (s.turn.w = [116, 104, 105, 110, 103]) || decide (s.turn.w = [100, 101, 98, 116])) = true := by
        cases s <;> first | (cases hl; done) | exact ⟨_, rfl, rfl, rfl⟩
      obtain ⟨x, e1, e2, e3⟩ := ht
      rw [e1, e2]
      simp [b_turned, ev_v, ev_lst, most, at0, at1, t1, t2, e3]
    | false =>
      have hno := Say.leaf_no (s := s.turn) (by rw [s.turn_leaf]; exact hl)
      rw [Say.d_eq hl, Say.turn_parts hl]
      have hcut : cutL (D.str s.w :: s.parts.map Say.d) (some 1) none = s.parts.map Say.d := by rw [cutL_drop (by omega)]; rfl
      have cm : ∀ u v, evE (callN Fs k) (.comp false (.call ix.turned [(.var 3)]) (.nm 3) (.seq (.slc false (.var 0) (some (.lit (.int (1)))) none)) [] [3]) [some (.tup (.str s.w :: s.parts.map Say.d)), u, v, none] S = .ok (.lst (s.parts.map fun p => p.turn.d)) S := fun u v =>
        ev_comp_map (as := s.parts) Say.d (fun p => p.turn.d) (seq_tup (by simp [ev_v, hcut])) (fun p hp S => by
          have := Say.parts_lt hp
          simp [wipeE, ev_v, ih k p S (by omega) (by omega)]) (fun p _ => p.turn.data) (by have := s.parts_few; simp [most]; omega)
      have hfew : s.parts.length + 1 ≤ 1000000 := by have := s.parts_few; omega
      simp [b_turned, ev_v, ev_lst, most, at0, at1, t1, t2, hno, cm, hfew, Nat.add_comm 1]
/-! ### is_name -/
theorem sub_abc : ∀ c, Lt c → subText [c] abc = true := by
  have : ∀ c, c < 123 → 97 ≤ c → subText [c] abc = true := by decide +kernel
  exact fun c h => this c (by have := h.2; omega) h.1
theorem bools_of {α : Type} (f : α → Bool) : ∀ as : List α, boolsOf (as.map fun a => D.bl (f a)) = some (as.map f)
  | [] => rfl
  | a :: as => by simp [boolsOf, bools_of f as]
theorem all_lst {α : Type} {m : Bool} {S : Store} (f : α → Bool) (as : List α) : bt m .all [.lst (as.map fun a => D.bl (f a))] S = .ok (.bl (as.all f)) S := by
  have e : (as.map f).all id = as.all f := by rw [List.all_map]; rfl
  simp [bt, lsOf, bools_of, e]
theorem is_name (ok : OkP1 Fs ix) {K : Nat} {x : List Nat} {S : Store} (hK : 1 ≤ K) (h : Nm x) : callN Fs K ix.is_nameP [.str x] S = .ok (.bl true) S := by
  obtain ⟨k, rfl⟩ : ∃ k, K = k + 1 := ⟨K - 1, by omega⟩
  obtain ⟨h1, h2, h3⟩ := h
  rw [call_eq ok.is_nameP rfl]
  show outQ false S (evCs (callN Fs k) (b_is_nameP ix) [some (.str x), none] S) = _
  have cm : evE (callN Fs k) (.comp false (.cmp .isin (.var 1) (.glob "SIGNS" (.str abc))) (.nm 1) (.seq (.var 0)) [] [1]) [some (.str x), none] S = .ok (.lst (x.map fun c => .bl (subText [c] abc))) S :=
    ev_comp_map (as := x) (fun c => .str [c]) (fun c => .bl (subText [c] abc)) (by rw [evi_seq]; simp [ev_v]; rfl) (fun c _ S => by simp [wipeE, ev_v]; rfl) (fun c _ => rfl) (by simp [most]; omega)
  unfold abc at cm
  have ha : (x.all fun c => subText [c] abc) = true := List.all_eq_true.mpr fun c hc => sub_abc c (h3 c hc)
  unfold abc at ha
  have hc1 : (1 : Int) ≤ x.length := by omega
  have hc2 : (x.length : Int) ≤ 6 := by omega
  simp [b_is_nameP, ev_v, ev_chain, isiB, tyOf, subTy, hc1, hc2, cm, all_lst, ha]
/-! ### is_saying -/
theorem Say.plain : ∀ s : Say, s.d.plain = true
  | .thing x => rfl
  | .debt x => rfl
  | .pair a b => by simp [Say.d, D.plain, plainAll, a.plain, b.plain]
  | .bind a b => by simp [Say.d, D.plain, plainAll, a.plain, b.plain]
  | .menu a b => by simp [Say.d, D.plain, plainAll, a.plain, b.plain]
  | .pick a b => by simp [Say.d, D.plain, plainAll, a.plain, b.plain]
  | .one => rfl
  | .none => rfl
  | .all => rfl
  | .never => rfl
  | .keep a => by simp [Say.d, D.plain, plainAll, a.plain]
  | .draw a => by simp [Say.d, D.plain, plainAll, a.plain]
theorem Say.parts_at {s : Say} (h : s.isLeaf = false) : t_PARTS.lookup s.w = some (.int s.parts.length) := by
  cases s <;> first | (cases h; done) | rfl
theorem Say.ok_parts {s : Say} (h : s.Ok) : ∀ p ∈ s.parts, p.Ok := by
  intro p hp
  cases s <;> simp only [Say.parts, List.mem_cons, List.not_mem_nil, or_false] at hp <;> (first | (rcases hp with rfl | rfl) | subst hp) <;> first | exact h.1 | exact h.2 | exact h
theorem is_within (ok : OkP1 Fs ix) : ∀ (m K : Nat) (s : Say) (S : Store), s.deep ≤ m → m + 1 ≤ K → s.Ok → m ≤ 1000 → callN Fs K ix.is_within [s.d, .int m] S = .ok (.bl true) S := by
  intro m
  induction m with
  | zero => intro K s S h; have := s.pos; omega
  | succ m ih =>
    intro K s S h hK hok hm
    obtain ⟨k, rfl⟩ : ∃ k, K = k + 1 := ⟨K - 1, by omega⟩
    rw [call_eq ok.is_within rfl]
    have m0 : ¬ ((m : Int) + 1 = 0) := by omega
    cases hl : s.isLeaf with
    | true =>
      have ht : ∃ x, s.d = .tup [.str s.w, .str x] ∧ Nm x ∧ (decide (s.w = [116, 104, 105, 110, 103]) || decide (s.w = [100, 101, 98, 116])) = true := by
        cases s <;> first | (cases hl; done) | exact ⟨_, rfl, hok, rfl⟩
      obtain ⟨x, e1, e2, e3⟩ := ht
      rw [e1]
      show outQ false S (evCs (callN Fs k) (b_is_within ix) [some (.tup [.str s.w, .str x]), some (.int ((m + 1 : Nat) : Int)), none, none, none] S) = _
      have l0 : atD (.lst [.str x]) (.int 0) S = .ok (.str x) S := at_lst (n := 0) (by unfold ixn; simp) rfl
      simp [b_is_within, ev_v, m0, isiB, tyOf, subTy, at0, bind_star1, e3, most, is_name ok (show 1 ≤ k by omega) e2, l0]
    | false =>
      have hno := Say.leaf_no hl
      have hpar := Say.parts_at hl
      rw [Say.d_eq hl]
      show outQ false S (evCs (callN Fs k) (b_is_within ix) [some (.tup (.str s.w :: s.parts.map Say.d)), some (.int ((m + 1 : Nat) : Int)), none, none, none] S) = _
      have hlen : (s.parts.map Say.d).length < 1000000 := by have := s.parts_few; simp; omega
      have cm : evE (callN Fs k) (.comp false (.call ix.is_within [(.var 4), (.bin false .sub (.var 1) (.lit (.int (1))))]) (.nm 4) (.seq (.var 3)) [] [4]) [some (.tup (.str s.w :: s.parts.map Say.d)), some (.int ((m : Int) + 1)), some (.str s.w), some (.lst (s.parts.map Say.d)), none] S = .ok (.lst (s.parts.map fun p => .bl ((fun _ => true) p))) S :=
        ev_comp_map (as := s.parts) Say.d (fun p => .bl true) (seq_lst (by simp [ev_v])) (fun p hp S => by
          have := Say.parts_lt hp
          simp [wipeE, ev_v, ih k p S (by omega) (by omega) (Say.ok_parts hok p hp) (by omega)]) (fun p _ => rfl) (by have := s.parts_few; simp [most]; omega)
      simp [b_is_within, ev_v, m0, isiB, tyOf, subTy, at0, bind_star1 hlen, hno, hpar, Fl.d, cm, all_lst]
      trace_state; done
end QL
end
section
set_option maxRecDepth 100000
set_option exponentiation.threshold 3000
/-! QG: words of sayings, signs. -/
namespace QL
open PySem L2 MP
variable {Fs : List Fn} {ix : Ix}
/-- the words -/
def Say.wl : Say → List (List Nat)
  | .pair a b => [112, 97, 105, 114] :: (a.wl ++ b.wl)
  | .bind a b => [98, 105, 110, 100] :: (a.wl ++ b.wl)
  | .menu a b => [109, 101, 110, 117] :: (a.wl ++ b.wl)
  | .pick a b => [112, 105, 99, 107] :: (a.wl ++ b.wl)
  | .keep a => [107, 101, 101, 112] :: a.wl
  | .draw a => [100, 114, 97, 119] :: a.wl
  | s => [s.w]
theorem Say.wl_eq (s : Say) : s.wl = s.w :: s.parts.flatMap Say.wl := by cases s <;> simp [Say.wl, Say.parts, Say.w]
theorem Say.wl_len : ∀ s : Say, s.wl.length = s.words
  | .thing x => rfl
  | .debt x => rfl
  | .pair a b => by simp [Say.wl, Say.words, a.wl_len, b.wl_len]; omega
  | .bind a b => by simp [Say.wl, Say.words, a.wl_len, b.wl_len]; omega
  | .menu a b => by simp [Say.wl, Say.words, a.wl_len, b.wl_len]; omega
  | .pick a b => by simp [Say.wl, Say.words, a.wl_len, b.wl_len]; omega
  | .one => rfl
  | .none => rfl
  | .all => rfl
  | .never => rfl
  | .keep a => by simp [Say.wl, Say.words, a.wl_len]; omega
  | .draw a => by simp [Say.wl, Say.words, a.wl_len]; omega
theorem Say.words_lt : ∀ s : Say, s.words < 2 ^ s.deep := fun s => by
  induction s with
  | pair a b ha hb | bind a b ha hb | menu a b ha hb | pick a b ha hb =>
    simp only [Say.words, Say.deep]
    have h1 : 2 ^ a.deep ≤ 2 ^ max a.deep b.deep := Nat.pow_le_pow_right (by decide) (Nat.le_max_left _ _)
    have h2 : 2 ^ b.deep ≤ 2 ^ max a.deep b.deep := Nat.pow_le_pow_right (by decide) (Nat.le_max_right _ _)
    rw [Nat.pow_add]
    omega
  | keep a ha | draw a ha =>
    simp only [Say.words, Say.deep]
    rw [Nat.pow_add]
    omega
  | _ => simp [Say.words, Say.deep]
theorem parts_of (ok : OkP3 Fs ix) {K : Nat} {s : Say} {S : Store} (hK : 1 ≤ K) : callN Fs K ix.parts_of [s.d] S = .ok (.tup (s.parts.map Say.d)) S := by
  obtain ⟨k, rfl⟩ : ∃ k, K = k + 1 := ⟨K - 1, by omega⟩
  rw [call_eq ok.parts_of rfl]
  cases hl : s.isLeaf with
  | true =>
    have ht : ∃ x, s.d = .tup [.str s.w, .str x] ∧ s.parts = [] ∧ (decide (s.w = [116, 104, 105, 110, 103]) || decide (s.w = [100, 101, 98, 116])) = true := by
      cases s <;> first | (cases hl; done) | exact ⟨_, rfl, rfl, rfl⟩
    obtain ⟨x, e1, e2, e3⟩ := ht
    rw [e1, e2]
    show outQ false S (evCs (callN Fs k) (b_parts_of ix) [some (.tup [.str s.w, .str x])] S) = _
    simp [b_parts_of, ev_v, at0, e3, most]
  | false =>
    have hno := Say.leaf_no hl
    rw [Say.d_eq hl]
    show outQ false S (evCs (callN Fs k) (b_parts_of ix) [some (.tup (.str s.w :: s.parts.map Say.d))] S) = _
    have hcut : cutL (D.str s.w :: s.parts.map Say.d) (some 1) none = s.parts.map Say.d := by rw [cutL_drop (by omega)]; rfl
    simp [b_parts_of, ev_v, at0, hno, hcut]
theorem Say.d_head (s : Say) : ∃ r, s.d = .tup (.str s.w :: r) := by cases s <;> exact ⟨_, rfl⟩
theorem words_of (ok : OkP3 Fs ix) : ∀ (m K : Nat) (s : Say) (S : Store), s.deep ≤ m → m + 1 ≤ K → s.words ≤ 10000 → callN Fs K ix.words_of [s.d] S = .ok (.lst (s.wl.map D.str)) S := by
  intro m
  induction m with
  | zero => intro K s S h; have := s.pos; omega
  | succ m ih =>
    intro K s S h hK hw
    obtain ⟨k, rfl⟩ : ∃ k, K = k + 1 := ⟨K - 1, by omega⟩
    rw [call_eq ok.words_of rfl]
    show outQ false S (evCs (callN Fs k) (b_words_of ix) [some s.d, none, none] S) = _
    obtain ⟨r, hr⟩ := s.d_head
    have hwl := s.wl_len
    have go : ∀ (ps : List Say) (acc : List (List Nat)) (u : Option D), (∀ p ∈ ps, p ∈ s.parts) → acc.length + (ps.flatMap Say.wl).length ≤ 10000 →
        ∃ u', forGo ⟨s.parts.map Say.d, []⟩ (bindT (.nm 2)) (fun env S => evCs (callN Fs k) [(.ex (.meth .extend (.var 1) [(.call ix.words_of [(.var 2)])]))] env S) (ps.map Say.d) [some s.d, some (.ref S.length), u] (S ++ [.lst (acc.map D.str)]) =
          .nxt [some s.d, some (.ref S.length), u'] (S ++ [.lst ((acc ++ ps.flatMap Say.wl).map D.str)]) := by
      intro ps
      induction ps with
      | nil => intro acc u _ _; exact ⟨u, by simp [forGo, stays_nil]⟩
      | cons p ps ihp =>
        intro acc u hp hl
        simp only [List.flatMap_cons, List.length_append] at hl
        obtain ⟨u', e⟩ := ihp (acc ++ p.wl) (some p.d) (fun q hq => hp q (List.mem_cons_of_mem _ hq)) (by rw [List.length_append]; omega)
        refine ⟨u', ?_⟩
        have hget : (S ++ [Cell.lst (acc.map D.str)])[S.length]? = some (.lst (acc.map D.str)) := by simp
        have hset : ∀ v, (S ++ [Cell.lst (acc.map D.str)]).set S.length v = S ++ [v] := fun v => by rw [List.set_append_right _ _ (Nat.le_refl _)]; simp
        have hd := Say.parts_lt (hp p List.mem_cons_self)
        have hpw : p.wl.length = p.words := p.wl_len
        have w1 := ih k p (S ++ [Cell.lst (acc.map D.str)]) (by omega) (by omega) (by omega)
        have b1 : evCs (callN Fs k) [(.ex (.meth .extend (.var 1) [(.call ix.words_of [(.var 2)])]))] [some s.d, some (.ref S.length), some p.d] (S ++ [Cell.lst (acc.map D.str)]) = .nxt [some s.d, some (.ref S.length), some p.d] (S ++ [Cell.lst ((acc ++ p.wl).map D.str)]) := by
          simp [ev_v, rdy_extend hget, w1, MP.mt_extend hget (b := p.wl.map D.str) (by simp; omega), hset]
        rw [List.map_cons]
        simp only [forGo, stays_nil, bindT_nm, List.set_cons_succ, List.set_cons_zero]
        rw [b1]
        simp only
        rw [e]
        simp
    have hfl : (s.parts.flatMap Say.wl).length + 1 = s.words := by
      rw [← hwl, s.wl_eq]; simp
    obtain ⟨u', g⟩ := go s.parts [s.w] none (fun _ h => h) (by simp only [List.length_singleton]; omega)
    have p1 := fun T => parts_of ok (K := k) (s := s) (S := T) (by omega)
    unfold b_words_of
    refine (congrArg _ ((cs_step (env' := [some s.d, some (.ref S.length), none]) (S' := S ++ [.lst ([s.w].map D.str)]) (by rw [hr]; simp [ev_v, ev_lst, at0, most])).trans
      ((cs_step (c_for_of (by rw [evi_seq]; simp [ev_v, p1]; rfl) g)).trans (cs_ret_of (d := .ref S.length) (S1 := S ++ [.lst (([s.w] ++ s.parts.flatMap Say.wl).map D.str)]) (by simp [ev_v]))))).trans ?_
    show fin false S (.ref S.length) _ = _
    rw [s.wl_eq]
    exact fin_new (strs_data _)
theorem signs (ok : OkP3 Fs ix) {m K : Nat} {s : Say} {S : Store} (hs : s.deep ≤ m) (hK : m + 2 ≤ K) (hw : s.words ≤ 10000) : callN Fs K ix.signsP [s.d] S = .ok (.int s.words) S := by
  obtain ⟨k, rfl⟩ : ∃ k, K = k + 1 := ⟨K - 1, by omega⟩
  rw [call_eq ok.signsP rfl]
  show outQ false S (evCs (callN Fs k) (b_signsP ix) [some s.d] S) = _
  simp [b_signsP, ev_v, words_of ok m k s S hs (by omega) hw, s.wl_len]
end QL
end
section
set_option maxRecDepth 100000
set_option exponentiation.threshold 3000
/-! QH: sayings shown, compared; a law's end. -/
namespace QL
open PySem L2 MP
variable {Fs : List Fn} {ix : Ix}
theorem thing_tup3 {e a b : D} {n w v u : Nat} (s : Thing e 0 v) (t : Thing a n w) (r : Thing b n u) : Thing (.tup [e, a, b]) (n + 1) (w + v + u + 3) :=
  ⟨by simp [D.data, dataAll, t.data, s.data, r.data], by simp [D.py, pyAll, PyData.showable, PyData.showableAll, t.show_, s.show_, r.show_], by have := t.deep; have := s.deep; have := r.deep; simp [D.deep, deepAll]; omega, by simp [D.py, pyAll, PyData.leavesShort, PyData.leavesShortAll, t.short, s.short, r.short], by have := t.wt; have := s.wt; have := r.wt; simp [D.py, pyAll, PyData.weight, PyData.weightAll]; omega⟩
theorem thing_nm {x : List Nat} (h : Nm x) : Thing (.str x) 0 6 := (thing_str (List.all_eq_true.mpr fun c hc => decide_eq_true (by have := (h.2.2 c hc).2; omega))).mono (Nat.le_refl _) h.2.1
theorem Say.thing_d : ∀ s : Say, s.Ok → Thing s.d s.deep (20 * s.words)
  | .thing x, h => (thing_tup2 (thing_str (x := [116, 104, 105, 110, 103]) (by decide)) (thing_nm h)).mono (by simp [Say.deep]) (by simp [Say.words])
  | .debt x, h => (thing_tup2 (thing_str (x := [100, 101, 98, 116]) (by decide)) (thing_nm h)).mono (by simp [Say.deep]) (by simp [Say.words])
  | .pair a b, h => (thing_tup3 (thing_str (x := [112, 97, 105, 114]) (by decide)) ((a.thing_d h.1).mono (Nat.le_max_left a.deep b.deep) (Nat.le_refl _)) ((b.thing_d h.2).mono (Nat.le_max_right a.deep b.deep) (Nat.le_refl _))).mono (by simp only [Say.deep]; omega) (by simp [Say.words]; omega)
  | .bind a b, h => (thing_tup3 (thing_str (x := [98, 105, 110, 100]) (by decide)) ((a.thing_d h.1).mono (Nat.le_max_left a.deep b.deep) (Nat.le_refl _)) ((b.thing_d h.2).mono (Nat.le_max_right a.deep b.deep) (Nat.le_refl _))).mono (by simp only [Say.deep]; omega) (by simp [Say.words]; omega)
  | .menu a b, h => (thing_tup3 (thing_str (x := [109, 101, 110, 117]) (by decide)) ((a.thing_d h.1).mono (Nat.le_max_left a.deep b.deep) (Nat.le_refl _)) ((b.thing_d h.2).mono (Nat.le_max_right a.deep b.deep) (Nat.le_refl _))).mono (by simp only [Say.deep]; omega) (by simp [Say.words]; omega)
  | .pick a b, h => (thing_tup3 (thing_str (x := [112, 105, 99, 107]) (by decide)) ((a.thing_d h.1).mono (Nat.le_max_left a.deep b.deep) (Nat.le_refl _)) ((b.thing_d h.2).mono (Nat.le_max_right a.deep b.deep) (Nat.le_refl _))).mono (by simp only [Say.deep]; omega) (by simp [Say.words]; omega)
  | .one, _ => (thing_tup1 (thing_str (x := [111, 110, 101]) (by decide))).mono (by simp [Say.deep]) (by simp [Say.words])
  | .none, _ => (thing_tup1 (thing_str (x := [110, 111, 110, 101]) (by decide))).mono (by simp [Say.deep]) (by simp [Say.words])
  | .all, _ => (thing_tup1 (thing_str (x := [97, 108, 108]) (by decide))).mono (by simp [Say.deep]) (by simp [Say.words])
  | .never, _ => (thing_tup1 (thing_str (x := [110, 101, 118, 101, 114]) (by decide))).mono (by simp [Say.deep]) (by simp [Say.words])
  | .keep a, h => (thing_tup2 (thing_str (x := [107, 101, 101, 112]) (by decide)) (a.thing_d h)).mono (by simp only [Say.deep]; omega) (by simp [Say.words]; omega)
  | .draw a, h => (thing_tup2 (thing_str (x := [100, 114, 97, 119]) (by decide)) (a.thing_d h)).mono (by simp only [Say.deep]; omega) (by simp [Say.words]; omega)
/-- shown -/
theorem Say.repr {s : Say} (h : s.Ok) (hd : s.deep ≤ 9) (m : Bool) (S : Store) : bt m .repr [s.d] S = .ok (.str s.d.shown) S := by
  have h1 := s.words_lt
  have h2 : 2 ^ s.deep ≤ 2 ^ 9 := Nat.pow_le_pow_right (by decide) hd
  exact (s.thing_d h).repr (by omega) (by omega) m S
theorem Say.turn_w (s : Say) : s.turn.w ≠ s.w := by cases s <;> simp [Say.turn, Say.w]
theorem Say.eq_turn {s : Say} (h : s.Ok) (hd : s.deep ≤ 9) (S : Store) : cp2 .eq s.turn.d s.d S = .ok (.bl false) S := by
  obtain ⟨r, e1⟩ := s.d_head
  obtain ⟨r', e2⟩ := s.turn.d_head
  have hp := s.plain
  have hq := s.turn.plain
  have dp : s.turn.d.deep ≤ far := Nat.le_trans (s.turn.thing_d (s.turn_ok h)).deep (by rw [s.turn_deep]; simp [far]; omega)
  have hw := s.turn_w
  have ev : s.turn.d.eqv s.d = false := by
    rw [e1, e2]
    have hh : (s.turn.w.toArray = s.w.toArray) = False := eq_false fun q => hw (by simpa using congrArg Array.toList q)
    simp [D.eqv, D.py, pyAll, PyData.eqv, PyData.eqvAll, hw]
  have v1 : view S s.turn.d = s.turn.d := data_view s.turn.data
  have v2 : view S s.d = s.d := data_view s.data
  have dm : min s.turn.d.deep s.d.deep ≤ far := by omega
  have eo : eqOk (view S s.turn.d) (view S s.d) = true := by rw [v1, v2]; simp [eqOk, hp, hq, dm]
  rw [cp_eq_of eo, v1, v2, ev]
theorem is_saying (ok : OkP1 Fs ix) {K : Nat} {s : Say} {S : Store} (hK : 8 ≤ K) (hs : s.deep ≤ 6) (h : s.Ok) : callN Fs K ix.is_sayingP [s.d] S = .ok (.bl true) S := by
  obtain ⟨k, rfl⟩ : ∃ k, K = k + 1 := ⟨K - 1, by omega⟩
  rw [call_eq ok.is_sayingP rfl]
  show outQ false S (evCs (callN Fs k) (b_is_sayingP ix) [some s.d] S) = _
  have := is_within ok 6 k s S hs (by omega) h (by omega)
  simp at this
  simp [b_is_sayingP, ev_v, this]
/-- a law that asks hand by hand -/
theorem law_comp {ih ir il : Nat} {lo mx : Int} (F : Fs[il]? = some ⟨1, 2, false, [(.ret (.blt false .all [(.comp false (.call ir [(.call ih [(.var 0), (.var 1)])]) (.nm 1) (.range1 (.bin false .add (.lit (.int lo)) (.blt false .min2 [(.lit (.int mx)), (.blt false .len [(.var 0)])]))) [] [1])]))]⟩)
    (h0 : 0 ≤ lo) (h1 : lo ≤ 100) (hm : 0 ≤ mx) (hand : ∀ (ns : List Int) (i : Nat) (T : Store), ∃ T', callN Fs 40 ih [.row (ns.map D.int), .int i] T = .ok (.ref T.length) (T ++ T') ∧ Hand (T ++ T') T.length 0 ∧ T'.length = 1)
    (right : ∀ (T : Store) (n : Nat), Hand T n 0 → ∃ (T' : Store) (B : Nat), callN Fs 40 ir [.ref n] T = .ok (.bl true) T' ∧ Dr T n B T') : ∀ ns : List Int, ns.length ≤ 63 → ∃ S', callN Fs 41 il [.row (ns.map D.int)] [] = .ok (.bl true) S' := by
  intro ns hn
  have hr : ∀ (i : Nat) (T : Store), ∃ T', callN Fs 40 ih [.row (ns.map D.int), .int i] T = .ok (.ref T.length) T' ∧ ∃ T'', callN Fs 40 ir [.ref T.length] T' = .ok (.bl true) T'' ∧ T.length < T''.length ∧ ∀ j, j < T.length → T''[j]? = T[j]? := by
    intro i T
    obtain ⟨T', h, hh, hl⟩ := hand ns i T
    obtain ⟨T'', B, r1, r2⟩ := right _ _ hh
    refine ⟨_, h, T'', r1, by rw [r2.len]; simp [hl], fun j hj => ?_⟩
    rw [r2.upd.get (by omega), List.getElem?_append_left hj]
  obtain ⟨n, hN⟩ : ∃ n : Nat, (n : Int) = lo + (if (ns.length : Int) < mx then (ns.length : Int) else mx) := ⟨(lo + (if (ns.length : Int) < mx then (ns.length : Int) else mx)).toNat, by split <;> omega⟩
  have hnl : n ≤ 163 := by split at hN <;> omega
  obtain ⟨ys, S', c1, c2, c3, c4, c5⟩ := compGo_ok (w := ⟨rangeL 0 n, []⟩) rfl (k := 0) (bnd := fun d => bindT (.nm 1) d (wipeE [some (.row (ns.map D.int)), none] [1])) (ifs := fun env S => evTs (callN Fs 40) [] env S)
    (elt := fun env S => evE (callN Fs 40) (.call ir [(.call ih [(.var 0), (.var 1)])]) env S) (fun env S => by simp [evTs]) (fun S => True) (fun y => y = .bl true) (rangeL 0 n)
    (fun d hd => by
      obtain ⟨i, _, rfl⟩ := List.mem_map.mp hd
      refine ⟨_, rfl, fun T acc _ hk => ?_⟩
      obtain ⟨T', e1, T'', e2, e3, e4⟩ := hr i T
      refine ⟨.bl true, T'', ?_, rfl, ?_, trivial⟩
      · simp [wipeE, ev_v, e1, e2]
      · rw [e4 0 (by have := (List.getElem?_eq_some_iff.mp hk).1; omega)]
        exact hk)
    [.lst []] [] trivial rfl (by simp [rangeL, most]; omega)
  obtain ⟨T, hT⟩ := all_end (m := false) c5 c3
  obtain ⟨T', hT'⟩ := fin_bl true T
  rw [call_eq F rfl]
  show ∃ S', outQ false [] (evCs (callN Fs 40) [(.ret (.blt false .all [(.comp false (.call ir [(.call ih [(.var 0), (.var 1)])]) (.nm 1) (.range1 (.bin false .add (.lit (.int lo)) (.blt false .min2 [(.lit (.int mx)), (.blt false .len [(.var 0)])]))) [] [1])]))] [some (.row (ns.map D.int)), none] []) = R.ok (.bl true) S'
  have hit : evI (callN Fs 40) (.range1 (.bin false .add (.lit (.int lo)) (.blt false .min2 [(.lit (.int mx)), (.blt false .len [(.var 0)])]))) [some (.row (ns.map D.int)), none] [] = .ok ⟨rangeL 0 n, []⟩ [] := by
    simp [ev_v]
    rw [← hN, range0 (by omega) (by omega)]
    simp
  simp only [List.nil_append] at c1
  simp only [cs_ret, ev_blt, evs_cons, evs_nil, ev_comp, hit, R.bind_ok, List.length_nil, List.nil_append]
  rw [c1]
  simp only [R.bind_bind, R.bind_ok]
  rw [hT]
  exact ⟨T', hT'⟩
end QL
end
section
set_option maxRecDepth 100000
set_option exponentiation.threshold 3000
/-! QI: things of any kind; goals drawn; things within others. -/
namespace MP
open PySem
structure Things (xs : List D) (n w : Nat) : Prop where
  data : dataAll xs = true
  show_ : PyData.showableAll (pyAll xs) = true
  deep : deepAll xs ≤ n
  short : PyData.leavesShortAll 13 (pyAll xs) = true
  wt : PyData.weightAll (pyAll xs) ≤ w
theorem things_nil (n : Nat) : Things [] n 0 := ⟨rfl, rfl, Nat.zero_le _, rfl, Nat.le_refl _⟩
theorem things_cons {x : D} {xs : List D} {n w v : Nat} (t : Thing x n w) (ts : Things xs n v) : Things (x :: xs) n (w + 1 + v) :=
  ⟨by simp [dataAll, t.data, ts.data], by simp [pyAll, PyData.showableAll, t.show_, ts.show_], by have := t.deep; have := ts.deep; simp [deepAll]; omega, by simp [pyAll, PyData.leavesShortAll, t.short, ts.short], by have := t.wt; have := ts.wt; simp [pyAll, PyData.weightAll]; omega⟩
theorem things_mono {xs : List D} {n w n' w' : Nat} (t : Things xs n w) (h : n ≤ n') (h2 : w ≤ w') : Things xs n' w' := ⟨t.data, t.show_, Nat.le_trans t.deep h, t.short, Nat.le_trans t.wt h2⟩
theorem thing_tup {xs : List D} {n w : Nat} (t : Things xs n w) : Thing (.tup xs) (n + 1) w :=
  ⟨by simpa [D.data] using t.data, by simpa [D.py, PyData.showable] using t.show_, by have := t.deep; simp [D.deep]; omega, by simpa [D.py, PyData.leavesShort] using t.short, by simpa [D.py, PyData.weight] using t.wt⟩
theorem thing_lst {xs : List D} {n w : Nat} (t : Things xs n w) : Thing (.lst xs) (n + 1) w :=
  ⟨by simpa [D.data] using t.data, by simpa [D.py, PyData.showable] using t.show_, by have := t.deep; simp [D.deep]; omega, by simpa [D.py, PyData.leavesShort] using t.short, by simpa [D.py, PyData.weight] using t.wt⟩
/-- a tuple's parts -/
theorem Thing.parts {xs : List D} {n w : Nat} (t : Thing (.tup xs) n w) : Things xs (n - 1) w ∧ 1 ≤ n :=
  have hd : deepAll xs + 1 ≤ n := by simpa [D.deep] using t.deep
  ⟨⟨by simpa [D.data] using t.data, by simpa [D.py, PyData.showable] using t.show_, by omega, by simpa [D.py, PyData.leavesShort] using t.short, by simpa [D.py, PyData.weight] using t.wt⟩, by omega⟩
theorem Things.split {x : D} {xs : List D} {n w : Nat} (t : Things (x :: xs) n w) : Thing x n x.py.weight ∧ Things xs n (PyData.weightAll (pyAll xs)) ∧ x.py.weight + 1 + PyData.weightAll (pyAll xs) ≤ w := by
  obtain ⟨h1, h2, h3, h4, h5⟩ := t
  simp only [dataAll, pyAll, PyData.showableAll, deepAll, PyData.leavesShortAll, PyData.weightAll, Bool.and_eq_true] at h1 h2 h3 h4 h5
  exact ⟨⟨h1.1, h2.1, by omega, h4.1, Nat.le_refl _⟩, ⟨h1.2, h2.2, by omega, h4.2, Nat.le_refl _⟩, h5⟩
theorem things_app {xs ys : List D} {n w v : Nat} (t : Things xs n w) (u : Things ys n v) : Things (xs ++ ys) n (w + v) := by
  induction xs generalizing w with
  | nil => exact things_mono u (Nat.le_refl _) (by omega)
  | cons x xs ih =>
    obtain ⟨h1, h2, h3⟩ := t.split
    exact things_mono (things_cons h1 (ih h2)) (Nat.le_refl _) (by omega)
theorem Things.mem {x : D} {xs : List D} {n w : Nat} (t : Things xs n w) (h : x ∈ xs) : Thing x n w := by
  induction xs generalizing w with
  | nil => cases h
  | cons y xs ih =>
    obtain ⟨h1, h2, h3⟩ := t.split
    rcases List.mem_cons.mp h with rfl | h
    · exact h1.mono (Nat.le_refl _) (by omega)
    · exact (ih h2 h).mono (Nat.le_refl _) (by omega)
theorem Things.len {xs : List D} {n w : Nat} (t : Things xs n w) : xs.length ≤ w := by
  induction xs generalizing w with
  | nil => simp
  | cons y xs ih =>
    obtain ⟨h1, h2, h3⟩ := t.split
    have := ih h2
    simp; omega
/-- ahead, an item, behind -/
theorem Things.cut {xs : List D} {n w i : Nat} (t : Things xs n w) (h : i < xs.length) : ∃ a b, Things (xs.take i) n a ∧ Things (xs.drop (i + 1)) n b ∧ Thing xs[i] n (xs[i].py.weight) ∧ a + (xs[i].py.weight + 1) + b ≤ w := by
  induction xs generalizing w i with
  | nil => cases h
  | cons y xs ih =>
    obtain ⟨h1, h2, h3⟩ := t.split
    cases i with
    | zero => exact ⟨0, _, by simpa using things_nil n, by simpa using h2, h1, by simpa using h3⟩
    | succ i =>
      obtain ⟨a, b, k1, k2, k3, k4⟩ := ih h2 (i := i) (by simpa using h)
      exact ⟨y.py.weight + 1 + a, b, by simpa using things_cons h1 k1, by simpa using k2, by simpa using k3, by simp; omega⟩
theorem Things.rev {xs : List D} {n w : Nat} (t : Things xs n w) : Things xs.reverse n w := by
  induction xs generalizing w with
  | nil => exact t
  | cons y xs ih =>
    obtain ⟨h1, h2, h3⟩ := t.split
    rw [List.reverse_cons]
    exact things_mono (things_app (ih h2) (things_cons h1 (things_nil n))) (Nat.le_refl _) (by omega)
theorem Things.take {xs : List D} {n w : Nat} (t : Things xs n w) (i : Nat) : Things (xs.take i) n w := by
  induction xs generalizing w i with
  | nil => simpa using t
  | cons y xs ih =>
    obtain ⟨h1, h2, h3⟩ := t.split
    cases i with
    | zero => simpa using things_mono (things_nil n) (Nat.le_refl _) (Nat.zero_le w)
    | succ i => simpa using things_mono (things_cons h1 (ih h2 i)) (Nat.le_refl _) h3
theorem Things.drop {xs : List D} {n w : Nat} (t : Things xs n w) (i : Nat) : Things (xs.drop i) n w := by
  induction xs generalizing w i with
  | nil => simpa using t
  | cons y xs ih =>
    obtain ⟨h1, h2, h3⟩ := t.split
    cases i with
    | zero => simpa using t
    | succ i => simpa using things_mono (ih h2 i) (Nat.le_refl _) (by omega)
theorem Things.cutL {xs : List D} {n w : Nat} (t : Things xs n w) (lo hi : Option Int) : Things (cutL xs lo hi) n w := by
  unfold MP.cutL
  exact (t.drop _).take _
/-- a written dict -/
theorem ev_dict {call : Nat → List D → Store → R D} {env : Env} {es : List E} {ds : List D} {kvs : List (D × D)} (h : ∀ S, evEs call es env S = .ok ds S) (hp : pairUp ds = some kvs) (hk : keysOk kvs = true) (hl : kvs.length ≤ 15) (hd : dataKv kvs = true) (S : Store) :
    evE call (.dict false es) env S = .ok (.dct kvs) S := by
  have e : (S ++ [Cell.dct []]).set S.length (.dct kvs) = S ++ [.dct kvs] := by
    rw [List.set_append_right _ _ (Nat.le_refl _)]
    simp
  have kept : Kept S (S ++ [.dct kvs]) := fun i hi => .inl (by rw [List.getElem?_append_left hi])
  have u : undKv S.length kvs = true := dataKv_und _ hd
  simp only [evE, h, R.bind_ok, hp, List.getElem?_append_right (Nat.le_refl _), Nat.sub_self, List.getElem?_cons_zero, hk, e]
  simp only [decide_eq_true hl, Bool.and_self]
  unfold dictEnd
  simp [u, kept]
/-- a comprehension that draws, kept as a cell -/
theorem comp_cell {w : Row} (hw : w.watch = []) {bnd : D → Option MP.Env} {ifs : MP.Env → Store → R Bool} {elt : MP.Env → Store → R D} (hifs : ∀ env S, ifs env S = .ok true S) {n c : Nat} (P : D → Prop)
    {S : Store} {B M : Nat} (hS : Hand S n B) (hM : B + c * w.items.length ≤ M)
    (step : ∀ d ∈ w.items, ∃ env, bnd d = some env ∧ ∀ T b, Hand T n b → b + c ≤ M → ∃ y T', elt env T = .ok y T' ∧ P y ∧ Dr T n (b + c) T') (hm : w.items.length ≤ most) :
    ∃ ys S', ((compGo w S.length bnd ifs elt w.items (S ++ [.lst []])).bind fun acc S' => compEnd true S acc S') = .ok (.ref S.length) (S' ++ [.lst ys]) ∧ (∀ y ∈ ys, P y) ∧ ys.length = w.items.length ∧ Dr S n (B + c * w.items.length) S' := by
  have main : ∀ (ds : List D), (∀ d ∈ ds, d ∈ w.items) → ∀ (T : Store) (acc : List D) (b : Nat), Dr S n b T → b + c * ds.length ≤ M → acc.length + ds.length ≤ most →
      ∃ ys T', compGo w S.length bnd ifs elt ds (T ++ [.lst acc]) = .ok (acc ++ ys) (T' ++ [.lst (acc ++ ys)]) ∧ (∀ y ∈ ys, P y) ∧ ys.length = ds.length ∧ Dr S n (b + c * ds.length) T' := by
    intro ds
    induction ds with
    | nil =>
      intro _ T acc b hT _ _
      refine ⟨[], T, ?_, fun y hy => (by cases hy), rfl, by simpa using hT⟩
      simp [compGo, stays_nil hw, ← hT.len]
    | cons d ds ih =>
      intro hd T acc b hT hb hl
      obtain ⟨env, e1, st⟩ := step d (hd d List.mem_cons_self)
      have hn : n < T.length := hT.hand.lt
      rw [List.length_cons] at hb hl
      have hb' : b + c + c * ds.length ≤ M := by rw [Nat.mul_succ] at hb; omega
      obtain ⟨y, T1, e2, py, dr⟩ := st (T ++ [.lst acc]) b hT.hand.app (by omega)
      obtain ⟨T2, rfl, dr2⟩ := dr.of_app hn
      have hT2 := hT.trans dr2
      obtain ⟨ys, T', e3, p3, l3, d3⟩ := ih (fun x hx => hd x (List.mem_cons_of_mem _ hx)) T2 (acc ++ [y]) (b + c) hT2 hb' (by rw [List.length_append, List.length_singleton]; omega)
      refine ⟨y :: ys, T', ?_, fun z hz => ?_, by simp [l3], ?_⟩
      · have hac : decide (acc.length < most) = true := decide_eq_true (by omega)
        have hget : (T2 ++ [Cell.lst acc])[S.length]? = some (.lst acc) := by rw [← hT2.len]; simp
        have hset : (T2 ++ [Cell.lst acc]).set S.length (.lst (acc ++ [y])) = T2 ++ [.lst (acc ++ [y])] := by
          rw [← hT2.len, List.set_append_right _ _ (Nat.le_refl _)]
          simp
        simp only [compGo, stays_nil hw, e1, hifs, R.bind_ok, e2, hget, hac, hset]
        rw [e3]
        simp
      · rcases List.mem_cons.mp hz with q | q
        · rw [q]; exact py
        · exact p3 z q
      · rw [List.length_cons, Nat.mul_succ]
        exact d3.mono (by omega)
  obtain ⟨ys, T', e, p, l, d⟩ := main w.items (fun _ h => h) S [] B (Dr.refl hS) hM (by simpa using hm)
  refine ⟨ys, T', ?_, p, l, d⟩
  simp only [List.nil_append] at e
  rw [e]
  simp [compEnd]
end MP
namespace QL
open PySem L2 MP
variable {Fs : List Fn} {ix : Ix}
theorem says_of {ys : List D} {P : Say → Prop} (h : ∀ y ∈ ys, ∃ s : Say, y = s.d ∧ P s) : ∃ ss : List Say, ys = ss.map Say.d ∧ ∀ s ∈ ss, P s := by
  induction ys with
  | nil => exact ⟨[], rfl, fun s hs => by cases hs⟩
  | cons y ys ih =>
    obtain ⟨s, rfl, p⟩ := h _ List.mem_cons_self
    obtain ⟨ss, rfl, ps⟩ := ih fun y hy => h y (List.mem_cons_of_mem _ hy)
    refine ⟨s :: ss, rfl, fun t ht => ?_⟩
    rcases List.mem_cons.mp ht with q | q
    · rw [q]; exact p
    · exact ps t q
theorem says_data (ss : List Say) : dataAll (ss.map Say.d) = true := dataAll_mem fun y hy => by
  obtain ⟨s, _, rfl⟩ := List.mem_map.mp hy
  exact s.data
theorem goal (ok : OkA3 Fs ix) {K n B : Nat} {S : Store} {xs : List (List Nat)} (hK : 12 ≤ K) (h : Hand S n B) (hB : B < 2 ^ 58) (hx : 1 ≤ xs.length) (hx2 : xs.length ≤ 4) (hn : ∀ x ∈ xs, Nm x) :
    ∃ (ss : List Say) (S' : Store) (c : Nat), callN Fs K ix.goal [.ref n, .lst (xs.map D.str)] S = .ok (.tup (ss.map Say.d)) S' ∧ (∀ s ∈ ss, s.deep ≤ 6 ∧ s.Ok ∧ s.words ≤ c) ∧ ss.length ≤ 8 ∧ ss.length * c ≤ 24 ∧ Dr S n (B + 10000) S' := by
  obtain ⟨k, rfl⟩ : ∃ k, K = k + 1 := ⟨K - 1, by omega⟩
  have ok2 := ok.toOkA2
  have ok1 := ok2.toOkA1
  obtain ⟨m', S1, a1, a2, a3⟩ := pick_lst ok1 (K := k) (xs := [.int 0, .int 1, .int 2, .int 3, .int 4, .int 8]) (by omega) h (by omega) (by decide) (by decide)
  have hm : ∃ m : Nat, m' = .int m ∧ m ≤ 8 ∧ m * max 1 ((23 : Int) / (max 1 m : Nat)).toNat ≤ 24 ∧ (m = 2 → max 1 ((23 : Int) / (max 1 m : Nat)).toNat ≤ 12) := by
    simp only [List.mem_cons, List.not_mem_nil, or_false] at a2
    rcases a2 with rfl | rfl | rfl | rfl | rfl | rfl
    · exact ⟨0, rfl, by decide⟩
    · exact ⟨1, rfl, by decide⟩
    · exact ⟨2, rfl, by decide⟩
    · exact ⟨3, rfl, by decide⟩
    · exact ⟨4, rfl, by decide⟩
    · exact ⟨8, rfl, by decide⟩
  obtain ⟨m, rfl, m1, m2, m3⟩ := hm
  have hc6 : cs 6 = 635 := rfl
  obtain ⟨ys, S2, e1, e2, e3, e4⟩ := comp_cell (w := ⟨rangeL 0 m, []⟩) rfl (bnd := fun d => bindT (.nm 4) d (wipeE [some (.ref n), some (.lst (xs.map D.str)), some (.int m), none, none] [4]))
    (ifs := fun env S => evTs (callN Fs k) [] env S) (elt := fun env S => evE (callN Fs k) (.call ix.saying [(.var 0), (.var 1), (.bin false .fdiv (.lit (.int (23))) (.blt false .max2 [(.lit (.int (1))), (.var 2)])), (.lit (.int (6)))]) env S) (fun env S => by simp [evTs]) (n := n) (c := 635)
    (fun y => ∃ s : Say, y = s.d ∧ (s.deep ≤ 6 ∧ s.Ok ∧ s.words ≤ max 1 ((23 : Int) / (max 1 m : Nat)).toNat)) (S := S1) (B := B + 1) (M := B + 6000) a3.hand (by simp [rangeL]; omega)
    (fun d hd => ⟨_, rfl, fun T b hT hb => by
      obtain ⟨s, T', q1, q2, q3, q4, q5⟩ := saying ok2 hx hx2 hn 6 k b T ((23 : Int) / (max 1 m : Nat)) 6 (by omega) hT (by omega) (by decide) (by
        have : (23 : Int) / (max 1 m : Nat) ≤ 23 := Int.ediv_le_self _ (by decide)
        omega)
      refine ⟨s.d, T', ?_, ⟨s, rfl, by omega, q4, q3⟩, q5.mono (by omega)⟩
      have hmx : (if (m : Int) > 1 then (m : Int) else 1) = ((max 1 m : Nat) : Int) := by split <;> omega
      have h0 : (0 : Int) < ((max 1 m : Nat) : Int) := by omega
      have h1 : ((max 1 m : Nat) : Int) < 1073741824 := by omega
      have c1 : (decide ((0 : Int) < ((max 1 m : Nat) : Int)) && decide (((max 1 m : Nat) : Int) < 1073741824)) = true := by rw [decide_eq_true h0, decide_eq_true h1]; rfl
      rw [ev_call]
      simp only [evs_cons, evs_nil, ev_v, wipeE, ev_bin, ev_blt, ev_lit, R.bind_ok, List.set_cons_succ, List.set_cons_zero, List.getElem?_cons_succ, List.getElem?_cons_zero, max_ii, op_fdiv_ii, hmx, c1, mk_true]
      exact q1⟩) (by simp [rangeL, most]; omega)
  obtain ⟨ss, rfl, hss⟩ := says_of e2
  have hlen : ss.length = m := by simpa [rangeL] using e3
  have d2 := (a3.trans e4).mono (B' := B + 6000) (by simp [rangeL]; omega)
  have hl2 : S2.length = S.length := d2.len
  have hl1 : S1.length = S.length := a3.len
  -- the second statement
  have st2 : evC (callN Fs k) (.asg (.nm 3) (.comp true (.call ix.saying [(.var 0), (.var 1), (.bin false .fdiv (.lit (.int (23))) (.blt false .max2 [(.lit (.int (1))), (.var 2)])), (.lit (.int (6)))]) (.nm 4) (.range1 (.var 2)) [] [4])) [some (.ref n), some (.lst (xs.map D.str)), some (.int m), none, none] S1 =
      .nxt [some (.ref n), some (.lst (xs.map D.str)), some (.int m), some (.ref S.length), none] (S2 ++ [.lst (ss.map Say.d)]) := by
    rw [c_asg, ev_comp, evi_range1]
    simp only [ev_v, List.getElem?_cons_succ, List.getElem?_cons_zero, R.bind_ok, range0 (n := (m : Int)) (by omega) (by omega), Int.toNat_natCast]
    simp only at e1
    rw [e1]
    simp [hl1]
  have fin : ∀ (ss' : List Say) (S3 : Store), Dr S n (B + 10000) S3 → evCs (callN Fs k) [.ret (.blt false .tuple [(.var 3)])] [some (.ref n), some (.lst (xs.map D.str)), some (.int m), some (.ref S.length), none] (S3 ++ [.lst (ss'.map Say.d)]) = .ret (.tup (ss'.map Say.d)) (S3 ++ [.lst (ss'.map Say.d)]) := fun ss' S3 d3 => by
    have hget : (S3 ++ [Cell.lst (ss'.map Say.d)])[S.length]? = some (.lst (ss'.map Say.d)) := by rw [← d3.len]; simp
    exact cs_ret_of (by simp [ev_v, bt, rwOf, hget])
  have whole : ∀ (ss' : List Say) (S3 : Store), Dr S n (B + 10000) S3 → evC (callN Fs k) (.ife (.and (.cmp .eq (.var 2) (.lit (.int (2)))) (.cmp .eq (.call ix.take [(.var 0), (.lit (.int (2)))]) (.lit (.int (0))))) [(.seti (.var 3) (.call ix.take [(.var 0), (.lit (.int (2)))]) (.call ix.chain [(.var 0), (.var 1), (.lit (.int (6)))]))] [])
        [some (.ref n), some (.lst (xs.map D.str)), some (.int m), some (.ref S.length), none] (S2 ++ [.lst (ss.map Say.d)]) = .nxt [some (.ref n), some (.lst (xs.map D.str)), some (.int m), some (.ref S.length), none] (S3 ++ [.lst (ss'.map Say.d)]) →
      callN Fs (k + 1) ix.goal [.ref n, .lst (xs.map D.str)] S = .ok (.tup (ss'.map Say.d)) S3 := fun ss' S3 d3 e => by
    rw [call_eq ok.goal rfl]
    show outQ false S (evCs (callN Fs k) (b_goal ix) [some (.ref n), some (.lst (xs.map D.str)), none, none, none] S) = _
    unfold b_goal
    refine (congrArg _ ((cs_step (env' := [some (.ref n), some (.lst (xs.map D.str)), some (.int m), none, none]) (S' := S1) (by simp [ev_v, ev_lst, a1, most])).trans
      ((cs_step st2).trans ((cs_step e).trans (fin ss' S3 d3))))).trans ?_
    exact fin_data d3 (by simpa [D.data] using says_data ss')
  by_cases c2 : m = 2
  · subst c2
    obtain ⟨t, T3, f1, f2, f3, f4⟩ := take ok1 (K := k) (many := 2) (S := S2 ++ [.lst (ss.map Say.d)]) (by omega) d2.hand.app (by omega) (by decide) (by decide)
    obtain ⟨S3, rfl, g4⟩ := f4.of_app d2.hand.lt
    have d3 := d2.trans g4
    by_cases t0 : t = 0
    · obtain ⟨s', T4, g1, g2, g3, g5, g6⟩ := chain ok2 (K := k) (m := 6) (S := S3 ++ [.lst (ss.map Say.d)]) (by omega) d3.hand.app (by omega) (by decide) (by decide) hx hx2 hn
      obtain ⟨S4, rfl, g7⟩ := g6.of_app d3.hand.lt
      have d4 := d3.trans g7
      obtain ⟨j, T5, h1, h2, h3, h4⟩ := take ok1 (K := k) (many := 2) (S := S4 ++ [.lst (ss.map Say.d)]) (by omega) d4.hand.app (by omega) (by decide) (by decide)
      obtain ⟨S5, rfl, h5⟩ := h4.of_app d4.hand.lt
      have d5 := (d4.trans h5).mono (B' := B + 10000) (by omega)
      refine ⟨ss.set j.toNat s', S5, 12, whole _ _ d5 ?_, fun s hs => ?_, by simp; omega, by simp; omega, d5⟩
      · have hget : (S5 ++ [Cell.lst (ss.map Say.d)])[S.length]? = some (.lst (ss.map Say.d)) := by rw [← d5.len]; simp
        have hset : ∀ v, (S5 ++ [Cell.lst (ss.map Say.d)]).set S.length v = S5 ++ [v] := fun v => by rw [← d5.len, List.set_append_right _ _ (Nat.le_refl _)]; simp
        have hix : ixn (ss.map Say.d).length j = some j.toNat := ixn_in h2 (by simp [hlen]; omega)
        simp at g1
        simp at hix
        simp [ev_v, f1, t0, g1, h1, setAt, hget, hix, hset]
      · rcases List.mem_or_eq_of_mem_set hs with z | z
        · obtain ⟨k1, k2, k3⟩ := hss s z
          exact ⟨k1, k2, Nat.le_trans k3 (m3 rfl)⟩
        · rw [z]; exact ⟨by omega, g5, by omega⟩
    · have d3' := d3.mono (B' := B + 10000) (by omega)
      refine ⟨ss, S3, _, whole _ _ d3' ?_, hss, by omega, by rw [hlen]; exact m2, d3'⟩
      simp [ev_v, f1, t0]
  · have d2' := d2.mono (B' := B + 10000) (by omega)
    refine ⟨ss, S2, _, whole _ _ d2' ?_, hss, by omega, by rw [hlen]; exact m2, d2'⟩
    have : ¬ (m : Int) = 2 := by omega
    simp [ev_v, this]
end QL
end
section
set_option maxRecDepth 100000
set_option exponentiation.threshold 3000
/-! KB0: a pot (a list of numbers within it), drawn from; local cells behind it. -/
namespace MP
open PySem
/-- the pot at n, its numbers at p: drawn from at most B times -/
def Pot (S : Store) (n p : Nat) (B : Nat) : Prop := ∃ (gs : List Int) (m c : Int), S[n]? = some (.lst [.ref p, .int m, .int c]) ∧ S[p]? = some (.lst (gs.map D.int)) ∧ gs.length ≤ 63 ∧ p < n ∧ 0 ≤ c ∧ c ≤ B
structure DrP (S : Store) (n p B : Nat) (S' : Store) : Prop where
  pot : Pot S' n p B
  len : S'.length = S.length
  keep : ∀ i, i ≠ n → i ≠ p → S'[i]? = S[i]?
variable {S S' S1 S2 L T : Store} {n p B B' : Nat}
theorem Pot.lt (h : Pot S n p B) : n < S.length ∧ p < S.length := by
  obtain ⟨gs, m, c, h1, h2, _⟩ := h
  exact ⟨(List.getElem?_eq_some_iff.mp h1).1, (List.getElem?_eq_some_iff.mp h2).1⟩
theorem Pot.mono (h : Pot S n p B) (le : B ≤ B') : Pot S n p B' := by
  obtain ⟨gs, m, c, h1, h2, h3, h4, h5, h6⟩ := h
  exact ⟨gs, m, c, h1, h2, h3, h4, h5, by omega⟩
theorem Pot.app (h : Pot S n p B) : Pot (S ++ L) n p B := by
  have hl := h.lt
  obtain ⟨gs, m, c, h1, h2, h3⟩ := h
  exact ⟨gs, m, c, by rw [List.getElem?_append_left hl.1]; exact h1, by rw [List.getElem?_append_left hl.2]; exact h2, h3⟩
theorem Pot.of_app (h : Pot (S ++ L) n p B) (hn : n < S.length) : Pot S n p B := by
  obtain ⟨gs, m, c, h1, h2, h3⟩ := h
  have hp : p < S.length := by omega
  exact ⟨gs, m, c, by rw [List.getElem?_append_left hn] at h1; exact h1, by rw [List.getElem?_append_left hp] at h2; exact h2, h3⟩
theorem DrP.lt (d : DrP S n p B S') : n < S.length ∧ p < S.length := by rw [← d.len]; exact d.pot.lt
theorem DrP.refl (h : Pot S n p B) : DrP S n p B S := ⟨h, rfl, fun _ _ _ => rfl⟩
theorem DrP.trans (a : DrP S n p B S1) (b : DrP S1 n p B' S2) : DrP S n p B' S2 := ⟨b.pot, b.len.trans a.len, fun i h1 h2 => (b.keep i h1 h2).trans (a.keep i h1 h2)⟩
theorem DrP.mono (a : DrP S n p B S') (h : B ≤ B') : DrP S n p B' S' := ⟨a.pot.mono h, a.len, a.keep⟩
theorem DrP.of_app (d : DrP (S ++ L) n p B T) (hn : n < S.length) : ∃ S', T = S' ++ L ∧ DrP S n p B S' := by
  have hl := d.len
  rw [List.length_append] at hl
  have hpn : p < n := by obtain ⟨gs, m, c, h1, h2, h3, h4, _⟩ := d.pot; exact h4
  have e : T = T.take S.length ++ L := by
    refine List.ext_getElem? fun i => ?_
    by_cases hi : i < S.length
    · rw [List.getElem?_append_left (by rw [List.length_take]; omega), List.getElem?_take_of_lt hi]
    · rw [d.keep i (by omega) (by omega), List.getElem?_append_right (by omega), List.getElem?_append_right (by rw [List.length_take]; omega), List.length_take]
      congr 1
      omega
  refine ⟨T.take S.length, e, ?_, by rw [List.length_take]; omega, fun i h1 h2 => ?_⟩
  · have q := d.pot
    rw [e] at q
    exact q.of_app (by rw [List.length_take]; omega)
  · by_cases hi : i < S.length
    · rw [List.getElem?_take_of_lt hi, d.keep i h1 h2, List.getElem?_append_left hi]
    · rw [List.getElem?_eq_none (by rw [List.length_take]; omega), List.getElem?_eq_none (by omega)]
theorem DrP.kept (d : DrP S n p B S') : Kept S (S' ++ L) := fun i hi => by
  have hl : i < S'.length := by rw [d.len]; exact hi
  rw [List.getElem?_append_left hl]
  have hlt := d.lt
  obtain ⟨gs, m, c, e1, e2, h3, h4, _⟩ := d.pot
  by_cases hn : i = n
  · subst hn
    exact .inr ⟨_, e1, by simp [Cell.und, undAll, D.und]; omega⟩
  · by_cases hp : i = p
    · subst hp
      refine .inr ⟨_, e2, ?_⟩
      simp only [Cell.und]
      clear e2 h3
      induction gs with
      | nil => rfl
      | cons g gs ih => simpa [undAll, D.und] using ih
    · exact .inl (d.keep i hn hp)
/-- a def's end: its own cells are dropped -/
theorem finP_app {v w : D} (d : DrP S n p B S') (hv : fzD (S' ++ L) S.length v = w) (hw : w.und S.length = true) (h1 : L = [] → w = v) : fin false S v (S' ++ L) = .ok w S' := by
  have kept : Kept S (S' ++ L) := d.kept
  have hl := d.len
  cases L with
  | nil =>
    rw [List.append_nil]
    unfold fin
    rw [h1 rfl]
    simp [hl]
  | cons c L =>
    have hne : decide ((S' ++ c :: L).length = S.length) = false := decide_eq_false (by rw [List.length_append, List.length_cons]; omega)
    unfold fin
    rw [hne, hv]
    simp only [Bool.false_or]
    rw [hw]
    simp [kept]
    rw [← hl]
    exact List.take_left
theorem finP_data {v : D} (d : DrP S n p B S') (h : v.data = true) : fin false S v (S' ++ L) = .ok v S' := finP_app d (fz_data h) (data_und _ h) fun _ => rfl
theorem finP_data0 {v : D} (d : DrP S n p B S') (leak : Bool) : fin leak S v S' = .ok v S' := by simp [fin, d.len]
theorem finP_own {ys : List D} (d : DrP S n p B S') (h : dataAll ys = true) : fin false S (.ref S.length) (S' ++ [.lst ys]) = .ok (.lst ys) S' := by
  refine finP_app d ?_ (dataAll_und _ h) fun e => by cases e
  simp [fzD, ← d.len]
end MP
end
section
set_option maxRecDepth 100000
set_option exponentiation.threshold 3000
/-! KB1: draws from a pot. -/
namespace MP
open PySem
section
variable {S : Store} {n p : Nat}
theorem rf_at {xs : List D} {k : Int} {j : Nat} {d : D} (h : S[n]? = some (.lst xs)) (hi : ixn xs.length k = some j) (e : xs[j]? = some d) : atD (.ref n) (.int k) S = .ok d S := by
  simp [atD, atSeq, sqOf, h, hi, e]
theorem rf_0 {a : D} {r : List D} (h : S[n]? = some (.lst (a :: r))) : atD (.ref n) (.int 0) S = .ok a S := rf_at h (j := 0) (by unfold ixn; simp) rfl
theorem rf_1 {a b : D} {r : List D} (h : S[n]? = some (.lst (a :: b :: r))) : atD (.ref n) (.int 1) S = .ok b S := rf_at h (j := 1) (by unfold ixn; simp; omega) rfl
theorem rf_2 {a b c : D} {r : List D} (h : S[n]? = some (.lst (a :: b :: c :: r))) : atD (.ref n) (.int 2) S = .ok c S := rf_at h (j := 2) (by unfold ixn; simp; omega) rfl
theorem rf_ne {xs : List D} (h : S[n]? = some (.lst xs)) (hp : plainAll xs = true) : cp2 .ne (.ref n) (.lst []) S = .ok (.bl (!xs.isEmpty)) S := by
  have v : view S (.ref n) = .lst xs := by simp [view, h]
  have v2 : view S (.lst []) = .lst [] := rfl
  have eo : eqOk (view S (.ref n)) (view S (.lst [])) = true := by rw [v, v2]; simp [eqOk, D.plain, hp, plainAll, D.deep, deepAll, far]
  rw [cp_ne_of eo, v, v2]
  cases xs <;> simp [D.eqv, D.py, pyAll, PyData.eqv, PyData.eqvAll]
theorem ints_plain : ∀ gs : List Int, plainAll (gs.map D.int) = true
  | [] => rfl
  | g :: gs => by simp [plainAll, D.plain, ints_plain gs]
theorem c_while_to {call : Nat → List D → Store → R D} {env env' : MP.Env} {S S' : Store} {c : E} {b : List C} (h : whileGo (fun env S => (evE call c env S).bind test) (fun env S => evCs call b env S) turns env S = .nxt env' S') : evC call (.while_ c b) env S = .nxt env' S' := by
  simp only [evC]; exact h
end
end MP
namespace KB
open PySem L2 MP
variable {Fs : List Fn} {ix : Ix}
def mxA (m c : Int) : Int := (m + 65537 * c * c + 15485863 * c) * 48271 % 2305843009213693921
def mxB (m c : Int) : Int := mxA m c * (mxA m c % 1000003 + 99991 * c + 7) % 2305843009213693907
abbrev C0 : E := .and (.cmp .ne (.idx (.var 0) (.lit (.int (0)))) (.lst false [])) (.cmp .eq (.idx (.idx (.var 0) (.lit (.int (0)))) (.lit (.int (0)))) (.lit (.int (0))))
/-- the noughts are taken off -/
theorem loop {call : Nat → List D → Store → R D} {n p : Nat} {r : List D} {env : MP.Env} (hv : env[0]? = some (some (.ref n))) (hne : p ≠ n) : ∀ (gs : List Int) (fuel : Nat) (S : Store), gs.length < fuel → S[n]? = some (.lst (.ref p :: r)) → S[p]? = some (.lst (gs.map D.int)) →
    ∃ hs : List Int, hs.length ≤ gs.length ∧ whileGo (fun env S => (evE call C0 env S).bind test) (fun env S => evCs call [(.ex (.meth .popAt (.idx (.var 0) (.lit (.int (0)))) [(.lit (.int (0)))]))] env S) fuel env S = .nxt env (S.set p (.lst (hs.map D.int))) ∧ (∀ g t, hs = g :: t → g ≠ 0) := by
  intro gs
  induction gs with
  | nil =>
    intro fuel S hf h1 h2
    obtain ⟨f, rfl⟩ : ∃ f, fuel = f + 1 := ⟨fuel - 1, by simp at hf; omega⟩
    refine ⟨[], Nat.le_refl _, ?_, fun g t h => by cases h⟩
    have hs : S.set p (.lst (([] : List Int).map D.int)) = S := by
      obtain ⟨l1, l2⟩ := List.getElem?_eq_some_iff.mp h2
      rw [← l2]; exact List.set_getElem_self l1
    rw [hs]
    have e1 := rf_ne h2 (ints_plain [])
    have cnd : (evE call C0 env S).bind test = .ok false S := by simp at e1; simp [ev_v, hv, rf_0 h1, ev_lst, e1, most]
    unfold whileGo
    rw [cnd]
    rfl
  | cons g gs ih =>
    intro fuel S hf h1 h2
    obtain ⟨f, rfl⟩ : ∃ f, fuel = f + 1 := ⟨fuel - 1, by simp at hf; omega⟩
    have e1 := rf_ne h2 (ints_plain (g :: gs))
    have e2 : atD (.ref p) (.int 0) S = .ok (.int g) S := rf_0 h2
    simp at e1
    by_cases hg : g = 0
    · subst hg
      obtain ⟨l1, l2⟩ := List.getElem?_eq_some_iff.mp h2
      have k1 : (S.set p (.lst (gs.map D.int)))[n]? = some (.lst (.ref p :: r)) := by rw [List.getElem?_set_ne hne]; exact h1
      have k2 : (S.set p (.lst (gs.map D.int)))[p]? = some (.lst (gs.map D.int)) := List.getElem?_set_self l1
      obtain ⟨hs, g1, g2, g3⟩ := ih f _ (by simp at hf; omega) k1 k2
      rw [List.set_set] at g2
      refine ⟨hs, by simp; omega, ?_, g3⟩
      have rd : mtRdy .popAt (.ref p) S = true := by simp [mtRdy, lsOf, h2]
      have pp : MP.mt .popAt (.ref p) [.int 0] S = .ok (.int 0) (S.set p (.lst (gs.map D.int))) := by
        simp [MP.mt, h2, ixn]
      have cnd : (evE call C0 env S).bind test = .ok true S := by simp [ev_v, hv, rf_0 h1, ev_lst, e1, e2, most]
      have bod : evCs call [(.ex (.meth .popAt (.idx (.var 0) (.lit (.int (0)))) [(.lit (.int (0)))]))] env S = .nxt env (S.set p (.lst (gs.map D.int))) := by
        simp [ev_v, hv, rf_0 h1, rd, pp]
      unfold whileGo
      rw [cnd]
      simp only [Q.of_ok, bod]
      exact g2
    · refine ⟨g :: gs, Nat.le_refl _, ?_, fun g' t h => by cases h; exact hg⟩
      have hs : S.set p (.lst ((g :: gs).map D.int)) = S := by
        obtain ⟨l1, l2⟩ := List.getElem?_eq_some_iff.mp h2
        rw [← l2]; exact List.set_getElem_self l1
      rw [hs]
      have cnd : (evE call C0 env S).bind test = .ok false S := by simp [ev_v, hv, rf_0 h1, ev_lst, e1, e2, most, hg]
      unfold whileGo
      rw [cnd]
      rfl
theorem take (ok : OkA Fs ix) {K n p B : Nat} {S : Store} {many : Int} (hK : 1 ≤ K) (h : Pot S n p B) (hB : B < 2 ^ 61) (h0 : 0 < many) (h1 : many < 1073741824) :
    ∃ d S', callN Fs K ix.take [.ref n, .int many] S = .ok (.int d) S' ∧ 0 ≤ d ∧ d < many ∧ DrP S n p (B + 1) S' := by
  obtain ⟨k, rfl⟩ : ∃ k, K = k + 1 := ⟨K - 1, by omega⟩
  obtain ⟨hn, hp⟩ := h.lt
  obtain ⟨gs, m, c, hS, hP, hl, hpn, c0, c1⟩ := h
  have hne : p ≠ n := by omega
  obtain ⟨hs, g1, g2, g3⟩ := loop (call := callN Fs k) (env := [some (.ref n), some (.int many), none, none, none]) rfl hne gs turns S (by unfold turns; omega) hS hP
  have T1 : (S.set p (.lst (hs.map D.int)))[n]? = some (.lst [.ref p, .int m, .int c]) := by rw [List.getElem?_set_ne hne]; exact hS
  have T2 : (S.set p (.lst (hs.map D.int)))[p]? = some (.lst (hs.map D.int)) := List.getElem?_set_self hp
  generalize hT : S.set p (.lst (hs.map D.int)) = T at g2 T1 T2
  have lT : T.length = S.length := by rw [← hT]; simp
  have e1 := rf_ne T2 (ints_plain hs)
  have keepT : ∀ i, i ≠ n → i ≠ p → T[i]? = S[i]? := fun i _ h2 => by rw [← hT, List.getElem?_set_ne (Ne.symm h2)]
  cases hs with
  | cons g t =>
    have lp : p < T.length := by omega
    refine ⟨g % many, T.set p (.lst ((g / many :: t).map D.int)), ?_, Int.emod_nonneg _ (by omega), Int.emod_lt_of_pos _ h0, ⟨⟨g / many :: t, m, c, by rw [List.getElem?_set_ne hne]; exact T1, List.getElem?_set_self lp, by simp at g1 ⊢; omega, hpn, c0, by omega⟩, by simp [lT], fun i i1 i2 => by rw [List.getElem?_set_ne (Ne.symm i2)]; exact keepT i i1 i2⟩⟩
    have e2 : atD (.ref p) (.int 0) T = .ok (.int g) T := rf_0 T2
    have st : setAt (.ref p) (.int 0) (.int (g / many)) T = .ok () (T.set p (.lst ((g / many :: t).map D.int))) := by simp [setAt, T2, ixn]
    simp at e1
    rw [call_eq ok.take rfl]
    show outQ false S (evCs (callN Fs k) (b_take ix) [some (.ref n), some (.int many), none, none, none] S) = _
    unfold b_take
    rw [cs_step (c_while_to g2)]
    have r1 : ∀ env : MP.Env, env[0]? = some (some (.ref n)) → evE (callN Fs k) (.idx (.var 0) (.lit (.int 0))) env T = .ok (.ref p) T := fun env e => by simp [ev_v, e, rf_0 T1]
    simp [ev_v, ev_lst, rf_0 T1, e1, e2, h0, h1, st, most, outQ, fin, lT]
  | nil =>
    have hA : ∀ x : Int, okMul x (c + 1) = true := fun x => okMul_r (by omega)
    have hA2 : ∀ x : Int, okMul 15485863 x = true := fun x => okMul_l (by decide)
    have hA3 : ∀ x : Int, okMul 65537 x = true := fun x => okMul_l (by decide)
    have hB : ∀ x : Int, okMul x 48271 = true := fun x => okMul_r (by decide)
    have hC : ∀ x : Int, okMul 99991 x = true := fun x => okMul_l (by decide)
    have hD : ∀ x y : Int, okMul (x % 2305843009213693921) y = true := fun x y => okMul_l (by omega)
    have ln : n < T.length := by omega
    have st : setAt (.ref n) (.int 2) (.int (c + 1)) T = .ok () (T.set n (.lst [.ref p, .int m, .int (c + 1)])) := by simp [setAt, T1, ixn]
    have U1 : (T.set n (.lst [.ref p, .int m, .int (c + 1)]))[n]? = some (.lst [.ref p, .int m, .int (c + 1)]) := List.getElem?_set_self ln
    refine ⟨(mxB m (c + 1) / 97 + mxB m (c + 1) / 1000033) % many, T.set n (.lst [.ref p, .int m, .int (c + 1)]), ?_, Int.emod_nonneg _ (by omega), Int.emod_lt_of_pos _ h0, ⟨⟨[], m, c + 1, U1, by rw [List.getElem?_set_ne (Ne.symm hne)]; exact T2, by simp, hpn, by omega, by omega⟩, by simp [lT], fun i i1 i2 => by rw [List.getElem?_set_ne (Ne.symm i1)]; exact keepT i i1 i2⟩⟩
    simp at e1
    rw [call_eq ok.take rfl]
    show outQ false S (evCs (callN Fs k) (b_take ix) [some (.ref n), some (.int many), none, none, none] S) = _
    unfold b_take
    rw [cs_step (c_while_to g2)]
    simp [ev_v, ev_lst, rf_0 T1, rf_2 T1, rf_1 U1, e1, h0, h1, st, most, outQ, fin, lT, hA, hA2, hA3, hB, hC, hD, mxA, mxB]
theorem of_str (ok : OkA Fs ix) {K n p B : Nat} {S : Store} {x : List Nat} (hK : 2 ≤ K) (h : Pot S n p B) (hB : B < 2 ^ 61) (hx : 0 < x.length) (hx2 : x.length < 1073741824) :
    ∃ c S', callN Fs K ix.of [.ref n, .str x] S = .ok (ch c) S' ∧ c ∈ x ∧ DrP S n p (B + 1) S' := by
  obtain ⟨k, rfl⟩ : ∃ k, K = k + 1 := ⟨K - 1, by omega⟩
  obtain ⟨d, S', e1, e2, e3, e4⟩ := take ok (K := k) (many := x.length) (by omega) h hB (by omega) (by omega)
  have hd : d.toNat < x.length := by omega
  refine ⟨x[d.toNat], S', ?_, List.getElem_mem hd, e4⟩
  rw [call_eq ok.of rfl]
  show outQ false S (evCs (callN Fs k) (b_of ix) [some (.ref n), some (.str x)] S) = _
  unfold b_of
  simp [ev_v, e1, at_str (ixn_in e2 e3) (show x[d.toNat]? = some x[d.toNat] by simp [hd]), outQ, finP_data0 e4, ch]
theorem of_lst (ok : OkA Fs ix) {K n p B : Nat} {S : Store} {xs : List D} (hK : 2 ≤ K) (h : Pot S n p B) (hB : B < 2 ^ 61) (hx : 0 < xs.length) (hx2 : xs.length < 1073741824) :
    ∃ d S', callN Fs K ix.of [.ref n, .lst xs] S = .ok d S' ∧ d ∈ xs ∧ DrP S n p (B + 1) S' := by
  obtain ⟨k, rfl⟩ : ∃ k, K = k + 1 := ⟨K - 1, by omega⟩
  obtain ⟨d, S', e1, e2, e3, e4⟩ := take ok (K := k) (many := xs.length) (by omega) h hB (by omega) (by omega)
  have hd : d.toNat < xs.length := by omega
  refine ⟨xs[d.toNat], S', ?_, List.getElem_mem hd, e4⟩
  rw [call_eq ok.of rfl]
  show outQ false S (evCs (callN Fs k) (b_of ix) [some (.ref n), some (.lst xs)] S) = _
  unfold b_of
  simp [ev_v, e1, at_lst (ixn_in e2 e3) (show xs[d.toNat]? = some xs[d.toNat] by simp [hd]), outQ, finP_data0 e4]
/-- an item of a written list -/
theorem in_lst {xs : List D} {d : Int} {S : Store} (h0 : 0 ≤ d) (h1 : d < xs.length) : ∃ y ∈ xs, atD (.lst xs) (.int d) S = .ok y S := by
  have hd : d.toNat < xs.length := by omega
  exact ⟨xs[d.toNat], List.getElem_mem hd, at_lst (ixn_in h0 h1) (by simp [hd])⟩
end KB
namespace MP
open PySem
/-- a comprehension that draws from a pot: a new frozen list -/
theorem comp_drawsP {w : Row} (hw : w.watch = []) {bnd : D → Option MP.Env} {ifs : MP.Env → Store → R Bool} {elt : MP.Env → Store → R D} (hifs : ∀ env S, ifs env S = .ok true S) {n p c : Nat} (P : D → Prop) (hP : ∀ y, P y → y.data = true)
    {S : Store} {B M : Nat} (hS : Pot S n p B) (hM : B + c * w.items.length ≤ M)
    (step : ∀ d ∈ w.items, ∃ env, bnd d = some env ∧ ∀ T b, Pot T n p b → b + c ≤ M → ∃ y T', elt env T = .ok y T' ∧ P y ∧ DrP T n p (b + c) T') (hm : w.items.length ≤ most) :
    ∃ ys S', ((compGo w S.length bnd ifs elt w.items (S ++ [.lst []])).bind fun acc S' => compEnd false S acc S') = .ok (.lst ys) S' ∧ (∀ y ∈ ys, P y) ∧ ys.length = w.items.length ∧ DrP S n p (B + c * w.items.length) S' := by
  have main : ∀ (ds : List D), (∀ d ∈ ds, d ∈ w.items) → ∀ (T : Store) (acc : List D) (b : Nat), DrP S n p b T → b + c * ds.length ≤ M → acc.length + ds.length ≤ most → (∀ y ∈ acc, P y) →
      ∃ ys T', compGo w S.length bnd ifs elt ds (T ++ [.lst acc]) = .ok (acc ++ ys) (T' ++ [.lst (acc ++ ys)]) ∧ (∀ y ∈ ys, P y) ∧ ys.length = ds.length ∧ DrP S n p (b + c * ds.length) T' := by
    intro ds
    induction ds with
    | nil =>
      intro _ T acc b hT _ _ hacc
      refine ⟨[], T, ?_, fun y hy => (by cases hy), rfl, by simpa using hT⟩
      simp [compGo, stays_nil hw, ← hT.len]
    | cons d ds ih =>
      intro hd T acc b hT hb hl hacc
      obtain ⟨env, e1, st⟩ := step d (hd d List.mem_cons_self)
      have hn : n < T.length := hT.pot.lt.1
      rw [List.length_cons] at hb hl
      have hb' : b + c + c * ds.length ≤ M := by rw [Nat.mul_succ] at hb; omega
      obtain ⟨y, T1, e2, py, dr⟩ := st (T ++ [.lst acc]) b hT.pot.app (by omega)
      obtain ⟨T2, rfl, dr2⟩ := dr.of_app hn
      have hT2 := hT.trans dr2
      obtain ⟨ys, T', e3, p3, l3, d3⟩ := ih (fun x hx => hd x (List.mem_cons_of_mem _ hx)) T2 (acc ++ [y]) (b + c) hT2 hb' (by rw [List.length_append, List.length_singleton]; omega) (fun z hz => by
        rcases List.mem_append.mp hz with q | q
        · exact hacc z q
        · have : z = y := by simpa using q
          rw [this]; exact py)
      refine ⟨y :: ys, T', ?_, fun z hz => ?_, by simp [l3], ?_⟩
      · have hac : decide (acc.length < most) = true := decide_eq_true (by omega)
        have hget : (T2 ++ [Cell.lst acc])[S.length]? = some (.lst acc) := by rw [← hT2.len]; simp
        have hset : (T2 ++ [Cell.lst acc]).set S.length (.lst (acc ++ [y])) = T2 ++ [.lst (acc ++ [y])] := by
          rw [← hT2.len, List.set_append_right _ _ (Nat.le_refl _)]
          simp
        simp only [compGo, stays_nil hw, e1, hifs, R.bind_ok, e2, hget, hac, hset]
        rw [e3]
        simp
      · rcases List.mem_cons.mp hz with q | q
        · rw [q]; exact py
        · exact p3 z q
      · rw [List.length_cons, Nat.mul_succ]
        exact d3.mono (by omega)
  obtain ⟨ys, T', e, p', l, d⟩ := main w.items (fun _ h => h) S [] B (DrP.refl hS) hM (by simpa using hm) (fun y hy => nomatch hy)
  refine ⟨ys, T', ?_, p', l, d⟩
  simp only [List.nil_append] at e
  rw [e]
  simp only [R.bind_ok]
  have kept : Kept S (T' ++ [.lst ys]) := d.kept
  have hl := d.len
  unfold compEnd
  have c1 : (false || decide ((T' ++ [Cell.lst ys]).length ≠ S.length + 1)) = false := by simp [hl]
  rw [c1]
  simp [dataAll_und S.length (dataAll_mem fun y hy => hP y (p' y hy)), kept]
  rw [← hl]
  exact List.take_left
end MP
end
section
set_option maxRecDepth 100000
set_option exponentiation.threshold 3000
/-! KB2: names, sayings drawn from a pot. -/
namespace KB
open PySem L2 MP
open QL (Say Nm Lt abc abc_lt chs_of)
variable {Fs : List Fn} {ix : Ix}
theorem name (ok : OkA Fs ix) {K n p B : Nat} {S : Store} (hK : 3 ≤ K) (h : Pot S n p B) (hB : B < 2 ^ 60) :
    ∃ (x : List Nat) (S' : Store), callN Fs K ix.name [.ref n] S = .ok (.str x) S' ∧ Nm x ∧ DrP S n p (B + 8) S' := by
  obtain ⟨k, rfl⟩ : ∃ k, K = k + 1 := ⟨K - 1, by omega⟩
  obtain ⟨z, S1, a1, a2, a3, a4⟩ := take ok (K := k) (many := 6) (by omega) h (by omega) (by decide) (by decide)
  obtain ⟨ys, S2, e1, e2, e3, e4⟩ := comp_drawsP (w := ⟨rangeL 0 (1 + z).toNat, []⟩) rfl (bnd := fun d => bindT (.nm 2) d (wipeE [some (.ref n), none, none] [2]))
    (ifs := fun env S => evTs (callN Fs k) [] env S) (elt := fun env S => evE (callN Fs k) (.call ix.of [(.var 0), (.lit (.str abc))]) env S) (fun env S => by simp [evTs]) (n := n) (p := p) (c := 1) (fun y => ∃ c, y = ch c ∧ Lt c) (fun y ⟨c, e, _⟩ => by rw [e]; rfl)
    (S := S1) (B := B + 1) (M := B + 7) a4.pot (by simp [rangeL]; omega)
    (fun d hd => ⟨_, rfl, fun T b hT hb => by
      obtain ⟨c, T', q1, q2, q3⟩ := of_str ok (K := k) (x := abc) (by omega) hT (by omega) (by decide) (by decide)
      exact ⟨_, T', by rw [ev_call]; simp [wipeE, evE, q1], ⟨c, rfl, abc_lt c q2⟩, q3⟩⟩) (by simp [rangeL, most]; omega)
  obtain ⟨cs, rfl, hcs⟩ := chs_of e2
  have hcl : cs.length = (1 + z).toNat := by simpa [rangeL] using e3
  have nx : Nm cs := ⟨by omega, by omega, hcs⟩
  have d2 := (a4.trans e4).mono (B' := B + 7) (by simp [rangeL]; omega)
  obtain ⟨y, S3, f1, f2, f3⟩ := of_lst ok (K := k) (xs := [.str [97], .str [98], .str [97, 98], .str [122, 122, 122, 122, 122, 122], .str [97, 97, 97, 97, 97, 98], .str cs]) (by omega) d2.pot (by omega) (by simp) (by simp)
  have hy : ∃ x, y = .str x ∧ Nm x := by
    simp only [List.mem_cons, List.not_mem_nil, or_false] at f2
    rcases f2 with rfl | rfl | rfl | rfl | rfl | rfl
    · exact ⟨_, rfl, by unfold Nm Lt; decide⟩
    · exact ⟨_, rfl, by unfold Nm Lt; decide⟩
    · exact ⟨_, rfl, by unfold Nm Lt; decide⟩
    · exact ⟨_, rfl, by unfold Nm Lt; decide⟩
    · exact ⟨_, rfl, by unfold Nm Lt; decide⟩
    · exact ⟨_, rfl, nx⟩
  obtain ⟨x, rfl, hx⟩ := hy
  refine ⟨x, S3, ?_, hx, d2.trans f3⟩
  rw [call_eq ok.name rfl]
  show outQ false S (evCs (callN Fs k) (b_name ix) [some (.ref n), none, none] S) = _
  have hit : evI (callN Fs k) (.range1 (.bin false .add (.lit (.int (1))) (.call ix.take [(.var 0), (.lit (.int (6)))]))) [some (.ref n), none, none] S = .ok ⟨rangeL 0 (1 + z).toNat, []⟩ S1 := by
    simp [ev_v, a1, range0 (show (0 : Int) ≤ 1 + z by omega) (by omega)]
  have jn : evE (callN Fs k) (.meth .join (.lit (.str [])) [(.comp false (.call ix.of [(.var 0), (.lit (.str abc))]) (.nm 2) (.range1 (.bin false .add (.lit (.int (1))) (.call ix.take [(.var 0), (.lit (.int (6)))]))) [] [2])]) [some (.ref n), none, none] S = .ok (.str cs) S2 := by
    rw [ev_meth]
    simp only [ev_lit, R.bind_ok, rdy_join, evs_cons, evs_nil, ev_comp, hit, e1]
    exact join_ch (by unfold most; omega)
  unfold b_name
  refine (congrArg _ ((cs_step (c_asg_of jn)).trans (cs_ret_of (d := .str x) (S1 := S3) (by simp [ev_v, ev_lst, f1, most])))).trans ?_
  exact finP_data0 (d2.trans f3) false
/-- no keep, no draw -/
def Sp : Say → Prop
  | .pair a b => Sp a ∧ Sp b
  | .bind a b => Sp a ∧ Sp b
  | .menu a b => Sp a ∧ Sp b
  | .pick a b => Sp a ∧ Sp b
  | .keep _ => False
  | .draw _ => False
  | _ => True
/-- a saying of one word -/
theorem leafy (ok : OkA Fs ix) {k n p B : Nat} {S S1 : Store} {far way : Int} (hK : 4 ≤ k + 1) (hw : callN Fs k ix.take [.ref n, .int 9] S = .ok (.int way) S1) (h : DrP S n p B S1) (hB : B < 2 ^ 59) (hc : far < 2 ∨ way < 4) :
    ∃ (s : Say) (S' : Store), callN Fs (k + 1) ix.saying [.ref n, .int far] S = .ok s.d S' ∧ s.deep = 1 ∧ s.Ok ∧ Sp s ∧ DrP S n p (B + 11) S' := by
  obtain ⟨a, S2, a1, a2, a3, a4⟩ := take ok (K := k) (many := 4) (by omega) h.pot (by omega) (by decide) (by decide)
  obtain ⟨b, S3, b1, b2, b3, b4⟩ := take ok (K := k) (many := 2) (by omega) a4.pot (by omega) (by decide) (by decide)
  obtain ⟨x, S4, c1, c2, c3⟩ := name ok (K := k) (by omega) b4.pot (by omega)
  obtain ⟨e, S5, e1, e2, e3, e4⟩ := take ok (K := k) (many := 3) (by omega) c3.pot (by omega) (by decide) (by decide)
  have dr := (((h.trans a4).trans b4).trans c3).trans e4
  obtain ⟨y, y1, y2⟩ := in_lst (xs := [.tup [.str [111, 110, 101]], .tup [.str [110, 111, 110, 101]], .tup [.str [97, 108, 108]], .tup [.str [110, 101, 118, 101, 114]]]) (S := S2) a2 a3
  obtain ⟨z, z1, z2⟩ := in_lst (xs := [.str [116, 104, 105, 110, 103], .str [100, 101, 98, 116]]) (S := S3) b2 b3
  have hy : ∃ s : Say, y = s.d ∧ s.deep = 1 ∧ s.Ok ∧ Sp s := by
    simp only [List.mem_cons, List.not_mem_nil, or_false] at y1
    rcases y1 with rfl | rfl | rfl | rfl
    · exact ⟨.one, rfl, rfl, trivial, trivial⟩
    · exact ⟨.none, rfl, rfl, trivial, trivial⟩
    · exact ⟨.all, rfl, rfl, trivial, trivial⟩
    · exact ⟨.never, rfl, rfl, trivial, trivial⟩
  have hz : ∃ s : Say, D.tup [z, .str x] = s.d ∧ s.deep = 1 ∧ s.Ok ∧ Sp s := by
    simp only [List.mem_cons, List.not_mem_nil, or_false] at z1
    rcases z1 with rfl | rfl
    · exact ⟨.thing x, rfl, rfl, c2, trivial⟩
    · exact ⟨.debt x, rfl, rfl, c2, trivial⟩
  obtain ⟨s1, q1, q2, q3, q4⟩ := hy
  obtain ⟨s2, r1, r2, r3, r4⟩ := hz
  have hcc : (decide (far < 2) || decide (way < 4)) = true := by simpa using hc
  have st1 : evC (callN Fs k) (.asg (.nm 4) (.idx (.lst false [(.tup [(.lit (.str [111, 110, 101]))]), (.tup [(.lit (.str [110, 111, 110, 101]))]), (.tup [(.lit (.str [97, 108, 108]))]), (.tup [(.lit (.str [110, 101, 118, 101, 114]))])]) (.call ix.take [(.var 0), (.lit (.int (4)))]))) [some (.ref n), some (.int far), some (.int way), none, none, none] S1 = .nxt [some (.ref n), some (.int far), some (.int way), none, some y, none] S2 := c_asg_of (by simp [ev_v, ev_lst, a1, y2, most])
  have st2 : evC (callN Fs k) (.asg (.nm 5) (.tup [(.idx (.lst false [(.lit (.str [116, 104, 105, 110, 103])), (.lit (.str [100, 101, 98, 116]))]) (.call ix.take [(.var 0), (.lit (.int (2)))])), (.call ix.name [(.var 0)])])) [some (.ref n), some (.int far), some (.int way), none, some y, none] S2 = .nxt [some (.ref n), some (.int far), some (.int way), none, some y, some (.tup [z, .str x])] S4 := c_asg_of (by simp [ev_v, ev_lst, b1, z2, c1, most])
  have fin' : ∀ (v : D) , evE (callN Fs k) (.ite (.cmp .eq (.call ix.take [(.var 0), (.lit (.int (3)))]) (.lit (.int (0)))) (.var 4) (.var 5)) [some (.ref n), some (.int far), some (.int way), none, some y, some (.tup [z, .str x])] S4 = .ok v S5 → callN Fs (k + 1) ix.saying [.ref n, .int far] S = .ok v S5 := fun v hv => by
    rw [call_eq ok.saying rfl]
    show outQ false S (evCs (callN Fs k) (b_saying ix) [some (.ref n), some (.int far), none, none, none, none] S) = _
    have c0 : evE (callN Fs k) (.or (.cmp .lt (.var 1) (.lit (.int (2)))) (.cmp .lt (.var 2) (.lit (.int (4))))) [some (.ref n), some (.int far), some (.int way), none, none, none] S1 = .ok (.bl true) S1 := by
      by_cases hf : far < 2
      · simp [ev_v, hf]
      · have hw4 : way < 4 := by omega
        simp [ev_v, hf, hw4]
    unfold b_saying
    rw [cs_step (c_asg_of (d := .int way) (S1 := S1) (by simp [ev_v, hw]))]
    simp only [List.set_cons_succ, List.set_cons_zero]
    rw [cs_cons, c_ife, c0]
    simp only [Q.of_ok, test_bl]
    rw [cs_step st1, cs_step st2, cs_ret_of hv]
    exact finP_data0 dr false
  by_cases he : e = 0
  · subst he
    exact ⟨s1, S5, by rw [← q1]; exact fin' _ (by simp [ev_v, e1]), q2, q3, q4, dr.mono (by omega)⟩
  · exact ⟨s2, S5, by rw [← r1]; exact fin' _ (by simp [ev_v, e1, he]), r2, r3, r4, dr.mono (by omega)⟩
theorem saying (ok : OkA Fs ix) : ∀ (m K n p B : Nat) (S : Store) (far : Int), m + 4 ≤ K → far ≤ m + 1 → Pot S n p B → B + 2 ^ m * 40 ≤ 2 ^ 58 →
    ∃ (s : Say) (S' : Store), callN Fs K ix.saying [.ref n, .int far] S = .ok s.d S' ∧ s.deep ≤ m + 1 ∧ s.Ok ∧ Sp s ∧ DrP S n p (B + (2 ^ m * 40 - 10)) S' := by
  intro m
  induction m with
  | zero =>
    intro K n p B S far hK hf h hB
    obtain ⟨k, rfl⟩ : ∃ k, K = k + 1 := ⟨K - 1, by omega⟩
    obtain ⟨w, S1, a1, a2, a3, a4⟩ := take ok (K := k) (many := 9) (by omega) h (by omega) (by decide) (by decide)
    obtain ⟨s, S2, b1, b2, b3, b4, b5⟩ := leafy ok (by omega) a1 a4 (by omega) (.inl (show far < 2 by omega))
    exact ⟨s, S2, b1, by omega, b3, b4, b5.mono (by omega)⟩
  | succ m ih =>
    intro K n p B S far hK hf h hB
    obtain ⟨k, rfl⟩ : ∃ k, K = k + 1 := ⟨K - 1, by omega⟩
    have hp : 2 ^ (m + 1) = 2 * 2 ^ m := by rw [Nat.pow_succ]; omega
    have hp1 : 1 ≤ 2 ^ m := Nat.one_le_two_pow
    obtain ⟨w, S1, a1, a2, a3, a4⟩ := take ok (K := k) (many := 9) (by omega) h (by omega) (by decide) (by decide)
    by_cases hc : far < 2 ∨ w < 4
    · obtain ⟨s, S2, b1, b2, b3, b4, b5⟩ := leafy ok (by omega) a1 a4 (by omega) hc
      exact ⟨s, S2, b1, by omega, b3, b4, b5.mono (by omega)⟩
    · have hf2 : ¬ far < 2 := fun q => hc (.inl q)
      have hw4 : ¬ w < 4 := fun q => hc (.inr q)
      obtain ⟨b, S2, b1, b2, b3, b4⟩ := take ok (K := k) (many := 4) (by omega) a4.pot (by omega) (by decide) (by decide)
      obtain ⟨wd, z1, z2⟩ := in_lst (xs := [.str [112, 97, 105, 114], .str [98, 105, 110, 100], .str [109, 101, 110, 117], .str [112, 105, 99, 107]]) (S := S2) b2 b3
      obtain ⟨s1, S3, c1, c2, c3, c4, c5⟩ := ih k n p (B + 1 + 1) S2 (far - 1) (by omega) (by omega) b4.pot (by omega)
      obtain ⟨s2, S4, d1, d2, d3, d4, d5⟩ := ih k n p (B + 1 + 1 + (2 ^ m * 40 - 10)) S3 (far - 1) (by omega) (by omega) c5.pot (by omega)
      have dr := (((a4.trans b4).trans c5).trans d5).mono (B' := B + (2 ^ (m + 1) * 40 - 10)) (by omega)
      have fin' : callN Fs (k + 1) ix.saying [.ref n, .int far] S = .ok (.tup [wd, s1.d, s2.d]) S4 := by
        rw [call_eq ok.saying rfl]
        show outQ false S (evCs (callN Fs k) (b_saying ix) [some (.ref n), some (.int far), none, none, none, none] S) = _
        unfold b_saying
        refine (congrArg _ ((cs_step (c_asg_of (d := .int w) (S1 := S1) (by simp [ev_v, a1]))).trans ((cs_step (env' := [some (.ref n), some (.int far), some (.int w), none, none, none]) (S' := S1) (by simp [ev_v, hf2, hw4])).trans ((cs_step (c_asg_of (d := wd) (S1 := S2) (by simp [ev_v, ev_lst, b1, z2, most]))).trans (cs_ret_of (d := .tup [wd, s1.d, s2.d]) (S1 := S4) (by simp [ev_v, c1, d1, most])))))).trans ?_
        exact finP_data0 dr false
      have hmax : 1 + max s1.deep s2.deep ≤ m + 1 + 1 := by omega
      simp only [List.mem_cons, List.not_mem_nil, or_false] at z1
      rcases z1 with rfl | rfl | rfl | rfl
      · exact ⟨.pair s1 s2, S4, fin', hmax, ⟨c3, d3⟩, ⟨c4, d4⟩, dr⟩
      · exact ⟨.bind s1 s2, S4, fin', hmax, ⟨c3, d3⟩, ⟨c4, d4⟩, dr⟩
      · exact ⟨.menu s1 s2, S4, fin', hmax, ⟨c3, d3⟩, ⟨c4, d4⟩, dr⟩
      · exact ⟨.pick s1 s2, S4, fin', hmax, ⟨c3, d3⟩, ⟨c4, d4⟩, dr⟩
end KB
end
section
set_option maxRecDepth 100000
set_option exponentiation.threshold 3000
/-! KB3: what sayings are counted to, turned about. -/
namespace MP
open PySem
theorem ints_of' {α : Type} (f : α → Int) : ∀ as : List α, intsOf (as.map fun a => D.int (f a)) = some (as.map f)
  | [] => rfl
  | a :: as => by simp [intsOf, ints_of' f as]
theorem sum_lst {α : Type} {m : Bool} {S : Store} (f : α → Int) (as : List α) : bt m .sum [.lst (as.map fun a => D.int (f a))] S = .ok (.int (as.map f).sum) S := by
  simp [bt, lsOf, ints_of' f]
theorem max_lst {α : Type} {m : Bool} {S : Store} (f : α → Int) (a : α) (as : List α) : bt m .max2 [.lst ((a :: as).map fun a => D.int (f a))] S = .ok (.int ((as.map f).foldl max (f a))) S := by
  have e : ∀ xs : List D, bt m .max2 [.lst xs] S = match (lsOf S (.lst xs)).bind intsOf with
      | some (n :: ns) => .ok (.int (ns.foldl max n)) S
      | _ => .stuck := fun xs => rfl
  rw [e]
  simp only [lsOf, Option.bind_some]
  rw [ints_of' f (a :: as)]
  rfl
end MP
namespace KB
open PySem L2 MP
open QL (Say Nm Lt at0 at1)
variable {Fs : List Fn} {ix : Ix}
def tabO : List D := [.str [116, 104, 105, 110, 103], .str [100, 101, 98, 116], .str [112, 97, 105, 114], .str [98, 105, 110, 100], .str [109, 101, 110, 117], .str [112, 105, 99, 107], .str [111, 110, 101], .str [110, 111, 110, 101], .str [97, 108, 108], .str [110, 101, 118, 101, 114]]
theorem tabO_at {s : Say} (h : Sp s) (S : Store) : ∃ i : Int, MP.mt .index (.lst tabO) [.str s.w] S = .ok (.int i) S ∧ okMul 2 (i % 2) = true ∧ atD (.lst tabO) (.int (i + 1 - 2 * (i % 2))) S = .ok (.str s.turn.w) S := by
  cases s with
  | thing => exact ⟨0, by simp [MP.mt, lsOf, isFlat, findD, Say.w, tabO, List.findIdx?_cons], by decide, rfl⟩
  | debt => exact ⟨1, by simp [MP.mt, lsOf, isFlat, findD, Say.w, tabO, List.findIdx?_cons], by decide, rfl⟩
  | pair => exact ⟨2, by simp [MP.mt, lsOf, isFlat, findD, Say.w, tabO, List.findIdx?_cons], by decide, rfl⟩
  | bind => exact ⟨3, by simp [MP.mt, lsOf, isFlat, findD, Say.w, tabO, List.findIdx?_cons], by decide, rfl⟩
  | menu => exact ⟨4, by simp [MP.mt, lsOf, isFlat, findD, Say.w, tabO, List.findIdx?_cons], by decide, rfl⟩
  | pick => exact ⟨5, by simp [MP.mt, lsOf, isFlat, findD, Say.w, tabO, List.findIdx?_cons], by decide, rfl⟩
  | one => exact ⟨6, by simp [MP.mt, lsOf, isFlat, findD, Say.w, tabO, List.findIdx?_cons], by decide, rfl⟩
  | none => exact ⟨7, by simp [MP.mt, lsOf, isFlat, findD, Say.w, tabO, List.findIdx?_cons], by decide, rfl⟩
  | all => exact ⟨8, by simp [MP.mt, lsOf, isFlat, findD, Say.w, tabO, List.findIdx?_cons], by decide, rfl⟩
  | never => exact ⟨9, by simp [MP.mt, lsOf, isFlat, findD, Say.w, tabO, List.findIdx?_cons], by decide, rfl⟩
  | keep => exact h.elim
  | draw => exact h.elim
theorem other (ok : OkA Fs ix) {K : Nat} {s : Say} {S : Store} (hK : 1 ≤ K) (h : Sp s) : callN Fs K ix.other [.str s.w] S = .ok (.str s.turn.w) S := by
  obtain ⟨k, rfl⟩ : ∃ k, K = k + 1 := ⟨K - 1, by omega⟩
  rw [call_eq ok.other rfl]
  show outQ false S (evCs (callN Fs k) (b_other ix) [some (.str s.w), none, none] S) = _
  obtain ⟨i, t1, t2, t3⟩ := tabO_at h S
  unfold tabO at t1 t3
  simp [b_other, ev_v, ev_lst, most, t1, t2, t3]
theorem sp_parts {s p : Say} (h : Sp s) (hp : p ∈ s.parts) : Sp p := by
  cases s <;> simp only [Say.parts, List.mem_cons, List.not_mem_nil, or_false] at hp <;> first | (rcases hp with rfl | rfl <;> first | exact h.1 | exact h.2) | exact h.elim
theorem leaf_shape {s : Say} (hl : s.isLeaf = true) : ∃ x, s.d = .tup [.str s.w, .str x] ∧ s.turn.d = .tup [.str s.turn.w, .str x] ∧ (decide (s.w = [116, 104, 105, 110, 103]) || decide (s.w = [100, 101, 98, 116])) = true ∧ s.words = 1 ∧ s.deep = 1 := by
  cases s <;> first | (cases hl; done) | exact ⟨_, rfl, rfl, rfl, rfl, rfl⟩
theorem cut1 {s : Say} : cutL (D.str s.w :: s.parts.map Say.d) (some 1) none = s.parts.map Say.d := by rw [cutL_drop (by omega)]; rfl
theorem about (ok : OkA Fs ix) : ∀ (m K : Nat) (s : Say) (S : Store), s.deep ≤ m → m + 1 ≤ K → Sp s → callN Fs K ix.about [s.d] S = .ok s.turn.d S := by
  intro m
  induction m with
  | zero => intro K s S h; have := s.pos; omega
  | succ m ih =>
    intro K s S h hK hs
    obtain ⟨k, rfl⟩ : ∃ k, K = k + 1 := ⟨K - 1, by omega⟩
    rw [call_eq ok.about rfl]
    show outQ false S (evCs (callN Fs k) (b_about ix) [some s.d, none] S) = _
    have o := other ok (K := k) (S := S) (by omega) hs
    cases hl : s.isLeaf with
    | true =>
      obtain ⟨x, e1, e2, e3, _⟩ := leaf_shape hl
      rw [e1, e2]
      simp [b_about, ev_v, most, at0, at1, o, e3]
    | false =>
      have hno := Say.leaf_no (s := s) hl
      rw [Say.d_eq hl, Say.turn_parts hl]
      have cm : ∀ u, evE (callN Fs k) (.comp false (.call ix.about [(.var 1)]) (.nm 1) (.seq (.slc false (.var 0) (some (.lit (.int (1)))) none)) [] [1]) [some (.tup (.str s.w :: s.parts.map Say.d)), u] S = .ok (.lst (s.parts.map fun p => p.turn.d)) S := fun u =>
        ev_comp_map (as := s.parts) Say.d (fun p => p.turn.d) (seq_tup (by simp [ev_v, cut1])) (fun p hp S => by
          have := Say.parts_lt hp
          simp [wipeE, ev_v, ih k p S (by omega) (by omega) (sp_parts hs hp)]) (fun p _ => p.turn.data) (by have := s.parts_few; simp [most]; omega)
      have hfew : s.parts.length + 1 ≤ 1000000 := by have := s.parts_few; omega
      simp [b_about, ev_v, most, at0, o, hno, cm, hfew, Nat.add_comm 1]
theorem words_parts {s : Say} (hl : s.isLeaf = false) : (s.words : Int) = 1 + (s.parts.map fun p => (p.words : Int)).sum := by
  cases s <;> first | (cases hl; done) | (simp [Say.words, Say.parts]; try omega)
theorem many (ok : OkA Fs ix) : ∀ (m K : Nat) (s : Say) (S : Store), s.deep ≤ m → m ≤ K → callN Fs K ix.many [s.d] S = .ok (.int s.words) S := by
  intro m
  induction m with
  | zero => intro K s S h; have := s.pos; omega
  | succ m ih =>
    intro K s S h hK
    obtain ⟨k, rfl⟩ : ∃ k, K = k + 1 := ⟨K - 1, by omega⟩
    rw [call_eq ok.many rfl]
    show outQ false S (evCs (callN Fs k) (b_many ix) [some s.d, none] S) = _
    cases hl : s.isLeaf with
    | true =>
      obtain ⟨x, e1, e2, e3, e4, e5⟩ := leaf_shape hl
      rw [e1, e4]
      simp [b_many, ev_v, most, at0, at1, e3]
    | false =>
      have hno := Say.leaf_no (s := s) hl
      rw [Say.d_eq hl, words_parts hl]
      have cm : ∀ u, evE (callN Fs k) (.comp false (.call ix.many [(.var 1)]) (.nm 1) (.seq (.slc false (.var 0) (some (.lit (.int (1)))) none)) [] [1]) [some (.tup (.str s.w :: s.parts.map Say.d)), u] S = .ok (.lst (s.parts.map fun p => D.int (p.words : Int))) S := fun u =>
        ev_comp_map (as := s.parts) Say.d (fun p => D.int (p.words : Int)) (seq_tup (by simp [ev_v, cut1])) (fun p hp S => by
          have := Say.parts_lt hp
          simp [wipeE, ev_v, ih k p S (by omega) (by omega)]) (fun p _ => rfl) (by have := s.parts_few; simp [most]; omega)
      have sm := sum_lst (m := false) (S := S) (fun p : Say => (p.words : Int)) s.parts
      simp [b_many, ev_v, most, at0, hno, cm, sm]
theorem deep_parts {s : Say} (hl : s.isLeaf = false) : (s.parts = [] ∧ s.deep = 1) ∨ ∃ a as, s.parts = a :: as ∧ (s.deep : Int) = 1 + (as.map fun p => (p.deep : Int)).foldl max (a.deep : Int) := by
  cases s <;> first | (cases hl; done) | exact .inl ⟨rfl, rfl⟩ | (refine .inr ⟨_, _, rfl, ?_⟩; simp [Say.deep]; try omega)
theorem deep (ok : OkA Fs ix) : ∀ (m K : Nat) (s : Say) (S : Store), s.deep ≤ m → m ≤ K → callN Fs K ix.deep [s.d] S = .ok (.int s.deep) S := by
  intro m
  induction m with
  | zero => intro K s S h; have := s.pos; omega
  | succ m ih =>
    intro K s S h hK
    obtain ⟨k, rfl⟩ : ∃ k, K = k + 1 := ⟨K - 1, by omega⟩
    rw [call_eq ok.deep rfl]
    show outQ false S (evCs (callN Fs k) (b_deep ix) [some s.d, none] S) = _
    cases hl : s.isLeaf with
    | true =>
      obtain ⟨x, e1, e2, e3, e4, e5⟩ := leaf_shape hl
      rw [e1, e5]
      simp [b_deep, ev_v, most, at0, at1, e3]
    | false =>
      have hno := Say.leaf_no (s := s) hl
      rcases deep_parts hl with ⟨e1, e2⟩ | ⟨a, as, e1, e2⟩
      · rw [Say.d_eq hl, e1, e2]
        simp [b_deep, ev_v, most, at0, hno]
      · rw [Say.d_eq hl, e2]
        have cm : ∀ u, evE (callN Fs k) (.comp false (.call ix.deep [(.var 1)]) (.nm 1) (.seq (.slc false (.var 0) (some (.lit (.int (1)))) none)) [] [1]) [some (.tup (.str s.w :: s.parts.map Say.d)), u] S = .ok (.lst (s.parts.map fun p => D.int (p.deep : Int))) S := fun u =>
          ev_comp_map (as := s.parts) Say.d (fun p => D.int (p.deep : Int)) (seq_tup (by simp [ev_v, cut1])) (fun p hp S => by
            have := Say.parts_lt hp
            simp [wipeE, ev_v, ih k p S (by omega) (by omega)]) (fun p _ => rfl) (by have := s.parts_few; simp [most]; omega)
        have sm := max_lst (m := false) (S := S) (fun p : Say => (p.deep : Int)) a as
        have l2 : ¬ ((as.length : Int) + 1 + 1 = 1) := by omega
        rw [e1] at cm ⊢
        simp only [List.map_cons] at cm sm ⊢
        simp [b_deep, ev_v, most, at0, hno, l2, cm, sm]
end KB
end
section
set_option maxRecDepth 100000
set_option exponentiation.threshold 3000
/-! KB4: accounts; what fits. -/
namespace KB
open PySem L2 MP
open QL (Say Nm Lt at0 at1)
variable {Fs : List Fn} {ix : Ix}
def fitB (ss : List Say) : Bool := decide (ss.length < 9) && (decide ((ss.map fun s => (s.words : Int)).sum < 25) && ss.all fun s => decide (s.deep < 7))
theorem fits (ok : OkA Fs ix) {K m : Nat} {ss : List Say} {S : Store} (hK : m + 1 ≤ K) (h : ∀ s ∈ ss, s.deep ≤ m) (hl : ss.length ≤ 1000) : callN Fs K ix.fits [.tup (ss.map Say.d)] S = .ok (.bl (fitB ss)) S := by
  obtain ⟨k, rfl⟩ : ∃ k, K = k + 1 := ⟨K - 1, by omega⟩
  rw [call_eq ok.fits rfl]
  show outQ false S (evCs (callN Fs k) (b_fits ix) [some (.tup (ss.map Say.d)), none, none] S) = _
  have c1 : evE (callN Fs k) (.comp false (.call ix.many [(.var 2)]) (.nm 2) (.seq (.var 0)) [] [2]) [some (.tup (ss.map Say.d)), none, none] S = .ok (.lst (ss.map fun p => D.int (p.words : Int))) S :=
    ev_comp_map (as := ss) Say.d (fun p => D.int (p.words : Int)) (seq_tup (by simp [ev_v])) (fun p hp S => by
      simp [wipeE, ev_v, many ok m k p S (h p hp) (by omega)]) (fun p _ => rfl) (by unfold most; omega)
  have c2 : ∀ u, evE (callN Fs k) (.comp false (.cmp .lt (.call ix.deep [(.var 2)]) (.lit (.int (7)))) (.nm 2) (.seq (.var 0)) [] [2]) [some (.tup (ss.map Say.d)), some (.int u), none] S = .ok (.lst (ss.map fun p => D.bl (decide ((p.deep : Int) < 7)))) S := fun u =>
    ev_comp_map (as := ss) Say.d (fun p => D.bl (decide ((p.deep : Int) < 7))) (seq_tup (by simp [ev_v])) (fun p hp S => by
      simp [wipeE, ev_v, deep ok m k p S (h p hp) (by omega)]) (fun p _ => rfl) (by unfold most; omega)
  have sm := sum_lst (m := false) (S := S) (fun p : Say => (p.words : Int)) ss
  have al := QL.all_lst (m := false) (S := S) (fun p : Say => decide ((p.deep : Int) < 7)) ss
  have e7 : (ss.all fun s => decide (s.deep < 7)) = ss.all fun p => decide ((p.deep : Int) < 7) := by
    congr 1
    funext s
    exact decide_eq_decide.mpr (by omega)
  unfold b_fits
  refine (congrArg _ ((cs_step (c_asg_of (d := .int (ss.map fun s => (s.words : Int)).sum) (S1 := S) (by simp [c1, sm]))).trans (cs_ret_of (d := .bl (fitB ss)) (S1 := S) ?_))).trans (by simp)
  unfold fitB
  by_cases h1 : ss.length < 9
  · have h1' : (ss.length : Int) < 9 := by omega
    by_cases h2 : (ss.map fun s => (s.words : Int)).sum < 25
    · simp only [ev_and, ev_cmp, ev_blt, evs_cons, evs_nil, ev_v, List.set_cons_succ, List.set_cons_zero, List.getElem?_cons_zero, List.getElem?_cons_succ, R.bind_ok, len_tup, List.length_map, ev_lit, cp_lt_ii, decide_eq_true h1', decide_eq_true h1, test_bl, decide_eq_true h2, c2, al, e7, Bool.true_and]
    · simp only [ev_and, ev_cmp, ev_blt, evs_cons, evs_nil, ev_v, List.set_cons_succ, List.set_cons_zero, List.getElem?_cons_zero, List.getElem?_cons_succ, R.bind_ok, len_tup, List.length_map, ev_lit, cp_lt_ii, decide_eq_true h1', decide_eq_true h1, test_bl, decide_eq_false h2, Bool.true_and, Bool.false_and]
  · have h1' : ¬ (ss.length : Int) < 9 := by omega
    simp only [ev_and, ev_cmp, ev_blt, evs_cons, evs_nil, ev_v, List.set_cons_succ, List.set_cons_zero, List.getElem?_cons_zero, List.getElem?_cons_succ, R.bind_ok, len_tup, List.length_map, ev_lit, cp_lt_ii, decide_eq_false h1', decide_eq_false h1, test_bl, Bool.false_and]
/-- accounts, as they are drawn here -/
inductive Acc where
  | tie | one | all (i : Int) | none (i : Int) (a : Acc) | bind (i : Int) (a : Acc) | pair (i : Int) (ps : List Int) (a b : Acc) | menu (i : Int) (a b : Acc) | pick (i s : Int) (a : Acc) | cut (s : Say) (ps : List Int) (a b : Acc)
  deriving Inhabited
def Acc.d : Acc → D
  | .tie => .tup [.str [116, 105, 101]]
  | .one => .tup [.str [111, 110, 101]]
  | .all i => .tup [.str [97, 108, 108], .int i]
  | .none i a => .tup [.str [110, 111, 110, 101], .int i, a.d]
  | .bind i a => .tup [.str [98, 105, 110, 100], .int i, a.d]
  | .pair i ps a b => .tup [.str [112, 97, 105, 114], .int i, .tup (ps.map D.int), a.d, b.d]
  | .menu i a b => .tup [.str [109, 101, 110, 117], .int i, a.d, b.d]
  | .pick i s a => .tup [.str [112, 105, 99, 107], .int i, .int s, a.d]
  | .cut s ps a b => .tup [.str [99, 117, 116], s.d, .tup (ps.map D.int), a.d, b.d]
def Acc.kids : Acc → List Acc
  | .none _ a => [a]
  | .bind _ a => [a]
  | .pair _ _ a b => [a, b]
  | .menu _ a b => [a, b]
  | .pick _ _ a => [a]
  | .cut _ _ a b => [a, b]
  | _ => []
def Acc.size : Acc → Nat
  | .none _ a => 1 + a.size
  | .bind _ a => 1 + a.size
  | .pair _ _ a b => 1 + a.size + b.size
  | .menu _ a b => 1 + a.size + b.size
  | .pick _ _ a => 1 + a.size
  | .cut _ _ a b => 1 + a.size + b.size
  | _ => 1
def Acc.deep : Acc → Nat
  | .none _ a => 1 + a.deep
  | .bind _ a => 1 + a.deep
  | .pair _ _ a b => 1 + max a.deep b.deep
  | .menu _ a b => 1 + max a.deep b.deep
  | .pick _ _ a => 1 + a.deep
  | .cut _ _ a b => 1 + max a.deep b.deep
  | _ => 1
def Acc.Ok : Acc → Prop
  | .none _ a => a.Ok
  | .bind _ a => a.Ok
  | .pair _ _ a b => a.Ok ∧ b.Ok
  | .menu _ a b => a.Ok ∧ b.Ok
  | .pick _ _ a => a.Ok
  | .cut s _ a b => (s.Ok ∧ Sp s ∧ s.deep ≤ 6) ∧ a.Ok ∧ b.Ok
  | _ => True
theorem Acc.deep_size : ∀ a : Acc, a.deep ≤ a.size
  | .tie => Nat.le_refl _
  | .one => Nat.le_refl _
  | .all _ => Nat.le_refl _
  | .none _ a => by have := a.deep_size; simp only [Acc.deep, Acc.size]; omega
  | .bind _ a => by have := a.deep_size; simp only [Acc.deep, Acc.size]; omega
  | .pair _ _ a b => by have := a.deep_size; have := b.deep_size; simp only [Acc.deep, Acc.size]; omega
  | .menu _ a b => by have := a.deep_size; have := b.deep_size; simp only [Acc.deep, Acc.size]; omega
  | .pick _ _ a => by have := a.deep_size; simp only [Acc.deep, Acc.size]; omega
  | .cut _ _ a b => by have := a.deep_size; have := b.deep_size; simp only [Acc.deep, Acc.size]; omega
theorem Acc.pos : ∀ a : Acc, 1 ≤ a.deep := fun a => by cases a <;> simp [Acc.deep] <;> omega
theorem ints_data (ps : List Int) : dataAll (ps.map D.int) = true := by induction ps <;> simp_all [dataAll, D.data]
theorem Acc.data : ∀ a : Acc, a.d.data = true
  | .tie => rfl
  | .one => rfl
  | .all _ => rfl
  | .none _ a => by simp [Acc.d, D.data, dataAll, a.data]
  | .bind _ a => by simp [Acc.d, D.data, dataAll, a.data]
  | .pair _ ps a b => by simp [Acc.d, D.data, dataAll, a.data, b.data, ints_data]
  | .menu _ a b => by simp [Acc.d, D.data, dataAll, a.data, b.data]
  | .pick _ _ a => by simp [Acc.d, D.data, dataAll, a.data]
  | .cut s ps a b => by simp [Acc.d, D.data, dataAll, a.data, b.data, s.data, ints_data]
theorem Acc.kids_lt {a b : Acc} (h : b ∈ a.kids) : b.deep < a.deep := by
  cases a <;> simp only [Acc.kids, List.mem_cons, List.not_mem_nil, or_false] at h <;> (first | (rcases h with rfl | rfl) | subst h) <;> simp only [Acc.deep] <;> omega
theorem Acc.kids_few {a : Acc} : a.kids.length ≤ 2 := by cases a <;> simp [Acc.kids]
theorem Acc.size_kids (a : Acc) : (a.size : Int) = 1 + (a.kids.map fun p => (p.size : Int)).sum := by
  cases a <;> simp [Acc.size, Acc.kids] <;> omega
theorem Acc.kids_ok {a b : Acc} (h : a.Ok) (hb : b ∈ a.kids) : b.Ok := by
  cases a <;> simp only [Acc.kids, List.mem_cons, List.not_mem_nil, or_false] at hb <;> first | (rcases hb with rfl | rfl <;> first | exact h.1 | exact h.2 | exact h.2.1 | exact h.2.2) | (subst hb; exact h)
end KB
end
section
set_option maxRecDepth 100000
set_option exponentiation.threshold 3000
/-! KB5: what accounts are counted to; mirrors. -/
namespace KB
open PySem L2 MP
open QL (Say Nm Lt at0 at1)
variable {Fs : List Fn} {ix : Ix}
def qx (ix : Ix) : QL.Ix := { parts_of := ix.parts_of, words_of := ix.words_of, signsP := ix.signsP }
theorem qok (ok : OkP Fs ix) : QL.OkP3 Fs (qx ix) := ⟨ok.parts_of, ok.words_of, ok.signsP⟩
theorem signs (ok : OkP Fs ix) {m K : Nat} {s : Say} {S : Store} (hs : s.deep ≤ m) (hK : m + 2 ≤ K) (hw : s.words ≤ 10000) : callN Fs K ix.signsP [s.d] S = .ok (.int s.words) S := QL.signs (qok ok) hs hK hw
/-- the list from which an account's parts stand -/
def Acc.w : Acc → List Nat
  | .tie => [116, 105, 101]
  | .one => [111, 110, 101]
  | .all _ => [97, 108, 108]
  | .none _ _ => [110, 111, 110, 101]
  | .bind _ _ => [98, 105, 110, 100]
  | .pair _ _ _ _ => [112, 97, 105, 114]
  | .menu _ _ _ => [109, 101, 110, 117]
  | .pick _ _ _ => [112, 105, 99, 107]
  | .cut _ _ _ _ => [99, 117, 116]
/-- what stands ahead of the parts -/
def Acc.pre : Acc → List D
  | .tie => [.str [116, 105, 101]]
  | .one => [.str [111, 110, 101]]
  | .all i => [.str [97, 108, 108], .int i]
  | .none i _ => [.str [110, 111, 110, 101], .int i]
  | .bind i _ => [.str [98, 105, 110, 100], .int i]
  | .pair i ps _ _ => [.str [112, 97, 105, 114], .int i, .tup (ps.map D.int)]
  | .menu i _ _ => [.str [109, 101, 110, 117], .int i]
  | .pick i s _ => [.str [112, 105, 99, 107], .int i, .int s]
  | .cut s ps _ _ => [.str [99, 117, 116], s.d, .tup (ps.map D.int)]
theorem Acc.d_eq (a : Acc) : a.d = .tup (a.pre ++ a.kids.map Acc.d) := by cases a <;> rfl
theorem Acc.pre_w (a : Acc) : ∃ r, a.pre = .str a.w :: r := by cases a <;> exact ⟨_, rfl⟩
theorem Acc.at0 (a : Acc) (S : Store) : atD a.d (.int 0) S = .ok (.str a.w) S := by
  obtain ⟨r, e⟩ := a.pre_w
  rw [a.d_eq, e]
  exact tup0
where tup0 {x : D} {xs : List D} {S : Store} : atD (.tup (x :: xs)) (.int 0) S = .ok x S := at_tup (n := 0) (by unfold ixn; simp) rfl
theorem Acc.cut_at (a : Acc) : cutL (a.pre ++ a.kids.map Acc.d) (some (a.pre.length : Int)) Option.none = a.kids.map Acc.d := by
  rw [cutL_drop (by omega)]
  simp
def dAb : List (D × D) := [(.str [116, 105, 101], .int 0), (.str [111, 110, 101], .int 0), (.str [97, 108, 108], .int 0), (.str [112, 97, 105, 114], .int 2), (.str [109, 101, 110, 117], .int 2), (.str [99, 117, 116], .int 2)]
theorem Acc.get_ab (a : Acc) (S : Store) : MP.mt .get (.dct dAb) [.str a.w, .int 1] S = .ok (.int (a.kids.length : Int)) S := by cases a <;> rfl
theorem above (ok : OkA Fs ix) {K : Nat} {a : Acc} {S : Store} (hK : 1 ≤ K) : callN Fs K ix.above [a.d] S = .ok (.tup (a.kids.map Acc.d)) S := by
  obtain ⟨k, rfl⟩ : ∃ k, K = k + 1 := ⟨K - 1, by omega⟩
  rw [call_eq ok.above rfl]
  show outQ false S (evCs (callN Fs k) (b_above ix) [some a.d] S) = _
  have dd := fun (env : MP.Env) (S : Store) => ev_dict (call := callN Fs k) (env := env) (es := [(.lit (.str [116, 105, 101])), (.lit (.int (0))), (.lit (.str [111, 110, 101])), (.lit (.int (0))), (.lit (.str [97, 108, 108])), (.lit (.int (0))), (.lit (.str [112, 97, 105, 114])), (.lit (.int (2))), (.lit (.str [109, 101, 110, 117])), (.lit (.int (2))), (.lit (.str [99, 117, 116])), (.lit (.int (2)))])
    (ds := [.str [116, 105, 101], .int 0, .str [111, 110, 101], .int 0, .str [97, 108, 108], .int 0, .str [112, 97, 105, 114], .int 2, .str [109, 101, 110, 117], .int 2, .str [99, 117, 116], .int 2]) (kvs := dAb) (fun S => by simp) rfl rfl (by decide) rfl S
  have rd : mtRdy .get (.dct dAb) S = true := rfl
  have l : bt false .len [a.d] S = .ok (.int ((a.pre.length : Int) + a.kids.length)) S := by rw [a.d_eq]; simp
  have sl : slice false a.d (some ((a.pre.length : Int) + a.kids.length - a.kids.length)) none S = .ok (.tup (a.kids.map Acc.d)) S := by
    have e : (a.pre.length : Int) + a.kids.length - a.kids.length = a.pre.length := by omega
    rw [e, a.d_eq, slice_tup, a.cut_at]
  unfold b_above
  refine (congrArg _ (cs_ret_of (d := .tup (a.kids.map Acc.d)) (S1 := S) ?_)).trans (by simp)
  simp only [ev_slc, ev_v, List.getElem?_cons_zero, R.bind_ok, evO_some, evO_none, ev_bin, ev_blt, evs_cons, evs_nil, l, ev_meth, dd, rd, ev_idx, ev_lit, a.at0, a.get_ab, op_sub_ii, sl]
theorem Acc.get_hl (a : Acc) : t_HEAD_LONG.lookup a.w = some (.int a.pre.length) := by cases a <;> rfl
theorem proofs_above (ok : OkP Fs ix) {K : Nat} {a : Acc} {S : Store} (hK : 1 ≤ K) : callN Fs K ix.proofs_above [a.d] S = .ok (.tup (a.kids.map Acc.d)) S := by
  obtain ⟨k, rfl⟩ : ∃ k, K = k + 1 := ⟨K - 1, by omega⟩
  rw [call_eq ok.proofs_above rfl]
  show outQ false S (evCs (callN Fs k) (b_proofs_above ix) [some a.d] S) = _
  have sl : slice false a.d (some (a.pre.length : Int)) none S = .ok (.tup (a.kids.map Acc.d)) S := by rw [a.d_eq, slice_tup, a.cut_at]
  unfold b_proofs_above
  refine (congrArg _ (cs_ret_of (d := .tup (a.kids.map Acc.d)) (S1 := S) ?_)).trans (by simp)
  simp only [ev_slc, ev_v, List.getElem?_cons_zero, R.bind_ok, evO_some, evO_none, ev_idx, ev_glob, ev_lit, a.at0, at_tab, a.get_hl, Fl.d, sl]
theorem size (ok : OkA Fs ix) : ∀ (m K : Nat) (a : Acc) (S : Store), a.deep ≤ m → m + 1 ≤ K → callN Fs K ix.size [a.d] S = .ok (.int a.size) S := by
  intro m
  induction m with
  | zero => intro K a S h; have := a.pos; omega
  | succ m ih =>
    intro K a S h hK
    obtain ⟨k, rfl⟩ : ∃ k, K = k + 1 := ⟨K - 1, by omega⟩
    rw [call_eq ok.size rfl]
    show outQ false S (evCs (callN Fs k) (b_size ix) [some a.d, none] S) = _
    have cm : evE (callN Fs k) (.comp false (.call ix.size [(.var 1)]) (.nm 1) (.seq (.call ix.above [(.var 0)])) [] [1]) [some a.d, none] S = .ok (.lst (a.kids.map fun p => D.int (p.size : Int))) S :=
      ev_comp_map (as := a.kids) Acc.d (fun p => D.int (p.size : Int)) (seq_tup (by simp [ev_v, above ok (K := k) (by omega)])) (fun p hp S => by
        have := Acc.kids_lt hp
        simp [wipeE, ev_v, ih k p S (by omega) (by omega)]) (fun p _ => rfl) (by have := a.kids_few; simp [most]; omega)
    have sm := sum_lst (m := false) (S := S) (fun p : Acc => (p.size : Int)) a.kids
    rw [a.size_kids]
    simp [b_size, ev_v, cm, sm]
theorem steps (ok : OkP Fs ix) : ∀ (m K : Nat) (a : Acc) (S : Store), a.deep ≤ m → m + 1 ≤ K → callN Fs K ix.steps [a.d] S = .ok (.int a.size) S := by
  intro m
  induction m with
  | zero => intro K a S h; have := a.pos; omega
  | succ m ih =>
    intro K a S h hK
    obtain ⟨k, rfl⟩ : ∃ k, K = k + 1 := ⟨K - 1, by omega⟩
    rw [call_eq ok.steps rfl]
    show outQ false S (evCs (callN Fs k) (b_steps ix) [some a.d, none] S) = _
    have cm : evE (callN Fs k) (.comp false (.call ix.steps [(.var 1)]) (.nm 1) (.seq (.call ix.proofs_above [(.var 0)])) [] [1]) [some a.d, none] S = .ok (.lst (a.kids.map fun p => D.int (p.size : Int))) S :=
      ev_comp_map (as := a.kids) Acc.d (fun p => D.int (p.size : Int)) (seq_tup (by simp [ev_v, proofs_above ok (K := k) (by omega)])) (fun p hp S => by
        have := Acc.kids_lt hp
        simp [wipeE, ev_v, ih k p S (by omega) (by omega)]) (fun p _ => rfl) (by have := a.kids_few; simp [most]; omega)
    have sm := sum_lst (m := false) (S := S) (fun p : Acc => (p.size : Int)) a.kids
    rw [a.size_kids]
    simp [b_steps, ev_v, cm, sm]
end KB
end
section
set_option maxRecDepth 100000
set_option exponentiation.threshold 3000
/-! KB6: mirrors. -/
namespace KB
open PySem L2 MP
open QL (Say Nm Lt at0 at1)
variable {Fs : List Fn} {ix : Ix}
def mir : Say → Acc
  | .one => .none 1 .one
  | .none => .none 0 .one
  | .all => .all 0
  | .never => .all 1
  | .pair a b => .bind 1 (.pair 0 [1] (mir a) (mir b))
  | .bind a b => .bind 0 (.pair 2 [0] (mir a) (mir b))
  | .menu a b => .menu 0 (.pick 1 0 (mir a)) (.pick 1 1 (mir b))
  | .pick a b => .menu 1 (.pick 0 0 (mir a)) (.pick 0 1 (mir b))
  | _ => .tie
theorem mir_ok : ∀ s : Say, (mir s).Ok
  | .one => trivial
  | .none => trivial
  | .all => trivial
  | .never => trivial
  | .pair a b => ⟨mir_ok a, mir_ok b⟩
  | .bind a b => ⟨mir_ok a, mir_ok b⟩
  | .menu a b => ⟨mir_ok a, mir_ok b⟩
  | .pick a b => ⟨mir_ok a, mir_ok b⟩
  | .thing _ => trivial
  | .debt _ => trivial
  | .keep _ => trivial
  | .draw _ => trivial
theorem mir_size : ∀ s : Say, (mir s).size ≤ 3 * s.words
  | .one => by simp [mir, Acc.size, Say.words]
  | .none => by simp [mir, Acc.size, Say.words]
  | .all => by simp [mir, Acc.size, Say.words]
  | .never => by simp [mir, Acc.size, Say.words]
  | .pair a b => by have := mir_size a; have := mir_size b; simp [mir, Acc.size, Say.words]; omega
  | .bind a b => by have := mir_size a; have := mir_size b; simp [mir, Acc.size, Say.words]; omega
  | .menu a b => by have := mir_size a; have := mir_size b; simp [mir, Acc.size, Say.words]; omega
  | .pick a b => by have := mir_size a; have := mir_size b; simp [mir, Acc.size, Say.words]; omega
  | .thing _ => by simp [mir, Acc.size, Say.words]
  | .debt _ => by simp [mir, Acc.size, Say.words]
  | .keep _ => by simp [mir, Acc.size, Say.words]; omega
  | .draw _ => by simp [mir, Acc.size, Say.words]; omega
def dMi : List (D × D) := [(.str [111, 110, 101], .tup [.str [110, 111, 110, 101], .int 1, .tup [.str [111, 110, 101]]]), (.str [110, 111, 110, 101], .tup [.str [110, 111, 110, 101], .int 0, .tup [.str [111, 110, 101]]])]
theorem at2 {x y z : D} {xs : List D} {S : Store} : atD (.tup (x :: y :: z :: xs)) (.int 2) S = .ok z S := at_tup (n := 2) (by unfold ixn; simp; omega) rfl
theorem mirror (ok : OkA Fs ix) : ∀ (m K : Nat) (s : Say) (S : Store), s.deep ≤ m → m ≤ K → Sp s → callN Fs K ix.mirror [s.d] S = .ok (mir s).d S := by
  intro m
  induction m with
  | zero => intro K s S h; have := s.pos; omega
  | succ m ih =>
    intro K s S h hK hs
    obtain ⟨k, rfl⟩ : ∃ k, K = k + 1 := ⟨K - 1, by omega⟩
    rw [call_eq ok.mirror rfl]
    show outQ false S (evCs (callN Fs k) (b_mirror ix) [some s.d, none, none, none, none] S) = _
    have dd := fun (env : MP.Env) (S : Store) => ev_dict (call := callN Fs k) (env := env) (es := [(.lit (.str [111, 110, 101])), (.tup [(.lit (.str [110, 111, 110, 101])), (.lit (.int (1))), (.tup [(.lit (.str [111, 110, 101]))])]), (.lit (.str [110, 111, 110, 101])), (.tup [(.lit (.str [110, 111, 110, 101])), (.lit (.int (0))), (.tup [(.lit (.str [111, 110, 101]))])])])
      (ds := [.str [111, 110, 101], .tup [.str [110, 111, 110, 101], .int 1, .tup [.str [111, 110, 101]]], .str [110, 111, 110, 101], .tup [.str [110, 111, 110, 101], .int 0, .tup [.str [111, 110, 101]]]]) (kvs := dMi) (fun S => by simp [most]) rfl rfl (by decide) rfl S
    have rd : mtRdy .get (.dct dMi) S = true := rfl
    have g1 : ∀ e, MP.mt .get (.dct dMi) [.str [111, 110, 101], e] S = .ok (Acc.none 1 .one).d S := fun e => rfl
    have g2 : ∀ e, MP.mt .get (.dct dMi) [.str [110, 111, 110, 101], e] S = .ok (Acc.none 0 .one).d S := fun e => rfl
    have g3 : ∀ e, MP.mt .get (.dct dMi) [.str [97, 108, 108], e] S = .ok e S := fun e => rfl
    have g4 : ∀ e, MP.mt .get (.dct dMi) [.str [110, 101, 118, 101, 114], e] S = .ok e S := fun e => rfl
    have two' : ∀ (a b : Say) (w : List Nat), s.d = .tup [.str w, a.d, b.d] → a.deep ≤ m → b.deep ≤ m → Sp a → Sp b → (decide (w = [116, 104, 105, 110, 103]) || decide (w = [100, 101, 98, 116])) = false →
        evCs (callN Fs k) (b_mirror ix) [some s.d, none, none, none, none] S = evCs (callN Fs k) ((b_mirror ix).drop 4) [some s.d, some (.str w), none, some (mir a).d, some (mir b).d] S := fun a b w e d1 d2 o1 o2 hw => by
      have i1 := ih k a S d1 (by omega) o1
      have i2 := ih k b S d2 (by omega) o2
      rw [e]
      unfold b_mirror
      rw [cs_step (c_asg_of (d := .str w) (S1 := S) (by simp [ev_v, at0]))]
      rw [cs_step (env' := [some (.tup [.str w, a.d, b.d]), some (.str w), none, none, none]) (S' := S) (by simp [ev_v, hw, most])]
      rw [cs_step (env' := [some (.tup [.str w, a.d, b.d]), some (.str w), none, none, none]) (S' := S) (by simp [ev_v])]
      rw [cs_step (env' := [some (.tup [.str w, a.d, b.d]), some (.str w), none, some (mir a).d, some (mir b).d]) (S' := S) (by simp [ev_v, at1, at2, i1, i2, setMany])]
      rfl
    cases s with
    | thing x => simp [b_mirror, ev_v, Say.d, mir, Acc.d, at0, most]
    | debt x => simp [b_mirror, ev_v, Say.d, mir, Acc.d, at0, most]
    | one => simp [b_mirror, ev_v, Say.d, mir, at0, most, dd, rd, g1]
    | none => simp [b_mirror, ev_v, Say.d, mir, at0, most, dd, rd, g2]
    | all => simp [b_mirror, ev_v, Say.d, mir, at0, most, dd, rd, g3, Acc.d]
    | never => simp [b_mirror, ev_v, Say.d, mir, at0, most, dd, rd, g4, Acc.d]
    | pair a b =>
      simp only [Say.deep] at h
      rw [two' a b _ rfl (by omega) (by omega) hs.1 hs.2 rfl]
      simp [b_mirror, ev_v, mir, Acc.d, most]
    | bind a b =>
      simp only [Say.deep] at h
      rw [two' a b _ rfl (by omega) (by omega) hs.1 hs.2 rfl]
      simp [b_mirror, ev_v, mir, Acc.d, most]
    | menu a b =>
      simp only [Say.deep] at h
      rw [two' a b _ rfl (by omega) (by omega) hs.1 hs.2 rfl]
      simp [b_mirror, ev_v, mir, Acc.d, most]
    | pick a b =>
      simp only [Say.deep] at h
      rw [two' a b _ rfl (by omega) (by omega) hs.1 hs.2 rfl]
      simp [b_mirror, ev_v, mir, Acc.d, most]
    | keep a => exact hs.elim
    | draw a => exact hs.elim
end KB
end
section
set_option maxRecDepth 100000
set_option exponentiation.threshold 3000
/-! KB7: two rows merged. -/
namespace KB
open PySem L2 MP
open QL (Say Nm Lt at0 at1)
variable {Fs : List Fn} {ix : Ix}
/-- a saying with its side -/
def md (z : Int × Say) : D := .tup [.int z.1, z.2.d]
theorem says_plain : ∀ ss : List Say, plainAll (ss.map Say.d) = true := fun ss => by induction ss <;> simp_all [plainAll, Say.plain]
theorem md_data : ∀ zs : List (Int × Say), dataAll (zs.map md) = true := fun zs => by induction zs <;> simp_all [dataAll, md, D.data, QL.Say.data]
abbrev mC : E := .or (.cmp .ne (.idx (.var 4) (.lit (.int (0)))) (.lst false [])) (.cmp .ne (.idx (.var 4) (.lit (.int (1)))) (.lst false []))
abbrev mB (ix : Ix) : List C := [(.asg (.nm 5) (.call ix.take [(.var 0), (.lit (.int (2)))])), (.asg (.nm 5) (.ite (.cmp .ne (.idx (.var 4) (.var 5)) (.lst false [])) (.var 5) (.bin false .sub (.lit (.int (1))) (.var 5)))), (.ex (.meth .append (.var 3) [(.tup [(.var 5), (.meth .popAt (.idx (.var 4) (.var 5)) [(.lit (.int (0)))])])]))]
theorem rf_ne' {S : Store} {n : Nat} {xs : List Say} (h : S[n]? = some (.lst (xs.map Say.d))) : cp2 .ne (.ref n) (.lst []) S = .ok (.bl (!xs.isEmpty)) S := by
  have := rf_ne h (says_plain xs)
  rw [this]
  cases xs <;> rfl
/-- an item taken off a row, put behind what is found -/
theorem mapp {call : Nat → List D → Store → R D} {env : MP.Env} {T : Store} {L q : Nat} {i : Int} {rows : D} {zs : List (Int × Say)} {x : Say} {r : List Say} (e3 : env[3]? = some (some (.ref L))) (e4 : env[4]? = some (some rows)) (e5 : env[5]? = some (some (.int i))) (hr : atD rows (.int i) T = .ok (.ref q) T)
    (h1 : T[L]? = some (.lst (zs.map md))) (h2 : T[q]? = some (.lst ((x :: r).map Say.d))) (hne : q ≠ L) (hl : zs.length < 1000) :
    evCs call [(.ex (.meth .append (.var 3) [(.tup [(.var 5), (.meth .popAt (.idx (.var 4) (.var 5)) [(.lit (.int (0)))])])]))] env T = .nxt env ((T.set q (.lst (r.map Say.d))).set L (.lst ((zs ++ [(i, x)]).map md))) := by
  have rd0 : mtRdy .append (.ref L) T = true := rdy_append h1
  have rd1 : mtRdy .popAt (.ref q) T = true := by simp only [mtRdy, lsOf, h2]; rfl
  have ix0 : ixn ((x :: r).map Say.d).length 0 = some 0 := by unfold ixn; simp
  have pp : MP.mt .popAt (.ref q) [.int 0] T = .ok x.d (T.set q (.lst (r.map Say.d))) := by
    simp only [MP.mt, h2, ix0]
    rfl
  have h1' : (T.set q (.lst (r.map Say.d)))[L]? = some (.lst (zs.map md)) := by rw [List.getElem?_set_ne hne]; exact h1
  have ap : MP.mt .append (.ref L) [.tup [.int i, x.d]] (T.set q (.lst (r.map Say.d))) = .ok .non ((T.set q (.lst (r.map Say.d))).set L (.lst ((zs ++ [(i, x)]).map md))) := by
    rw [MP.mt_append h1' (by simp; omega)]
    simp [md]
  simp [ev_v, e3, e4, e5, rd0, hr, rd1, pp, ap, most]
/-- one turn of the loop: the side, the item -/
theorem mturn (ok : OkA Fs ix) {k n p B L : Nat} {S : Store} {zs : List (Int × Say)} {xs ys : List Say} {a b : D} {u : Option D} (hK : 1 ≤ k) (h : Pot S n p B) (hB : B < 2 ^ 60) (hL : S.length = L) (hne : xs ≠ [] ∨ ys ≠ []) (hl : zs.length < 1000) :
    ∃ (S' : Store) (z : Int × Say) (xs' ys' : List Say) (u' : Option D), evCs (callN Fs k) (mB ix) [some (.ref n), some a, some b, some (.ref L), some (.lst [.ref (L + 1), .ref (L + 2)]), u] (S ++ [.lst (zs.map md), .lst (xs.map Say.d), .lst (ys.map Say.d)]) =
        .nxt [some (.ref n), some a, some b, some (.ref L), some (.lst [.ref (L + 1), .ref (L + 2)]), u'] (S' ++ [.lst ((zs ++ [z]).map md), .lst (xs'.map Say.d), .lst (ys'.map Say.d)]) ∧ DrP S n p (B + 1) S' ∧
      ((z.1 = 0 ∧ xs = z.2 :: xs' ∧ ys' = ys) ∨ (z.1 = 1 ∧ ys = z.2 :: ys' ∧ xs' = xs)) := by
  obtain ⟨d, T, a1, a2, a3, a4⟩ := take ok (K := k) (many := 2) hK (h.app (L := [.lst (zs.map md), .lst (xs.map Say.d), .lst (ys.map Say.d)])) (by omega) (by decide) (by decide)
  obtain ⟨S', rfl, dr⟩ := a4.of_app (by have := h.lt.1; exact this)
  have lS : S'.length = L := by rw [dr.len, hL]
  have c0 : (S' ++ [Cell.lst (zs.map md), .lst (xs.map Say.d), .lst (ys.map Say.d)])[L]? = some (.lst (zs.map md)) := by rw [← lS]; simp
  have c1 : (S' ++ [Cell.lst (zs.map md), .lst (xs.map Say.d), .lst (ys.map Say.d)])[L + 1]? = some (.lst (xs.map Say.d)) := by rw [← lS, List.getElem?_append_right (by omega)]; simp
  have c2 : (S' ++ [Cell.lst (zs.map md), .lst (xs.map Say.d), .lst (ys.map Say.d)])[L + 2]? = some (.lst (ys.map Say.d)) := by rw [← lS, List.getElem?_append_right (by omega)]; simp
  have s1 : ∀ (v v' x x' y : Cell), ((S' ++ [v, x, y]).set (L + 1) x').set L v' = S' ++ [v', x', y] := fun v v' x x' y => by rw [← lS, List.set_append_right _ _ (by omega), List.set_append_right _ _ (Nat.le_refl _)]; simp
  have s2 : ∀ (v v' x y y' : Cell), ((S' ++ [v, x, y]).set (L + 2) y').set L v' = S' ++ [v', x, y'] := fun v v' x y y' => by rw [← lS, List.set_append_right _ _ (by omega), List.set_append_right _ _ (Nat.le_refl _)]; simp
  have n1 := rf_ne' c1
  have n2 := rf_ne' c2
  have r0 : ∀ T, atD (.lst [.ref (L + 1), .ref (L + 2)]) (.int 0) T = .ok (.ref (L + 1)) T := fun T => rfl
  have r1 : ∀ T, atD (.lst [.ref (L + 1), .ref (L + 2)]) (.int 1) T = .ok (.ref (L + 2)) T := fun T => rfl
  -- the side that is taken
  have pickSide : ∃ i : Int, ((i = 0 ∧ xs ≠ []) ∨ (i = 1 ∧ ys ≠ [])) ∧ evE (callN Fs k) (.ite (.cmp .ne (.idx (.var 4) (.var 5)) (.lst false [])) (.var 5) (.bin false .sub (.lit (.int (1))) (.var 5))) [some (.ref n), some a, some b, some (.ref L), some (.lst [.ref (L + 1), .ref (L + 2)]), some (.int d)] (S' ++ [.lst (zs.map md), .lst (xs.map Say.d), .lst (ys.map Say.d)]) = .ok (.int i) (S' ++ [.lst (zs.map md), .lst (xs.map Say.d), .lst (ys.map Say.d)]) := by
    have hd : d = 0 ∨ d = 1 := by omega
    rcases hd with rfl | rfl
    · cases xs with
      | nil => exact ⟨1, .inr ⟨rfl, hne.resolve_left (fun h => h rfl)⟩, by simp at n1; simp [ev_v, ev_lst, r0, n1, most]⟩
      | cons x r => exact ⟨0, .inl ⟨rfl, by simp⟩, by simp at n1; simp [ev_v, ev_lst, r0, n1, most]⟩
    · cases ys with
      | nil => exact ⟨0, .inl ⟨rfl, hne.resolve_right (fun h => h rfl)⟩, by simp at n2; simp [ev_v, ev_lst, r1, n2, most]⟩
      | cons x r => exact ⟨1, .inr ⟨rfl, by simp⟩, by simp at n2; simp [ev_v, ev_lst, r1, n2, most]⟩
  obtain ⟨i, hi, pe⟩ := pickSide
  have st1 : ∀ u, evC (callN Fs k) (.asg (.nm 5) (.call ix.take [(.var 0), (.lit (.int (2)))])) [some (.ref n), some a, some b, some (.ref L), some (.lst [.ref (L + 1), .ref (L + 2)]), u] (S ++ [.lst (zs.map md), .lst (xs.map Say.d), .lst (ys.map Say.d)]) = .nxt [some (.ref n), some a, some b, some (.ref L), some (.lst [.ref (L + 1), .ref (L + 2)]), some (.int d)] (S' ++ [.lst (zs.map md), .lst (xs.map Say.d), .lst (ys.map Say.d)]) := fun u => c_asg_of (by simp [ev_v, a1])
  rcases hi with ⟨rfl, hx⟩ | ⟨rfl, hy⟩
  · cases xs with
    | nil => exact absurd rfl hx
    | cons x r =>
      have m := mapp (call := callN Fs k) (env := [some (.ref n), some a, some b, some (.ref L), some (.lst [.ref (L + 1), .ref (L + 2)]), some (.int 0)]) rfl rfl rfl (r0 _) c0 c1 (by omega) hl
      rw [s1] at m
      exact ⟨S', (0, x), r, ys, _, (cs_step (st1 u)).trans ((cs_step (c_asg_of pe)).trans m), dr, .inl ⟨rfl, rfl, rfl⟩⟩
  · cases ys with
    | nil => exact absurd rfl hy
    | cons x r =>
      have m := mapp (call := callN Fs k) (env := [some (.ref n), some a, some b, some (.ref L), some (.lst [.ref (L + 1), .ref (L + 2)]), some (.int 1)]) rfl rfl rfl (r1 _) c0 c2 (by omega) hl
      rw [s2] at m
      exact ⟨S', (1, x), xs, r, _, (cs_step (st1 u)).trans ((cs_step (c_asg_of pe)).trans m), dr, .inr ⟨rfl, rfl, rfl⟩⟩
/-- what is merged: each item of a row, from one side -/
structure Mg (xs ys : List Say) (zs : List (Int × Say)) : Prop where
  len : zs.length = xs.length + ys.length
  mem : ∀ z ∈ zs, (z.1 = 0 ∧ z.2 ∈ xs) ∨ (z.1 = 1 ∧ z.2 ∈ ys)
theorem mloop (ok : OkA Fs ix) {k n p L : Nat} {a b : D} (hK : 1 ≤ k) : ∀ (c fuel B : Nat) (S : Store) (zs : List (Int × Say)) (xs ys : List Say) (u : Option D), xs.length + ys.length = c → c < fuel → Pot S n p B → B + c < 2 ^ 60 → S.length = L → zs.length + c < 1000 →
    ∃ (S' : Store) (ws : List (Int × Say)) (u' : Option D), whileGo (fun env S => (evE (callN Fs k) mC env S).bind test) (fun env S => evCs (callN Fs k) (mB ix) env S) fuel [some (.ref n), some a, some b, some (.ref L), some (.lst [.ref (L + 1), .ref (L + 2)]), u] (S ++ [.lst (zs.map md), .lst (xs.map Say.d), .lst (ys.map Say.d)]) =
        .nxt [some (.ref n), some a, some b, some (.ref L), some (.lst [.ref (L + 1), .ref (L + 2)]), u'] (S' ++ [.lst ((zs ++ ws).map md), .lst [], .lst []]) ∧ DrP S n p (B + c) S' ∧ Mg xs ys ws := by
  intro c
  induction c with
  | zero =>
    intro fuel B S zs xs ys u hc hf h hB hL hl
    obtain ⟨f, rfl⟩ : ∃ f, fuel = f + 1 := ⟨fuel - 1, by omega⟩
    have ex : xs = [] := List.length_eq_zero_iff.mp (by omega)
    have ey : ys = [] := List.length_eq_zero_iff.mp (by omega)
    subst ex ey
    have c1 : (S ++ [Cell.lst (zs.map md), .lst (([] : List Say).map Say.d), .lst (([] : List Say).map Say.d)])[L + 1]? = some (.lst (([] : List Say).map Say.d)) := by rw [← hL, List.getElem?_append_right (by omega)]; simp
    have c2 : (S ++ [Cell.lst (zs.map md), .lst (([] : List Say).map Say.d), .lst (([] : List Say).map Say.d)])[L + 2]? = some (.lst (([] : List Say).map Say.d)) := by rw [← hL, List.getElem?_append_right (by omega)]; simp
    have n1 := rf_ne' c1
    have n2 := rf_ne' c2
    have r0 : ∀ T, atD (.lst [.ref (L + 1), .ref (L + 2)]) (.int 0) T = .ok (.ref (L + 1)) T := fun T => rfl
    have r1 : ∀ T, atD (.lst [.ref (L + 1), .ref (L + 2)]) (.int 1) T = .ok (.ref (L + 2)) T := fun T => rfl
    have cnd : (evE (callN Fs k) mC [some (.ref n), some a, some b, some (.ref L), some (.lst [.ref (L + 1), .ref (L + 2)]), u] (S ++ [.lst (zs.map md), .lst (([] : List Say).map Say.d), .lst (([] : List Say).map Say.d)])).bind test = .ok false (S ++ [.lst (zs.map md), .lst (([] : List Say).map Say.d), .lst (([] : List Say).map Say.d)]) := by
      simp at n1 n2
      simp [ev_v, ev_lst, r0, r1, n1, n2, most]
    refine ⟨S, [], u, ?_, by simpa using DrP.refl h, ⟨rfl, fun z hz => by cases hz⟩⟩
    unfold whileGo
    rw [cnd]
    simp
  | succ c ih =>
    intro fuel B S zs xs ys u hc hf h hB hL hl
    obtain ⟨f, rfl⟩ : ∃ f, fuel = f + 1 := ⟨fuel - 1, by omega⟩
    have hne : xs ≠ [] ∨ ys ≠ [] := by
      cases xs with
      | nil => cases ys with
        | nil => simp at hc
        | cons y ys => exact .inr (by simp)
      | cons x xs => exact .inl (by simp)
    obtain ⟨S1, z, xs', ys', u1, e1, d1, hz⟩ := mturn ok (a := a) (b := b) (u := u) hK h (by omega) hL hne (zs := zs) (by omega)
    have hc' : xs'.length + ys'.length = c := by
      rcases hz with ⟨_, h2, h3⟩ | ⟨_, h2, h3⟩
      · rw [h2, List.length_cons] at hc; rw [h3]; omega
      · rw [h2, List.length_cons] at hc; rw [h3]; omega
    obtain ⟨S2, ws, u2, e2, d2, m2⟩ := ih f (B + 1) S1 (zs ++ [z]) xs' ys' u1 hc' (by omega) d1.pot (by omega) (by rw [d1.len]; exact hL) (by simp; omega)
    have c1 : (S ++ [Cell.lst (zs.map md), .lst (xs.map Say.d), .lst (ys.map Say.d)])[L + 1]? = some (.lst (xs.map Say.d)) := by rw [← hL, List.getElem?_append_right (by omega)]; simp
    have c2 : (S ++ [Cell.lst (zs.map md), .lst (xs.map Say.d), .lst (ys.map Say.d)])[L + 2]? = some (.lst (ys.map Say.d)) := by rw [← hL, List.getElem?_append_right (by omega)]; simp
    have n1 := rf_ne' c1
    have n2 := rf_ne' c2
    have r0 : ∀ T, atD (.lst [.ref (L + 1), .ref (L + 2)]) (.int 0) T = .ok (.ref (L + 1)) T := fun T => rfl
    have r1 : ∀ T, atD (.lst [.ref (L + 1), .ref (L + 2)]) (.int 1) T = .ok (.ref (L + 2)) T := fun T => rfl
    have cnd : (evE (callN Fs k) mC [some (.ref n), some a, some b, some (.ref L), some (.lst [.ref (L + 1), .ref (L + 2)]), u] (S ++ [.lst (zs.map md), .lst (xs.map Say.d), .lst (ys.map Say.d)])).bind test = .ok true (S ++ [.lst (zs.map md), .lst (xs.map Say.d), .lst (ys.map Say.d)]) := by
      cases xs with
      | nil =>
        cases ys with
        | nil => simp at hc
        | cons y ys => simp at n1 n2; simp [ev_v, ev_lst, r0, r1, n1, n2, most]
      | cons x xs => simp at n1 n2; simp [ev_v, ev_lst, r0, r1, n1, n2, most]
    refine ⟨S2, z :: ws, u2, ?_, (d1.trans d2).mono (by omega), ⟨by rw [List.length_cons, m2.len]; omega, fun y hy => ?_⟩⟩
    · unfold whileGo
      rw [cnd]
      simp only [Q.of_ok, e1]
      rw [e2]
      simp
    · rcases List.mem_cons.mp hy with rfl | hy
      · rcases hz with ⟨h1, h2, h3⟩ | ⟨h1, h2, h3⟩
        · exact .inl ⟨h1, by rw [h2]; simp⟩
        · exact .inr ⟨h1, by rw [h2]; simp⟩
      · rcases m2.mem y hy with ⟨q1, q2⟩ | ⟨q1, q2⟩
        · refine .inl ⟨q1, ?_⟩
          rcases hz with ⟨h1, h2, h3⟩ | ⟨h1, h2, h3⟩
          · rw [h2]; simp [q2]
          · rw [← h3]; exact q2
        · refine .inr ⟨q1, ?_⟩
          rcases hz with ⟨h1, h2, h3⟩ | ⟨h1, h2, h3⟩
          · rw [← h3]; exact q2
          · rw [h2]; simp [q2]
theorem merged (ok : OkA Fs ix) {K n p B : Nat} {S : Store} {xs ys : List Say} (hK : 2 ≤ K) (h : Pot S n p B) (hB : B < 2 ^ 59) (hx : xs.length + ys.length ≤ 500) :
    ∃ (zs : List (Int × Say)) (S' : Store), callN Fs K ix.merged [.ref n, .tup (xs.map Say.d), .tup (ys.map Say.d)] S = .ok (.lst (zs.map md)) S' ∧ Mg xs ys zs ∧ DrP S n p (B + (xs.length + ys.length)) S' := by
  obtain ⟨k, rfl⟩ : ∃ k, K = k + 1 := ⟨K - 1, by omega⟩
  obtain ⟨S', ws, u', e, d, m⟩ := mloop ok (k := k) (n := n) (p := p) (L := S.length) (a := .tup (xs.map Say.d)) (b := .tup (ys.map Say.d)) (by omega) (xs.length + ys.length) turns B S [] xs ys none rfl (by unfold turns; omega) h (by omega) rfl (by simp; omega)
  refine ⟨ws, S', ?_, m, d⟩
  rw [call_eq ok.merged rfl]
  show outQ false S (evCs (callN Fs k) (b_merged ix) [some (.ref n), some (.tup (xs.map Say.d)), some (.tup (ys.map Say.d)), none, none, none] S) = _
  unfold b_merged
  rw [cs_step (env' := [some (.ref n), some (.tup (xs.map Say.d)), some (.tup (ys.map Say.d)), some (.ref S.length), some (.lst [.ref (S.length + 1), .ref (S.length + 2)]), none]) (S' := S ++ [.lst (([] : List (Int × Say)).map md), .lst (xs.map Say.d), .lst (ys.map Say.d)]) (by
    have l1 : ∀ T, bt true .list [.tup (xs.map Say.d)] T = .ok (.ref T.length) (T ++ [.lst (xs.map Say.d)]) := fun T => rfl
    have l2 : ∀ T, bt true .list [.tup (ys.map Say.d)] T = .ok (.ref T.length) (T ++ [.lst (ys.map Say.d)]) := fun T => rfl
    simp [ev_v, ev_lst, l1, l2, setMany, most])]
  rw [cs_step (c_while_to e)]
  rw [cs_ret_of (d := .ref S.length) (S1 := S' ++ [.lst (ws.map md), .lst [], .lst []]) (by simp [ev_v])]
  show fin false S (.ref S.length) _ = _
  refine finP_app d ?_ (dataAll_und _ (md_data ws)) fun q => by cases q
  simp [fzD, ← d.len]
end KB
end
section
set_option maxRecDepth 100000
set_option exponentiation.threshold 3000
/-! KB8: the first block. -/
namespace KB
open PySem L2 MP
open QL (Say Nm Lt at0 at1)
variable {Fs : List Fn} {ix : Ix}
theorem ev_revt {call : Nat → List D → Store → R D} {env : MP.Env} {S S1 : Store} {m : Bool} {a : E} {xs : List D} (h : evE call a env S = .ok (.tup xs) S1) : evE call (.rev m a) env S = .ok (.tup xs.reverse) S1 := by
  simp only [evE, h, R.bind_ok]
theorem lst_0 {a : D} {r : List D} {S : Store} : atD (.lst (a :: r)) (.int 0) S = .ok a S := at_lst (n := 0) (by unfold ixn; simp) rfl
theorem lst_1 {a b : D} {r : List D} {S : Store} : atD (.lst (a :: b :: r)) (.int 1) S = .ok b S := at_lst (n := 1) (by unfold ixn; simp; omega) rfl
/-- a goal and its account, as data -/
def bk (g : List Say) (a : Acc) : D := .tup [.tup (g.map Say.d), a.d]
/-- sayings of a goal -/
def Gs (m : Nat) (g : List Say) : Prop := ∀ s ∈ g, s.deep ≤ m ∧ s.Ok ∧ Sp s
theorem says_of {ys : List D} {P : Say → Prop} (h : ∀ y ∈ ys, ∃ s : Say, y = s.d ∧ P s) : ∃ ss : List Say, ys = ss.map Say.d ∧ ∀ s ∈ ss, P s := by
  induction ys with
  | nil => exact ⟨[], rfl, fun s hs => by cases hs⟩
  | cons y ys ih =>
    obtain ⟨s, rfl, hs⟩ := h _ List.mem_cons_self
    obtain ⟨ss, rfl, hss⟩ := ih fun y hy => h y (List.mem_cons_of_mem _ hy)
    refine ⟨s :: ss, rfl, fun t ht => ?_⟩
    rcases List.mem_cons.mp ht with q | q
    · rw [q]; exact hs
    · exact hss t q
theorem begin (ok : OkA Fs ix) {K n p B : Nat} {S : Store} (hK : 7 ≤ K) (h : Pot S n p B) (hB : B < 2 ^ 50) :
    ∃ (g : List Say) (a : Acc) (S' : Store), callN Fs K ix.begin [.ref n] S = .ok (bk g a) S' ∧ 1 ≤ g.length ∧ g.length ≤ 3 ∧ Gs 2 g ∧ a.Ok ∧ a.deep = 1 ∧ DrP S n p (B + 300) S' := by
  obtain ⟨k, rfl⟩ : ∃ k, K = k + 1 := ⟨K - 1, by omega⟩
  obtain ⟨w, S1, a1, a2, a3, a4⟩ := take ok (K := k) (many := 6) (by omega) h (by omega) (by decide) (by decide)
  obtain ⟨x, S2, b1, b2, b3⟩ := name ok (K := k) (by omega) a4.pot (by omega)
  obtain ⟨t, S3, c1, c2, c3, c4⟩ := take ok (K := k) (many := 3) (by omega) b3.pot (by omega) (by decide) (by decide)
  have d3 := ((a4.trans b3).trans c4).mono (B' := B + 10) (by omega)
  have st1 : evC (callN Fs k) (.par [2, 3, 4] [(.call ix.take [(.var 0), (.lit (.int (6)))]), (.call ix.name [(.var 0)]), (.call ix.take [(.var 0), (.lit (.int (3)))])]) [some (.ref n), none, none, none, none, none, none] S = .nxt [some (.ref n), none, some (.int w), some (.str x), some (.int t), none, none] S3 := by
    simp [ev_v, a1, b1, c1, setMany]
  by_cases hw0 : w = 0
  · subst hw0
    refine ⟨[.one], .one, S3, ?_, by simp, by simp, fun s hs => by rcases List.mem_singleton.mp hs with rfl; exact ⟨by simp [Say.deep], trivial, trivial⟩, trivial, rfl, d3.mono (by omega)⟩
    rw [call_eq ok.begin rfl]
    show outQ false S (evCs (callN Fs k) (b_begin ix) [some (.ref n), none, none, none, none, none, none] S) = _
    unfold b_begin
    rw [cs_step st1]
    simp [ev_v, most]
    exact finP_data0 d3 false
  · by_cases hw1 : w = 1
    · subst hw1
      obtain ⟨m, S4, e1, e2, e3, e4⟩ := take ok (K := k) (many := 3) (by omega) d3.pot (by omega) (by decide) (by decide)
      obtain ⟨ys, S5, f1, f2, f3, f4⟩ := comp_drawsP (w := ⟨rangeL 0 m.toNat, []⟩) rfl (bnd := fun d => bindT (.nm 6) d (wipeE [some (.ref n), none, some (.int 1), some (.str x), some (.int t), none, none] [6]))
        (ifs := fun env S => evTs (callN Fs k) [] env S) (elt := fun env S => evE (callN Fs k) (.call ix.saying [(.var 0), (.lit (.int (2)))]) env S) (fun env S => by simp [evTs]) (n := n) (p := p) (c := 80) (fun y => ∃ s : Say, y = s.d ∧ (s.deep ≤ 2 ∧ s.Ok ∧ Sp s)) (fun y ⟨s, e, _⟩ => by rw [e]; exact s.data)
        (S := S4) (B := B + 10 + 1) (M := B + 200) e4.pot (by simp [rangeL]; omega)
        (fun d hd => ⟨_, rfl, fun T b hT hb => by
          obtain ⟨s, T', q1, q2, q3, q4, q5⟩ := saying ok 1 k n p b T 2 (by omega) (by decide) hT (by omega)
          exact ⟨_, T', by rw [ev_call]; simp [wipeE, evE, q1], ⟨s, rfl, q2, q3, q4⟩, q5.mono (by omega)⟩⟩) (by simp [rangeL, most]; omega)
      obtain ⟨ss, rfl, hss⟩ := says_of f2
      have hl : ss.length ≤ 2 := by have : (ss.map Say.d).length = m.toNat := by simpa [rangeL] using f3
                                    rw [List.length_map] at this; omega
      have dr := (d3.trans (e4.trans f4)).mono (B' := B + 300) (by simp [rangeL]; omega)
      have hit : evI (callN Fs k) (.range1 (.call ix.take [(.var 0), (.lit (.int (3)))])) [some (.ref n), none, some (.int 1), some (.str x), some (.int t), none, none] S3 = .ok ⟨rangeL 0 m.toNat, []⟩ S4 := by
        simp [ev_v, e1, range0 e2 (show m ≤ 1000000 by omega)]
      have cm : evE (callN Fs k) (.comp false (.call ix.saying [(.var 0), (.lit (.int (2)))]) (.nm 6) (.range1 (.call ix.take [(.var 0), (.lit (.int (3)))])) [] [6]) [some (.ref n), none, some (.int 1), some (.str x), some (.int t), none, none] S3 = .ok (.lst (ss.map Say.d)) S5 := by
        rw [ev_comp, hit]
        exact f1
      obtain ⟨j, hj, hj2⟩ : ∃ j : Nat, (if (ss.length : Int) < t then (ss.length : Int) else t) = j ∧ j ≤ ss.length := ⟨(if (ss.length : Int) < t then (ss.length : Int) else t).toNat, by split <;> omega, by split <;> omega⟩
      refine ⟨ss.take j ++ [.all] ++ ss.drop j, .all j, S5, ?_, by simp; omega, by simp; omega, fun s hs => ?_, trivial, rfl, dr⟩
      · rw [call_eq ok.begin rfl]
        show outQ false S (evCs (callN Fs k) (b_begin ix) [some (.ref n), none, none, none, none, none, none] S) = _
        have mn : evC (callN Fs k) (.asg (.nm 4) (.blt false .min2 [(.var 4), (.blt false .len [(.var 5)])])) [some (.ref n), none, some (.int 1), some (.str x), some (.int t), some (.lst (ss.map Say.d)), none] S5 = .nxt [some (.ref n), none, some (.int 1), some (.str x), some (.int j), some (.lst (ss.map Say.d)), none] S5 := c_asg_of (by rw [← hj]; simp [ev_v])
        have t1 : cutL (ss.map Say.d) none (some (j : Int)) = (ss.map Say.d).take j := by rw [cutL_take (by omega)]; rfl
        have t2 : cutL (ss.map Say.d) (some (j : Int)) none = (ss.map Say.d).drop j := by rw [cutL_drop (by omega)]; rfl
        have o1 : op2 false .add (.lst ((ss.map Say.d).take j)) (.lst [.tup [.str [97, 108, 108]]]) S5 = .ok (.lst ((ss.map Say.d).take j ++ [.tup [.str [97, 108, 108]]])) S5 := by rw [op_add_ll (by simp [most]; omega)]; rfl
        have o2 : op2 false .add (.lst ((ss.map Say.d).take j ++ [.tup [.str [97, 108, 108]]])) (.lst ((ss.map Say.d).drop j)) S5 = .ok (.lst ((ss.map Say.d).take j ++ [.tup [.str [97, 108, 108]]] ++ (ss.map Say.d).drop j)) S5 := by rw [op_add_ll (by simp [most]; omega)]; rfl
        unfold b_begin
        rw [cs_step st1]
        rw [cs_step (env' := [some (.ref n), none, some (.int 1), some (.str x), some (.int t), none, none]) (S' := S3) (by simp [ev_v])]
        rw [cs_cons, c_ife]
        simp only [ev_cmp, ev_v, List.getElem?_cons_succ, List.getElem?_cons_zero, R.bind_ok, ev_lit, cp_eq_ii, decide_true, Q.of_ok, test_bl]
        rw [cs_step (c_asg_of cm)]
        simp only [List.set_cons_succ, List.set_cons_zero]
        rw [cs_step mn]
        rw [cs_ret_of (d := bk (ss.take j ++ [.all] ++ ss.drop j) (.all j)) (S1 := S5) (by
          simp only [ev_tup, ev_blt, ev_bin, ev_slc, ev_v, List.getElem?_cons_succ, List.getElem?_cons_zero, evs_cons, evs_nil, R.bind_ok, evO_some, evO_none, ev_lit, slice_lst, t1, t2, mkL_false, ev_lst]
          simp [most, o1, o2, bk, Acc.d, Say.d])]
        exact finP_data0 dr false
      · simp only [List.mem_append, List.mem_singleton] at hs
        rcases hs with (hs | rfl) | hs
        · exact hss s (List.mem_of_mem_take hs)
        · exact ⟨by simp [Say.deep], trivial, trivial⟩
        · exact hss s (List.mem_of_mem_drop hs)
    · have hh : ∃ g : List Say, g.length = 2 ∧ Gs 2 g ∧ evE (callN Fs k) (.idx (.lst false [(.var 1), (.rev false (.var 1))]) (.bin false .mod (.var 4) (.lit (.int (2))))) [some (.ref n), some (.tup [(Say.thing x).d, (Say.debt x).d]), some (.int w), some (.str x), some (.int t), none, none] S3 = .ok (.tup (g.map Say.d)) S3 := by
        have hg : ∀ s : Say, s = .thing x ∨ s = .debt x → s.deep ≤ 2 ∧ s.Ok ∧ Sp s := fun s hs => by rcases hs with rfl | rfl <;> exact ⟨by simp [Say.deep], b2, trivial⟩
        have ht : t % 2 = 0 ∨ t % 2 = 1 := by omega
        have rv : evE (callN Fs k) (.rev false (.var 1)) [some (.ref n), some (.tup [(Say.thing x).d, (Say.debt x).d]), some (.int w), some (.str x), some (.int t), none, none] S3 = .ok (.tup [(Say.debt x).d, (Say.thing x).d]) S3 := ev_revt (xs := [(Say.thing x).d, (Say.debt x).d]) (by rw [ev_v]; rfl)
        rcases ht with ht | ht
        · refine ⟨[.thing x, .debt x], rfl, fun s hs => hg s (by simpa using hs), ?_⟩
          simp [ev_v, ev_lst, rv, ht, lst_0, most]
        · refine ⟨[.debt x, .thing x], rfl, fun s hs => hg s (by simpa [or_comm] using hs), ?_⟩
          simp [ev_v, ev_lst, rv, ht, lst_1, most]
      obtain ⟨g, g1, g2, g3⟩ := hh
      refine ⟨g, .tie, S3, ?_, by omega, by omega, g2, trivial, rfl, d3.mono (by omega)⟩
      rw [call_eq ok.begin rfl]
      show outQ false S (evCs (callN Fs k) (b_begin ix) [some (.ref n), none, none, none, none, none, none] S) = _
      unfold b_begin
      rw [cs_step st1]
      rw [cs_step (env' := [some (.ref n), none, some (.int w), some (.str x), some (.int t), none, none]) (S' := S3) (by simp [ev_v, hw0])]
      rw [cs_step (env' := [some (.ref n), none, some (.int w), some (.str x), some (.int t), none, none]) (S' := S3) (by simp [ev_v, hw1])]
      rw [cs_step (env' := [some (.ref n), some (.tup [(Say.thing x).d, (Say.debt x).d]), some (.int w), some (.str x), some (.int t), none, none]) (S' := S3) (by simp [ev_v, most, Say.d])]
      rw [cs_ret_of (d := bk g .tie) (S1 := S3) (by simp only [ev_tup, evs_cons, evs_nil, g3, R.bind_ok, ev_lit]; simp [most, bk, Acc.d])]
      exact finP_data0 d3 false
end KB
end
section
set_option maxRecDepth 100000
set_option exponentiation.threshold 3000
/-! KB9: comprehensions with a test, targets of any kind. -/
namespace MP
open PySem
theorem comp_filter {α : Type} {as : List α} (e r : α → D) (f : α → Bool) {w : Row} (hw : w.watch = []) (hi : w.items = as.map e) {bnd : D → Option Env} {ifs : Env → Store → R Bool} {elt : Env → Store → R D} {S : Store}
    (step : ∀ a ∈ as, ∃ env, bnd (e a) = some env ∧ (∀ S, ifs env S = .ok (f a) S) ∧ (f a = true → ∀ S, elt env S = .ok (r a) S)) (hu : ∀ a ∈ as, (r a).data = true) (hl : as.length ≤ most) :
    ((compGo w S.length bnd ifs elt w.items (S ++ [.lst []])).bind fun acc S' => compEnd false S acc S') = .ok (.lst ((as.filter f).map r)) S := by
  have main : ∀ (as : List α), (∀ a ∈ as, ∃ env, bnd (e a) = some env ∧ (∀ S, ifs env S = .ok (f a) S) ∧ (f a = true → ∀ S, elt env S = .ok (r a) S)) → ∀ (acc : List D), acc.length + as.length ≤ most →
      compGo w S.length bnd ifs elt (as.map e) (S ++ [.lst acc]) = .ok (acc ++ (as.filter f).map r) (S ++ [.lst (acc ++ (as.filter f).map r)]) := by
    intro as
    induction as with
    | nil => intro _ acc _; simp [compGo, stays_nil hw]
    | cons a as ih =>
      intro st acc hl
      obtain ⟨env, e1, e2, e3⟩ := st a List.mem_cons_self
      rw [List.length_cons] at hl
      cases hf : f a with
      | false =>
        simp only [List.map_cons, compGo, stays_nil hw, e1, e2, hf, R.bind_ok]
        rw [ih (fun x hx => st x (List.mem_cons_of_mem _ hx)) acc (by omega)]
        simp [List.filter_cons, hf]
      | true =>
        have hac : decide (acc.length < most) = true := decide_eq_true (by omega)
        have hset : (S ++ [Cell.lst acc]).set S.length (.lst (acc ++ [r a])) = S ++ [.lst (acc ++ [r a])] := by
          rw [List.set_append_right _ _ (Nat.le_refl _)]
          simp
        have hget : (S ++ [Cell.lst acc])[S.length]? = some (.lst acc) := by simp
        simp only [List.map_cons, compGo, stays_nil hw, e1, e2, hf, R.bind_ok, e3 hf, hget, hac, hset]
        rw [ih (fun x hx => st x (List.mem_cons_of_mem _ hx)) (acc ++ [r a]) (by rw [List.length_append, List.length_singleton]; omega)]
        simp [List.filter_cons, hf]
  rw [hi]
  have := main as step [] (by simpa using hl)
  simp only [List.nil_append] at this
  rw [this]
  simp only [R.bind_ok]
  have hd : undAll S.length ((as.filter f).map r) = true := dataAll_und _ (dataAll_mem fun y hy => by
    obtain ⟨a, ha, rfl⟩ := List.mem_map.mp hy
    exact hu a (List.mem_filter.mp ha).1)
  have kept : Kept S (S ++ [.lst ((as.filter f).map r)]) := fun i hi => .inl (by rw [List.getElem?_append_left hi])
  unfold compEnd
  have c1 : (false || decide ((S ++ [Cell.lst ((as.filter f).map r)]).length ≠ S.length + 1)) = false := by simp
  rw [c1]
  simp [hd, kept]
theorem ev_comp_filter {α : Type} {as : List α} (e r : α → D) (f : α → Bool) {call : Nat → List D → Store → R D} {env : Env} {S : Store} {elt it : E} {ifs : List E} {tg : Tg} {own : List Nat} (hi : evI call it env S = .ok ⟨as.map e, []⟩ S)
    (hs : ∀ a ∈ as, ∃ env', bindT tg (e a) (wipeE env own) = some env' ∧ (∀ S, evTs call ifs env' S = .ok (f a) S) ∧ (f a = true → ∀ S, evE call elt env' S = .ok (r a) S)) (hu : ∀ a ∈ as, (r a).data = true) (hl : as.length ≤ most) : evE call (.comp false elt tg it ifs own) env S = .ok (.lst ((as.filter f).map r)) S := by
  simp only [evE]
  rw [hi]
  exact comp_filter (as := as) e r f (w := ⟨as.map e, []⟩) rfl rfl hs hu hl
/-- what enumerate gives out -/
def enumZ {α : Type} : Nat → List α → List (Nat × α)
  | _, [] => []
  | k, x :: xs => (k, x) :: enumZ (k + 1) xs
theorem enum_map {α : Type} (g : α → D) : ∀ (k : Nat) (as : List α), enumL k (as.map g) = (enumZ k as).map fun z => .tup [.int z.1, g z.2]
  | _, [] => rfl
  | k, a :: as => by
    simp only [List.map_cons, enumL, enumZ]
    rw [enum_map g (k + 1) as]
theorem enumZ_len {α : Type} : ∀ (k : Nat) (as : List α), (enumZ k as).length = as.length
  | _, [] => rfl
  | k, a :: as => by simp [enumZ, enumZ_len (k + 1) as]
theorem enumZ_mem {α : Type} : ∀ (k : Nat) (as : List α) (z : Nat × α), z ∈ enumZ k as → z.2 ∈ as
  | _, [], z, h => by cases h
  | k, a :: as, z, h => by
    rcases List.mem_cons.mp h with rfl | h
    · exact List.mem_cons_self
    · exact List.mem_cons_of_mem _ (enumZ_mem (k + 1) as z h)
end MP
end
section
set_option maxRecDepth 100000
set_option exponentiation.threshold 3000
/-! KBa: two blocks paired. -/
namespace KB
open PySem L2 MP
open QL (Say Nm Lt at0 at1)
variable {Fs : List Fn} {ix : Ix}
theorem bk_0 {g : List Say} {a : Acc} {S : Store} : atD (bk g a) (.int 0) S = .ok (.tup (g.map Say.d)) S := QL.at0
theorem bk_1 {g : List Say} {a : Acc} {S : Store} : atD (bk g a) (.int 1) S = .ok a.d S := QL.at1
theorem gs_at {g : List Say} {i : Int} {S : Store} (h0 : 0 ≤ i) (h1 : i < g.length) : ∃ s ∈ g, atD (.tup (g.map Say.d)) (.int i) S = .ok s.d S := by
  have hd : i.toNat < g.length := by omega
  exact ⟨g[i.toNat], List.getElem_mem hd, at_tup (ixn_in h0 (by simpa using h1)) (by simp [hd])⟩
theorem gs_cut (g : List Say) (lo hi : Option Int) {S : Store} : slice false (.tup (g.map Say.d)) lo hi S = .ok (.tup ((cutL g lo hi).map Say.d)) S := by
  rw [slice_tup, cutL_map]
theorem cut_mem {g : List Say} {lo hi : Option Int} {s : Say} (h : s ∈ cutL g lo hi) : s ∈ g := by
  unfold cutL at h
  exact List.mem_of_mem_drop (List.mem_of_mem_take h)
/-- an enumerated row's places of one side -/
def plc (t : Int) (zs : List (Int × Say)) : List Int := ((enumZ 0 zs).filter fun z => decide (z.2.1 = t)).map fun z => (z.1 : Int)
/-- the row's sayings, handed out -/
theorem row_says {call : Nat → List D → Store → R D} {env : MP.Env} {S : Store} {zs : List (Int × Say)} {it : E} {i j : Nat} {own : List Nat} (hi : evE call it env S = .ok (.lst (zs.map md)) S) (hne : i ≠ j) (hil : i < env.length) (hjl : j < env.length) (hl : zs.length ≤ most) :
    evE call (.comp false (.var j) (.tup [(.nm i), (.nm j)]) (.seq it) [] own) env S = .ok (.lst (zs.map fun z => z.2.d)) S := by
  have := ev_comp_filter (as := zs) md (fun z => z.2.d) (fun _ => true) (call := call) (env := env) (S := S) (elt := .var j) (it := .seq it) (ifs := []) (tg := .tup [(.nm i), (.nm j)]) (own := own) (seq_lst hi)
    (fun z hz => ⟨_, rfl, fun S => by simp [evTs], fun _ S => by
      rw [ev_v]
      have : (((wipeE env own).set i (some (D.int z.1))).set j (some z.2.d))[j]? = some (some z.2.d) := by
        rw [List.getElem?_set_self (by rw [List.length_set, wipeE_len]; exact hjl)]
      rw [this]⟩) (fun z _ => z.2.data) hl
  rw [List.filter_eq_self.mpr (fun _ _ => rfl)] at this
  exact this
/-- the row's places of one side -/
theorem row_places {call : Nat → List D → Store → R D} {env : MP.Env} {S : Store} {zs : List (Int × Say)} {it tE : E} {i j : Nat} {own : List Nat} {t : Int} (hi : evE call it env S = .ok (.lst (zs.map md)) S) (hne : i ≠ j) (hil : i < env.length) (hjl : j < env.length) (hl : zs.length ≤ most)
    (ht : ∀ a b S, evE call tE (((wipeE env own).set i a).set j b) S = .ok (.int t) S) :
    evE call (.comp false (.var i) (.tup [(.nm i), (.nm j)]) (.enum it) [(.cmp .eq (.idx (.var j) (.lit (.int (0)))) tE)] own) env S = .ok (.lst ((plc t zs).map D.int)) S := by
  have he : evI call (.enum it) env S = .ok ⟨(enumZ 0 zs).map fun z => .tup [.int z.1, md z.2], []⟩ S := by
    rw [ev_enum, hi]
    simp only [R.bind_ok, enRow_lst]
    rw [enum_map md 0 zs]
  have := ev_comp_filter (as := enumZ 0 zs) (fun z => .tup [.int z.1, md z.2]) (fun z => .int z.1) (fun z => decide (z.2.1 = t)) (call := call) (env := env) (S := S) (elt := .var i) (it := .enum it) (ifs := [(.cmp .eq (.idx (.var j) (.lit (.int (0)))) tE)]) (tg := .tup [(.nm i), (.nm j)]) (own := own) he
    (fun z hz => ⟨_, rfl, fun S => by
      have gj : (((wipeE env own).set i (some (D.int z.1))).set j (some (md z.2)))[j]? = some (some (md z.2)) := by
        rw [List.getElem?_set_self (by rw [List.length_set, wipeE_len]; exact hjl)]
      have a0 : atD (md z.2) (.int 0) S = .ok (.int z.2.1) S := QL.at0
      simp [evTs, ev_v, gj, a0, ht]
      cases decide (z.2.1 = t) <;> rfl, fun _ S => by
      have gi : (((wipeE env own).set i (some (D.int z.1))).set j (some (md z.2)))[i]? = some (some (D.int z.1)) := by
        rw [List.getElem?_set_ne (Ne.symm hne), List.getElem?_set_self (by rw [wipeE_len]; exact hil)]
      rw [ev_v, gi]⟩) (fun z _ => rfl) (by rw [enumZ_len]; exact hl)
  rw [this]
  unfold plc
  rw [List.map_map]
  rfl
end KB
end
section
set_option maxRecDepth 100000
set_option exponentiation.threshold 3000
/-! KBb: two blocks paired. -/
namespace KB
open PySem L2 MP
open QL (Say Nm Lt at0 at1)
variable {Fs : List Fn} {ix : Ix}
theorem cutL_len_le {α : Type} (xs : List α) (lo hi : Option Int) : (cutL xs lo hi).length ≤ xs.length := by
  unfold cutL
  rw [List.length_take, List.length_drop]
  omega
theorem cut_mid {α : Type} {xs : List α} {a b : Int} (h0 : 0 ≤ a) (h1 : a ≤ b) (h2 : b ≤ xs.length) : (cutL xs (some a) (some b)).length = (b - a).toNat := by
  unfold cutL cutAt
  simp only [if_neg (show ¬ a < 0 by omega), if_neg (show ¬ b < 0 by omega), List.length_take, List.length_drop]
  omega
theorem mg_le {xs ys : List Say} {zs : List (Int × Say)} (m : Mg xs ys zs) {g1 g2 : List Say} (h1 : ∀ s ∈ xs, s ∈ g1) (h2 : ∀ s ∈ ys, s ∈ g2) : ∀ z ∈ zs, z.2 ∈ g1 ∨ z.2 ∈ g2 := fun z hz => by
  rcases m.mem z hz with ⟨_, q⟩ | ⟨_, q⟩
  · exact .inl (h1 _ q)
  · exact .inr (h2 _ q)
theorem paired (ok : OkA Fs ix) {K n p B : Nat} {S : Store} {g1 g2 : List Say} {a1 a2 : Acc} {held : Int} (hK : 3 ≤ K) (h : Pot S n p B) (hB : B < 2 ^ 50) (h0 : 0 ≤ held) (hh : held < g1.length) (h1 : g1.length ≤ 100) (h2 : 1 ≤ g2.length) (h3 : g2.length ≤ 100) :
    ∃ (g : List Say) (i : Int) (ps : List Int) (x y : Acc) (S' : Store), callN Fs K ix.paired [.ref n, bk g1 a1, bk g2 a2, .int held] S = .ok (bk g (.pair i ps x y)) S' ∧ ((x = a1 ∧ y = a2) ∨ (x = a2 ∧ y = a1)) ∧
      held < g.length ∧ g.length ≤ g1.length + g2.length ∧ (∀ s ∈ g, s ∈ g1 ∨ s ∈ g2 ∨ ∃ u v, s = .pair u v ∧ ((u ∈ g1 ∧ v ∈ g2) ∨ (u ∈ g2 ∧ v ∈ g1))) ∧ DrP S n p (B + 500) S' := by
  obtain ⟨k, rfl⟩ : ∃ k, K = k + 1 := ⟨K - 1, by omega⟩
  obtain ⟨t, S1, b1, b2, b3, b4⟩ := take ok (K := k) (many := 2) (by omega) h (by omega) (by decide) (by decide)
  obtain ⟨c, S2, c1, c2, c3, c4⟩ := take ok (K := k) (many := (g1.length : Int) - held) (by omega) b4.pot (by omega) (by omega) (by omega)
  obtain ⟨d, S3, d1, d2, d3, d4⟩ := take ok (K := k) (many := (g2.length : Int)) (by omega) c4.pot (by omega) (by omega) (by omega)
  obtain ⟨front, S4, e1, e2, e3⟩ := merged ok (K := k) (xs := cutL g1 none (some c)) (ys := cutL g2 none (some d)) (by omega) d4.pot (by omega) (by have := cutL_len_le g1 none (some c); have := cutL_len_le g2 none (some d); omega)
  obtain ⟨back, S5, f1, f2, f3⟩ := merged ok (K := k) (xs := cutL g1 (some (c + 1)) (some ((g1.length : Int) - held))) (ys := cutL g2 (some (d + 1)) none) (by omega) e3.pot (by have := cutL_len_le g1 none (some c); have := cutL_len_le g2 none (some d); omega) (by have := cutL_len_le g1 (some (c + 1)) (some ((g1.length : Int) - held)); have := cutL_len_le g2 (some (d + 1)) none; omega)
  have len0 : ∀ (T : Store) (g : List Say), bt false .len [.tup (g.map Say.d)] T = .ok (.int g.length) T := fun T g => by rw [len_tup, List.length_map]
  obtain ⟨p1, hp1, q1⟩ := gs_at (g := g1) (i := c) (S := S5) c2 (by omega)
  obtain ⟨p2, hp2, q2⟩ := gs_at (g := g2) (i := d) (S := S5) d2 d3
  let ends : List (Int × Say) := (cutL g1 (some ((g1.length : Int) - held)) none).map fun s => (0, s)
  have ce : ∀ env : MP.Env, env[1]? = some (some (bk g1 a1)) → env[3]? = some (some (.int held)) → env.length = 19 → evE (callN Fs k) (.comp false (.tup [(.lit (.int (0))), (.var 15)]) (.nm 15) (.seq (.slc false (.idx (.var 1) (.lit (.int (0)))) (some (.bin false .sub (.blt false .len [(.idx (.var 1) (.lit (.int (0))))]) (.var 3))) none)) [] [15]) env S3 = .ok (.lst (ends.map md)) S3 := fun env x1 x3 xl => by
    have := ev_comp_map (as := cutL g1 (some ((g1.length : Int) - held)) none) Say.d (fun s => md (0, s)) (call := callN Fs k) (env := env) (S := S3) (elt := .tup [(.lit (.int (0))), (.var 15)]) (it := .seq (.slc false (.idx (.var 1) (.lit (.int (0)))) (some (.bin false .sub (.blt false .len [(.idx (.var 1) (.lit (.int (0))))]) (.var 3))) none)) (j := 15) (own := [15])
      (seq_tup (by simp [ev_v, x1, x3, bk_0, cutL_map])) (fun s hs T => by
        have gi : ((wipeE env [15]).set 15 (some s.d))[15]? = some (some s.d) := List.getElem?_set_self (by rw [wipeE_len]; omega)
        simp [ev_v, gi, most, md]) (fun s _ => by simp [md, D.data, dataAll, s.data]) (by have := cutL_len_le g1 (some ((g1.length : Int) - held)) none; unfold most; omega)
    rw [this]
    simp [ends]
  -- the row
  have both : ∀ T, ∃ (u v : Say) (x y : Acc), ((u = p1 ∧ v = p2 ∧ x = a1 ∧ y = a2) ∨ (u = p2 ∧ v = p1 ∧ x = a2 ∧ y = a1)) ∧ atD (.lst [.tup [p1.d, a1.d], .tup [p2.d, a2.d]]) (.int t) T = .ok (.tup [u.d, x.d]) T ∧ atD (.lst [.tup [p1.d, a1.d], .tup [p2.d, a2.d]]) (.int (1 - t)) T = .ok (.tup [v.d, y.d]) T := fun T => by
    have ht : t = 0 ∨ t = 1 := by omega
    rcases ht with rfl | rfl
    · exact ⟨p1, p2, a1, a2, .inl ⟨rfl, rfl, rfl, rfl⟩, rfl, rfl⟩
    · exact ⟨p2, p1, a2, a1, .inr ⟨rfl, rfl, rfl, rfl⟩, rfl, rfl⟩
  obtain ⟨u, v, x, y, huv, r1, r2⟩ := both S5
  let row : List (Int × Say) := front ++ [(2, .pair u v)] ++ (back ++ ends)
  have rl : (row.length : Int) = g1.length + g2.length - 1 := by
    have l1 := e2.len
    have l2 := f2.len
    rw [cutL_take (by omega), cutL_take (by omega), List.length_take, List.length_take] at l1
    rw [cut_mid (by omega) (by omega) (by omega), cutL_drop (by omega), List.length_drop] at l2
    have l3 : ends.length = g1.length - ((g1.length : Int) - held).toNat := by
      simp only [ends, List.length_map]
      rw [cutL_drop (by omega), List.length_drop]
    simp only [row, List.length_append, List.length_singleton]
    omega
  refine ⟨row.map (·.2), front.length, plc t row, x, y, S5, ?_, ?_, ?_, ?_, ?_, ?_⟩
  · rw [call_eq ok.paired rfl]
    show outQ false S (evCs (callN Fs k) (b_paired ix) [some (.ref n), some (bk g1 a1), some (bk g2 a2), some (.int held), none, none, none, none, none, none, none, none, none, none, none, none, none, none, none] S) = _
    unfold b_paired
    rw [cs_step (env' := [some (.ref n), some (bk g1 a1), some (bk g2 a2), some (.int held), none, none, none, none, none, none, none, some (.int t), some (.int c), none, none, none, none, none, none]) (S' := S2) (by simp [ev_v, bk_0, b1, c1, bindT, bindTs, most])]
    rw [cs_step (env' := [some (.ref n), some (bk g1 a1), some (bk g2 a2), some (.int held), some (.int d), none, none, none, none, none, none, some (.int t), some (.int c), none, none, none, none, none, none]) (S' := S3) (by simp [ev_v, bk_0, d1])]
    rw [cs_step (env' := [some (.ref n), some (bk g1 a1), some (bk g2 a2), some (.int held), some (.int d), some (.lst (ends.map md)), none, none, none, none, none, some (.int t), some (.int c), none, none, none, none, none, none]) (S' := S3) ((c_asg_of (ce [some (.ref n), some (bk g1 a1), some (bk g2 a2), some (.int held), some (.int d), none, none, none, none, none, none, some (.int t), some (.int c), none, none, none, none, none, none] rfl rfl rfl)).trans rfl)]
    rw [cs_step (env' := [some (.ref n), some (bk g1 a1), some (bk g2 a2), some (.int held), some (.int d), some (.lst (ends.map md)), some (.lst (front.map md)), none, none, none, none, some (.int t), some (.int c), none, none, none, none, none, none]) (S' := S4) (by simp [ev_v, bk_0, cutL_map, e1])]
    have rl2 : front.length + 1 + (back.length + ends.length) = row.length := by simp [row]; omega
    have o7 : op2 false .add (.lst (back.map md)) (.lst (ends.map md)) S5 = .ok (.lst (back.map md ++ ends.map md)) S5 := by rw [op_add_ll (by simp [most]; omega)]; rfl
    rw [cs_step (env' := [some (.ref n), some (bk g1 a1), some (bk g2 a2), some (.int held), some (.int d), some (.lst (ends.map md)), some (.lst (front.map md)), some (.lst (back.map md ++ ends.map md)), none, none, none, some (.int t), some (.int c), none, none, none, none, none, none]) (S' := S5) (by simp [ev_v, bk_0, cutL_map, f1, o7])]
    rw [cs_step (env' := [some (.ref n), some (bk g1 a1), some (bk g2 a2), some (.int held), some (.int d), some (.lst (ends.map md)), some (.lst (front.map md)), some (.lst (back.map md ++ ends.map md)), some (.lst [.tup [p1.d, a1.d], .tup [p2.d, a2.d]]), none, none, some (.int t), some (.int c), none, none, none, none, none, none]) (S' := S5) (by simp [ev_v, ev_lst, bk_0, bk_1, q1, q2, most])]
    rw [cs_step (env' := [some (.ref n), some (bk g1 a1), some (bk g2 a2), some (.int held), some (.int d), some (.lst (ends.map md)), some (.lst (front.map md)), some (.lst (back.map md ++ ends.map md)), some (.lst [.tup [p1.d, a1.d], .tup [p2.d, a2.d]]), none, none, some (.int t), some (.int c), some (.tup [u.d, x.d]), some (.tup [v.d, y.d]), none, none, none, none]) (S' := S5) (by simp [ev_v, r1, r2, setMany])]
    have o8 : op2 false .add (.lst (front.map md)) (.lst [md (2, .pair u v)]) S5 = .ok (.lst (front.map md ++ [md (2, .pair u v)])) S5 := by rw [op_add_ll (by simp [most]; omega)]; rfl
    have o9 : op2 false .add (.lst (front.map md ++ [md (2, .pair u v)])) (.lst (back.map md ++ ends.map md)) S5 = .ok (.lst (row.map md)) S5 := by rw [op_add_ll (by simp [most]; omega)]; simp [row]
    simp only [md, Say.d] at o8 o9
    rw [cs_step (env' := [some (.ref n), some (bk g1 a1), some (bk g2 a2), some (.int held), some (.int d), some (.lst (ends.map md)), some (.lst (front.map md)), some (.lst (back.map md ++ ends.map md)), some (.lst [.tup [p1.d, a1.d], .tup [p2.d, a2.d]]), some (.lst (row.map md)), none, some (.int t), some (.int c), some (.tup [u.d, x.d]), some (.tup [v.d, y.d]), none, none, none, none]) (S' := S5) (by simp [ev_v, ev_lst, QL.at0, o8, o9, most])]
    have cp := row_places (call := callN Fs k) (env := [some (.ref n), some (bk g1 a1), some (bk g2 a2), some (.int held), some (.int d), some (.lst (ends.map md)), some (.lst (front.map md)), some (.lst (back.map md ++ ends.map md)), some (.lst [.tup [p1.d, a1.d], .tup [p2.d, a2.d]]), some (.lst (row.map md)), none, some (.int t), some (.int c), some (.tup [u.d, x.d]), some (.tup [v.d, y.d]), none, none, none, none]) (S := S5) (zs := row) (it := .var 9) (tE := .var 11) (i := 16) (j := 17) (own := [16, 17]) (t := t) (by rw [ev_v]; rfl) (by decide) (by simp) (by simp) (by unfold most; omega) (fun _ _ _ => by rw [ev_v]; rfl)
    rw [cs_step (env' := [some (.ref n), some (bk g1 a1), some (bk g2 a2), some (.int held), some (.int d), some (.lst (ends.map md)), some (.lst (front.map md)), some (.lst (back.map md ++ ends.map md)), some (.lst [.tup [p1.d, a1.d], .tup [p2.d, a2.d]]), some (.lst (row.map md)), some (.tup ((plc t row).map D.int)), some (.int t), some (.int c), some (.tup [u.d, x.d]), some (.tup [v.d, y.d]), none, none, none, none]) (S' := S5) ((c_asg_of (d := .tup ((plc t row).map D.int)) (S1 := S5) (by simp only [ev_blt, evs_cons, evs_nil, cp, R.bind_ok, tuple_lst])).trans rfl)]
    have cr := row_says (call := callN Fs k) (env := [some (.ref n), some (bk g1 a1), some (bk g2 a2), some (.int held), some (.int d), some (.lst (ends.map md)), some (.lst (front.map md)), some (.lst (back.map md ++ ends.map md)), some (.lst [.tup [p1.d, a1.d], .tup [p2.d, a2.d]]), some (.lst (row.map md)), some (.tup ((plc t row).map D.int)), some (.int t), some (.int c), some (.tup [u.d, x.d]), some (.tup [v.d, y.d]), none, none, none, none]) (S := S5) (zs := row) (it := .var 9) (i := 18) (j := 15) (own := [18, 15]) (by rw [ev_v]; rfl) (by decide) (by simp) (by simp) (by unfold most; omega)
    rw [cs_ret_of (d := bk (row.map (·.2)) (.pair front.length (plc t row) x y)) (S1 := S5) (by simp only [ev_tup, evs_cons, evs_nil, ev_blt, cr, R.bind_ok, tuple_lst]; simp [ev_v, most, QL.at1, bk, Acc.d])]
    exact finP_data0 ((((b4.trans c4).trans d4).trans e3).trans f3) false
  · rcases huv with ⟨_, _, h1, h2⟩ | ⟨_, _, h1, h2⟩
    · exact .inl ⟨h1, h2⟩
    · exact .inr ⟨h1, h2⟩
  · rw [List.length_map]; omega
  · rw [List.length_map]; omega
  · intro s hs
    obtain ⟨z, hz, rfl⟩ := List.mem_map.mp hs
    simp only [row, List.mem_append, List.mem_singleton] at hz
    have side : ∀ {xs ys : List Say} {zs : List (Int × Say)}, Mg xs ys zs → (∀ s ∈ xs, s ∈ g1) → (∀ s ∈ ys, s ∈ g2) → z ∈ zs → z.2 ∈ g1 ∨ z.2 ∈ g2 := fun m q1 q2 hz => mg_le m q1 q2 z hz
    rcases hz with (hz | rfl) | hz | hz
    · rcases side e2 (fun _ q => cut_mem q) (fun _ q => cut_mem q) hz with q | q
      · exact .inl q
      · exact .inr (.inl q)
    · refine .inr (.inr ⟨u, v, rfl, ?_⟩)
      rcases huv with ⟨h1, h2, _⟩ | ⟨h1, h2, _⟩
      · exact .inl ⟨by rw [h1]; exact hp1, by rw [h2]; exact hp2⟩
      · exact .inr ⟨by rw [h1]; exact hp2, by rw [h2]; exact hp1⟩
    · rcases side f2 (fun _ q => cut_mem q) (fun _ q => cut_mem q) hz with q | q
      · exact .inl q
      · exact .inr (.inl q)
    · obtain ⟨w, hw, rfl⟩ := List.mem_map.mp hz
      exact .inl (cut_mem hw)
  · exact ((((b4.trans c4).trans d4).trans e3).trans f3).mono (by
      have := cutL_len_le g1 none (some c); have := cutL_len_le g2 none (some d); have := cutL_len_le g1 (some (c + 1)) (some ((g1.length : Int) - held)); have := cutL_len_le g2 (some (d + 1)) none; omega)
end KB
end
section
set_option maxRecDepth 100000
set_option exponentiation.threshold 3000
/-! KBc: a drawn step more. -/
namespace KB
open PySem L2 MP
open QL (Say Nm Lt at0 at1)
local macro_rules | `(tactic| simp! [$xs,*]) => `(tactic| first | ((first | with_reducible refine MP.k_asg ?_ | with_reducible refine MP.k_ife ?_ | with_reducible refine MP.k_ret ?_ | with_reducible refine MP.k_par ?_ | with_reducible refine MP.k_ex ?_ | with_reducible refine MP.k_for ?_ | with_reducible refine MP.k_seti ?_ | with_reducible refine MP.k_star ?_ | with_reducible refine MP.k_aug ?_); with_reducible refine MP.w_hide ?_; intro P' hP'; simp only [R.bind_ok, MP.w_ok, MP.w_bind, MP.w_mk, MP.w_ck, MP.w_br, MP.br_t, MP.br_f, MP.br_or, MP.br_and, MP.ck_t, MP.mk_true, MP.most, Nat.reduceAdd, Nat.reduceLeDiff, Int.reduceAdd, Int.reduceSub, Int.reduceNeg, Int.reduceMul, Int.reduceMod, MP.e_var, MP.vl_some, MP.ev_lit, MP.ev_glob, MP.ev_bin, MP.ev_not, MP.e_and, MP.e_or, MP.ev_cmp, MP.ev_tup, MP.e_lst, MP.ev_idx, MP.ev_call, MP.ev_blt, MP.e_meth, MP.e_chain, MP.ch2_bl, MP.e_neg, MP.ng_int, MP.e_ite, MP.ev_slc, MP.evO_none, MP.e_O, MP.oI_int, MP.e_rev, MP.rvT_tup, MP.rvT_lst, MP.i_range1, MP.rg1_int, MP.i_range2, MP.rg2_int, MP.i_enum, MP.enRow_lst, MP.enRow_row, MP.enRow_tup, MP.evi_seq, MP.seq_l, MP.seq_t, MP.seq_r, MP.seq_s, MP.evs_nil, MP.evs_cons, MP.t_cons, MP.t_nil, MP.op_add_ii, MP.op_sub_ii, MP.op_mul_ii, MP.op_fdiv_ii, MP.op_mod_ii, MP.op_add_ss, MP.op_add_tt, MP.o_add_ll, MP.mkL_false, MP.mkL_true, MP.cp_lt_ii, MP.cp_le_ii, MP.cp_gt_ii, MP.cp_ge_ii, MP.cp_eq_ii, MP.cp_ne_ii, MP.cp_eq_ss, MP.cp_ne_ss, MP.cp_eq_nil, MP.cp_ne_nil, MP.cp_is_non, MP.cp_isnot_non, MP.len_str, MP.len_lst, MP.len_tup, MP.len_row, MP.abs_i, MP.int_i, MP.int_b, MP.min_ii, MP.max_ii, MP.tuple_tup, MP.tuple_lst, MP.l_list_t, MP.l_list_l, MP.test_bl, MP.test_int, MP.test_str, MP.test_lst, MP.test_tup, MP.a0, MP.a1, MP.a2, MP.a3, MP.a4, MP.l0, MP.l1, MP.l2, MP.l3, MP.sl_t, MP.sl_l, MP.sl_s, MP.sl_r, MP.in_2, List.getElem?_cons_succ, List.getElem?_cons_zero, List.set_cons_succ, List.set_cons_zero, List.length_cons, List.length_nil, List.length_map, List.length_append, decide_true, decide_false, decide_eq_true_eq, decide_eq_false_iff_not, Bool.and_eq_true, Bool.not_true, Bool.not_false, Bool.true_and, Bool.and_true, Bool.false_and, Bool.or_false, Bool.or_true, Bool.false_or, Bool.true_or, true_and, and_true, $xs,*]; subst hP'; (try simp only [MP.KB_some, MP.BR_t, MP.BR_f, MP.bindT_nm, MP.bindT, MP.bindTs, MP.setMany, Option.bind_some, List.set_cons_succ, List.set_cons_zero, List.cons_append, List.nil_append])) | (simp only [R.bind_ok, MP.w_ok, MP.w_bind, MP.w_mk, MP.w_ck, MP.w_br, MP.br_t, MP.br_f, MP.br_or, MP.br_and, MP.ck_t, MP.mk_true, MP.most, Nat.reduceAdd, Nat.reduceLeDiff, Int.reduceAdd, Int.reduceSub, Int.reduceNeg, Int.reduceMul, Int.reduceMod, MP.e_var, MP.vl_some, MP.ev_lit, MP.ev_glob, MP.ev_bin, MP.ev_not, MP.e_and, MP.e_or, MP.ev_cmp, MP.ev_tup, MP.e_lst, MP.ev_idx, MP.ev_call, MP.ev_blt, MP.e_meth, MP.e_chain, MP.ch2_bl, MP.e_neg, MP.ng_int, MP.e_ite, MP.ev_slc, MP.evO_none, MP.e_O, MP.oI_int, MP.e_rev, MP.rvT_tup, MP.rvT_lst, MP.i_range1, MP.rg1_int, MP.i_range2, MP.rg2_int, MP.i_enum, MP.enRow_lst, MP.enRow_row, MP.enRow_tup, MP.evi_seq, MP.seq_l, MP.seq_t, MP.seq_r, MP.seq_s, MP.evs_nil, MP.evs_cons, MP.t_cons, MP.t_nil, MP.op_add_ii, MP.op_sub_ii, MP.op_mul_ii, MP.op_fdiv_ii, MP.op_mod_ii, MP.op_add_ss, MP.op_add_tt, MP.o_add_ll, MP.mkL_false, MP.mkL_true, MP.cp_lt_ii, MP.cp_le_ii, MP.cp_gt_ii, MP.cp_ge_ii, MP.cp_eq_ii, MP.cp_ne_ii, MP.cp_eq_ss, MP.cp_ne_ss, MP.cp_eq_nil, MP.cp_ne_nil, MP.cp_is_non, MP.cp_isnot_non, MP.len_str, MP.len_lst, MP.len_tup, MP.len_row, MP.abs_i, MP.int_i, MP.int_b, MP.min_ii, MP.max_ii, MP.tuple_tup, MP.tuple_lst, MP.l_list_t, MP.l_list_l, MP.test_bl, MP.test_int, MP.test_str, MP.test_lst, MP.test_tup, MP.a0, MP.a1, MP.a2, MP.a3, MP.a4, MP.l0, MP.l1, MP.l2, MP.l3, MP.sl_t, MP.sl_l, MP.sl_s, MP.sl_r, MP.in_2, List.getElem?_cons_succ, List.getElem?_cons_zero, List.set_cons_succ, List.set_cons_zero, List.length_cons, List.length_nil, List.length_map, List.length_append, decide_true, decide_false, decide_eq_true_eq, decide_eq_false_iff_not, Bool.and_eq_true, Bool.not_true, Bool.not_false, Bool.true_and, Bool.and_true, Bool.false_and, Bool.or_false, Bool.or_true, Bool.false_or, Bool.true_or, true_and, and_true, $xs,*]; (try simp only [MP.KB_some, MP.BR_t, MP.BR_f, MP.bindT_nm, MP.bindT, MP.bindTs, MP.setMany, Option.bind_some, List.set_cons_succ, List.set_cons_zero, List.cons_append, List.nil_append])))
variable {Fs : List Fn} {ix : Ix}
theorem w_fin {S S' : Store} {n p B : Nat} {leak : Bool} {v : D} {T : D → Store → Prop} (d : DrP S n p B S') (h : T v S') : W (fin leak S v S') T := ⟨v, S', finP_data0 d leak, h⟩
/-- the saying at a place -/
def gt (g : List Say) (i : Int) : Say := g[i.toNat]?.getD .one
theorem gt_mem {g : List Say} {i : Int} (h0 : 0 ≤ i) (h1 : i < g.length) : gt g i ∈ g := by
  have hd : i.toNat < g.length := by omega
  unfold gt
  rw [List.getElem?_eq_getElem hd]
  exact List.getElem_mem hd
theorem gt_at {g : List Say} {i : Int} {S : Store} (h0 : 0 ≤ i) (h1 : i < g.length) : atD (.tup (g.map Say.d)) (.int i) S = .ok (gt g i).d S := by
  have hd : i.toNat < g.length := by omega
  refine at_tup (ixn_in h0 (by simpa using h1)) ?_
  unfold gt
  simp [hd]
theorem cut_t {α : Type} {xs : List α} {i : Int} (h0 : 0 ≤ i) (h1 : i ≤ xs.length) : (cutL xs none (some i)).length = i.toNat := by
  rw [cutL_take h0, List.length_take]; omega
theorem cut_d {α : Type} {xs : List α} {i : Int} (h0 : 0 ≤ i) : (cutL xs (some i) none).length = xs.length - i.toNat := by
  rw [cutL_drop h0, List.length_drop]
theorem Gs.mono {m m' : Nat} {g : List Say} (h : Gs m g) (l : m ≤ m') : Gs m' g := fun s hs => ⟨by have := (h s hs).1; omega, (h s hs).2⟩
theorem Gs.put {m : Nat} {g mid : List Say} {lo hi : Option Int} (h : Gs m g) (h2 : Gs m mid) : Gs m (cutL g none lo ++ mid ++ cutL g hi none) := fun s hs => by
  simp only [List.mem_append] at hs
  rcases hs with (hs | hs) | hs
  · exact h s (cut_mem hs)
  · exact h2 s hs
  · exact h s (cut_mem hs)
theorem Gs.one {m : Nat} {s : Say} (h1 : s.deep ≤ m) (h2 : s.Ok) (h3 : Sp s) : Gs m [s] := fun t ht => by
  have : t = s := by simpa using ht
  rw [this]; exact ⟨h1, h2, h3⟩
/-- a block that comes of another one: how long it may be, how deep -/
structure Nx (m : Nat) (g : List Say) (a : Acc) (held : Int) (g' : List Say) (a' : Acc) : Prop where
  gs : Gs (m + 2) g'
  held : held < g'.length
  long : g'.length ≤ g.length + 3
  ok : a'.Ok
  deep : a'.deep ≤ a.deep + 2
theorem pk {s e : Say} {m : Nat} {sd : Int} (h1 : s.deep ≤ m) (h2 : s.Ok) (h3 : Sp s) (e1 : e.deep ≤ m) (e2 : e.Ok) (e3 : Sp e) : ∃ q : Say, q.deep ≤ m + 1 ∧ q.Ok ∧ Sp q ∧ (sd = 0 → D.tup [.str [112, 105, 99, 107], s.d, e.d] = q.d) ∧ (¬ sd = 0 → D.tup [.str [112, 105, 99, 107], e.d, s.d] = q.d) := by
  by_cases h : sd = 0
  · exact ⟨.pick s e, by simp only [Say.deep]; omega, ⟨h2, e2⟩, ⟨h3, e3⟩, fun _ => rfl, fun q => (q h).elim⟩
  · exact ⟨.pick e s, by simp only [Say.deep]; omega, ⟨e2, h2⟩, ⟨e3, h3⟩, fun q => (h q).elim, fun _ => rfl⟩
theorem step_on (ok : OkA Fs ix) {K n p B : Nat} {S : Store} {g : List Say} {a : Acc} {held : Int} (hK : 9 ≤ K) (h : Pot S n p B) (hB : B < 2 ^ 48) (h0 : 0 ≤ held) (hh : held < g.length) (hg : Gs 6 g) (hl : g.length ≤ 20) (ha : a.Ok) :
    W (callN Fs K ix.step_on [.ref n, bk g a, .int held] S) fun d S' => ∃ g' a', d = bk g' a' ∧ Nx 6 g a held g' a' ∧ DrP S n p (B + 2000) S' := by
  obtain ⟨k, rfl⟩ : ∃ k, K = k + 1 := ⟨K - 1, by omega⟩
  refine w_call ok.step_on rfl ?_
  show WQ (evCs (callN Fs k) (b_step_on ix) [some (.ref n), some (bk g a), some (.int held), none, none, none, none, none, none, none, none, none, none, none, none, none] S) _
  obtain ⟨w, S1, t1, t2, t3, t4⟩ := take ok (K := k) (many := 6) (by omega) h (by omega) (by decide) (by decide)
  obtain ⟨ex, S2, x1, x2, x3, x4, x5⟩ := saying ok 2 k n p (B + 1) S1 3 (by omega) (by decide) t4.pot (by omega)
  obtain ⟨at', S3, u1, u2, u3, u4⟩ := take ok (K := k) (many := (g.length : Int) - held + 1) (by omega) x5.pot (by omega) (by omega) (by omega)
  obtain ⟨sd, S4, v1, v2, v3, v4⟩ := take ok (K := k) (many := 2) (by omega) u4.pot (by omega) (by decide) (by decide)
  have dr := (((t4.trans x5).trans u4).trans v4).mono (B' := B + 200) (by omega)
  unfold b_step_on
  simp! [t1, x1, u1, v1, bk]
  simp! [u1]
  simp! [u1, v1]
  simp! [cutL_map]
  have c1 := cut_t (xs := g) u2 (by omega)
  have c2 := cut_d (xs := g) u2
  refine BR_i (fun q => ?_) fun q => ?_
  · simp! [cutL_map]
    refine ⟨by omega, by omega, ?_⟩
    refine w_fin dr ⟨cutL g none (some at') ++ [.none] ++ cutL g (some at') none, .none at' a, by simp [bk, Say.d, Acc.d], ⟨(hg.put (.one (s := .none) (by decide) trivial trivial)).mono (by omega), ?_, ?_, ha, by simp [Acc.deep]; omega⟩, dr.mono (by omega)⟩
    · simp [c1, c2]; omega
    · simp [c1, c2]; omega
  simp only [Bool.or_eq_false_iff, decide_eq_false_iff_not] at q
  simp! []
  refine BR_i (fun q2 => ?_) fun q2 => ?_
  · simp only [Bool.and_eq_true, decide_eq_true_eq] at q2
    simp! []
    obtain ⟨i, hi, hi0, hi1⟩ : ∃ i : Int, (if (g.length : Int) - held - 2 < at' then (g.length : Int) - held - 2 else at') = i ∧ 0 ≤ i ∧ i ≤ g.length - held - 2 := ⟨_, rfl, by split <;> omega, by split <;> omega⟩
    rw [hi]
    have d1 := cut_t (xs := g) hi0 (by omega)
    have d2 := cut_d (xs := g) (i := i + 2) (by omega)
    simp! [cutL_map, gt_at (g := g) (i := i) hi0 (by omega), gt_at (g := g) (i := i + 1) (by omega) (by omega)]
    refine ⟨by omega, by omega, ?_⟩
    have m1 := hg _ (gt_mem (g := g) (i := i) hi0 (by omega))
    have m2 := hg _ (gt_mem (g := g) (i := i + 1) (by omega) (by omega))
    refine w_fin dr ⟨cutL g none (some i) ++ [.bind (gt g i) (gt g (i + 1))] ++ cutL g (some (i + 2)) none, .bind i a, by simp [bk, Say.d, Acc.d], ⟨(hg.mono (by omega)).put (.one (s := .bind _ _) (by simp only [Say.deep]; omega) ⟨m1.2.1, m2.2.1⟩ ⟨m1.2.2, m2.2.2⟩), ?_, ?_, ha, by simp [Acc.deep]; omega⟩, dr.mono (by omega)⟩
    · simp [d1, d2]; omega
    · simp [d1, d2]; omega
  simp! []
  obtain ⟨i, hi, hi0, hi1⟩ : ∃ i : Int, (if (g.length : Int) - held - 1 < at' then (g.length : Int) - held - 1 else at') = i ∧ 0 ≤ i ∧ i ≤ g.length - held - 1 := ⟨_, rfl, by split <;> omega, by split <;> omega⟩
  rw [hi]
  have d1 := cut_t (xs := g) hi0 (by omega)
  have d2 := cut_d (xs := g) (i := i + 1) (by omega)
  have g1 : ∀ S, _ := fun S => gt_at (S := S) (g := g) (i := i) hi0 (by omega)
  have m1 := hg _ (gt_mem (g := g) (i := i) hi0 (by omega))
  obtain ⟨pq, p1, p2, p3, p4, p5⟩ := pk (sd := sd) m1.1 m1.2.1 m1.2.2 (show ex.deep ≤ 6 by omega) x3 x4
  have hb : ∀ S, br (decide (sd = 0)) (R.ok (D.tup [.str [112, 105, 99, 107], (gt g i).d, ex.d]) S) (R.ok (D.tup [.str [112, 105, 99, 107], ex.d, (gt g i).d]) S) = R.ok pq.d S := fun S => by
    by_cases e : sd = 0
    · rw [decide_eq_true e, p4 e]; rfl
    · rw [decide_eq_false e, p5 e]; rfl
  simp! [g1, hb]
  simp! []
  refine BR_p (fun q3 => ?_) fun q3 => ?_
  · simp! [cutL_map]
    refine ⟨by omega, by omega, ?_⟩
    simp! []
    have mid : ∀ (u : Say) (b : Acc), u.deep ≤ 8 → u.Ok → Sp u → b.Ok → b.deep ≤ a.deep + 2 → Nx 6 g a held (cutL g none (some i) ++ [u] ++ cutL g (some (i + 1)) none) b := fun u b h1 h2 h3 h4 h5 =>
      ⟨(hg.mono (by omega)).put (.one h1 h2 h3), by simp [d1, d2]; omega, by simp [d1, d2]; omega, h4, h5⟩
    refine BR_p (fun q4 => ?_) fun q4 => ?_
    · simp! []
      exact w_fin dr ⟨cutL g none (some i) ++ [pq] ++ cutL g (some (i + 1)) none, .pick i sd a, by simp [bk, Acc.d], mid _ _ (by omega) p2 p3 ha (by simp [Acc.deep]; omega), dr.mono (by omega)⟩
    · simp! [g1]
      have hs : sd = 0 ∨ sd = 1 := by omega
      have mn : ∀ u v : Say, ∀ b c : Acc, u.deep ≤ 7 → u.Ok → Sp u → v.deep ≤ 7 → v.Ok → Sp v → b.Ok → c.Ok → b.deep ≤ a.deep + 1 → c.deep ≤ a.deep + 1 → Nx 6 g a held (cutL g none (some i) ++ [.menu u v] ++ cutL g (some (i + 1)) none) (.menu i b c) := fun u v b c h1 h2 h3 h4 h5 h6 h7 h8 h9 h10 =>
        mid _ _ (by simp only [Say.deep]; omega) ⟨h2, h5⟩ ⟨h3, h6⟩ ⟨h7, h8⟩ (by simp [Acc.deep]; omega)
      rcases hs with rfl | rfl
      · simp! []
        simp! []
        simp! [cutL_map]
        refine ⟨by omega, by omega, ?_⟩
        exact w_fin dr ⟨_, _, by simp [bk, Acc.d, Say.d], mn (gt g i) pq a (.pick i 0 a) (by omega) m1.2.1 m1.2.2 (by omega) p2 p3 ha ha (by omega) (by simp [Acc.deep]; omega), dr.mono (by omega)⟩
      · simp! []
        simp! []
        simp! [cutL_map]
        refine ⟨by omega, by omega, ?_⟩
        exact w_fin dr ⟨_, _, by simp [bk, Acc.d, Say.d], mn pq (gt g i) (.pick i 1 a) a (by omega) p2 p3 (by omega) m1.2.1 m1.2.2 ha ha (by simp [Acc.deep]; omega) (by omega), dr.mono (by omega)⟩
  · obtain ⟨g2, a2, S5, e1, e2, e3, e4, e5, e6, e7⟩ := begin ok (K := k) (by omega) dr.pot (by omega)
    obtain ⟨g', i', ps, x, y, S6, f1, f2, f3, f4, f5, f6⟩ := paired ok (K := k) (g1 := g) (g2 := g2) (a1 := a) (a2 := a2) (held := held) (by omega) e7.pot (by omega) h0 hh (by omega) e2 (by omega)
    simp! [e1, f1]
    refine w_fin ((dr.trans e7).trans f6) ⟨g', _, rfl, ⟨fun s hs => ?_, f3, by omega, ?_, ?_⟩, ((dr.trans e7).trans f6).mono (by omega)⟩
    · have hg2 : Gs 6 g2 := e4.mono (by omega)
      rcases f5 s hs with q | q | ⟨u, v, rfl, q⟩
      · exact (hg.mono (by omega)) s q
      · exact (hg2.mono (by omega)) s q
      · have hu : (u.deep ≤ 6 ∧ u.Ok ∧ Sp u) ∧ (v.deep ≤ 6 ∧ v.Ok ∧ Sp v) := by
          rcases q with ⟨q1, q2⟩ | ⟨q1, q2⟩
          · exact ⟨hg _ q1, hg2 _ q2⟩
          · exact ⟨hg2 _ q1, hg _ q2⟩
        exact ⟨by simp only [Say.deep]; omega, ⟨hu.1.2.1, hu.2.2.1⟩, ⟨hu.1.2.2, hu.2.2.2⟩⟩
    · rcases f2 with ⟨rfl, rfl⟩ | ⟨rfl, rfl⟩
      · exact ⟨ha, e5⟩
      · exact ⟨e5, ha⟩
    · rcases f2 with ⟨rfl, rfl⟩ | ⟨rfl, rfl⟩ <;> simp only [Acc.deep] <;> omega
end KB
end
section
set_option maxRecDepth 100000
set_option exponentiation.threshold 3000
/-! KBd: grown, cut. -/
namespace KB
open PySem L2 MP
open QL (Say Nm Lt at0 at1)
local macro_rules | `(tactic| simp! [$xs,*]) => `(tactic| first | ((first | with_reducible refine MP.k_asg ?_ | with_reducible refine MP.k_ife ?_ | with_reducible refine MP.k_ret ?_ | with_reducible refine MP.k_par ?_ | with_reducible refine MP.k_ex ?_ | with_reducible refine MP.k_for ?_ | with_reducible refine MP.k_seti ?_ | with_reducible refine MP.k_star ?_ | with_reducible refine MP.k_aug ?_); with_reducible refine MP.w_hide ?_; intro P' hP'; simp only [R.bind_ok, MP.w_ok, MP.w_bind, MP.w_mk, MP.w_ck, MP.w_br, MP.br_t, MP.br_f, MP.br_or, MP.br_and, MP.ck_t, MP.mk_true, MP.most, Nat.reduceAdd, Nat.reduceLeDiff, Int.reduceAdd, Int.reduceSub, Int.reduceNeg, Int.reduceMul, Int.reduceMod, MP.e_var, MP.vl_some, MP.ev_lit, MP.ev_glob, MP.ev_bin, MP.ev_not, MP.e_and, MP.e_or, MP.ev_cmp, MP.ev_tup, MP.e_lst, MP.ev_idx, MP.ev_call, MP.ev_blt, MP.e_meth, MP.e_chain, MP.ch2_bl, MP.e_neg, MP.ng_int, MP.e_ite, MP.ev_slc, MP.evO_none, MP.e_O, MP.oI_int, MP.e_rev, MP.rvT_tup, MP.rvT_lst, MP.i_range1, MP.rg1_int, MP.i_range2, MP.rg2_int, MP.i_enum, MP.enRow_lst, MP.enRow_row, MP.enRow_tup, MP.evi_seq, MP.seq_l, MP.seq_t, MP.seq_r, MP.seq_s, MP.evs_nil, MP.evs_cons, MP.t_cons, MP.t_nil, MP.op_add_ii, MP.op_sub_ii, MP.op_mul_ii, MP.op_fdiv_ii, MP.op_mod_ii, MP.op_add_ss, MP.op_add_tt, MP.o_add_ll, MP.mkL_false, MP.mkL_true, MP.cp_lt_ii, MP.cp_le_ii, MP.cp_gt_ii, MP.cp_ge_ii, MP.cp_eq_ii, MP.cp_ne_ii, MP.cp_eq_ss, MP.cp_ne_ss, MP.cp_eq_nil, MP.cp_ne_nil, MP.cp_is_non, MP.cp_isnot_non, MP.len_str, MP.len_lst, MP.len_tup, MP.len_row, MP.abs_i, MP.int_i, MP.int_b, MP.min_ii, MP.max_ii, MP.tuple_tup, MP.tuple_lst, MP.l_list_t, MP.l_list_l, MP.test_bl, MP.test_int, MP.test_str, MP.test_lst, MP.test_tup, MP.a0, MP.a1, MP.a2, MP.a3, MP.a4, MP.l0, MP.l1, MP.l2, MP.l3, MP.sl_t, MP.sl_l, MP.sl_s, MP.sl_r, MP.in_2, List.getElem?_cons_succ, List.getElem?_cons_zero, List.set_cons_succ, List.set_cons_zero, List.length_cons, List.length_nil, List.length_map, List.length_append, decide_true, decide_false, decide_eq_true_eq, decide_eq_false_iff_not, Bool.and_eq_true, Bool.not_true, Bool.not_false, Bool.true_and, Bool.and_true, Bool.false_and, Bool.or_false, Bool.or_true, Bool.false_or, Bool.true_or, true_and, and_true, $xs,*]; subst hP'; (try simp only [MP.KB_some, MP.BR_t, MP.BR_f, MP.bindT_nm, MP.bindT, MP.bindTs, MP.setMany, Option.bind_some, List.set_cons_succ, List.set_cons_zero, List.cons_append, List.nil_append])) | (simp only [R.bind_ok, MP.w_ok, MP.w_bind, MP.w_mk, MP.w_ck, MP.w_br, MP.br_t, MP.br_f, MP.br_or, MP.br_and, MP.ck_t, MP.mk_true, MP.most, Nat.reduceAdd, Nat.reduceLeDiff, Int.reduceAdd, Int.reduceSub, Int.reduceNeg, Int.reduceMul, Int.reduceMod, MP.e_var, MP.vl_some, MP.ev_lit, MP.ev_glob, MP.ev_bin, MP.ev_not, MP.e_and, MP.e_or, MP.ev_cmp, MP.ev_tup, MP.e_lst, MP.ev_idx, MP.ev_call, MP.ev_blt, MP.e_meth, MP.e_chain, MP.ch2_bl, MP.e_neg, MP.ng_int, MP.e_ite, MP.ev_slc, MP.evO_none, MP.e_O, MP.oI_int, MP.e_rev, MP.rvT_tup, MP.rvT_lst, MP.i_range1, MP.rg1_int, MP.i_range2, MP.rg2_int, MP.i_enum, MP.enRow_lst, MP.enRow_row, MP.enRow_tup, MP.evi_seq, MP.seq_l, MP.seq_t, MP.seq_r, MP.seq_s, MP.evs_nil, MP.evs_cons, MP.t_cons, MP.t_nil, MP.op_add_ii, MP.op_sub_ii, MP.op_mul_ii, MP.op_fdiv_ii, MP.op_mod_ii, MP.op_add_ss, MP.op_add_tt, MP.o_add_ll, MP.mkL_false, MP.mkL_true, MP.cp_lt_ii, MP.cp_le_ii, MP.cp_gt_ii, MP.cp_ge_ii, MP.cp_eq_ii, MP.cp_ne_ii, MP.cp_eq_ss, MP.cp_ne_ss, MP.cp_eq_nil, MP.cp_ne_nil, MP.cp_is_non, MP.cp_isnot_non, MP.len_str, MP.len_lst, MP.len_tup, MP.len_row, MP.abs_i, MP.int_i, MP.int_b, MP.min_ii, MP.max_ii, MP.tuple_tup, MP.tuple_lst, MP.l_list_t, MP.l_list_l, MP.test_bl, MP.test_int, MP.test_str, MP.test_lst, MP.test_tup, MP.a0, MP.a1, MP.a2, MP.a3, MP.a4, MP.l0, MP.l1, MP.l2, MP.l3, MP.sl_t, MP.sl_l, MP.sl_s, MP.sl_r, MP.in_2, List.getElem?_cons_succ, List.getElem?_cons_zero, List.set_cons_succ, List.set_cons_zero, List.length_cons, List.length_nil, List.length_map, List.length_append, decide_true, decide_false, decide_eq_true_eq, decide_eq_false_iff_not, Bool.and_eq_true, Bool.not_true, Bool.not_false, Bool.true_and, Bool.and_true, Bool.false_and, Bool.or_false, Bool.or_true, Bool.false_or, Bool.true_or, true_and, and_true, $xs,*]; (try simp only [MP.KB_some, MP.BR_t, MP.BR_f, MP.bindT_nm, MP.bindT, MP.bindTs, MP.setMany, Option.bind_some, List.set_cons_succ, List.set_cons_zero, List.cons_append, List.nil_append])))
variable {Fs : List Fn} {ix : Ix}
/-- a block that stands -/
structure Bl (held : Int) (g : List Say) (a : Acc) : Prop where
  gs : Gs 6 g
  held : held < g.length
  long : g.length ≤ 8
  ok : a.Ok
  deep : a.deep ≤ 60
  size : a.size ≤ 200
theorem fit_bl {held : Int} {g : List Say} {a : Acc} (h : fitB g = true) (hg : Gs 8 g) (hh : held < g.length) (ha : a.Ok) (hd : a.size < 60) : Bl held g a := by
  unfold fitB at h
  simp only [Bool.and_eq_true, decide_eq_true_eq, List.all_eq_true] at h
  exact ⟨fun s hs => ⟨by have := h.2.2 s hs; omega, (hg s hs).2⟩, hh, by omega, ha, by have := a.deep_size; omega, by omega⟩
theorem grown (ok : OkA Fs ix) {K n p B : Nat} {S : Store} {g : List Say} {a : Acc} {held many : Int} (hK : 70 ≤ K) (h : Pot S n p B) (hB : B < 2 ^ 46) (h0 : 0 ≤ held) (b : Bl held g a) (m0 : 0 ≤ many) (m1 : many ≤ 10) :
    W (callN Fs K ix.grown [.ref n, bk g a, .int many, .int held] S) fun d S' => ∃ g' a', d = bk g' a' ∧ Bl held g' a' ∧ DrP S n p (B + 20000) S' := by
  obtain ⟨k, rfl⟩ : ∃ k, K = k + 1 := ⟨K - 1, by omega⟩
  refine w_call ok.grown rfl ?_
  show WQ (evCs (callN Fs k) (b_grown ix) [some (.ref n), some (bk g a), some (.int many), some (.int held), none, none] S) _
  unfold b_grown
  simp! []
  refine ⟨decide_eq_true (by omega), ?_⟩
  refine w_for rfl (fun ds env T => ∃ g' a' u v, env = [some (.ref n), some (bk g' a'), some (.int many), some (.int held), u, v] ∧ Bl held g' a' ∧ ds.length ≤ many.toNat ∧ DrP S n p (B + 2000 * (many.toNat - ds.length)) T) _ _ _ ⟨g, a, none, none, rfl, b, by simp [rangeL], by simp [rangeL]; exact DrP.refl h⟩ ?_ ?_
  · rintro env T ⟨g', a', u, v, rfl, b', _, dr⟩
    simp! []
    exact w_fin dr ⟨g', a', rfl, b', dr.mono (by simp; omega)⟩
  · rintro d ds env T ⟨g', a', u, v, rfl, b', l, dr⟩
    rw [List.length_cons] at l dr
    refine ⟨_, rfl, ?_⟩
    simp! []
    refine (step_on ok (K := k) (by omega) dr.pot (by omega) h0 b'.held b'.gs (by have := b'.long; omega) b'.ok).mono ?_
    rintro e T2 ⟨g2, a2, rfl, nx, dr2⟩
    have dd := (dr.trans dr2).mono (B' := B + 2000 * (many.toNat - ds.length)) (by omega)
    simp! []
    have f1 := fits ok (K := k) (m := 8) (ss := g2) (S := T2) (by omega) (fun s hs => (nx.gs s hs).1) (by have := nx.long; have := b'.long; omega)
    have f2 := size ok 62 k a2 T2 (by have := nx.deep; have := b'.deep; omega) (by omega)
    simp! [bk_0, bk_1, f1, f2]
    have old : ∃ g3 a3 u3 v3, [some (D.ref n), some (bk g' a'), some (D.int many), some (D.int held), some d, some (bk g2 a2)] = [some (D.ref n), some (bk g3 a3), some (.int many), some (.int held), u3, v3] ∧ Bl held g3 a3 ∧ ds.length ≤ many.toNat ∧ DrP S n p (B + 2000 * (many.toNat - ds.length)) T2 := ⟨g', a', _, _, rfl, b', by omega, dd⟩
    refine ⟨fun q => ⟨fun q2 => ?_, fun q2 => ?_⟩, fun q => ⟨fun q2 => ?_, fun q2 => ?_⟩⟩
    · refine k_nil ?_
      exact ⟨g2, a2, _, _, rfl, fit_bl q nx.gs nx.held nx.ok (by omega), by omega, dd⟩
    · refine k_nil ?_
      exact old
    · rw [q] at q2; cases q2
    · refine k_nil ?_
      exact old
/-- the places of the sayings of one side, the sayings -/
theorem cut (ok : OkA Fs ix) {K n p B : Nat} {S : Store} {g1 g2 : List Say} {a1 a2 : Acc} (hK : 3 ≤ K) (h : Pot S n p B) (hB : B < 2 ^ 50) (h1 : 1 ≤ g1.length) (h2 : 1 ≤ g2.length) (l1 : g1.length ≤ 20) (l2 : g2.length ≤ 20) :
    W (callN Fs K ix.cut [.ref n, bk g1 a1, bk g2 a2] S) fun d S' => ∃ (g : List Say) (s : Say) (ps : List Int), d = bk g (.cut s ps a1 a2) ∧ s ∈ g1 ∧ g.length + 2 = g1.length + g2.length ∧ (∀ t ∈ g, t ∈ g1 ∨ t ∈ g2) ∧ DrP S n p (B + 100) S' := by
  obtain ⟨k, rfl⟩ : ∃ k, K = k + 1 := ⟨K - 1, by omega⟩
  refine w_call ok.cut rfl ?_
  show WQ (evCs (callN Fs k) (b_cut ix) [some (.ref n), some (bk g1 a1), some (bk g2 a2), none, none, none, none, none, none] S) _
  obtain ⟨row, S1, e1, e2, e3⟩ := merged ok (K := k) (xs := cutL g1 none (some (-1))) (ys := cutL g2 none (some (-1))) (by omega) h (by omega) (by have := cutL_len_le g1 none (some (-1)); have := cutL_len_le g2 none (some (-1)); omega)
  unfold b_cut
  have hrl : row.length + 2 = g1.length + g2.length := by
    have := e2.len
    simp [cutL, cutAt] at this
    omega
  have cp : ∀ (env : MP.Env) (S : Store), env.length = 9 → env[3]? = some (some (.lst (row.map md))) → evE (callN Fs k) (.comp false (.var 5) (.tup [.nm 5, .nm 6]) (.enum (.var 3)) [(.cmp .eq (.idx (.var 6) (.lit (.int (0)))) (.lit (.int (0))))] [5, 6]) env S = .ok (.lst ((plc 0 row).map D.int)) S := fun env S hl he =>
    row_places (it := .var 3) (tE := .lit (.int 0)) (by rw [ev_v, he]) (by decide) (by omega) (by omega) (by unfold most; omega) (fun _ _ _ => ev_lit _)
  have cs : ∀ (env : MP.Env) (S : Store), env.length = 9 → env[3]? = some (some (.lst (row.map md))) → evE (callN Fs k) (.comp false (.var 8) (.tup [.nm 7, .nm 8]) (.seq (.var 3)) [] [7, 8]) env S = .ok (.lst (row.map fun z => z.2.d)) S := fun env S hl he =>
    row_says (it := .var 3) (by rw [ev_v, he]) (by decide) (by omega) (by omega) (by unfold most; omega)
  have lst1 : ∀ S, atD (.tup (g1.map Say.d)) (.int (-1)) S = .ok (gt g1 (g1.length - 1)).d S := fun S => by
    refine at_tup (n := g1.length - 1) (by unfold ixn; simp; omega) ?_
    have he : ((g1.length : Int) - 1).toNat = g1.length - 1 := by omega
    unfold gt
    rw [he]
    simp [List.getElem?_eq_getElem (show g1.length - 1 < g1.length by omega)]
  simp! [bk_0, cutL_map, e1]
  have y1 := cutL_len_le g1 none (some (-1))
  have y2 := cutL_len_le g2 none (some (-1))
  simp! [cp]
  simp! [cs, bk_0, bk_1, lst1]
  refine w_fin e3 ⟨row.map (·.2), gt g1 (g1.length - 1), plc 0 row, by simp [bk, Acc.d], gt_mem (by omega) (by omega), by simp; omega, fun t ht => ?_, e3.mono (by omega)⟩
  obtain ⟨z, hz, rfl⟩ := List.mem_map.mp ht
  exact mg_le e2 (fun _ q => cut_mem q) (fun _ q => cut_mem q) z hz
end KB
end
section
set_option maxRecDepth 100000
set_option exponentiation.threshold 3000
/-! KBe: cut_more, drawn, beside. -/
namespace KB
open PySem L2 MP
open QL (Say Nm Lt at0 at1)
local macro_rules | `(tactic| simp! [$xs,*]) => `(tactic| first | ((first | with_reducible refine MP.k_asg ?_ | with_reducible refine MP.k_ife ?_ | with_reducible refine MP.k_ret ?_ | with_reducible refine MP.k_par ?_ | with_reducible refine MP.k_ex ?_ | with_reducible refine MP.k_for ?_ | with_reducible refine MP.k_seti ?_ | with_reducible refine MP.k_star ?_ | with_reducible refine MP.k_aug ?_); with_reducible refine MP.w_hide ?_; intro P' hP'; simp only [R.bind_ok, MP.w_ok, MP.w_bind, MP.w_mk, MP.w_ck, MP.w_br, MP.br_t, MP.br_f, MP.br_or, MP.br_and, MP.ck_t, MP.mk_true, MP.most, Nat.reduceAdd, Nat.reduceLeDiff, Int.reduceAdd, Int.reduceSub, Int.reduceNeg, Int.reduceMul, Int.reduceMod, MP.e_var, MP.vl_some, MP.ev_lit, MP.ev_glob, MP.ev_bin, MP.ev_not, MP.e_and, MP.e_or, MP.ev_cmp, MP.ev_tup, MP.e_lst, MP.ev_idx, MP.ev_call, MP.ev_blt, MP.e_meth, MP.e_chain, MP.ch2_bl, MP.e_neg, MP.ng_int, MP.e_ite, MP.ev_slc, MP.evO_none, MP.e_O, MP.oI_int, MP.e_rev, MP.rvT_tup, MP.rvT_lst, MP.i_range1, MP.rg1_int, MP.i_range2, MP.rg2_int, MP.i_enum, MP.enRow_lst, MP.enRow_row, MP.enRow_tup, MP.evi_seq, MP.seq_l, MP.seq_t, MP.seq_r, MP.seq_s, MP.evs_nil, MP.evs_cons, MP.t_cons, MP.t_nil, MP.op_add_ii, MP.op_sub_ii, MP.op_mul_ii, MP.op_fdiv_ii, MP.op_mod_ii, MP.op_add_ss, MP.op_add_tt, MP.o_add_ll, MP.mkL_false, MP.mkL_true, MP.cp_lt_ii, MP.cp_le_ii, MP.cp_gt_ii, MP.cp_ge_ii, MP.cp_eq_ii, MP.cp_ne_ii, MP.cp_eq_ss, MP.cp_ne_ss, MP.cp_eq_nil, MP.cp_ne_nil, MP.cp_is_non, MP.cp_isnot_non, MP.len_str, MP.len_lst, MP.len_tup, MP.len_row, MP.abs_i, MP.int_i, MP.int_b, MP.min_ii, MP.max_ii, MP.tuple_tup, MP.tuple_lst, MP.l_list_t, MP.l_list_l, MP.test_bl, MP.test_int, MP.test_str, MP.test_lst, MP.test_tup, MP.a0, MP.a1, MP.a2, MP.a3, MP.a4, MP.l0, MP.l1, MP.l2, MP.l3, MP.sl_t, MP.sl_l, MP.sl_s, MP.sl_r, MP.in_2, List.getElem?_cons_succ, List.getElem?_cons_zero, List.set_cons_succ, List.set_cons_zero, List.length_cons, List.length_nil, List.length_map, List.length_append, decide_true, decide_false, decide_eq_true_eq, decide_eq_false_iff_not, Bool.and_eq_true, Bool.not_true, Bool.not_false, Bool.true_and, Bool.and_true, Bool.false_and, Bool.or_false, Bool.or_true, Bool.false_or, Bool.true_or, true_and, and_true, $xs,*]; subst hP'; (try simp only [MP.KB_some, MP.BR_t, MP.BR_f, MP.bindT_nm, MP.bindT, MP.bindTs, MP.setMany, Option.bind_some, List.set_cons_succ, List.set_cons_zero, List.cons_append, List.nil_append])) | (simp only [R.bind_ok, MP.w_ok, MP.w_bind, MP.w_mk, MP.w_ck, MP.w_br, MP.br_t, MP.br_f, MP.br_or, MP.br_and, MP.ck_t, MP.mk_true, MP.most, Nat.reduceAdd, Nat.reduceLeDiff, Int.reduceAdd, Int.reduceSub, Int.reduceNeg, Int.reduceMul, Int.reduceMod, MP.e_var, MP.vl_some, MP.ev_lit, MP.ev_glob, MP.ev_bin, MP.ev_not, MP.e_and, MP.e_or, MP.ev_cmp, MP.ev_tup, MP.e_lst, MP.ev_idx, MP.ev_call, MP.ev_blt, MP.e_meth, MP.e_chain, MP.ch2_bl, MP.e_neg, MP.ng_int, MP.e_ite, MP.ev_slc, MP.evO_none, MP.e_O, MP.oI_int, MP.e_rev, MP.rvT_tup, MP.rvT_lst, MP.i_range1, MP.rg1_int, MP.i_range2, MP.rg2_int, MP.i_enum, MP.enRow_lst, MP.enRow_row, MP.enRow_tup, MP.evi_seq, MP.seq_l, MP.seq_t, MP.seq_r, MP.seq_s, MP.evs_nil, MP.evs_cons, MP.t_cons, MP.t_nil, MP.op_add_ii, MP.op_sub_ii, MP.op_mul_ii, MP.op_fdiv_ii, MP.op_mod_ii, MP.op_add_ss, MP.op_add_tt, MP.o_add_ll, MP.mkL_false, MP.mkL_true, MP.cp_lt_ii, MP.cp_le_ii, MP.cp_gt_ii, MP.cp_ge_ii, MP.cp_eq_ii, MP.cp_ne_ii, MP.cp_eq_ss, MP.cp_ne_ss, MP.cp_eq_nil, MP.cp_ne_nil, MP.cp_is_non, MP.cp_isnot_non, MP.len_str, MP.len_lst, MP.len_tup, MP.len_row, MP.abs_i, MP.int_i, MP.int_b, MP.min_ii, MP.max_ii, MP.tuple_tup, MP.tuple_lst, MP.l_list_t, MP.l_list_l, MP.test_bl, MP.test_int, MP.test_str, MP.test_lst, MP.test_tup, MP.a0, MP.a1, MP.a2, MP.a3, MP.a4, MP.l0, MP.l1, MP.l2, MP.l3, MP.sl_t, MP.sl_l, MP.sl_s, MP.sl_r, MP.in_2, List.getElem?_cons_succ, List.getElem?_cons_zero, List.set_cons_succ, List.set_cons_zero, List.length_cons, List.length_nil, List.length_map, List.length_append, decide_true, decide_false, decide_eq_true_eq, decide_eq_false_iff_not, Bool.and_eq_true, Bool.not_true, Bool.not_false, Bool.true_and, Bool.and_true, Bool.false_and, Bool.or_false, Bool.or_true, Bool.false_or, Bool.true_or, true_and, and_true, $xs,*]; (try simp only [MP.KB_some, MP.BR_t, MP.BR_f, MP.bindT_nm, MP.bindT, MP.bindTs, MP.setMany, Option.bind_some, List.set_cons_succ, List.set_cons_zero, List.cons_append, List.nil_append])))
variable {Fs : List Fn} {ix : Ix}
theorem mir_deep : ∀ s : Say, (mir s).deep ≤ 3 * s.deep
  | .thing x => by simp [mir, Acc.deep, Say.deep]
  | .debt x => by simp [mir, Acc.deep, Say.deep]
  | .one => by simp [mir, Acc.deep, Say.deep]
  | .none => by simp [mir, Acc.deep, Say.deep]
  | .all => by simp [mir, Acc.deep, Say.deep]
  | .never => by simp [mir, Acc.deep, Say.deep]
  | .keep a => by simp [mir, Acc.deep, Say.deep]; omega
  | .draw a => by simp [mir, Acc.deep, Say.deep]; omega
  | .pair a b => by have := mir_deep a; have := mir_deep b; simp [mir, Acc.deep, Say.deep]; omega
  | .bind a b => by have := mir_deep a; have := mir_deep b; simp [mir, Acc.deep, Say.deep]; omega
  | .menu a b => by have := mir_deep a; have := mir_deep b; simp [mir, Acc.deep, Say.deep]; omega
  | .pick a b => by have := mir_deep a; have := mir_deep b; simp [mir, Acc.deep, Say.deep]; omega
theorem sp_turn : ∀ s : Say, Sp s → Sp s.turn
  | .thing x, _ => trivial
  | .debt x, _ => trivial
  | .one, _ => trivial
  | .none, _ => trivial
  | .all, _ => trivial
  | .never, _ => trivial
  | .keep a, h => h.elim
  | .draw a, h => h.elim
  | .pair a b, h => ⟨sp_turn a h.1, sp_turn b h.2⟩
  | .bind a b, h => ⟨sp_turn a h.1, sp_turn b h.2⟩
  | .menu a b, h => ⟨sp_turn a h.1, sp_turn b h.2⟩
  | .pick a b, h => ⟨sp_turn a h.1, sp_turn b h.2⟩
theorem words_deep : ∀ s : Say, s.words + 1 ≤ 2 ^ s.deep
  | .thing x => by simp [Say.words, Say.deep]
  | .debt x => by simp [Say.words, Say.deep]
  | .one => by simp [Say.words, Say.deep]
  | .none => by simp [Say.words, Say.deep]
  | .all => by simp [Say.words, Say.deep]
  | .never => by simp [Say.words, Say.deep]
  | .keep a => by have := words_deep a; simp [Say.words, Say.deep, Nat.pow_add]; omega
  | .draw a => by have := words_deep a; simp [Say.words, Say.deep, Nat.pow_add]; omega
  | .pair a b => by have := words_deep a; have := words_deep b; have h1 : 2 ^ a.deep ≤ 2 ^ max a.deep b.deep := Nat.pow_le_pow_right (by decide) (by omega); have h2 : 2 ^ b.deep ≤ 2 ^ max a.deep b.deep := Nat.pow_le_pow_right (by decide) (by omega); simp only [Say.words, Say.deep, Nat.pow_add]; omega
  | .bind a b => by have := words_deep a; have := words_deep b; have h1 : 2 ^ a.deep ≤ 2 ^ max a.deep b.deep := Nat.pow_le_pow_right (by decide) (by omega); have h2 : 2 ^ b.deep ≤ 2 ^ max a.deep b.deep := Nat.pow_le_pow_right (by decide) (by omega); simp only [Say.words, Say.deep, Nat.pow_add]; omega
  | .menu a b => by have := words_deep a; have := words_deep b; have h1 : 2 ^ a.deep ≤ 2 ^ max a.deep b.deep := Nat.pow_le_pow_right (by decide) (by omega); have h2 : 2 ^ b.deep ≤ 2 ^ max a.deep b.deep := Nat.pow_le_pow_right (by decide) (by omega); simp only [Say.words, Say.deep, Nat.pow_add]; omega
  | .pick a b => by have := words_deep a; have := words_deep b; have h1 : 2 ^ a.deep ≤ 2 ^ max a.deep b.deep := Nat.pow_le_pow_right (by decide) (by omega); have h2 : 2 ^ b.deep ≤ 2 ^ max a.deep b.deep := Nat.pow_le_pow_right (by decide) (by omega); simp only [Say.words, Say.deep, Nat.pow_add]; omega
theorem words_63 {s : Say} (h : s.deep ≤ 6) : s.words ≤ 63 := by
  have := words_deep s
  have h1 : 2 ^ s.deep ≤ 2 ^ 6 := Nat.pow_le_pow_right (by decide) h
  omega
theorem size_one : ∀ a : Acc, a.deep = 1 → a.size = 1 := fun a h => by
  cases a <;> simp only [Acc.deep, Acc.size] at h ⊢ <;> (first | rfl | (rename_i b; have := b.pos; omega) | (rename_i b c; have := b.pos; omega))
theorem gt_last {g : List Say} (h : 1 ≤ g.length) (S : Store) : atD (.tup (g.map Say.d)) (.int (-1)) S = .ok (gt g (g.length - 1)).d S := by
  refine at_tup (n := g.length - 1) (by unfold ixn; simp; omega) ?_
  have he : ((g.length : Int) - 1).toNat = g.length - 1 := by omega
  unfold gt
  rw [he]
  simp [List.getElem?_eq_getElem (show g.length - 1 < g.length by omega)]
theorem cut_more (ok : OkA Fs ix) {K n p B : Nat} {S : Store} {g : List Say} {a : Acc} (hK : 72 ≤ K) (h : Pot S n p B) (hB : B < 2 ^ 44) (b : Bl 0 g a) :
    W (callN Fs K ix.cut_more [.ref n, bk g a] S) fun d S' => ∃ g' a', d = bk g' a' ∧ Bl 0 g' a' ∧ DrP S n p (B + 30000) S' := by
  obtain ⟨k, rfl⟩ : ∃ k, K = k + 1 := ⟨K - 1, by omega⟩
  refine w_call ok.cut_more rfl ?_
  show WQ (evCs (callN Fs k) (b_cut_more ix) [some (.ref n), some (bk g a), none, none, none, none, none] S) _
  have hl := b.held
  have hlong := b.long
  obtain ⟨t, S1, t1, t2, t3, t4⟩ := take ok (K := k) (many := 2) (by omega) h (by omega) (by decide) (by decide)
  obtain ⟨m, S2, u1, u2, u3, u4⟩ := take ok (K := k) (many := 3) (by omega) t4.pot (by omega) (by decide) (by decide)
  have s0 := b.gs _ (gt_mem (g := g) (i := g.length - 1) (by omega) (by omega))
  generalize hs : gt g (g.length - 1) = s at s0
  have l1 : ∀ S, _ := fun S => gt_last (g := g) (by omega) S
  rw [hs] at l1
  have ab : ∀ S, _ := fun S => about ok 6 k s S s0.1 (by omega) s0.2.2
  have mi : ∀ S, _ := fun S => mirror ok 6 k s S s0.1 (by omega) s0.2.2
  have mn : ∀ S, _ := fun S => many ok 6 k s S s0.1 (by omega)
  unfold b_cut_more
  simp! [t1, u1]
  simp! [bk_0, l1]
  simp! [ab, mi]
  have md := mir_deep s
  have bm : Bl 1 [s, s.turn] (mir s) := ⟨fun x hx => by
    rcases List.mem_cons.mp hx with rfl | hx
    · exact s0
    · have : x = s.turn := by simpa using hx
      rw [this]; exact ⟨by rw [s.turn_deep]; exact s0.1, s.turn_ok s0.2.1, sp_turn s s0.2.2⟩, by simp, by simp, mir_ok s, by omega, by have := mir_size s; have := words_63 s0.1; omega⟩
  have e3 : D.tup [.tup [s.d, s.turn.d], (mir s).d] = bk [s, s.turn] (mir s) := rfl
  rw [e3]
  simp! []
  refine (grown ok (K := k) (many := m) (held := 1) (by omega) (t4.trans u4).pot (by omega) (by omega) bm u2 (by omega)).mono ?_
  rintro d S3 ⟨g3, a3, rfl, b3, dr3⟩
  have dr := (t4.trans u4).trans dr3
  have hl3 := b3.held
  have hlong3 := b3.long
  simp! []
  refine ⟨fun q => (cut ok (K := k) (by omega) dr.pot (by omega) (by omega) (by omega) (by omega) (by omega)).mono ?_, fun q => (cut ok (K := k) (by omega) dr.pot (by omega) (by omega) (by omega) (by omega) (by omega)).mono ?_⟩ <;>
  · rintro e S4 ⟨gx, sx, ps, rfl, m1, m2, m3, dr4⟩
    have dr5 := (dr.trans dr4).mono (B' := B + 30000) (by omega)
    have gg : Gs 6 gx := fun t ht => by
      rcases m3 t ht with q | q
      · first | exact b.gs t q | exact b3.gs t q
      · first | exact b.gs t q | exact b3.gs t q
    have f1 : ∀ S, _ := fun S => fits ok (K := k) (m := 8) (ss := gx) (S := S) (by omega) (fun s hs => by have := (gg s hs).1; omega) (by omega)
    have bd := b.deep
    have bd3 := b3.deep
    have f2 : ∀ S, _ := fun S => size ok 62 k (.cut sx ps a a3) S (by simp only [Acc.deep]; omega) (by omega)
    have f3 : ∀ S, _ := fun S => size ok 62 k (.cut sx ps a3 a) S (by simp only [Acc.deep]; omega) (by omega)
    simp! [bk_0, bk_1, f1, f2, f3, mn]
    have gg8 : Gs 8 gx := gg.mono (by omega)
    have ok3 := b3.ok
    have ok1 := b.ok
    have sxk : sx.Ok ∧ Sp sx ∧ sx.deep ≤ 6 := by
      first
        | (have q := b.gs _ m1; exact ⟨q.2.1, q.2.2, q.1⟩)
        | (have q := b3.gs _ m1; exact ⟨q.2.1, q.2.2, q.1⟩)
    repeat' (first | apply And.intro | intro)
    all_goals first
      | exact w_fin dr5 ⟨g, a, rfl, b, dr5⟩
      | skip
    all_goals
      obtain ⟨c1, c2, c3⟩ := ‹fitB gx = true ∧ (s.words : Int) < 9 ∧ _›
      exact w_fin dr5 ⟨gx, _, rfl, fit_bl c1 gg8 (by omega) ⟨sxk, by first | exact ⟨ok1, ok3⟩ | exact ⟨ok3, ok1⟩⟩ (by omega), dr5⟩
theorem drawn (ok : OkA Fs ix) {K n p B : Nat} {S : Store} {cuts : Int} (hK : 74 ≤ K) (h : Pot S n p B) (hB : B < 2 ^ 42) (h0 : 0 ≤ cuts) (h1 : cuts ≤ 2) :
    W (callN Fs K ix.drawn [.ref n, .int cuts] S) fun d S' => ∃ g' a', d = bk g' a' ∧ Bl 0 g' a' ∧ DrP S n p (B + 200000) S' := by
  obtain ⟨k, rfl⟩ : ∃ k, K = k + 1 := ⟨K - 1, by omega⟩
  refine w_call ok.drawn rfl ?_
  show WQ (evCs (callN Fs k) (b_drawn ix) [some (.ref n), some (.int cuts), none, none] S) _
  obtain ⟨g1, a1, S1, e1, e2, e3, e4, e5, e6, e7⟩ := begin ok (K := k) (by omega) h (by omega)
  obtain ⟨m, S2, u1, u2, u3, u4⟩ := take ok (K := k) (many := 5) (by omega) e7.pot (by omega) (by decide) (by decide)
  unfold b_drawn
  simp! [e1, u1]
  refine (grown ok (K := k) (many := m) (held := 0) (by omega) (e7.trans u4).pot (by omega) (by omega) ⟨e4.mono (by omega), by omega, by omega, e5, by omega, by rw [size_one _ e6]; omega⟩ u2 (by omega)).mono ?_
  rintro d S3 ⟨g3, a3, rfl, b3, dr3⟩
  have dr := ((e7.trans u4).trans dr3).mono (B' := B + 30000) (by omega)
  simp! []
  refine ⟨decide_eq_true (by omega), ?_⟩
  refine w_for rfl (fun ds env T => ∃ g' a' v, env = [some (D.ref n), some (D.int cuts), some (bk g' a'), v] ∧ Bl 0 g' a' ∧ ds.length ≤ cuts.toNat ∧ DrP S n p (B + 30000 + 60000 * (cuts.toNat - ds.length)) T) _ _ _ ⟨g3, a3, none, rfl, b3, by simp [rangeL], by simpa [rangeL] using dr⟩ ?_ ?_
  · rintro env T ⟨g', a', v, rfl, b', _, dr⟩
    simp! []
    exact w_fin dr ⟨g', a', rfl, b', dr.mono (by simp; omega)⟩
  · rintro d ds env T ⟨g', a', v, rfl, b', l, dr⟩
    rw [List.length_cons] at l dr
    refine ⟨_, rfl, ?_⟩
    simp! []
    refine (cut_more ok (K := k) (by omega) dr.pot (by omega) b').mono ?_
    rintro e T2 ⟨g2, a2, rfl, b2, dr2⟩
    obtain ⟨m', T3, u1', u2', u3', u4'⟩ := take ok (K := k) (many := 3) (by omega) dr2.pot (by omega) (by decide) (by decide)
    simp! [u1']
    refine (grown ok (K := k) (many := m') (held := 0) (by omega) u4'.pot (by omega) (by omega) b2 u2' (by omega)).mono ?_
    rintro e T4 ⟨g4, a4, rfl, b4, dr4⟩
    simp! []
    exact ⟨g4, a4, rfl, b4, by omega, (((dr.trans dr2).trans u4').trans dr4).mono (by omega)⟩
theorem beside (ok : OkA Fs ix) {K n p B : Nat} {S : Store} (hK : 76 ≤ K) (h : Pot S n p B) (hB : B < 2 ^ 40) :
    W (callN Fs K ix.beside [.ref n] S) fun d S' => ∃ g' a', d = bk g' a' ∧ a'.Ok ∧ a'.deep ≤ 61 ∧ a'.size ≤ 401 ∧ DrP S n p (B + 1000000) S' := by
  obtain ⟨k, rfl⟩ : ∃ k, K = k + 1 := ⟨K - 1, by omega⟩
  refine w_call ok.beside rfl ?_
  show WQ (evCs (callN Fs k) (b_beside ix) [some (.ref n), none, none, none] S) _
  unfold b_beside
  simp! []
  refine (drawn ok (K := k) (by omega) h (by omega) (by omega) (by omega)).mono ?_
  rintro d S1 ⟨g1, a1, rfl, b1, dr1⟩
  refine (drawn ok (K := k) (by omega) dr1.pot (by omega) (by omega) (by omega)).mono ?_
  rintro d S2 ⟨g2, a2, rfl, b2, dr2⟩
  have h1 := b1.held
  have h2 := b2.held
  have l1 := b1.long
  have l2 := b2.long
  have d1 := b1.deep
  have d2 := b2.deep
  obtain ⟨g', i', ps, x, y, S6, f1, f2, f3, f4, f5, f6⟩ := paired ok (K := k) (g1 := g1) (g2 := g2) (a1 := a1) (a2 := a2) (held := 0) (by omega) (dr1.trans dr2).pot (by omega) (by omega) h1 (by omega) (by omega) (by omega)
  simp! []
  simp! [f1]
  have gg : Gs 8 g' := fun s hs => by
    rcases f5 s hs with q | q | ⟨u, v, rfl, q⟩
    · exact (b1.gs.mono (by omega)) s q
    · exact (b2.gs.mono (by omega)) s q
    · have hu : (u.deep ≤ 6 ∧ u.Ok ∧ Sp u) ∧ (v.deep ≤ 6 ∧ v.Ok ∧ Sp v) := by
        rcases q with ⟨q1, q2⟩ | ⟨q1, q2⟩
        · exact ⟨b1.gs _ q1, b2.gs _ q2⟩
        · exact ⟨b2.gs _ q1, b1.gs _ q2⟩
      exact ⟨by simp only [Say.deep]; omega, ⟨hu.1.2.1, hu.2.2.1⟩, ⟨hu.1.2.2, hu.2.2.2⟩⟩
  have f1 : ∀ S, _ := fun S => fits ok (K := k) (m := 8) (ss := g') (S := S) (by omega) (fun s hs => (gg s hs).1) (by omega)
  have dr := ((dr1.trans dr2).trans f6).mono (B' := B + 1000000) (by omega)
  simp! [bk_0, f1]
  refine ⟨fun _ => w_fin dr ⟨g', _, rfl, ?_, ?_, ?_, dr⟩, fun _ => w_fin dr ⟨g1, a1, rfl, b1.ok, by omega, by have := b1.size; omega, dr⟩⟩
  · rcases f2 with ⟨rfl, rfl⟩ | ⟨rfl, rfl⟩
    · exact ⟨b1.ok, b2.ok⟩
    · exact ⟨b2.ok, b1.ok⟩
  · rcases f2 with ⟨rfl, rfl⟩ | ⟨rfl, rfl⟩ <;> simp only [Acc.deep] <;> omega
  · have := b1.size
    have := b2.size
    rcases f2 with ⟨rfl, rfl⟩ | ⟨rfl, rfl⟩ <;> simp only [Acc.size] <;> omega
end KB
end
section
set_option maxRecDepth 100000
set_option exponentiation.threshold 3000
/-! KBf: measures, and what the law finds. -/
namespace MP
open PySem
/-- a def's end: its own cells are dropped, all else is as it was -/
theorem fin_loc {S L : Store} {v : D} (h : v.data = true) : fin false S v (S ++ L) = .ok v S := by
  have kept : Kept S (S ++ L) := fun i hi => .inl (by rw [List.getElem?_append_left hi])
  cases L with
  | nil => rw [List.append_nil]; exact fin_same false v
  | cons c L =>
    have hne : decide ((S ++ c :: L).length = S.length) = false := decide_eq_false (by rw [List.length_append, List.length_cons]; omega)
    unfold fin
    rw [hne, fz_data h]
    simp only [Bool.false_or]
    rw [data_und _ h]
    simp [kept]
theorem mt_extend_t {n : Nat} {a b : List D} {S : Store} (h : S[n]? = some (.lst a)) (hl : a.length + b.length ≤ 1000000) : mt .extend (.ref n) [.tup b] S = .ok .non (S.set n (.lst (a ++ b))) := by simp [mt, exOf, h, most, hl]
end MP
namespace KB
open PySem L2 MP
open QL (Say Nm Lt at0 at1)
local macro_rules | `(tactic| simp! [$xs,*]) => `(tactic| first | ((first | with_reducible refine MP.k_asg ?_ | with_reducible refine MP.k_ife ?_ | with_reducible refine MP.k_ret ?_ | with_reducible refine MP.k_par ?_ | with_reducible refine MP.k_ex ?_ | with_reducible refine MP.k_for ?_ | with_reducible refine MP.k_seti ?_ | with_reducible refine MP.k_star ?_ | with_reducible refine MP.k_aug ?_); with_reducible refine MP.w_hide ?_; intro P' hP'; simp only [R.bind_ok, MP.w_ok, MP.w_bind, MP.w_mk, MP.w_ck, MP.w_br, MP.br_t, MP.br_f, MP.br_or, MP.br_and, MP.ck_t, MP.mk_true, MP.most, Nat.reduceAdd, Nat.reduceLeDiff, Int.reduceAdd, Int.reduceSub, Int.reduceNeg, Int.reduceMul, Int.reduceMod, MP.e_var, MP.vl_some, MP.ev_lit, MP.ev_glob, MP.ev_bin, MP.ev_not, MP.e_and, MP.e_or, MP.ev_cmp, MP.ev_tup, MP.e_lst, MP.ev_idx, MP.ev_call, MP.ev_blt, MP.e_meth, MP.e_chain, MP.ch2_bl, MP.e_neg, MP.ng_int, MP.e_ite, MP.ev_slc, MP.evO_none, MP.e_O, MP.oI_int, MP.e_rev, MP.rvT_tup, MP.rvT_lst, MP.i_range1, MP.rg1_int, MP.i_range2, MP.rg2_int, MP.i_enum, MP.enRow_lst, MP.enRow_row, MP.enRow_tup, MP.evi_seq, MP.seq_l, MP.seq_t, MP.seq_r, MP.seq_s, MP.evs_nil, MP.evs_cons, MP.t_cons, MP.t_nil, MP.op_add_ii, MP.op_sub_ii, MP.op_mul_ii, MP.op_fdiv_ii, MP.op_mod_ii, MP.op_add_ss, MP.op_add_tt, MP.o_add_ll, MP.mkL_false, MP.mkL_true, MP.cp_lt_ii, MP.cp_le_ii, MP.cp_gt_ii, MP.cp_ge_ii, MP.cp_eq_ii, MP.cp_ne_ii, MP.cp_eq_ss, MP.cp_ne_ss, MP.cp_eq_nil, MP.cp_ne_nil, MP.cp_is_non, MP.cp_isnot_non, MP.len_str, MP.len_lst, MP.len_tup, MP.len_row, MP.abs_i, MP.int_i, MP.int_b, MP.min_ii, MP.max_ii, MP.tuple_tup, MP.tuple_lst, MP.l_list_t, MP.l_list_l, MP.test_bl, MP.test_int, MP.test_str, MP.test_lst, MP.test_tup, MP.a0, MP.a1, MP.a2, MP.a3, MP.a4, MP.l0, MP.l1, MP.l2, MP.l3, MP.sl_t, MP.sl_l, MP.sl_s, MP.sl_r, MP.in_2, List.getElem?_cons_succ, List.getElem?_cons_zero, List.set_cons_succ, List.set_cons_zero, List.length_cons, List.length_nil, List.length_map, List.length_append, decide_true, decide_false, decide_eq_true_eq, decide_eq_false_iff_not, Bool.and_eq_true, Bool.not_true, Bool.not_false, Bool.true_and, Bool.and_true, Bool.false_and, Bool.or_false, Bool.or_true, Bool.false_or, Bool.true_or, true_and, and_true, $xs,*]; subst hP'; (try simp only [MP.KB_some, MP.BR_t, MP.BR_f, MP.bindT_nm, MP.bindT, MP.bindTs, MP.setMany, Option.bind_some, List.set_cons_succ, List.set_cons_zero, List.cons_append, List.nil_append])) | (simp only [R.bind_ok, MP.w_ok, MP.w_bind, MP.w_mk, MP.w_ck, MP.w_br, MP.br_t, MP.br_f, MP.br_or, MP.br_and, MP.ck_t, MP.mk_true, MP.most, Nat.reduceAdd, Nat.reduceLeDiff, Int.reduceAdd, Int.reduceSub, Int.reduceNeg, Int.reduceMul, Int.reduceMod, MP.e_var, MP.vl_some, MP.ev_lit, MP.ev_glob, MP.ev_bin, MP.ev_not, MP.e_and, MP.e_or, MP.ev_cmp, MP.ev_tup, MP.e_lst, MP.ev_idx, MP.ev_call, MP.ev_blt, MP.e_meth, MP.e_chain, MP.ch2_bl, MP.e_neg, MP.ng_int, MP.e_ite, MP.ev_slc, MP.evO_none, MP.e_O, MP.oI_int, MP.e_rev, MP.rvT_tup, MP.rvT_lst, MP.i_range1, MP.rg1_int, MP.i_range2, MP.rg2_int, MP.i_enum, MP.enRow_lst, MP.enRow_row, MP.enRow_tup, MP.evi_seq, MP.seq_l, MP.seq_t, MP.seq_r, MP.seq_s, MP.evs_nil, MP.evs_cons, MP.t_cons, MP.t_nil, MP.op_add_ii, MP.op_sub_ii, MP.op_mul_ii, MP.op_fdiv_ii, MP.op_mod_ii, MP.op_add_ss, MP.op_add_tt, MP.o_add_ll, MP.mkL_false, MP.mkL_true, MP.cp_lt_ii, MP.cp_le_ii, MP.cp_gt_ii, MP.cp_ge_ii, MP.cp_eq_ii, MP.cp_ne_ii, MP.cp_eq_ss, MP.cp_ne_ss, MP.cp_eq_nil, MP.cp_ne_nil, MP.cp_is_non, MP.cp_isnot_non, MP.len_str, MP.len_lst, MP.len_tup, MP.len_row, MP.abs_i, MP.int_i, MP.int_b, MP.min_ii, MP.max_ii, MP.tuple_tup, MP.tuple_lst, MP.l_list_t, MP.l_list_l, MP.test_bl, MP.test_int, MP.test_str, MP.test_lst, MP.test_tup, MP.a0, MP.a1, MP.a2, MP.a3, MP.a4, MP.l0, MP.l1, MP.l2, MP.l3, MP.sl_t, MP.sl_l, MP.sl_s, MP.sl_r, MP.in_2, List.getElem?_cons_succ, List.getElem?_cons_zero, List.set_cons_succ, List.set_cons_zero, List.length_cons, List.length_nil, List.length_map, List.length_append, decide_true, decide_false, decide_eq_true_eq, decide_eq_false_iff_not, Bool.and_eq_true, Bool.not_true, Bool.not_false, Bool.true_and, Bool.and_true, Bool.false_and, Bool.or_false, Bool.or_true, Bool.false_or, Bool.true_or, true_and, and_true, $xs,*]; (try simp only [MP.KB_some, MP.BR_t, MP.BR_f, MP.bindT_nm, MP.bindT, MP.bindTs, MP.setMany, Option.bind_some, List.set_cons_succ, List.set_cons_zero, List.cons_append, List.nil_append])))
variable {Fs : List Fn} {ix : Ix}
def meas : Acc → List (Int × Int)
  | .tie => []
  | .one => []
  | .all _ => []
  | .none _ a => meas a
  | .bind _ a => meas a
  | .pick _ _ a => meas a
  | .pair _ _ a b => meas a ++ meas b
  | .menu _ a b => meas a ++ meas b
  | .cut s _ a b => ((s.words : Int), (a.size : Int) + b.size) :: (meas a ++ meas b)
def own : Acc → List (Int × Int)
  | .cut s _ a b => [((s.words : Int), (a.size : Int) + b.size)]
  | _ => []
theorem meas_eq (a : Acc) : meas a = own a ++ (a.kids.map meas).flatten := by cases a <;> simp [meas, own, Acc.kids]
theorem meas_len : ∀ a : Acc, (meas a).length ≤ a.size
  | .tie => by simp [meas]
  | .one => by simp [meas]
  | .all _ => by simp [meas]
  | .none _ a => by have := meas_len a; simp [meas, Acc.size]; omega
  | .bind _ a => by have := meas_len a; simp [meas, Acc.size]; omega
  | .pick _ _ a => by have := meas_len a; simp [meas, Acc.size]; omega
  | .pair _ _ a b => by have := meas_len a; have := meas_len b; simp [meas, Acc.size]; omega
  | .menu _ a b => by have := meas_len a; have := meas_len b; simp [meas, Acc.size]; omega
  | .cut s _ a b => by have := meas_len a; have := meas_len b; simp [meas, Acc.size]; omega
def pr (z : Int × Int) : D := .tup [.int z.1, .int z.2]
theorem pr_data (zs : List (Int × Int)) : dataAll (zs.map pr) = true := dataAll_mem fun y hy => by
  obtain ⟨z, _, rfl⟩ := List.mem_map.mp hy
  rfl
theorem measures (ok : OkP Fs ix) : ∀ (m K : Nat) (a : Acc) (S : Store), a.deep ≤ m → m + 9 ≤ K → a.Ok → a.size ≤ 1000 → callN Fs K ix.measures [a.d] S = .ok (.tup ((meas a).map pr)) S := by
  intro m
  induction m with
  | zero => intro K a S h; have := a.pos; omega
  | succ m ih =>
    intro K a S h hK ho hz
    obtain ⟨k, rfl⟩ : ∃ k, K = k + 1 := ⟨K - 1, by omega⟩
    suffices g : W (callN Fs (k + 1) ix.measures [a.d] S) fun d S' => d = .tup ((meas a).map pr) ∧ S' = S by
      obtain ⟨d, S', e, rfl, rfl⟩ := g
      exact e
    refine w_call ok.measures rfl ?_
    show WQ (evCs (callN Fs k) (b_measures ix) [some a.d, none, none] S) _
    have ml := meas_len a
    have pa : ∀ S, _ := fun S => proofs_above ok (K := k) (a := a) (S := S) (by omega)
    -- the loop, the end
    have rest : ∀ u : Option D, WQ (evCs (callN Fs k) [(.for_ (.nm 2) (.seq (.call ix.proofs_above [(.var 0)])) [(.ex (.meth .extend (.var 1) [(.call ix.measures [(.var 2)])]))]), (.ret (.blt false .tuple [(.var 1)]))] [some a.d, some (.ref S.length), u] (S ++ [.lst ((own a).map pr)]))
        { n := fun _ S' => W (fin (f_measures ix).leak S .non S') fun d S' => d = .tup ((meas a).map pr) ∧ S' = S, r := fun v S' => W (fin (f_measures ix).leak S v S') fun d S' => d = .tup ((meas a).map pr) ∧ S' = S } := fun u => by
      simp! [pa]
      refine w_for rfl (fun ds env T => ∃ (us : List Acc) (pre : List (Int × Int)) (v : Option D), ds = us.map Acc.d ∧ (∀ b ∈ us, b ∈ a.kids) ∧ env = [some a.d, some (.ref S.length), v] ∧ T = S ++ [.lst (pre.map pr)] ∧ pre ++ (us.map meas).flatten = meas a) _ _ _ ⟨a.kids, own a, u, rfl, fun _ h => h, rfl, rfl, (meas_eq a).symm⟩ ?_ ?_
      · rintro env T ⟨us, pre, v, e1, _, rfl, rfl, e2⟩
        have : us = [] := by
          cases us with
          | nil => rfl
          | cons b us => cases e1
        subst this
        have e3 : pre = meas a := by simpa using e2
        subst e3
        have hg : (S ++ [Cell.lst ((meas a).map pr)])[S.length]? = some (.lst ((meas a).map pr)) := by simp
        have tt : bt false .tuple [.ref S.length] (S ++ [Cell.lst ((meas a).map pr)]) = .ok (.tup ((meas a).map pr)) (S ++ [Cell.lst ((meas a).map pr)]) := by simp [bt, rwOf, hg]
        simp! [tt]
        exact ⟨_, _, fin_loc (by simpa [D.data] using pr_data (meas a)), rfl, rfl⟩
      · rintro d ds env T ⟨us, pre, v, e1, hk, rfl, rfl, e2⟩
        cases us with
        | nil => cases e1
        | cons b us =>
          simp only [List.map_cons, List.cons.injEq] at e1
          obtain ⟨rfl, rfl⟩ := e1
          have hb := hk b List.mem_cons_self
          have hlt := Acc.kids_lt hb
          have hsz : b.size ≤ 1000 := by
            have := a.size_kids
            have : ∀ (l : List Acc), b ∈ l → (b.size : Int) ≤ (l.map fun p => (p.size : Int)).sum := by
              intro l
              induction l with
              | nil => intro h; cases h
              | cons x l ihl =>
                intro h
                simp only [List.map_cons, List.sum_cons]
                rcases List.mem_cons.mp h with rfl | h
                · have : (0 : Int) ≤ (l.map fun p : Acc => (p.size : Int)).sum := by
                    clear ihl h
                    induction l with
                    | nil => simp
                    | cons y l ih2 => simp only [List.map_cons, List.sum_cons]; omega
                  omega
                · have := ihl h; omega
            have := this _ hb
            omega
          have hm : ∀ T, _ := fun T => ih k b T (by omega) (by omega) (Acc.kids_ok ho hb) hsz
          refine ⟨_, rfl, ?_⟩
          have hg : (S ++ [Cell.lst (pre.map pr)])[S.length]? = some (.lst (pre.map pr)) := by simp
          have hl : pre.length + (meas b).length ≤ 1000000 := by
            have := congrArg List.length e2
            simp only [List.map_cons, List.flatten_cons, List.length_append] at this
            omega
          have ex := mt_extend_t (b := (meas b).map pr) hg (by simpa using hl)
          have hset : (S ++ [Cell.lst (pre.map pr)]).set S.length (.lst (pre.map pr ++ (meas b).map pr)) = S ++ [.lst (pre.map pr ++ (meas b).map pr)] := by
            rw [List.set_append_right _ _ (Nat.le_refl _)]
            simp
          rw [hset] at ex
          simp! [rdy_extend hg, hm, ex]
          refine k_nil ?_
          exact ⟨us, pre ++ meas b, _, rfl, fun c hc => hk c (List.mem_cons_of_mem _ hc), rfl, by simp, by rw [← e2]; simp⟩
    unfold b_measures
    simp! []
    simp! [a.at0]
    by_cases hc : a.w = [99, 117, 116]
    · have : ∃ s ps x y, a = .cut s ps x y := by
        cases a <;> first | exact ⟨_, _, _, _, rfl⟩ | (simp [Acc.w] at hc)
      obtain ⟨s, ps, x, y, rfl⟩ := this
      refine BR_i (fun _ => ?_) fun q => absurd hc (by simpa using q)
      have s1 : ∀ T, _ := fun T => signs ok (K := k) (m := 6) (s := s) (S := T) ho.1.2.2 (by omega) (by have := words_63 ho.1.2.2; omega)
      simp only [Acc.deep] at h
      have z1 : ∀ T, _ := fun T => steps ok m k x T (by omega) (by omega)
      have z2 : ∀ T, _ := fun T => steps ok m k y T (by omega) (by omega)
      have hg : (S ++ [Cell.lst []])[S.length]? = some (.lst []) := by simp
      have ap := MP.mt_append (y := .tup [.int s.words, .int ((x.size : Int) + y.size)]) hg (by simp)
      have hset : (S ++ [Cell.lst []]).set S.length (.lst ([] ++ [.tup [.int s.words, .int ((x.size : Int) + y.size)]])) = S ++ [.lst ((own (.cut s ps x y)).map pr)] := by
        rw [List.set_append_right _ _ (Nat.le_refl _)]
        simp [own, pr]
      rw [hset] at ap
      simp! [rdy_append hg, Acc.d, s1, z1, z2, ap]
      exact rest _
    · refine BR_i (fun q => absurd (by simpa using q) hc) fun q => ?_
      have : own a = [] := by
        cases a <;> first | rfl | (simp [Acc.w] at hc)
      have r := rest none
      rw [this] at r
      exact r
end KB
end
section
set_option maxRecDepth 100000
set_option exponentiation.threshold 3000
/-! KBg: what the law finds. -/
namespace KB
open PySem L2 MP
open QL (Say Nm Lt at0 at1)
local macro_rules | `(tactic| simp! [$xs,*]) => `(tactic| first | ((first | with_reducible refine MP.k_asg ?_ | with_reducible refine MP.k_ife ?_ | with_reducible refine MP.k_ret ?_ | with_reducible refine MP.k_par ?_ | with_reducible refine MP.k_ex ?_ | with_reducible refine MP.k_for ?_ | with_reducible refine MP.k_seti ?_ | with_reducible refine MP.k_star ?_ | with_reducible refine MP.k_aug ?_); with_reducible refine MP.w_hide ?_; intro P' hP'; simp only [R.bind_ok, MP.w_ok, MP.w_bind, MP.w_mk, MP.w_ck, MP.w_br, MP.br_t, MP.br_f, MP.br_or, MP.br_and, MP.ck_t, MP.mk_true, MP.most, Nat.reduceAdd, Nat.reduceLeDiff, Int.reduceAdd, Int.reduceSub, Int.reduceNeg, Int.reduceMul, Int.reduceMod, MP.e_var, MP.vl_some, MP.ev_lit, MP.ev_glob, MP.ev_bin, MP.ev_not, MP.e_and, MP.e_or, MP.ev_cmp, MP.ev_tup, MP.e_lst, MP.ev_idx, MP.ev_call, MP.ev_blt, MP.e_meth, MP.e_chain, MP.ch2_bl, MP.e_neg, MP.ng_int, MP.e_ite, MP.ev_slc, MP.evO_none, MP.e_O, MP.oI_int, MP.e_rev, MP.rvT_tup, MP.rvT_lst, MP.i_range1, MP.rg1_int, MP.i_range2, MP.rg2_int, MP.i_enum, MP.enRow_lst, MP.enRow_row, MP.enRow_tup, MP.evi_seq, MP.seq_l, MP.seq_t, MP.seq_r, MP.seq_s, MP.evs_nil, MP.evs_cons, MP.t_cons, MP.t_nil, MP.op_add_ii, MP.op_sub_ii, MP.op_mul_ii, MP.op_fdiv_ii, MP.op_mod_ii, MP.op_add_ss, MP.op_add_tt, MP.o_add_ll, MP.mkL_false, MP.mkL_true, MP.cp_lt_ii, MP.cp_le_ii, MP.cp_gt_ii, MP.cp_ge_ii, MP.cp_eq_ii, MP.cp_ne_ii, MP.cp_eq_ss, MP.cp_ne_ss, MP.cp_eq_nil, MP.cp_ne_nil, MP.cp_is_non, MP.cp_isnot_non, MP.len_str, MP.len_lst, MP.len_tup, MP.len_row, MP.abs_i, MP.int_i, MP.int_b, MP.min_ii, MP.max_ii, MP.tuple_tup, MP.tuple_lst, MP.l_list_t, MP.l_list_l, MP.test_bl, MP.test_int, MP.test_str, MP.test_lst, MP.test_tup, MP.a0, MP.a1, MP.a2, MP.a3, MP.a4, MP.l0, MP.l1, MP.l2, MP.l3, MP.sl_t, MP.sl_l, MP.sl_s, MP.sl_r, MP.in_2, List.getElem?_cons_succ, List.getElem?_cons_zero, List.set_cons_succ, List.set_cons_zero, List.length_cons, List.length_nil, List.length_map, List.length_append, decide_true, decide_false, decide_eq_true_eq, decide_eq_false_iff_not, Bool.and_eq_true, Bool.not_true, Bool.not_false, Bool.true_and, Bool.and_true, Bool.false_and, Bool.or_false, Bool.or_true, Bool.false_or, Bool.true_or, true_and, and_true, $xs,*]; subst hP'; (try simp only [MP.KB_some, MP.BR_t, MP.BR_f, MP.bindT_nm, MP.bindT, MP.bindTs, MP.setMany, Option.bind_some, List.set_cons_succ, List.set_cons_zero, List.cons_append, List.nil_append])) | (simp only [R.bind_ok, MP.w_ok, MP.w_bind, MP.w_mk, MP.w_ck, MP.w_br, MP.br_t, MP.br_f, MP.br_or, MP.br_and, MP.ck_t, MP.mk_true, MP.most, Nat.reduceAdd, Nat.reduceLeDiff, Int.reduceAdd, Int.reduceSub, Int.reduceNeg, Int.reduceMul, Int.reduceMod, MP.e_var, MP.vl_some, MP.ev_lit, MP.ev_glob, MP.ev_bin, MP.ev_not, MP.e_and, MP.e_or, MP.ev_cmp, MP.ev_tup, MP.e_lst, MP.ev_idx, MP.ev_call, MP.ev_blt, MP.e_meth, MP.e_chain, MP.ch2_bl, MP.e_neg, MP.ng_int, MP.e_ite, MP.ev_slc, MP.evO_none, MP.e_O, MP.oI_int, MP.e_rev, MP.rvT_tup, MP.rvT_lst, MP.i_range1, MP.rg1_int, MP.i_range2, MP.rg2_int, MP.i_enum, MP.enRow_lst, MP.enRow_row, MP.enRow_tup, MP.evi_seq, MP.seq_l, MP.seq_t, MP.seq_r, MP.seq_s, MP.evs_nil, MP.evs_cons, MP.t_cons, MP.t_nil, MP.op_add_ii, MP.op_sub_ii, MP.op_mul_ii, MP.op_fdiv_ii, MP.op_mod_ii, MP.op_add_ss, MP.op_add_tt, MP.o_add_ll, MP.mkL_false, MP.mkL_true, MP.cp_lt_ii, MP.cp_le_ii, MP.cp_gt_ii, MP.cp_ge_ii, MP.cp_eq_ii, MP.cp_ne_ii, MP.cp_eq_ss, MP.cp_ne_ss, MP.cp_eq_nil, MP.cp_ne_nil, MP.cp_is_non, MP.cp_isnot_non, MP.len_str, MP.len_lst, MP.len_tup, MP.len_row, MP.abs_i, MP.int_i, MP.int_b, MP.min_ii, MP.max_ii, MP.tuple_tup, MP.tuple_lst, MP.l_list_t, MP.l_list_l, MP.test_bl, MP.test_int, MP.test_str, MP.test_lst, MP.test_tup, MP.a0, MP.a1, MP.a2, MP.a3, MP.a4, MP.l0, MP.l1, MP.l2, MP.l3, MP.sl_t, MP.sl_l, MP.sl_s, MP.sl_r, MP.in_2, List.getElem?_cons_succ, List.getElem?_cons_zero, List.set_cons_succ, List.set_cons_zero, List.length_cons, List.length_nil, List.length_map, List.length_append, decide_true, decide_false, decide_eq_true_eq, decide_eq_false_iff_not, Bool.and_eq_true, Bool.not_true, Bool.not_false, Bool.true_and, Bool.and_true, Bool.false_and, Bool.or_false, Bool.or_true, Bool.false_or, Bool.true_or, true_and, and_true, $xs,*]; (try simp only [MP.KB_some, MP.BR_t, MP.BR_f, MP.bindT_nm, MP.bindT, MP.bindTs, MP.setMany, Option.bind_some, List.set_cons_succ, List.set_cons_zero, List.cons_append, List.nil_append])))
variable {Fs : List Fn} {ix : Ix}
abbrev Tr := List Int × ((Int × Int) × Bool)
def tr (z : Tr) : D := .tup [.tup (z.1.map D.int), pr z.2.1, .bl z.2.2]
def fnd : Acc → List Int → List Tr
  | .tie, _ => []
  | .one, _ => []
  | .all _, _ => []
  | .none _ a, p => fnd a (p ++ [0])
  | .bind _ a, p => fnd a (p ++ [0])
  | .pick _ _ a, p => fnd a (p ++ [0])
  | .pair _ _ a b, p => fnd a (p ++ [0]) ++ fnd b (p ++ [1])
  | .menu _ a b, p => fnd a (p ++ [0]) ++ fnd b (p ++ [1])
  | .cut s _ a b, p => (p, ((s.words : Int), (a.size : Int) + b.size), (fnd a (p ++ [0]) ++ fnd b (p ++ [1])).isEmpty) :: (fnd a (p ++ [0]) ++ fnd b (p ++ [1]))
theorem fnd_meas : ∀ (a : Acc) (p : List Int), (fnd a p).map (fun z => z.2.1) = meas a
  | .tie, _ => rfl
  | .one, _ => rfl
  | .all _, _ => rfl
  | .none _ a, p => fnd_meas a _
  | .bind _ a, p => fnd_meas a _
  | .pick _ _ a, p => fnd_meas a _
  | .pair _ _ a b, p => by simp only [fnd, meas, List.map_append, fnd_meas a, fnd_meas b]
  | .menu _ a b, p => by simp only [fnd, meas, List.map_append, fnd_meas a, fnd_meas b]
  | .cut s _ a b, p => by simp only [fnd, meas, List.map_append, List.map_cons, fnd_meas a, fnd_meas b]
/-- what is found above, from the k-th account on -/
def walk (p : List Int) : Nat → List Acc → List Tr
  | _, [] => []
  | k, a :: as => fnd a (p ++ [(k : Int)]) ++ walk p (k + 1) as
theorem fnd_eq (a : Acc) (p : List Int) : fnd a p = (match a with
    | .cut s _ x y => [(p, ((s.words : Int), (x.size : Int) + y.size), (walk p 0 a.kids).isEmpty)]
    | _ => []) ++ walk p 0 a.kids := by cases a <;> simp [fnd, walk, Acc.kids]
theorem walk_len (p : List Int) : ∀ (k : Nat) (as : List Acc), (walk p k as).length = (as.map fun a => (meas a).length).sum
  | _, [] => rfl
  | k, a :: as => by
    have := congrArg List.length (fnd_meas a (p ++ [(k : Int)]))
    rw [List.length_map] at this
    simp only [walk, List.length_append, walk_len p (k + 1) as, List.map_cons, List.sum_cons, this]
theorem kids_meas (a : Acc) : (a.kids.map fun a => (meas a).length).sum ≤ a.size := by
  have h1 := meas_len a
  have h2 : (meas a).length = (own a).length + (a.kids.map fun a => (meas a).length).sum := by
    rw [meas_eq, List.length_append, List.length_flatten, List.map_map]
    rfl
  omega
theorem tr_plain (zs : List Tr) : plainAll (zs.map tr) = true := by
  have ip : ∀ p : List Int, plainAll (p.map D.int) = true := ints_plain
  induction zs with
  | nil => rfl
  | cons z zs ih => simp [plainAll, D.plain, tr, pr, ip, ih]
theorem tr_data (zs : List Tr) : dataAll (zs.map tr) = true := dataAll_mem fun y hy => by
  obtain ⟨z, _, rfl⟩ := List.mem_map.mp hy
  simp [tr, pr, D.data, dataAll, ints_data]
theorem eq_nil_l {xs : List D} {S : Store} (h : plainAll xs = true) : cp2 .eq (.lst xs) (.lst []) S = .ok (.bl xs.isEmpty) S := by
  have eo : eqOk (view S (.lst xs)) (view S (.lst [])) = true := by simp [view, eqOk, D.plain, h, plainAll, D.deep, deepAll, far]
  rw [cp_eq_of eo]
  cases xs <;> simp [view, D.eqv, D.py, pyAll, PyData.eqv, PyData.eqvAll]
theorem Acc.kid_size {a b : Acc} (hb : b ∈ a.kids) : b.size ≤ a.size := by
  cases a <;> simp [Acc.kids] at hb <;> (first | (subst hb; simp [Acc.size]; done) | (rcases hb with rfl | rfl <;> simp [Acc.size] <;> omega) | (subst hb; simp [Acc.size]; omega))
theorem found (okA : OkA Fs ix) (ok : OkK Fs ix) : ∀ (m K : Nat) (a : Acc) (S : Store) (p : List Int), a.deep ≤ m → m + 9 ≤ K → a.Ok → a.size ≤ 1000 → p.length + m ≤ 1000 → callN Fs K ix.found [a.d, .tup (p.map D.int)] S = .ok (.lst ((fnd a p).map tr)) S := by
  intro m
  induction m with
  | zero => intro K a S p h; have := a.pos; omega
  | succ m ih =>
    intro K a S p h hK ho hz hp
    obtain ⟨k, rfl⟩ : ∃ k, K = k + 1 := ⟨K - 1, by omega⟩
    suffices g : W (callN Fs (k + 1) ix.found [a.d, .tup (p.map D.int)] S) fun d S' => d = .lst ((fnd a p).map tr) ∧ S' = S by
      obtain ⟨d, S', e, rfl, rfl⟩ := g
      exact e
    refine w_call ok.found rfl ?_
    show WQ (evCs (callN Fs k) (b_found ix) [some a.d, some (.tup (p.map D.int)), none, none, none, none] S) _
    have ml := kids_meas a
    have wl := walk_len p 0 a.kids
    have pa : ∀ S, _ := fun S => above okA (K := k) (a := a) (S := S) (by omega)
    -- the loop's end, by its last word
    have rest : ∀ u v : Option D, WQ (evCs (callN Fs k) [(.ife (.cmp .ne (.idx (.var 0) (.lit (.int (0)))) (.lit (.str [99, 117, 116]))) [(.ret (.var 2))] []), (.asg (.nm 3) (.call ix.many [(.idx (.var 0) (.lit (.int (1))))])),
        (.ret (.bin false .add (.lst false [(.tup [(.var 1), (.tup [(.var 3), (.bin false .add (.call ix.size [(.idx (.var 0) (.lit (.int (3))))]) (.call ix.size [(.idx (.var 0) (.lit (.int (4))))]))]), (.cmp .eq (.var 2) (.lst false []))])]) (.var 2)))] [some a.d, some (.tup (p.map D.int)), some (.lst ((walk p 0 a.kids).map tr)), none, u, v] S)
        { n := fun _ S' => W (fin (f_found ix).leak S .non S') fun d S' => d = .lst ((fnd a p).map tr) ∧ S' = S, r := fun v S' => W (fin (f_found ix).leak S v S') fun d S' => d = .lst ((fnd a p).map tr) ∧ S' = S } := fun u v => by
      simp! [a.at0]
      by_cases hc : a.w = [99, 117, 116]
      · have : ∃ s ps x y, a = .cut s ps x y := by
          cases a <;> first | exact ⟨_, _, _, _, rfl⟩ | (simp [Acc.w] at hc)
        obtain ⟨s, ps, x, y, rfl⟩ := this
        refine BR_i (fun q => absurd hc (by simpa using q)) fun _ => ?_
        have s1 : ∀ T, _ := fun T => many okA 6 k s T ho.1.2.2 (by omega)
        simp only [Acc.deep] at h
        have z1 : ∀ T, _ := fun T => size okA m k x T (by omega) (by omega)
        have z2 : ∀ T, _ := fun T => size okA m k y T (by omega) (by omega)
        have en := fun S => eq_nil_l (S := S) (tr_plain (walk p 0 (Acc.cut s ps x y).kids))
        simp! [Acc.d, s1]
        simp! [Acc.d, s1, z1, z2, en]
        refine ⟨by omega, ?_⟩
        refine ⟨_, _, fin_same false _, ?_, rfl⟩
        rw [fnd_eq]
        simp [tr, pr]
      · refine BR_i (fun _ => ?_) fun q => absurd (by simpa using q) hc
        simp! []
        refine ⟨_, _, fin_same false _, ?_, rfl⟩
        rw [fnd_eq]
        cases a <;> first | rfl | (simp [Acc.w] at hc)
    unfold b_found
    simp! []
    simp! [pa]
    refine w_for rfl (fun ds env T => ∃ (j : Nat) (us : List Acc) (pre : List Tr) (u v : Option D), ds = enumL j (us.map Acc.d) ∧ (∀ b ∈ us, b ∈ a.kids) ∧ env = [some a.d, some (.tup (p.map D.int)), some (.lst (pre.map tr)), none, u, v] ∧ T = S ∧ pre ++ walk p j us = walk p 0 a.kids) _ _ _ ⟨0, a.kids, [], none, none, rfl, fun _ h => h, rfl, rfl, rfl⟩ ?_ ?_
    · rintro env T ⟨j, us, pre, u, v, e1, _, rfl, rfl, e2⟩
      have : us = [] := by
        cases us with
        | nil => rfl
        | cons b us => cases e1
      subst this
      have e3 : pre = walk p 0 a.kids := by simpa [walk] using e2
      subst e3
      exact rest _ _
    · rintro d ds env T ⟨j, us, pre, u, v, e1, hk, rfl, rfl, e2⟩
      cases us with
      | nil => cases e1
      | cons b us =>
        simp only [List.map_cons, enumL, List.cons.injEq] at e1
        obtain ⟨rfl, rfl⟩ := e1
        have hb := hk b List.mem_cons_self
        have hlt := Acc.kids_lt hb
        have hm := ih k b T (p ++ [(j : Int)]) (by omega) (by omega) (Acc.kids_ok ho hb) (by have := Acc.kid_size hb; omega) (by simp; omega)
        have e4 : (p ++ [(j : Int)]).map D.int = p.map D.int ++ [.int j] := by simp
        rw [e4] at hm
        have hl : pre.length + (fnd b (p ++ [(j : Int)])).length ≤ 1000 := by
          have := congrArg List.length e2
          simp only [walk, List.length_append] at this
          omega
        refine ⟨_, rfl, ?_⟩
        simp! []
        refine ⟨by omega, ?_⟩
        simp! [hm]
        refine ⟨by omega, ?_⟩
        refine k_nil ?_
        exact ⟨j + 1, us, pre ++ fnd b (p ++ [(j : Int)]), some (.int j), some b.d, rfl, fun c hc => hk c (List.mem_cons_of_mem _ hc), by simp, rfl, by rw [← e2]; simp [walk]⟩
end KB
end
section
set_option maxRecDepth 100000
set_option exponentiation.threshold 3000
/-! KBh: the pot made; measures shown. -/
namespace MP
open PySem
/-- a comprehension with a test, a cell made -/
theorem comp_filterM {α : Type} {as : List α} (e r : α → D) (f : α → Bool) {w : Row} (hw : w.watch = []) (hi : w.items = as.map e) {bnd : D → Option Env} {ifs : Env → Store → R Bool} {elt : Env → Store → R D} {S : Store}
    (step : ∀ a ∈ as, ∃ env, bnd (e a) = some env ∧ (∀ S, ifs env S = .ok (f a) S) ∧ (f a = true → ∀ S, elt env S = .ok (r a) S)) (hl : as.length ≤ most) :
    ((compGo w S.length bnd ifs elt w.items (S ++ [.lst []])).bind fun acc S' => compEnd true S acc S') = .ok (.ref S.length) (S ++ [.lst ((as.filter f).map r)]) := by
  have main : ∀ (as : List α), (∀ a ∈ as, ∃ env, bnd (e a) = some env ∧ (∀ S, ifs env S = .ok (f a) S) ∧ (f a = true → ∀ S, elt env S = .ok (r a) S)) → ∀ (acc : List D), acc.length + as.length ≤ most →
      compGo w S.length bnd ifs elt (as.map e) (S ++ [.lst acc]) = .ok (acc ++ (as.filter f).map r) (S ++ [.lst (acc ++ (as.filter f).map r)]) := by
    intro as
    induction as with
    | nil => intro _ acc _; simp [compGo, stays_nil hw]
    | cons a as ih =>
      intro st acc hl
      obtain ⟨env, e1, e2, e3⟩ := st a List.mem_cons_self
      rw [List.length_cons] at hl
      cases hf : f a with
      | false =>
        simp only [List.map_cons, compGo, stays_nil hw, e1, e2, hf, R.bind_ok]
        rw [ih (fun x hx => st x (List.mem_cons_of_mem _ hx)) acc (by omega)]
        simp [List.filter_cons, hf]
      | true =>
        have hac : decide (acc.length < most) = true := decide_eq_true (by omega)
        have hset : (S ++ [Cell.lst acc]).set S.length (.lst (acc ++ [r a])) = S ++ [.lst (acc ++ [r a])] := by
          rw [List.set_append_right _ _ (Nat.le_refl _)]
          simp
        have hget : (S ++ [Cell.lst acc])[S.length]? = some (.lst acc) := by simp
        simp only [List.map_cons, compGo, stays_nil hw, e1, e2, hf, R.bind_ok, e3 hf, hget, hac, hset]
        rw [ih (fun x hx => st x (List.mem_cons_of_mem _ hx)) (acc ++ [r a]) (by rw [List.length_append, List.length_singleton]; omega)]
        simp [List.filter_cons, hf]
  rw [hi]
  have := main as step [] (by simpa using hl)
  simp only [List.nil_append] at this
  rw [this]
  simp [compEnd]
theorem pow_60 (S : Store) : op2 false .pow (.int 10) (.int 60) S = .ok (.int (10 ^ 60)) S := by rw [op_pow_ii]; rfl
theorem pow_720 (S : Store) : op2 false .pow (.int (10 ^ 60)) (.int 12) S = .ok (.int ((10 ^ 60) ^ 12)) S := by rw [op_pow_ii]; rfl
theorem pow_18 (S : Store) : op2 false .pow (.int 10) (.int 18) S = .ok (.int (10 ^ 18)) S := by rw [op_pow_ii]; rfl
theorem thing_small : ∀ n : Nat, n ≤ 500 → Thing (.int n) 0 9 := fun n hn => by
  have h1 : (PyData.shown (.int (n : Int))).length ≤ 13 := PyData.shown_int_le (by omega)
  have h2 : ∀ m : Nat, m < 501 → (if ((m : Int) == 0) = true then 0 else (m : Int).natAbs.log2 + 1) ≤ 9 := by decide +kernel
  exact ⟨rfl, by simp only [D.py, PyData.showable]; exact decide_eq_true (by
    have : (n : Int).natAbs.log2 < 1920 := by
      have := h2 n (by omega)
      split at this
      · rename_i z
        have : n = 0 := by simpa using z
        subst this
        decide
      · omega
    exact this), Nat.le_refl _, by simpa [D.py, PyData.leavesShort] using h1, by simpa [D.py, PyData.weight] using h2 n (by omega)⟩
end MP
namespace KB
open PySem L2 MP
open QL (Say Nm Lt at0 at1)
local macro_rules | `(tactic| simp! [$xs,*]) => `(tactic| first | ((first | with_reducible refine MP.k_asg ?_ | with_reducible refine MP.k_ife ?_ | with_reducible refine MP.k_ret ?_ | with_reducible refine MP.k_par ?_ | with_reducible refine MP.k_ex ?_ | with_reducible refine MP.k_for ?_ | with_reducible refine MP.k_seti ?_ | with_reducible refine MP.k_star ?_ | with_reducible refine MP.k_aug ?_); with_reducible refine MP.w_hide ?_; intro P' hP'; simp only [R.bind_ok, MP.w_ok, MP.w_bind, MP.w_mk, MP.w_ck, MP.w_br, MP.br_t, MP.br_f, MP.br_or, MP.br_and, MP.ck_t, MP.mk_true, MP.most, Nat.reduceAdd, Nat.reduceLeDiff, Int.reduceAdd, Int.reduceSub, Int.reduceNeg, Int.reduceMul, Int.reduceMod, MP.e_var, MP.vl_some, MP.ev_lit, MP.ev_glob, MP.ev_bin, MP.ev_not, MP.e_and, MP.e_or, MP.ev_cmp, MP.ev_tup, MP.e_lst, MP.ev_idx, MP.ev_call, MP.ev_blt, MP.e_meth, MP.e_chain, MP.ch2_bl, MP.e_neg, MP.ng_int, MP.e_ite, MP.ev_slc, MP.evO_none, MP.e_O, MP.oI_int, MP.e_rev, MP.rvT_tup, MP.rvT_lst, MP.i_range1, MP.rg1_int, MP.i_range2, MP.rg2_int, MP.i_enum, MP.enRow_lst, MP.enRow_row, MP.enRow_tup, MP.evi_seq, MP.seq_l, MP.seq_t, MP.seq_r, MP.seq_s, MP.evs_nil, MP.evs_cons, MP.t_cons, MP.t_nil, MP.op_add_ii, MP.op_sub_ii, MP.op_mul_ii, MP.op_fdiv_ii, MP.op_mod_ii, MP.op_add_ss, MP.op_add_tt, MP.o_add_ll, MP.mkL_false, MP.mkL_true, MP.cp_lt_ii, MP.cp_le_ii, MP.cp_gt_ii, MP.cp_ge_ii, MP.cp_eq_ii, MP.cp_ne_ii, MP.cp_eq_ss, MP.cp_ne_ss, MP.cp_eq_nil, MP.cp_ne_nil, MP.cp_is_non, MP.cp_isnot_non, MP.len_str, MP.len_lst, MP.len_tup, MP.len_row, MP.abs_i, MP.int_i, MP.int_b, MP.min_ii, MP.max_ii, MP.tuple_tup, MP.tuple_lst, MP.l_list_t, MP.l_list_l, MP.test_bl, MP.test_int, MP.test_str, MP.test_lst, MP.test_tup, MP.a0, MP.a1, MP.a2, MP.a3, MP.a4, MP.l0, MP.l1, MP.l2, MP.l3, MP.sl_t, MP.sl_l, MP.sl_s, MP.sl_r, MP.in_2, List.getElem?_cons_succ, List.getElem?_cons_zero, List.set_cons_succ, List.set_cons_zero, List.length_cons, List.length_nil, List.length_map, List.length_append, decide_true, decide_false, decide_eq_true_eq, decide_eq_false_iff_not, Bool.and_eq_true, Bool.not_true, Bool.not_false, Bool.true_and, Bool.and_true, Bool.false_and, Bool.or_false, Bool.or_true, Bool.false_or, Bool.true_or, true_and, and_true, $xs,*]; subst hP'; (try simp only [MP.KB_some, MP.BR_t, MP.BR_f, MP.bindT_nm, MP.bindT, MP.bindTs, MP.setMany, Option.bind_some, List.set_cons_succ, List.set_cons_zero, List.cons_append, List.nil_append])) | (simp only [R.bind_ok, MP.w_ok, MP.w_bind, MP.w_mk, MP.w_ck, MP.w_br, MP.br_t, MP.br_f, MP.br_or, MP.br_and, MP.ck_t, MP.mk_true, MP.most, Nat.reduceAdd, Nat.reduceLeDiff, Int.reduceAdd, Int.reduceSub, Int.reduceNeg, Int.reduceMul, Int.reduceMod, MP.e_var, MP.vl_some, MP.ev_lit, MP.ev_glob, MP.ev_bin, MP.ev_not, MP.e_and, MP.e_or, MP.ev_cmp, MP.ev_tup, MP.e_lst, MP.ev_idx, MP.ev_call, MP.ev_blt, MP.e_meth, MP.e_chain, MP.ch2_bl, MP.e_neg, MP.ng_int, MP.e_ite, MP.ev_slc, MP.evO_none, MP.e_O, MP.oI_int, MP.e_rev, MP.rvT_tup, MP.rvT_lst, MP.i_range1, MP.rg1_int, MP.i_range2, MP.rg2_int, MP.i_enum, MP.enRow_lst, MP.enRow_row, MP.enRow_tup, MP.evi_seq, MP.seq_l, MP.seq_t, MP.seq_r, MP.seq_s, MP.evs_nil, MP.evs_cons, MP.t_cons, MP.t_nil, MP.op_add_ii, MP.op_sub_ii, MP.op_mul_ii, MP.op_fdiv_ii, MP.op_mod_ii, MP.op_add_ss, MP.op_add_tt, MP.o_add_ll, MP.mkL_false, MP.mkL_true, MP.cp_lt_ii, MP.cp_le_ii, MP.cp_gt_ii, MP.cp_ge_ii, MP.cp_eq_ii, MP.cp_ne_ii, MP.cp_eq_ss, MP.cp_ne_ss, MP.cp_eq_nil, MP.cp_ne_nil, MP.cp_is_non, MP.cp_isnot_non, MP.len_str, MP.len_lst, MP.len_tup, MP.len_row, MP.abs_i, MP.int_i, MP.int_b, MP.min_ii, MP.max_ii, MP.tuple_tup, MP.tuple_lst, MP.l_list_t, MP.l_list_l, MP.test_bl, MP.test_int, MP.test_str, MP.test_lst, MP.test_tup, MP.a0, MP.a1, MP.a2, MP.a3, MP.a4, MP.l0, MP.l1, MP.l2, MP.l3, MP.sl_t, MP.sl_l, MP.sl_s, MP.sl_r, MP.in_2, List.getElem?_cons_succ, List.getElem?_cons_zero, List.set_cons_succ, List.set_cons_zero, List.length_cons, List.length_nil, List.length_map, List.length_append, decide_true, decide_false, decide_eq_true_eq, decide_eq_false_iff_not, Bool.and_eq_true, Bool.not_true, Bool.not_false, Bool.true_and, Bool.and_true, Bool.false_and, Bool.or_false, Bool.or_true, Bool.false_or, Bool.true_or, true_and, and_true, $xs,*]; (try simp only [MP.KB_some, MP.BR_t, MP.BR_f, MP.bindT_nm, MP.bindT, MP.bindTs, MP.setMany, Option.bind_some, List.set_cons_succ, List.set_cons_zero, List.cons_append, List.nil_append])))
variable {Fs : List Fn} {ix : Ix}
theorem meas_small : ∀ (a : Acc), a.Ok → ∀ z ∈ meas a, ∃ m n : Nat, z = ((m : Int), (n : Int)) ∧ m ≤ 63 ∧ n ≤ a.size
  | .tie, _, z, h => by cases h
  | .one, _, z, h => by cases h
  | .all _, _, z, h => by cases h
  | .none _ a, o, z, h => by obtain ⟨m, n, h1, h2, h3⟩ := meas_small a o z h; exact ⟨m, n, h1, h2, by simp [Acc.size]; omega⟩
  | .bind _ a, o, z, h => by obtain ⟨m, n, h1, h2, h3⟩ := meas_small a o z h; exact ⟨m, n, h1, h2, by simp [Acc.size]; omega⟩
  | .pick _ _ a, o, z, h => by obtain ⟨m, n, h1, h2, h3⟩ := meas_small a o z h; exact ⟨m, n, h1, h2, by simp [Acc.size]; omega⟩
  | .pair _ _ a b, o, z, h => by
    rcases List.mem_append.mp (show z ∈ meas a ++ meas b from h) with h | h
    · obtain ⟨m, n, h1, h2, h3⟩ := meas_small a o.1 z h; exact ⟨m, n, h1, h2, by simp [Acc.size]; omega⟩
    · obtain ⟨m, n, h1, h2, h3⟩ := meas_small b o.2 z h; exact ⟨m, n, h1, h2, by simp [Acc.size]; omega⟩
  | .menu _ a b, o, z, h => by
    rcases List.mem_append.mp (show z ∈ meas a ++ meas b from h) with h | h
    · obtain ⟨m, n, h1, h2, h3⟩ := meas_small a o.1 z h; exact ⟨m, n, h1, h2, by simp [Acc.size]; omega⟩
    · obtain ⟨m, n, h1, h2, h3⟩ := meas_small b o.2 z h; exact ⟨m, n, h1, h2, by simp [Acc.size]; omega⟩
  | .cut s _ a b, o, z, h => by
    rcases List.mem_cons.mp (show z ∈ ((s.words : Int), (a.size : Int) + b.size) :: (meas a ++ meas b) from h) with rfl | h
    · exact ⟨s.words, a.size + b.size, by simp, words_63 o.1.2.2, by simp only [Acc.size]; omega⟩
    · rcases List.mem_append.mp h with h | h
      · obtain ⟨m, n, h1, h2, h3⟩ := meas_small a o.2.1 z h; exact ⟨m, n, h1, h2, by simp [Acc.size]; omega⟩
      · obtain ⟨m, n, h1, h2, h3⟩ := meas_small b o.2.2 z h; exact ⟨m, n, h1, h2, by simp [Acc.size]; omega⟩
theorem prs_things : ∀ zs : List (Int × Int), (∀ z ∈ zs, ∃ m n : Nat, z = ((m : Int), (n : Int)) ∧ m ≤ 500 ∧ n ≤ 500) → Things (zs.map pr) 1 (21 * zs.length)
  | [], _ => things_nil 1
  | z :: zs, h => by
    obtain ⟨m, n, rfl, h1, h2⟩ := h z List.mem_cons_self
    have t1 := thing_tup2 (thing_small m h1) (thing_small n h2)
    have t2 := prs_things zs fun z hz => h z (List.mem_cons_of_mem _ hz)
    exact things_mono (things_cons t1 t2) (Nat.le_refl _) (by rw [List.length_cons]; omega)
theorem meas_repr {a : Acc} (ho : a.Ok) (hz : a.size ≤ 401) (S : Store) : bt false .repr [.tup ((meas a).map pr)] S = .ok (.str (D.tup ((meas a).map pr)).shown) S := by
  have t := thing_tup (prs_things (meas a) fun z h => by
    obtain ⟨m, n, h1, h2, h3⟩ := meas_small a ho z h
    exact ⟨m, n, h1, by omega, by omega⟩)
  exact t.repr (by decide) (by have := meas_len a; omega) false S
theorem pot (ok : OkK Fs ix) {K : Nat} {ns : List Int} (hK : 1 ≤ K) : W (callN Fs K ix.pot [.row (ns.map D.int)] []) fun d S' => d = .ref 1 ∧ Pot S' 1 0 0 := by
  obtain ⟨k, rfl⟩ : ∃ k, K = k + 1 := ⟨K - 1, by omega⟩
  refine w_call ok.pot rfl ?_
  show WQ (evCs (callN Fs k) (b_pot ix) [some (.row (ns.map D.int)), none, none, none] []) _
  have hcl : (cutL ns none (some 63)).length ≤ 63 := by rw [cutL_take (by omega), List.length_take]; omega
  unfold b_pot
  simp! []
  simp! [cutL_map]
  refine w_for rfl (fun ds env T => ∃ (j : Nat) (us : List Int) (s : Int) (u v : Option D), ds = enumL j (us.map D.int) ∧ env = [some (.row (ns.map D.int)), some (.int s), u, v] ∧ T = []) _ _ _ ⟨0, _, 41, none, none, rfl, rfl, rfl⟩ ?_ ?_
  · rintro env T ⟨j, us, s, u, v, _, rfl, rfl⟩
    have cm : evE (callN Fs k) (.comp true (.bin false .mod (.blt false .abs [(.var 3)]) (.bin false .pow (.bin false .pow (.lit (.int (10))) (.lit (.int (60)))) (.lit (.int (12))))) (.nm 3) (.seq (.slc false (.var 0) none (some (.lit (.int (63)))))) [(.cmp .ge (.blt false .abs [(.var 3)]) (.bin false .pow (.lit (.int (10))) (.lit (.int (18)))))] [3]) [some (.row (ns.map D.int)), some (.int s), u, v] []
        = .ok (.ref 0) [.lst (((cutL ns none (some 63)).filter fun c => decide ((10 : Int) ^ 18 ≤ if c < 0 then -c else c)).map fun c => D.int ((if c < 0 then -c else c) % (10 ^ 60) ^ 12))] := by
      rw [ev_comp]
      have hi : evI (callN Fs k) (.seq (.slc false (.var 0) none (some (.lit (.int (63)))))) [some (.row (ns.map D.int)), some (.int s), u, v] [] = .ok ⟨(cutL ns none (some 63)).map D.int, []⟩ [] := by
        simp [ev_v, sl_r, cutL_map, seq_l]
      rw [hi]
      exact comp_filterM (as := cutL ns none (some 63)) D.int (fun c => D.int ((if c < 0 then -c else c) % (10 ^ 60) ^ 12)) (fun c => decide ((10 : Int) ^ 18 ≤ if c < 0 then -c else c)) (S := []) rfl rfl (fun c _ => ⟨_, rfl, fun S => by
        simp only [t_cons, t_nil, ev_cmp, ev_blt, ev_bin, ev_lit, evs_cons, evs_nil, ev_v, wipeE, R.bind_ok, List.set_cons_succ, List.set_cons_zero, List.getElem?_cons_succ, List.getElem?_cons_zero, abs_i, pow_18, cp_ge_ii, test_bl]
        cases decide ((10 : Int) ^ 18 ≤ if c < 0 then -c else c) <;> rfl, fun _ S => by
        have : (0 : Int) < (10 ^ 60) ^ 12 := by decide
        simp only [ev_bin, ev_blt, evs_cons, evs_nil, ev_v, ev_lit, R.bind_ok, wipeE, List.set_cons_succ, List.set_cons_zero, List.getElem?_cons_succ, List.getElem?_cons_zero, abs_i, pow_60, pow_720, op_mod_ii, decide_eq_true this, mk_true]⟩) (by unfold most; omega)
    simp! [cm]
    refine ⟨_, _, rfl, rfl, ((cutL ns none (some 63)).filter fun c => decide ((10 : Int) ^ 18 ≤ if c < 0 then -c else c)).map (fun c => (if c < 0 then -c else c) % (10 ^ 60) ^ 12), s, 0, rfl, ?_, ?_, by omega, by omega, by omega⟩
    · simp
    · rw [List.length_map]
      exact Nat.le_trans (List.length_filter_le _ _) hcl
  · rintro d ds env T ⟨j, us, s, u, v, e1, rfl, rfl⟩
    cases us with
    | nil => cases e1
    | cons c us =>
      simp only [List.map_cons, enumL, List.cons.injEq] at e1
      obtain ⟨rfl, rfl⟩ := e1
      refine ⟨_, rfl, ?_⟩
      have o1 : okMul s 1000003 = true := okMul_r (by decide)
      have o2 : okMul 37 (j : Int) = true := okMul_l (by decide)
      simp! [o1, o2]
      refine ⟨by decide, by decide, ?_⟩
      refine k_nil ?_
      exact ⟨j + 1, us, _, _, _, rfl, rfl, rfl⟩
end KB
end
set_option maxRecDepth 100000
set_option exponentiation.threshold 3000
namespace LW
open PySem L2 MP KB
local macro_rules | `(tactic| simp! [$xs,*]) => `(tactic| first | ((first | with_reducible refine MP.k_asg ?_ | with_reducible refine MP.k_ife ?_ | with_reducible refine MP.k_ret ?_ | with_reducible refine MP.k_par ?_ | with_reducible refine MP.k_ex ?_ | with_reducible refine MP.k_for ?_ | with_reducible refine MP.k_seti ?_ | with_reducible refine MP.k_star ?_ | with_reducible refine MP.k_aug ?_); with_reducible refine MP.w_hide ?_; intro P' hP'; simp only [R.bind_ok, MP.w_ok, MP.w_bind, MP.w_mk, MP.w_ck, MP.w_br, MP.br_t, MP.br_f, MP.br_or, MP.br_and, MP.ck_t, MP.mk_true, MP.most, Nat.reduceAdd, Nat.reduceLeDiff, Int.reduceAdd, Int.reduceSub, Int.reduceNeg, Int.reduceMul, Int.reduceMod, MP.e_var, MP.vl_some, MP.ev_lit, MP.ev_glob, MP.ev_bin, MP.ev_not, MP.e_and, MP.e_or, MP.ev_cmp, MP.ev_tup, MP.e_lst, MP.ev_idx, MP.ev_call, MP.ev_blt, MP.e_meth, MP.e_chain, MP.ch2_bl, MP.e_neg, MP.ng_int, MP.e_ite, MP.ev_slc, MP.evO_none, MP.e_O, MP.oI_int, MP.e_rev, MP.rvT_tup, MP.rvT_lst, MP.i_range1, MP.rg1_int, MP.i_range2, MP.rg2_int, MP.i_enum, MP.enRow_lst, MP.enRow_row, MP.enRow_tup, MP.evi_seq, MP.seq_l, MP.seq_t, MP.seq_r, MP.seq_s, MP.evs_nil, MP.evs_cons, MP.t_cons, MP.t_nil, MP.op_add_ii, MP.op_sub_ii, MP.op_mul_ii, MP.op_fdiv_ii, MP.op_mod_ii, MP.op_add_ss, MP.op_add_tt, MP.o_add_ll, MP.mkL_false, MP.mkL_true, MP.cp_lt_ii, MP.cp_le_ii, MP.cp_gt_ii, MP.cp_ge_ii, MP.cp_eq_ii, MP.cp_ne_ii, MP.cp_eq_ss, MP.cp_ne_ss, MP.cp_eq_nil, MP.cp_ne_nil, MP.cp_is_non, MP.cp_isnot_non, MP.len_str, MP.len_lst, MP.len_tup, MP.len_row, MP.abs_i, MP.int_i, MP.int_b, MP.min_ii, MP.max_ii, MP.tuple_tup, MP.tuple_lst, MP.l_list_t, MP.l_list_l, MP.test_bl, MP.test_int, MP.test_str, MP.test_lst, MP.test_tup, MP.a0, MP.a1, MP.a2, MP.a3, MP.a4, MP.l0, MP.l1, MP.l2, MP.l3, MP.sl_t, MP.sl_l, MP.sl_s, MP.sl_r, MP.in_2, List.getElem?_cons_succ, List.getElem?_cons_zero, List.set_cons_succ, List.set_cons_zero, List.length_cons, List.length_nil, List.length_map, List.length_append, decide_true, decide_false, decide_eq_true_eq, decide_eq_false_iff_not, Bool.and_eq_true, Bool.not_true, Bool.not_false, Bool.true_and, Bool.and_true, Bool.false_and, Bool.or_false, Bool.or_true, Bool.false_or, Bool.true_or, true_and, and_true, $xs,*]; subst hP'; (try simp only [MP.KB_some, MP.BR_t, MP.BR_f, MP.bindT_nm, MP.bindT, MP.bindTs, MP.setMany, Option.bind_some, List.set_cons_succ, List.set_cons_zero, List.cons_append, List.nil_append])) | (simp only [R.bind_ok, MP.w_ok, MP.w_bind, MP.w_mk, MP.w_ck, MP.w_br, MP.br_t, MP.br_f, MP.br_or, MP.br_and, MP.ck_t, MP.mk_true, MP.most, Nat.reduceAdd, Nat.reduceLeDiff, Int.reduceAdd, Int.reduceSub, Int.reduceNeg, Int.reduceMul, Int.reduceMod, MP.e_var, MP.vl_some, MP.ev_lit, MP.ev_glob, MP.ev_bin, MP.ev_not, MP.e_and, MP.e_or, MP.ev_cmp, MP.ev_tup, MP.e_lst, MP.ev_idx, MP.ev_call, MP.ev_blt, MP.e_meth, MP.e_chain, MP.ch2_bl, MP.e_neg, MP.ng_int, MP.e_ite, MP.ev_slc, MP.evO_none, MP.e_O, MP.oI_int, MP.e_rev, MP.rvT_tup, MP.rvT_lst, MP.i_range1, MP.rg1_int, MP.i_range2, MP.rg2_int, MP.i_enum, MP.enRow_lst, MP.enRow_row, MP.enRow_tup, MP.evi_seq, MP.seq_l, MP.seq_t, MP.seq_r, MP.seq_s, MP.evs_nil, MP.evs_cons, MP.t_cons, MP.t_nil, MP.op_add_ii, MP.op_sub_ii, MP.op_mul_ii, MP.op_fdiv_ii, MP.op_mod_ii, MP.op_add_ss, MP.op_add_tt, MP.o_add_ll, MP.mkL_false, MP.mkL_true, MP.cp_lt_ii, MP.cp_le_ii, MP.cp_gt_ii, MP.cp_ge_ii, MP.cp_eq_ii, MP.cp_ne_ii, MP.cp_eq_ss, MP.cp_ne_ss, MP.cp_eq_nil, MP.cp_ne_nil, MP.cp_is_non, MP.cp_isnot_non, MP.len_str, MP.len_lst, MP.len_tup, MP.len_row, MP.abs_i, MP.int_i, MP.int_b, MP.min_ii, MP.max_ii, MP.tuple_tup, MP.tuple_lst, MP.l_list_t, MP.l_list_l, MP.test_bl, MP.test_int, MP.test_str, MP.test_lst, MP.test_tup, MP.a0, MP.a1, MP.a2, MP.a3, MP.a4, MP.l0, MP.l1, MP.l2, MP.l3, MP.sl_t, MP.sl_l, MP.sl_s, MP.sl_r, MP.in_2, List.getElem?_cons_succ, List.getElem?_cons_zero, List.set_cons_succ, List.set_cons_zero, List.length_cons, List.length_nil, List.length_map, List.length_append, decide_true, decide_false, decide_eq_true_eq, decide_eq_false_iff_not, Bool.and_eq_true, Bool.not_true, Bool.not_false, Bool.true_and, Bool.and_true, Bool.false_and, Bool.or_false, Bool.or_true, Bool.false_or, Bool.true_or, true_and, and_true, $xs,*]; (try simp only [MP.KB_some, MP.BR_t, MP.BR_f, MP.bindT_nm, MP.bindT, MP.bindTs, MP.setMany, Option.bind_some, List.set_cons_succ, List.set_cons_zero, List.cons_append, List.nil_append])))
def ix : Ix := { parts_of := 0, words_of := 1, signsP := 2, proofs_above := 3, steps := 4, measures := 5, pot := 6, take := 7, of := 8, other := 9, about := 10, many := 11, deep := 12, fits := 13, name := 14, saying := 15, begin := 16, merged := 17, paired := 18, step_on := 19, above := 20, size := 21, grown := 22, mirror := 23, cut := 24, cut_more := 25, drawn := 26, beside := 27, found := 28, law := 29, tHEAD_LONG := 0 }
theorem okA : OkA Fs ix := { take := rfl, of := rfl, other := rfl, about := rfl, many := rfl, deep := rfl, fits := rfl, name := rfl, saying := rfl, begin := rfl, merged := rfl, paired := rfl, step_on := rfl, above := rfl, size := rfl, grown := rfl, mirror := rfl, cut := rfl, cut_more := rfl, drawn := rfl, beside := rfl }
theorem okP : OkP Fs ix := ⟨rfl, rfl, rfl, rfl, rfl, rfl⟩
theorem okK : OkK Fs ix := ⟨rfl, rfl⟩
theorem F29 : Fs[29]? = some f_29 := rfl
/-- what is told of an account -/
theorem told {a : Acc} (ho : a.Ok) (hd : a.deep ≤ 61) (hz : a.size ≤ 401) (S : Store) :
    callN Fs 120 5 [a.d] S = .ok (.tup ((meas a).map pr)) S ∧ callN Fs 120 28 [a.d, .tup []] S = .ok (.lst ((fnd a []).map tr)) S :=
  ⟨measures okP 61 120 a S hd (by omega) ho (by omega), found okA okK 61 120 a S [] hd (by omega) ho (by omega) (by simp)⟩
theorem rest {a : Acc} {g : List QL.Say} {T : Store} {scr : D} {way u4 u7 u8 u9 i : Option D} {k : Kn} (ho : a.Ok) (hd : a.deep ≤ 61) (hz : a.size ≤ 401)
    (h : k.n [some scr, some (.ref 1), i, way, some (.tup ((meas a).map pr)), some (.tup (g.map QL.Say.d)), some a.d, u7, u8, u9] T) :
    WQ (evCs (callN Fs 120) [(.asg (.nm 4) (.blt false .tuple [(.comp false (.var 8) (.tup [(.nm 7), (.nm 8), (.nm 9)]) (.seq (.call 28 [(.var 6), (.tup [])])) [] [7, 8, 9])])), (.ife (.or (.cmp .ne (.blt false .repr [(.call 5 [(.var 6)])]) (.blt false .repr [(.var 4)])) (.cmp .ne (.blt false .repr [(.callk 5 [] [(.var 6)] ([Str.ofString "account"] : List Str) [0] [])]) (.blt false .repr [(.var 4)]))) [(.ret (.lit (.bl false)))] [])]
      [some scr, some (.ref 1), i, way, u4, some (.tup (g.map QL.Say.d)), some a.d, u7, u8, u9] T) k := by
  obtain ⟨m1, f1⟩ := told ho hd hz T
  have r1 := meas_repr ho hz T
  have cm : evE (callN Fs 120) (.comp false (.var 8) (.tup [(.nm 7), (.nm 8), (.nm 9)]) (.seq (.call 28 [(.var 6), (.tup [])])) [] [7, 8, 9]) [some scr, some (.ref 1), i, way, u4, some (.tup (g.map QL.Say.d)), some a.d, u7, u8, u9] T = .ok (.lst ((meas a).map pr)) T := by
    have := ev_comp_filter (as := fnd a []) tr (fun z => pr z.2.1) (fun _ => true) (call := callN Fs 120) (env := [some scr, some (.ref 1), i, way, u4, some (.tup (g.map QL.Say.d)), some a.d, u7, u8, u9]) (S := T) (elt := .var 8) (it := .seq (.call 28 [(.var 6), (.tup [])])) (ifs := []) (tg := .tup [(.nm 7), (.nm 8), (.nm 9)]) (own := [7, 8, 9])
      (by simp [ev_v, f1, seq_l, most]) (fun z _ => ⟨_, rfl, fun S => by simp [evTs], fun _ S => by simp [ev_v, wipeE]⟩) (fun z _ => by simp [pr, D.data, dataAll]) (by
        have := congrArg List.length (fnd_meas a [])
        rw [List.length_map] at this
        have := meas_len a
        unfold most; omega)
    rw [List.filter_eq_self.mpr (fun _ _ => rfl)] at this
    rw [this, ← fnd_meas a [], List.map_map]
    rfl
  simp! [cm]
  have ck : evE (callN Fs 120) (.callk 5 [] [(.var 6)] ([Str.ofString "account"] : List Str) [0] []) [some scr, some (.ref 1), i, way, some (.tup ((meas a).map pr)), some (.tup (g.map QL.Say.d)), some a.d, u7, u8, u9] T = .ok (.tup ((meas a).map pr)) T := by
    simp [evE, pickN, ev_v, m1]
  simp! [m1, r1, ck]
  exact k_nil h
theorem ans : Ans := by
  intro ns hl
  suffices g : W (callN Fs 121 29 [.row (ns.map D.int)] []) fun d _ => d = .bl true by
    obtain ⟨d, S', e, rfl⟩ := g
    exact ⟨S', e⟩
  refine w_call F29 rfl ?_
  show WQ (evCs (callN Fs 120) b_29 [some (.row (ns.map D.int)), none, none, none, none, none, none, none, none, none] []) _
  unfold b_29
  simp! []
  refine (pot okK (K := 120) (ns := ns) (by omega)).mono ?_
  rintro d S1 ⟨rfl, hp⟩
  simp! []
  refine ⟨by decide, ?_⟩
  refine w_for rfl (fun ds env T => ∃ i w u4 u5 u6 u7 u8 u9, env = [some (.row (ns.map D.int)), some (.ref 1), i, w, u4, u5, u6, u7, u8, u9] ∧ ds.length ≤ 4 ∧ Pot T 1 0 (2000000 * (4 - ds.length))) _ _ _ ⟨none, none, none, none, none, none, none, none, rfl, by simp [rangeL], by simpa [rangeL] using hp⟩ ?_ ?_
  · rintro env T ⟨i, w, u4, u5, u6, u7, u8, u9, rfl, _, _⟩
    simp! []
    obtain ⟨T', e⟩ := fin_bl true T
    exact ⟨_, _, e, rfl⟩
  · rintro d ds env T ⟨i, w, u4, u5, u6, u7, u8, u9, rfl, l, hp⟩
    rw [List.length_cons] at l hp
    refine ⟨_, rfl, ?_⟩
    obtain ⟨y, S2, t1, t2, t3, t4⟩ := take okA (K := 120) (many := 4) (by omega) hp (by omega) (by decide) (by decide)
    simp only [ix] at t1
    simp! [t1]
    simp! []
    refine ⟨fun q => ?_, fun q => ?_⟩
    · refine (beside okA (K := 120) (by omega) t4.pot (by omega)).mono ?_
      rintro e S3 ⟨g, a, rfl, ho, hd, hz, dr⟩
      simp! [bk]
      refine rest ho hd hz ?_
      exact ⟨_, _, _, _, _, _, _, _, rfl, by omega, dr.pot.mono (by omega)⟩
    · obtain ⟨z, z1, z2⟩ := in_lst (xs := [.int 0, .int 1, .int 2]) (d := y - 1) (S := S2) (by omega) (by simp; omega)
      have hz : ∃ c : Int, z = .int c ∧ 0 ≤ c ∧ c ≤ 2 := by
        simp only [List.mem_cons, List.not_mem_nil, or_false] at z1
        rcases z1 with rfl | rfl | rfl
        · exact ⟨0, rfl, by omega, by omega⟩
        · exact ⟨1, rfl, by omega, by omega⟩
        · exact ⟨2, rfl, by omega, by omega⟩
      obtain ⟨c, rfl, c0, c1⟩ := hz
      simp! [z2]
      refine (drawn okA (K := 120) (cuts := c) (by omega) t4.pot (by omega) c0 c1).mono ?_
      rintro e S3 ⟨g, a, rfl, b, dr⟩
      simp! [bk]
      refine rest b.ok (by have := b.deep; omega) (by have := b.size; omega) ?_
      exact ⟨_, _, _, _, _, _, _, _, rfl, by omega, dr.pot.mono (by omega)⟩
end LW
set_option maxRecDepth 100000 in
set_option maxHeartbeats 8000000 in
theorem PySem.Challenge.cw_spendproofs_k40_measures_holds : PySem.Challenge.rw_spendproofs_k40_measures.Holds :=
  law_of LW.ans
