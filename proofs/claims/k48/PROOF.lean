import PyProof.Rows.All
import Wide.All
import OpenK.AllK
import Wide.FinOn
import PyProof.EqAt
import PyProof.EqKinds
import PyProof.TupleCall
import KE.KeyNested
import HandS.Base
import HandS.ForMost
import HandS.Exc
import HandS.TryOnly
import HandS.TryMany
import HandS.ExcOwn
import HandS.CallSlots
import HandS.ExcInit
import HandS.ExcField
import HandS.WordsExc
import HandS.Flow
import HandS.TupAny
import HandS.TupMul
import HandS.Wide
import HandS.IsInst
import HandS.Zip
import HandS.Rev
import HandS.Deep
import HandS.WideBits
import HandS.EndBits
import HandS.TupLen
import PyProof.Rows.TupTab
import KE.KDictKeyed
import KE.SortData
import KE.LtData
import HandS.More
import KE.DataFind
import HandS.DictComp
import HandS.TupSets
import KE.GoesMore
import HandS.Iter
import KE.KDictWalk
import KE.KDictCopyH
import KE.KDictSum
import HandS.Star
import HandS.Gcd
import HandS.Style
import KE.KRevSl
import KE.DataMinKey
import HandS.SortKw
import PyProof.DictCompW
import PyProof.Rows.TupDisplay
import PyProof.ListIndex
import PyProof.ListIndexNeg
import HandS.ExcIs
import HandS.ExcBuiltin
import KE.KExcIs
import HandS.Defaults
import HandS.Head0
import HandS.Head1
import HandS.Head2
import HandS.Head3
import HandS.HeadEnd
import HandS.HeadHook1
import HandS.HeadHook2
import HandS.HeadHook3
import HandS.HeadHook4
import PySem.Challenge.RW_unwound_k48_growth_by_hand_and_refused
set_option Elab.async false
set_option linter.all false
set_option maxRecDepth 100000
/-! Ev0: a small reckoner for the programs' Python: values, a store of mutable things, operations, expressions, statements, calls. Plain Lean. -/
namespace Ev
open PySem

/-- a value: plain data, or a place in the store -/
inductive D where
  | p (x : PyData)
  | ref (n : Nat)
/-- what stands in the store -/
inductive SO where
  | lst (xs : List D)
  | dct (kvs : List (PyData × D))
  /-- a dict whose keys are tuples -/
  | dtn (kvs : List (PyData × D))
  | fz (x : PyData)
  /-- a dict that is not changed any more -/
  | fzd (kvs : List (PyData × D))
  /-- a tuple in which things of the store stand -/
  | tpl (ds : List D)
  /-- a def as a value -/
  | fnc (f : Nat)
  | dead
abbrev Sto := List SO
abbrev Env := List (Option D)

inductive R (α : Type) where
  | ok (a : α) (st : Sto)
  | exn (c : Nat) (v : Option PyData) (st : Sto)
  | stuck
def R.bind {α β : Type} (m : R α) (f : α → Sto → R β) : R β :=
  match m with
  | .ok a st => f a st
  | .exn c v st => .exn c v st
  | .stuck => .stuck

/-- the longest list, tuple, text -/
abbrev LINE : Nat := 16777216
def chk {α : Type} (b : Bool) (x : R α) : R α := match b with | true => x | false => .stuck

def D.none : D := .p .none
def D.bool (b : Bool) : D := .p (.bool b)
def D.int (i : Int) : D := .p (.int i)

/-! ### the store -/
def getS : Sto → Nat → SO
  | [], _ => .dead
  | o :: _, 0 => o
  | _ :: r, n + 1 => getS r n
/-- may d be written into the place e: no truncation of a frame on the way leaves it without its place -/
def okW (bs : List Nat) (e : Nat) : D → Bool
  | .p _ => true
  | .ref r => bs.all fun b => Nat.ble b e || Nat.blt r b
def mapF (f : D → Sto → Option (PyData × Sto)) : List D → Sto → Option (List PyData × Sto)
  | [], st => some ([], st)
  | d :: ds, st =>
    match f d st with
    | none => none
    | some (x, st1) =>
      match mapF f ds st1 with
      | none => none
      | some (xs, st2) => some (x :: xs, st2)
/-- d as plain data from now on: the lists in it are not changed any more -/
def frz : Nat → D → Sto → Option (PyData × Sto)
  | 0, d, st => match d with
    | .p x => some (x, st)
    | .ref _ => none
  | k + 1, d, st => match d with
    | .p x => some (x, st)
    | .ref n =>
      match getS st n with
      | .fz x => some (x, st)
      | .lst xs =>
        match mapF (frz k) xs st with
        | some (ps, st') => (match getS st' n with | .lst _ => some (.list ps, st'.set n (.fz (.list ps))) | _ => none)
        | none => none
      | _ => none
def frzL (k : Nat) (ds : List D) (st : Sto) : Option (List PyData × Sto) := mapF (frz k) ds st
def mapP (f : D → Option PyData) : List D → Option (List PyData)
  | [] => some []
  | d :: ds =>
    match f d with
    | none => none
    | some x =>
      match mapP f ds with
      | none => none
      | some xs => some (x :: xs)
/-- d as plain data now, without a change -/
def peek : Nat → Sto → D → Option PyData
  | 0, _, d => match d with
    | .p x => some x
    | .ref _ => none
  | k + 1, st, d => match d with
    | .p x => some x
    | .ref n =>
      match getS st n with
      | .fz x => some x
      | .lst xs => (mapP (peek k st) xs).map .list
      | _ => none
/-- the levels of lists that are looked at -/
abbrev DEEP : Nat := 6
def toP (d : D) (st : Sto) (f : PyData → Sto → R D) : R D := match frz DEEP d st with | some (x, st') => f x st' | none => .stuck
def toPs (ds : List D) (st : Sto) (f : List PyData → Sto → R D) : R D := match frzL DEEP ds st with | some (xs, st') => f xs st' | none => .stuck

def lenLe : List α → Nat → Bool
  | [], _ => true
  | _ :: _, 0 => false
  | _ :: r, n + 1 => lenLe r n
/-- a new list: in the store, or as plain data -/
def mkL (al : Bool) (ds : List D) (st : Sto) : R D :=
  chk (Nat.ble ds.length LINE) (match al with
    | true => .ok (.ref st.length) (st ++ [.lst ds])
    | false => toPs ds st fun ps st' => .ok (.p (.list ps)) st')
def mkT (ds : List D) (st : Sto) : R D :=
  chk (Nat.ble ds.length LINE) (match frzL DEEP ds st with
    | some z => .ok (.p (.tuple z.1)) z.2
    | none => .ok (.ref st.length) (st ++ [.tpl ds]))
/-- the items of a list, of a tuple -/
def items (st : Sto) : D → Option (List D)
  | .p (.list xs) => some (xs.map .p)
  | .p (.tuple xs) => some (xs.map .p)
  | .ref n => match getS st n with
    | .lst xs => some xs
    | .fz (.list xs) => some (xs.map .p)
    | .tpl xs => some xs
    | _ => none
  | _ => none
def listItems (st : Sto) : D → Option (List D)
  | .p (.list xs) => some (xs.map .p)
  | .ref n => match getS st n with
    | .lst xs => some xs
    | .fz (.list xs) => some (xs.map .p)
    | _ => none
  | _ => none

/-! ### plain data -/
mutual
/-- it may be compared: no dict in it, no deeper than k -/
def lay : Nat → PyData → Bool
  | _, .none => true
  | _, .bool _ => true
  | _, .int _ => true
  | _, .str s => PyData.canLay0 (.str s)
  | 0, .list _ => false
  | 0, .tuple _ => false
  | k + 1, .list xs => layL k xs
  | k + 1, .tuple xs => layL k xs
  | _, .dict _ => false
termination_by structural _ x => x
def layL : Nat → List PyData → Bool
  | _, [] => true
  | k, x :: xs => match lay k x with | true => layL k xs | false => false
termination_by structural _ x => x
end
def eqD (x y : PyData) (f : Bool → R D) : R D := chk (lay 60 x) (chk (lay 60 y) (f (PyData.eqv x y)))
def isIn (d : PyData) : List PyData → Bool
  | [] => false
  | z :: zs => match PyData.eqv z d with | true => true | false => isIn d zs

/-! ### the order of alike data -/
def ltNs : List Nat → List Nat → Bool
  | [], b => match b with | [] => false | _ :: _ => true
  | x :: r, b => match b with
    | [] => false
    | y :: s => match Nat.blt x y with | true => true | false => match Nat.beq x y with | true => ltNs r s | false => false
mutual
/-- x < y, of alike data -/
def ltP : PyData → PyData → Bool
  | .none, _ => false
  | .bool a, d => match d with | .bool b => (match a with | false => b | true => false) | _ => false
  | .int i, d => match d with | .int j => decide (i < j) | _ => false
  | .str x, d => match d with | .str y => ltNs x.cps.toList y.cps.toList | _ => false
  | .list xs, d => match d with | .list ys => ltPs xs ys | _ => false
  | .tuple xs, d => match d with | .tuple ys => ltPs xs ys | _ => false
  | .dict _, _ => false
termination_by structural x => x
def ltPs : List PyData → List PyData → Bool
  | [], d => match d with | [] => false | _ :: _ => true
  | x :: xs, d => match d with
    | [] => false
    | y :: ys => match PyData.eqv x y with | true => ltPs xs ys | false => ltP x y
termination_by structural x => x
end
mutual
/-- the two can be compared, item by item -/
def alk : PyData → PyData → Bool
  | .none, _ => false
  | .bool _, d => match d with | .bool _ => true | _ => false
  | .int _, d => match d with | .int _ => true | _ => false
  | .str _, d => match d with | .str _ => true | _ => false
  | .list xs, d => match d with | .list ys => alkL xs ys | _ => false
  | .tuple xs, d => match d with | .tuple ys => alkL xs ys | _ => false
  | .dict _, _ => false
termination_by structural x => x
def alkL : List PyData → List PyData → Bool
  | [], _ => true
  | x :: xs, d => match d with
    | [] => true
    | y :: ys => match alk x y with | true => alkL xs ys | false => false
termination_by structural x => x
end
def alk1 (x : PyData) : List PyData → Bool
  | [] => true
  | y :: r => match alk x y with | true => alk1 x r | false => false
def alkAll (ys : List PyData) : List PyData → Bool
  | [] => true
  | x :: r => match alk1 x ys with | true => alkAll ys r | false => false
def insP (x : PyData) : List PyData → List PyData
  | [] => [x]
  | y :: r => match ltP y x with | true => y :: insP x r | false => x :: y :: r
def sortP : List PyData → List PyData
  | [] => []
  | x :: r => insP x (sortP r)

def ixN (n : Nat) (i : Int) : Option Nat :=
  match i with
  | .ofNat k => match Nat.blt k n with | true => some k | false => none
  | .negSucc k => match Nat.blt k n with | true => some (n - (k + 1)) | false => none
def atI {α : Type} (xs : List α) (i : Int) : Option α := (ixN xs.length i).bind fun j => xs[j]?
/-- a bound of a slice -/
def sIx (n d : Nat) : Option Int → Nat
  | none => d
  | some (.ofNat k) => match Nat.ble k n with | true => k | false => n
  | some (.negSucc k) => n - (k + 1)
def cut {α : Type} (xs : List α) (lo hi : Option Int) : List α := (xs.drop (sIx xs.length 0 lo)).take (sIx xs.length xs.length hi - sIx xs.length 0 lo)
def rep {α : Type} (xs : List α) : Nat → List α
  | 0 => []
  | n + 1 => xs ++ rep xs n

def nonE {α : Type} : List α → Bool
  | [] => false
  | _ :: _ => true
def nzN : Nat → Bool
  | 0 => false
  | _ + 1 => true
def nzI : Int → Bool
  | .ofNat n => nzN n
  | .negSucc _ => true
/-- the truth of a value -/
def tru (st : Sto) : D → Option Bool
  | .p .none => some false
  | .p (.bool b) => some b
  | .p (.int i) => some (nzI i)
  | .p (.str s) => match Nat.ble s.cps.size LINE with | true => some (nzN s.cps.size) | false => none
  | .p (.list xs) => some (nonE xs)
  | .p (.tuple xs) => some (nonE xs)
  | .p (.dict _) => none
  | .ref n => match getS st n with
    | .lst xs => some (nonE xs)
    | .fz (.list xs) => some (nonE xs)
    | .dct kvs => some (nonE kvs)
    | .tpl xs => some (nonE xs)
    | _ => none

/-- kinds by number: 0 NoneType, 1 bool, 2 int, 3 str, 4 list, 5 tuple, 6 dict -/
def kind (st : Sto) : D → Option Nat
  | .p .none => some 0
  | .p (.bool _) => some 1
  | .p (.int _) => some 2
  | .p (.str _) => some 3
  | .p (.list _) => some 4
  | .p (.tuple _) => some 5
  | .p (.dict _) => none
  | .ref n => match getS st n with
    | .lst _ => some 4
    | .fz (.list _) => some 4
    | .dct _ => some 6
    | .tpl _ => some 5
    | _ => none
/-- a value of kind a is one of b -/
def sub (a b : Nat) : Bool := Nat.beq a b || (Nat.beq a 1 && Nat.beq b 2)

def boolsD : List D → Option (List Bool)
  | [] => some []
  | .p (.bool b) :: r => (boolsD r).map (b :: ·)
  | _ => none
def intsD : List D → Option (List Int)
  | [] => some []
  | .p (.int i) :: r => (intsD r).map (i :: ·)
  | _ => none
def allB : List Bool → Bool
  | [] => true
  | b :: r => match b with | true => allB r | false => false
def anyB : List Bool → Bool
  | [] => false
  | b :: r => match b with | true => true | false => anyB r
def ltI (i j : Int) : Bool := decide (i < j)
def leI (i j : Int) : Bool := decide (i ≤ j)
def maxI : Int → List Int → Int
  | m, [] => m
  | m, i :: r => maxI (match ltI m i with | true => i | false => m) r
def minI : Int → List Int → Int
  | m, [] => m
  | m, i :: r => minI (match ltI i m with | true => i | false => m) r
def sumI : List Int → Int
  | [] => 0
  | i :: r => i + sumI r
def powI (i : Int) (n : Nat) : Int :=
  match i with
  | .ofNat k => .ofNat (k ^ n)
  | .negSucc k => match n % 2 with | 0 => .ofNat ((k + 1) ^ n) | _ => -.ofNat ((k + 1) ^ n)

/-! ### dicts -/
def dGet (kvs : List (PyData × D)) (k : PyData) : Option D :=
  match kvs with
  | [] => none
  | (a, d) :: r => match PyData.eqv a k with | true => some d | false => dGet r k
def dPut (kvs : List (PyData × D)) (k : PyData) (d : D) : List (PyData × D) :=
  match kvs with
  | [] => [(k, d)]
  | (a, e) :: r => match PyData.eqv a k with | true => (a, d) :: r | false => (a, e) :: dPut r k d
/-- keys that are served: whole numbers, texts -/
def keyOk : PyData → Bool
  | .int _ => true
  | .str _ => true
  | _ => false
mutual
/-- whole numbers and tuples of such, n deep -/
def kyN : Nat → PyData → Bool
  | _, .none => false
  | _, .bool _ => false
  | _, .int _ => true
  | _, .str _ => false
  | _, .list _ => false
  | 0, .tuple _ => false
  | k + 1, .tuple xs => kyNs k xs
  | _, .dict _ => false
termination_by structural _ x => x
def kyNs : Nat → List PyData → Bool
  | _, [] => true
  | k, x :: xs => match kyN k x with | true => kyNs k xs | false => false
termination_by structural _ x => x
end
/-- .. tuples of whole numbers and of such tuples -/
def keyT : PyData → Bool
  | .tuple xs => kyNs 7 xs
  | _ => false
/-- may the key be looked up there -/
def keyFit (kvs : List (PyData × D)) (k : PyData) : Bool :=
  match kvs with
  | [] => match keyOk k with | true => true | false => keyT k
  | (a, _) :: _ => match keyOk a with | true => keyOk k | false => keyT k
def dicOf : SO → Option (List (PyData × D))
  | .dct kvs => some kvs
  | .dtn kvs => some kvs
  | .fzd kvs => some kvs
  | _ => none

/-! ### operations -/
inductive Op where
  | tup | lst (al : Bool) | dic
  | add (al : Bool) | subt | mul (al : Bool) | fdiv | mod | pow | neg
  | eq | ne | lt | le | gt | ge | isN | notN | inn | notIn
  | idx
  | len | tupleOf | listOf (al : Bool) | abs | intOf | all | any | sum | maxL | minL | max2 | min2
  | isi (ts : List Nat)
  | sorted (al : Bool) | sortK (al : Bool)
  | sortSet (al : Bool) | lenSet
  | tupS (ms : List Bool) | lstS (al : Bool) (ms : List Bool)
  | maxLen | minD | maxD | addI | subI | gcd | rev (al : Bool)
  | shl | shr | band | bor | isB (b : Bool) (neg : Bool) | emp (neg : Bool)
  | spl | listVals (al : Bool) | tupItems | dictOf | strOf | reprOf

def ng (neg b : Bool) : Bool := match neg with | true => !b | false => b
def opEq (st : Sto) (a b : D) (neg : Bool) : R D :=
  match peek DEEP st a, peek DEEP st b with
  | some x, some y => eqD x y fun r => .ok (D.bool (ng neg r)) st
  | _, _ => .stuck
def opIn (st : Sto) (a b : D) (neg : Bool) : R D :=
  let fin (r : Bool) : R D := .ok (D.bool (ng neg r)) st
  match b with
  | .ref n =>
    match dicOf (getS st n) with
    | some kvs => match a with
      | .p k => chk (keyFit kvs k) (fin (match dGet kvs k with | some _ => true | none => false))
      | .ref _ => .stuck
    | none =>
      match peek DEEP st a, peek DEEP st b with
      | some x, some (.list ys) => chk (lay 60 x) (chk (lay 60 (.list ys)) (fin (isIn x ys)))
      | _, _ => .stuck
  | .p (.list ys) => match peek DEEP st a with
    | some x => chk (lay 60 x) (chk (lay 60 (.list ys)) (fin (isIn x ys)))
    | none => .stuck
  | .p (.tuple ys) => match peek DEEP st a with
    | some x => chk (lay 60 x) (chk (lay 60 (.tuple ys)) (fin (isIn x ys)))
    | none => .stuck
  | _ => .stuck
def opInt2 (st : Sto) (f : Int → Int → Option PyData) : List D → R D
  | [.p (.int i), .p (.int j)] => match f i j with | some d => .ok (.p d) st | none => .stuck
  | _ => .stuck
def oInt (o : Option Int) : Option PyData := o.map .int
def opAdd (al : Bool) (st : Sto) (a b : D) : R D :=
  match a, b with
  | .p (.int i), .p (.int j) => .ok (D.int (i + j)) st
  | .p (.str x), .p (.str y) => chk (Nat.ble (x.cps.size + y.cps.size) LINE) (.ok (.p (.str (x ++ y))) st)
  | .p (.tuple xs), .p (.tuple ys) => chk (Nat.ble (xs.length + ys.length) LINE) (.ok (.p (.tuple (xs ++ ys))) st)
  | a, b => match listItems st a, listItems st b with
    | some xs, some ys => mkL al (xs ++ ys) st
    | _, _ => .stuck
def opMul (al : Bool) (st : Sto) (a b : D) : R D :=
  match a, b with
  | .p (.int i), .p (.int j) => chk (Nat.blt (i.natAbs.log2 + j.natAbs.log2) 134217726) (.ok (D.int (i * j)) st)
  | .p (.tuple xs), .p (.int (.ofNat k)) => chk (Nat.ble k LINE) (chk (Nat.ble (xs.length * k) LINE) (.ok (.p (.tuple (rep xs k))) st))
  | a, .p (.int (.ofNat k)) => match listItems st a with
    | some xs => chk (Nat.ble k LINE) (chk (Nat.ble (xs.length * k) LINE) (mkL al (rep xs k) st))
    | none => .stuck
  | _, _ => .stuck
def dicIdx (st : Sto) (o : SO) (k : PyData) : R D :=
  match dicOf o with
  | some kvs => chk (keyFit kvs k) (match dGet kvs k with | some d => .ok d st | none => .stuck)
  | none => .stuck
def opIdx (st : Sto) (a b : D) : R D :=
  match b with
  | .p (.int i) =>
    match a with
    | .p (.tuple xs) => match atI xs i with | some x => .ok (.p x) st | none => .stuck
    | .p (.list xs) => match atI xs i with | some x => .ok (.p x) st | none => .stuck
    | .p (.str s) => chk (Nat.ble s.cps.size LINE) (match atI s.cps.toList i with | some c => .ok (.p (.str ⟨#[c]⟩)) st | none => .stuck)
    | .ref n => match getS st n with
      | .lst xs => match atI xs i with | some x => .ok x st | none => .stuck
      | .fz (.list xs) => match atI xs i with | some x => .ok (.p x) st | none => .stuck
      | .tpl xs => match atI xs i with | some x => .ok x st | none => .stuck
      | o => dicIdx st o (.int i)
    | _ => .stuck
  | .p k =>
    match a with
    | .ref n => dicIdx st (getS st n) k
    | _ => .stuck
  | _ => .stuck
def opSlc (al : Bool) (st : Sto) (a : D) (lo hi : Option Int) : R D :=
  match a with
  | .p (.tuple xs) => .ok (.p (.tuple (cut xs lo hi))) st
  | .p (.str s) => chk (Nat.ble s.cps.size LINE) (.ok (.p (.str ⟨(cut s.cps.toList lo hi).toArray⟩)) st)
  | a => match listItems st a with
    | some xs => mkL al (cut xs lo hi) st
    | none => .stuck
/-- a dict of the store with k: d in it -/
def putD (bs : List Nat) (n : Nat) (o : SO) (k : PyData) (d : D) : Option SO :=
  match okW bs n d with
  | true => match o with
    | .dct kvs => match keyOk k with
      | true => match Nat.blt kvs.length LINE with | true => some (.dct (dPut kvs k d)) | false => none
      | false => match keyT k, kvs with
        | true, [] => some (.dtn [(k, d)])
        | _, _ => none
    | .dtn kvs => match keyT k, Nat.blt kvs.length LINE with
      | true, true => some (.dtn (dPut kvs k d))
      | _, _ => none
    | _ => none
  | false => none
def pairsOf : List D → Option (List (PyData × D))
  | [] => some []
  | .p k :: d :: r => (pairsOf r).map ((k, d) :: ·)
  | _ => none
def putsD (n : Nat) (o : SO) : List (PyData × D) → Option SO
  | [] => some o
  | (k, d) :: r => match putD [] n o k d with | some o' => putsD n o' r | none => none

def dctLen (st : Sto) (d : D) : R D :=
  match d with
  | .ref n => match dicOf (getS st n) with
    | some kvs => .ok (D.int kvs.length) st
    | none => .stuck
  | _ => .stuck
def opLen (st : Sto) (d : D) : R D :=
  match d with
  | .p (.str s) => chk (Nat.ble s.cps.size LINE) (.ok (D.int s.cps.size) st)
  | d => match items st d with
    | some xs => .ok (D.int xs.length) st
    | none => dctLen st d
def opTupleOf (st : Sto) (d : D) : R D :=
  match d with
  | .p (.tuple xs) => .ok (.p (.tuple xs)) st
  | d => match listItems st d with | some xs => mkT xs st | none => .stuck
def opListOf (al : Bool) (st : Sto) (d : D) : R D :=
  match items st d with | some xs => mkL al xs st | none => .stuck
def opBools (st : Sto) (f : List Bool → Bool) (d : D) : R D :=
  match listItems st d with
  | some xs => match boolsD xs with
    | some bs => .ok (D.bool (f bs)) st
    | none => .stuck
  | none => .stuck
def opInts (st : Sto) (f : List Int → Option Int) (d : D) : R D :=
  match listItems st d with
  | some xs => match intsD xs with
    | some is => match f is with
      | some i => .ok (D.int i) st
      | none => .stuck
    | none => .stuck
  | none => .stuck
def pickI (b : Bool) (i j : Int) : Int := match b with | true => i | false => j
def isSub (k : Nat) : List Nat → Bool
  | [] => false
  | t :: r => match sub k t with | true => true | false => isSub k r

def opSorted (al : Bool) (st : Sto) (d : D) : R D :=
  match items st d with
  | some ds => match frzL DEEP ds st with
    | some z => chk (Nat.ble z.1.length LINE) (chk (alkAll z.1 z.1) (chk (layL 60 z.1) (mkL al ((sortP z.1).map .p) z.2)))
    | none => .stuck
  | none => .stuck
mutual
/-- numbers, texts and tuples of such, n deep -/
def kyP : Nat → PyData → Bool
  | _, .none => false
  | _, .bool _ => false
  | _, .int _ => true
  | _, .str _ => true
  | _, .list _ => false
  | 0, .tuple _ => false
  | k + 1, .tuple xs => kyL k xs
  | _, .dict _ => false
termination_by structural _ x => x
def kyL : Nat → List PyData → Bool
  | _, [] => true
  | k, x :: xs => match kyP k x with | true => kyL k xs | false => false
termination_by structural _ x => x
end
def allI : List PyData → Bool
  | [] => true
  | x :: r => match x with | .int _ => allI r | _ => false
def allT : List PyData → Bool
  | [] => true
  | x :: r => match x with | .tuple ys => (match kyL 7 ys with | true => allT r | false => false) | _ => false
/-- what may be made a set of at once -/
def setOk (ps : List PyData) : Bool := match allI ps with
  | true => Nat.blt ps.length 4000
  | false => match allT ps with | true => Nat.blt ps.length 64 | false => false
/-- each once -/
def dedP : List PyData → List PyData
  | [] => []
  | x :: r => match isIn x r with | true => dedP r | false => x :: dedP r
def opSortSet (al : Bool) (st : Sto) (d : D) : R D :=
  match items st d with
  | some ds => match frzL DEEP ds st with
    | some z => chk (setOk z.1) (chk (alkAll z.1 z.1) (mkL al ((sortP (dedP z.1)).map .p) z.2))
    | none => .stuck
  | none => .stuck
def opLenSet (st : Sto) (d : D) : R D :=
  match items st d with
  | some ds => match frzL DEEP ds st with
    | some z => chk (setOk z.1) (.ok (D.int (dedP z.1).length) z.2)
    | none => .stuck
  | none => .stuck
def plainS : D → Option (List D)
  | .p (.tuple xs) => some (xs.map .p)
  | .p (.list xs) => some (xs.map .p)
  | _ => none
/-- displays with stars -/
def spread : List Bool → List D → Option (List D)
  | [], [] => some []
  | false :: ms, d :: ds => (spread ms ds).map (d :: ·)
  | true :: ms, d :: ds => match plainS d, spread ms ds with
    | some xs, some ys => some (xs ++ ys)
    | _, _ => none
  | _, _ => none
def lens (st : Sto) : List D → Option (List Nat)
  | [] => some []
  | d :: r => match items st d, lens st r with
    | some xs, some ns => some (xs.length :: ns)
    | _, _ => none
/-- the first longest -/
def longest (d : D) (n : Nat) : List D → List Nat → D
  | e :: r, m :: s => match Nat.blt n m with | true => longest e m r s | false => longest d n r s
  | _, _ => d
def minP : PyData → List PyData → PyData
  | m, [] => m
  | m, x :: r => minP (match ltP x m with | true => x | false => m) r
def maxP : PyData → List PyData → PyData
  | m, [] => m
  | m, x :: r => maxP (match ltP m x with | true => x | false => m) r
def gcdI (i j : Int) : Int := .ofNat (Nat.gcd i.natAbs j.natAbs)
def opRev (al : Bool) (st : Sto) (d : D) : R D :=
  match d with
  | .p (.tuple xs) => .ok (.p (.tuple xs.reverse)) st
  | d => match listItems st d with
    | some xs => mkL al xs.reverse st
    | none => .stuck
def natOf : D → Option Nat
  | .p (.int (.ofNat n)) => some n
  | _ => none
def opNat2 (st : Sto) (f : Nat → Nat → Option Nat) : List D → R D
  | [a, b] => match natOf a, natOf b with
    | some m, some n => match f m n with | some k => .ok (D.int (.ofNat k)) st | none => .stuck
    | _, _ => .stuck
  | _ => .stuck
def opData (st : Sto) (f : PyData → List PyData → PyData) (d : D) : R D :=
  match listItems st d with
  | some ds => match frzL DEEP ds st with
    | some (x :: r, st') => chk (alkAll (x :: r) (x :: r)) (chk (layL 60 (x :: r)) (.ok (.p (f x r)) st'))
    | _ => .stuck
  | none => .stuck
def dicVals (st : Sto) : D → Option (List (PyData × D))
  | .ref n => dicOf (getS st n)
  | _ => none
/-- the keys of a dict; it is locked from then on -/
def keysOf (ds : List D) (st : Sto) : Option (List PyData × Sto) :=
  match ds with
  | [.ref n] => match getS st n with
    | .dct kvs => some (kvs.map (·.1), st.set n (.fzd kvs))
    | .dtn kvs => some (kvs.map (·.1), st.set n (.fzd kvs))
    | .fzd kvs => some (kvs.map (·.1), st)
    | _ => none
  | _ => none
/-- sorted(d), d a dict -/
def opSortK (al : Bool) (st : Sto) (ds : List D) : R D :=
  match keysOf ds st with
  | some z => chk (Nat.ble z.1.length LINE) (chk (alkAll z.1 z.1) (chk (layL 60 z.1) (mkL al ((sortP z.1).map .p) z.2)))
  | none => .stuck
def opS (o : Op) (ds : List D) (st : Sto) : R D :=
  match o with
  | .tupS ms => match spread ms ds with | some xs => mkT xs st | none => .stuck
  | .lstS al ms => match spread ms ds with | some xs => mkL al xs st | none => .stuck
  | .spl => match ds with
    | [d] => match plainS d with | some _ => .ok d st | none => .stuck
    | _ => .stuck
  | .maxLen => match ds with
    | [d] => match listItems st d with
      | some (x :: r) => match lens st (x :: r) with
        | some (n :: s) => .ok (longest x n r s) st
        | _ => .stuck
      | _ => .stuck
    | _ => .stuck
  | .minD => match ds with | [d] => opData st minP d | _ => .stuck
  | .maxD => match ds with | [d] => opData st maxP d | _ => .stuck
  | .addI => opInt2 st (fun i j => some (.int (i + j))) ds
  | .subI => opInt2 st (fun i j => some (.int (i - j))) ds
  | .gcd => opInt2 st (fun i j => some (.int (gcdI i j))) ds
  | .rev al => match ds with | [d] => opRev al st d | _ => .stuck
  | .shl => opNat2 st (fun m n => match Nat.ble n 100000, Nat.blt m (2 ^ 64) with | true, true => some (m * 2 ^ n) | _, _ => none) ds
  | .shr => opNat2 st (fun m n => match Nat.ble n 100000 with | true => some (m / 2 ^ n) | false => none) ds
  | .band => opNat2 st (fun m n => some (Nat.land m n)) ds
  | .bor => opNat2 st (fun m n => some (Nat.lor m n)) ds
  | .isB b neg => match ds with | [.p (.bool c)] => .ok (D.bool (ng neg (c == b))) st | [.p .none] => .ok (D.bool (ng neg false)) st | _ => .stuck
  | .emp neg => match ds with
    | [d] => match dicVals st d with | some kvs => .ok (D.bool (ng neg (!nonE kvs))) st | none => .stuck
    | _ => .stuck
  | .listVals al => match ds with
    | [d] => match dicVals st d with | some kvs => mkL al (kvs.map (·.2)) st | none => .stuck
    | _ => .stuck
  | .tupItems => .stuck
  | .dictOf => .stuck
  | .strOf => .stuck
  | .reprOf => .stuck
  | .sorted al => match ds with | [d] => opSorted al st d | _ => .stuck
  | .sortK al => opSortK al st ds
  | .sortSet al => match ds with | [d] => opSortSet al st d | _ => .stuck
  | .lenSet => match ds with | [d] => opLenSet st d | _ => .stuck
  | .tup => mkT ds st
  | .lst al => mkL al ds st
  | .dic => match pairsOf ds with
    | some kvs => chk (Nat.ble kvs.length 15) (match putsD st.length (.dct []) kvs with
      | some o => .ok (.ref st.length) (st ++ [o])
      | none => .stuck)
    | none => .stuck
  | .add al => match ds with | [a, b] => opAdd al st a b | _ => .stuck
  | .subt => opInt2 st (fun i j => some (.int (i - j))) ds
  | .mul al => match ds with | [a, b] => opMul al st a b | _ => .stuck
  | .fdiv => opInt2 st (fun i j => match j with
    | .ofNat (k + 1) => match Nat.blt (k + 1).log2 9000 with | true => some (.int (i / .ofNat (k + 1))) | false => none
    | _ => none) ds
  | .mod => opInt2 st (fun i j => match j with | .ofNat (k + 1) => some (.int (i % .ofNat (k + 1))) | _ => none) ds
  | .pow => opInt2 st (fun i j => match j with
    | .ofNat k => match Nat.ble k 1000000, Nat.blt i.natAbs (2 ^ 64) with | true, true => some (.int (powI i k)) | _, _ => none
    | _ => none) ds
  | .neg => match ds with | [.p (.int i)] => .ok (D.int (-i)) st | _ => .stuck
  | .eq => match ds with | [a, b] => opEq st a b false | _ => .stuck
  | .ne => match ds with | [a, b] => opEq st a b true | _ => .stuck
  | .lt => opInt2 st (fun i j => some (.bool (ltI i j))) ds
  | .le => opInt2 st (fun i j => some (.bool (leI i j))) ds
  | .gt => opInt2 st (fun i j => some (.bool (ltI j i))) ds
  | .ge => opInt2 st (fun i j => some (.bool (leI j i))) ds
  | .isN => match ds with | [.p .none] => .ok (D.bool true) st | [_] => .ok (D.bool false) st | _ => .stuck
  | .notN => match ds with | [.p .none] => .ok (D.bool false) st | [_] => .ok (D.bool true) st | _ => .stuck
  | .inn => match ds with | [a, b] => opIn st a b false | _ => .stuck
  | .notIn => match ds with | [a, b] => opIn st a b true | _ => .stuck
  | .idx => match ds with | [a, b] => opIdx st a b | _ => .stuck
  | .len => match ds with | [d] => opLen st d | _ => .stuck
  | .tupleOf => match ds with | [d] => opTupleOf st d | _ => .stuck
  | .listOf al => match ds with | [d] => opListOf al st d | _ => .stuck
  | .abs => match ds with | [.p (.int i)] => .ok (D.int (.ofNat i.natAbs)) st | _ => .stuck
  | .intOf => match ds with
    | [.p (.int i)] => .ok (D.int i) st
    | [.p (.bool true)] => .ok (D.int 1) st
    | [.p (.bool false)] => .ok (D.int 0) st
    | _ => .stuck
  | .all => match ds with | [d] => opBools st allB d | _ => .stuck
  | .any => match ds with | [d] => opBools st anyB d | _ => .stuck
  | .sum => match ds with | [d] => opInts st (fun is => some (sumI is)) d | _ => .stuck
  | .maxL => match ds with | [d] => opInts st (fun is => match is with | i :: is => some (maxI i is) | [] => none) d | _ => .stuck
  | .minL => match ds with | [d] => opInts st (fun is => match is with | i :: is => some (minI i is) | [] => none) d | _ => .stuck
  | .max2 => opInt2 st (fun i j => some (.int (pickI (ltI i j) j i))) ds
  | .min2 => opInt2 st (fun i j => some (.int (pickI (ltI j i) j i))) ds
  | .isi ts => match ds with
    | [d] => match kind st d with | some k => .ok (D.bool (isSub k ts)) st | none => .stuck
    | _ => .stuck

/-! ### methods -/
def small62 (i : Int) : Bool := leI (-(2 ^ 62)) i && ltI i (2 ^ 62)
inductive Mt where
  | append | get2 | get1 | extend | pop | popAt | insert | remove | setdef
  | update | index | join | split
/-- the receiver may have the method -/
def mtOk (st : Sto) (m : Mt) (d : D) : Bool :=
  match m, d with
  | .append, .ref n => match getS st n with | .lst _ => true | _ => false
  | .get2, .ref n => match dicOf (getS st n) with | some _ => true | none => false
  | .get1, .ref n => match dicOf (getS st n) with | some _ => true | none => false
  | .setdef, .ref n => match dicOf (getS st n) with | some _ => true | none => false
  | .update, .ref n => match dicOf (getS st n) with | some _ => true | none => false
  | .index, d => match items st d with | some _ => true | none => false
  | .join, .p (.str _) => true
  | .split, .p (.str _) => true
  | .extend, .ref n => match getS st n with | .lst _ => true | _ => false
  | .pop, .ref n => match getS st n with | .lst _ => true | _ => false
  | .popAt, .ref n => match getS st n with | .lst _ => true | _ => false
  | .insert, .ref n => match getS st n with | .lst _ => true | _ => false
  | .remove, .ref n => match getS st n with | .lst _ => true | _ => false
  | _, _ => false
def mtAppend (bs : List Nat) (d : D) (ds : List D) (st : Sto) : R D :=
  match d, ds with
  | .ref n, [x] => match getS st n with
    | .lst xs => chk (okW bs n x) (chk (Nat.blt xs.length LINE) (.ok D.none (st.set n (.lst (xs ++ [x])))))
    | _ => .stuck
  | _, _ => .stuck
def orD (o : Option D) (d : D) : D := match o with | some x => x | none => d
def mtGet (n : Nat) (k : PyData) (x : D) (st : Sto) : R D :=
  match dicOf (getS st n) with
  | some kvs => chk (keyFit kvs k) (.ok (orD (dGet kvs k) x) st)
  | none => .stuck
def mtGet2 (d : D) (ds : List D) (st : Sto) : R D :=
  match d, ds with
  | .ref n, [.p k, x] => mtGet n k x st
  | _, _ => .stuck
def mtGet1 (d : D) (ds : List D) (st : Sto) : R D :=
  match d, ds with
  | .ref n, [.p k] => mtGet n k D.none st
  | _, _ => .stuck
def okWs (bs : List Nat) (n : Nat) : List D → Bool
  | [] => true
  | d :: r => match okW bs n d with | true => okWs bs n r | false => false
def mtExtend (bs : List Nat) (d : D) (ds : List D) (st : Sto) : R D :=
  match d, ds with
  | .ref n, [x] => match getS st n with
    | .lst xs => match items st x with
      | some ys => chk (okWs bs n ys) (chk (Nat.ble (xs.length + ys.length) LINE) (.ok D.none (st.set n (.lst (xs ++ ys)))))
      | none => .stuck
    | _ => .stuck
  | _, _ => .stuck
def cutLast {α : Type} (x : α) : List α → List α × α
  | [] => ([], x)
  | y :: r => match cutLast y r with | (i, l) => (x :: i, l)
def mtPop (d : D) (ds : List D) (st : Sto) : R D :=
  match d, ds with
  | .ref n, [] => match getS st n with
    | .lst (x :: r) => .ok (cutLast x r).2 (st.set n (.lst (cutLast x r).1))
    | _ => .stuck
  | _, _ => .stuck
def eraseN {α : Type} : List α → Nat → List α
  | [], _ => []
  | _ :: r, 0 => r
  | x :: r, n + 1 => x :: eraseN r n
def mtPopAt (d : D) (ds : List D) (st : Sto) : R D :=
  match d, ds with
  | .ref n, [.p (.int i)] => match getS st n with
    | .lst xs => match ixN xs.length i with
      | some k => match xs[k]? with
        | some x => chk (small62 i) (.ok x (st.set n (.lst (eraseN xs k))))
        | none => .stuck
      | none => .stuck
    | _ => .stuck
  | _, _ => .stuck
def mtInsert (bs : List Nat) (d : D) (ds : List D) (st : Sto) : R D :=
  match d, ds with
  | .ref n, [.p (.int (.ofNat i)), x] => match getS st n with
    | .lst xs => chk (okW bs n x) (chk (Nat.blt xs.length LINE) (chk (Nat.ble i LINE) (.ok D.none (st.set n (.lst (xs.take i ++ x :: xs.drop i))))))
    | _ => .stuck
  | _, _ => .stuck
def findP (y : PyData) : List PyData → Option Nat
  | [] => none
  | z :: r => match PyData.eqv z y with | true => some 0 | false => (findP y r).map (· + 1)
def mtRemove (d : D) (ds : List D) (st : Sto) : R D :=
  match d, ds with
  | .ref n, [x] => match getS st n with
    | .lst xs => match peek DEEP st (.ref n), peek DEEP st x with
      | some (.list ps), some y => match findP y ps with
        | some k => chk (lay 60 (.list ps)) (chk (lay 60 y) (.ok D.none (st.set n (.lst (eraseN xs k)))))
        | none => .stuck
      | _, _ => .stuck
    | _ => .stuck
  | _, _ => .stuck
/-- tuples as keys alone -/
def mtSetDef (bs : List Nat) (d : D) (ds : List D) (st : Sto) : R D :=
  match d, ds with
  | .ref n, [.p k, x] => match dicOf (getS st n) with
    | some kvs => chk (keyT k) (chk (keyFit kvs k) (match dGet kvs k with
      | some y => .ok y st
      | none => match putD bs n (getS st n) k x with | some o => .ok x (st.set n o) | none => .stuck))
    | none => .stuck
  | _, _ => .stuck
def putsB (bs : List Nat) (n : Nat) (o : SO) : List (PyData × D) → Option SO
  | [] => some o
  | (k, d) :: r => match putD bs n o k d with | some o' => putsB bs n o' r | none => none
def mtUpdate (bs : List Nat) (d : D) (ds : List D) (st : Sto) : R D :=
  match d, ds with
  | .ref n, [x] => match dicVals st x with
    | some kvs => match putsB bs n (getS st n) kvs with
      | some o => .ok D.none (st.set n o)
      | none => .stuck
    | none => .stuck
  | _, _ => .stuck
def mtIndex (d : D) (ds : List D) (st : Sto) : R D :=
  match ds with
  | [x] => match items st d, peek DEEP st x with
    | some xs, some y => match mapP (peek DEEP st) xs with
      | some ps => match findP y ps with
        | some k => chk (layL 60 ps) (chk (lay 60 y) (.ok (D.int k) st))
        | none => .stuck
      | none => .stuck
    | _, _ => .stuck
  | _ => .stuck
def strsD : List D → Option (List Str)
  | [] => some []
  | .p (.str s) :: r => (strsD r).map (s :: ·)
  | _ => none
def joinL (sep : List Nat) : List Str → List Nat
  | [] => []
  | s :: r => match r with
    | [] => s.cps.toList
    | _ :: _ => s.cps.toList ++ (sep ++ joinL sep r)
def mtJoin (d : D) (ds : List D) (st : Sto) : R D :=
  match d, ds with
  | .p (.str s), [x] => match listItems st x with
    | some xs => match strsD xs with
      | some ts => .ok (.p (.str ⟨(joinL s.cps.toList ts).toArray⟩)) st
      | none => .stuck
    | none => .stuck
  | _, _ => .stuck
/-- the parts between c's -/
def splitL (c : Nat) : List Nat → List Nat → List Str
  | acc, [] => [⟨acc.reverse.toArray⟩]
  | acc, x :: r => match Nat.beq x c with | true => ⟨acc.reverse.toArray⟩ :: splitL c [] r | false => splitL c (x :: acc) r
def mtSplit (d : D) (ds : List D) (st : Sto) : R D :=
  match d, ds with
  | .p (.str s), [.p (.str t)] => match t.cps.toList with
    | [c] => mkL false ((splitL c [] s.cps.toList).map fun x => .p (.str x)) st
    | _ => .stuck
  | _, _ => .stuck
def mtS (bs : List Nat) (m : Mt) (d : D) (ds : List D) (st : Sto) : R D :=
  match m with
  | .append => mtAppend bs d ds st
  | .get2 => mtGet2 d ds st
  | .get1 => mtGet1 d ds st
  | .extend => mtExtend bs d ds st
  | .pop => mtPop d ds st
  | .popAt => mtPopAt d ds st
  | .insert => mtInsert bs d ds st
  | .remove => mtRemove d ds st
  | .setdef => mtSetDef bs d ds st
  | .update => mtUpdate bs d ds st
  | .index => mtIndex d ds st
  | .join => mtJoin d ds st
  | .split => mtSplit d ds st

/-! ### syntax -/
inductive Tg where
  | name (i : Nat)
  | tup (ts : List Tg)
inductive E where
  | var (i : Nat)
  | cst (x : PyData)
  | op (o : Op) (es : List E)
  | meth (m : Mt) (o : E) (es : List E)
  | slc (al : Bool) (a : E) (lo hi : List E)
  | call (f : Nat) (es : List E)
  | callk (f : Nat) (es : List E) (ks : List Nat) (ke : List E)
  | and (a b : E)
  | or (a b : E)
  | not (a : E)
  | ife (c a b : E)
  | chain (o1 o2 : Op) (a b c : E)
  | nvr
  /-- a def as a value; a call of such -/
  | fnv (f : Nat)
  | callv (a : E) (es : List E)
  | dcmp (own : List Nat) (tg : Tg) (kd : Nat) (src : List E) (ifs : List E) (ke ve : E)
  | lc (al : Bool) (own : List Nat) (tg : Tg) (kd : Nat) (src : List E) (ifs : List E) (elt : E)

/-- kinds of what is walked: 0 a list or a tuple, 1 range(n), 2 range(a, b), 3 enumerate, 4 zip, 5 reversed -/
def rangeFrom (i : Int) : Nat → List (List D)
  | 0 => []
  | n + 1 => [D.int i] :: rangeFrom (i + 1) n
def enumFrom (i : Int) : List D → List (List D)
  | [] => []
  | d :: r => [D.int i, d] :: enumFrom (i + 1) r
def zipD : List D → List D → List (List D)
  | a :: r, b :: s => [a, b] :: zipD r s
  | _, _ => []
/-- what is walked: rows that stand fast, or a list of the store as it stands at each turn (with the turn's number: en) -/
inductive Src where
  | fix (its : List (List D))
  | live (en : Bool) (n : Nat)
def plainL (st : Sto) : D → Option (List PyData)
  | .p (.list xs) => some xs
  | .ref n => match getS st n with
    | .fz (.list xs) => some xs
    | _ => none
  | _ => none
def plainT : D → Option (List PyData)
  | .p (.tuple xs) => some xs
  | _ => none
def rowsP (xs : List PyData) : List (List D) := xs.map fun x => [.p x]
def zipP : List PyData → List PyData → List PyData
  | x :: xs, d => match d with | y :: ys => .tuple [x, y] :: zipP xs ys | [] => []
  | [], _ => []
def walk (kd : Nat) (ds : List D) (st : Sto) : Option Src :=
  match kd, ds with
  | 0, [d] => match plainT d with
    | some xs => some (.fix (rowsP xs))
    | none => match plainL st d with
      | some xs => some (.fix (rowsP xs))
      | none => match d with
        | .ref n => match getS st n with | .lst _ => some (.live false n) | _ => none
        | _ => none
  | 1, [.p (.int j)] => match small62 j with | true => some (.fix (rangeFrom 0 j.toNat)) | false => none
  | 2, [.p (.int i), .p (.int j)] => match small62 i, small62 j with | true, true => some (.fix (rangeFrom i (j - i).toNat)) | _, _ => none
  | 3, [d] => match plainT d with
    | some xs => some (.fix (enumFrom 0 (xs.map .p)))
    | none => match plainL st d with
      | some xs => some (.fix (enumFrom 0 (xs.map .p)))
      | none => match d with
        | .ref n => match getS st n with | .lst _ => some (.live true n) | _ => none
        | _ => none
  | 4, [a, b] => match plainT a, plainT b with
    | some xs, some ys => some (.fix (zipD (xs.map .p) (ys.map .p)))
    | none, none => match plainL st a, plainL st b with
      | some xs, some ys => some (.fix (zipD (xs.map .p) (ys.map .p)))
      | _, _ => none
    | _, _ => none
  | 5, [d] => match plainT d with
    | some xs => some (.fix (rowsP xs.reverse))
    | none => match plainL st d with
      | some xs => some (.fix (rowsP xs.reverse))
      | none => none
  | 6, [a, b] => match plainT a, plainT b with
    | some xs, some ys => some (.fix (enumFrom 0 ((zipP xs ys).map .p)))
    | none, none => match plainL st a, plainL st b with
      | some xs, some ys => some (.fix (enumFrom 0 ((zipP xs ys).map .p)))
      | _, _ => none
    | _, _ => none
  | _, _ => none
/-- 0 the keys of a dict, 7 its values, 8 its pairs -/
def dicRows (kd : Nat) (kvs : List (PyData × D)) : List (List D) :=
  match kd with
  | 0 => kvs.map fun p => [.p p.1]
  | 7 => kvs.map fun p => [p.2]
  | _ => kvs.map fun p => [.p p.1, p.2]
/-- a dict that is walked is not changed any more -/
def walkD (kd : Nat) (ds : List D) (st : Sto) : Option (Src × Sto) :=
  match ds with
  | [.ref n] => match getS st n with
    | .dct kvs => some (.fix (dicRows kd kvs), st.set n (.fzd kvs))
    | .dtn kvs => some (.fix (dicRows kd kvs), st.set n (.fzd kvs))
    | .fzd kvs => some (.fix (dicRows kd kvs), st)
    | _ => none
  | _ => none
/-- .. zip, reversed: their lists are plain data from now on -/
def walkZ (kd : Nat) (ds : List D) (st : Sto) : Option (Src × Sto) :=
  match frzL DEEP ds st with
  | some z => (walk kd (z.1.map .p) z.2).map fun s => (s, z.2)
  | none => none
def walkF (kd : Nat) (ds : List D) (st : Sto) : Option (Src × Sto) :=
  match kd with
  | 0 => match walkD 0 ds st with
    | some z => some z
    | none => (walk 0 ds st).map fun s => (s, st)
  | 4 => walkZ 4 ds st
  | 5 => walkZ 5 ds st
  | 6 => walkZ 6 ds st
  | 7 => walkD 7 ds st
  | 8 => walkD 8 ds st
  | kd => (walk kd ds st).map fun s => (s, st)
def rowOf (en : Bool) (i : Nat) (d : D) : List D := match en with | true => [D.int i, d] | false => [d]

def setE : Env → Nat → Option D → Env
  | [], _, _ => []
  | _ :: r, 0, d => d :: r
  | x :: r, n + 1, d => x :: setE r n d
def getE : Env → Nat → Option D
  | [], _ => none
  | d :: _, 0 => d
  | _ :: r, n + 1 => getE r n
def wipeE (env : Env) : List Nat → Env
  | [] => env
  | i :: is => setE (wipeE env is) i none

mutual
def asg : Tg → D → Env → Option Env
  | .name i, d, env => some (setE env i (some d))
  | .tup ts, .p (.tuple xs), env => asgPs ts xs env
  | .tup _, _, _ => none
termination_by structural x => x
def asgPs : List Tg → List PyData → Env → Option Env
  | [], [], env => some env
  | t :: ts, x :: xs, env => match asg t (.p x) env with | some env' => asgPs ts xs env' | none => none
  | _, _, _ => none
termination_by structural x => x
end
def asgs : List Tg → List D → Env → Option Env
  | [], [], env => some env
  | t :: ts, d :: ds, env => match asg t d env with | some env' => asgs ts ds env' | none => none
  | _, _, _ => none
/-- an item of what is walked to a target -/
def asgItem (tg : Tg) (ds : List D) (env : Env) : Option Env :=
  match ds with
  | [d] => asg tg d env
  | ds => match tg with | .tup ts => asgs ts ds env | _ => none

/-- who calls: the function, its arguments, the store -/
abbrev Cl := List Nat → Nat → List D → Sto → R D

def lcLoop (turn : List D → Sto → R (Option D)) : List (List D) → List D → Sto → R (List D)
  | [], acc, st => .ok acc.reverse st
  | x :: xs, acc, st => (turn x st).bind fun o st1 => match o with
    | some d => lcLoop turn xs (d :: acc) st1
    | none => lcLoop turn xs acc st1

def lcLive (turn : List D → Sto → R (Option D)) (en : Bool) (n : Nat) : Nat → Nat → List D → Sto → R (List D)
  | 0, _, _, _ => .stuck
  | k + 1, i, acc, st => match listItems st (.ref n) with
    | none => .stuck
    | some xs => match xs[i]? with
      | none => .ok acc.reverse st
      | some x => (turn (rowOf en i x) st).bind fun o st1 => match o with
        | some d => lcLive turn en n k (i + 1) (d :: acc) st1
        | none => lcLive turn en n k (i + 1) acc st1
/-- the turns that a while may take -/
abbrev TURNS : Nat := 100000
def lcRun (turn : List D → Sto → R (Option D)) : Src → Sto → R (List D)
  | .fix its, st => lcLoop turn its [] st
  | .live en n, st => lcLive turn en n TURNS 0 [] st

/-- an exception does not leave a comprehension -/
def noExn {α : Type} : R α → R α
  | .exn _ _ _ => .stuck
  | r => r

/-- the arguments by keywords put into the parameters' order -/
def place (ds : List D) (ks : List Nat) (zs : List D) : List D := ds ++ ks.filterMap fun k => zs[k]?

/-- a bound of a slice: an int -/
def part1 (d : D) (st : Sto) : R (Option Int) :=
  match d with
  | .p (.int i) => .ok (some i) st
  | _ => .stuck
/-- as a value (false), as a test (true: then a bool comes) -/
def fin (m : Bool) (r : R D) : R D :=
  match m with
  | false => r
  | true => r.bind fun d st => match tru st d with | some b => .ok (D.bool b) st | none => .stuck
/-- from a test's answer on -/
def R.ask {β : Type} (r : R D) (f : Bool → Sto → R β) : R β :=
  match r with
  | .ok (.p (.bool b)) st => f b st
  | .exn c v st => .exn c v st
  | _ => .stuck
def fncOf (st : Sto) : D → Option Nat
  | .ref n => match getS st n with | .fnc f => some f | _ => none
  | _ => none
/-- an entry of a dict that a comprehension makes -/
def putC (bs : List Nat) (n : Nat) (k v : D) (st : Sto) : R (Option D) :=
  match k with
  | .p k => match putD bs n (getS st n) k v with
    | some o => .ok none (st.set n o)
    | none => .stuck
  | _ => .stuck
mutual
def ev (C : Cl) (bs : List Nat) (env : Env) : E → Bool → Sto → R D
  | .var i, m, st => fin m (match getE env i with | some d => .ok d st | none => .stuck)
  | .cst x, m, st => fin m (.ok (.p x) st)
  | .op o es, m, st => fin m ((evs C bs env es st).bind fun ds st1 => opS o ds st1)
  | .meth mt o es, m, st => fin m ((ev C bs env o false st).bind fun d st1 => chk (mtOk st1 mt d) ((evs C bs env es st1).bind fun ds st2 => mtS bs mt d ds st2))
  | .slc al a lo hi, m, st => fin m ((ev C bs env a false st).bind fun d st1 => (evPart C bs env lo st1).bind fun i st2 => (evPart C bs env hi st2).bind fun j st3 => opSlc al st3 d i j)
  | .call f es, m, st => fin m ((evs C bs env es st).bind fun ds st1 => C bs f ds st1)
  | .callk f es ks ke, m, st => fin m ((evs C bs env es st).bind fun ds st1 => (evs C bs env ke st1).bind fun zs st2 => C bs f (place ds ks zs) st2)
  | .and a b, m, st => match m with
    | false => (ev C bs env a false st).bind fun d st1 => match tru st1 d with | some true => ev C bs env b false st1 | some false => .ok d st1 | none => .stuck
    | true => (ev C bs env a true st).ask fun t st1 => match t with | true => ev C bs env b true st1 | false => .ok (D.bool false) st1
  | .or a b, m, st => match m with
    | false => (ev C bs env a false st).bind fun d st1 => match tru st1 d with | some true => .ok d st1 | some false => ev C bs env b false st1 | none => .stuck
    | true => (ev C bs env a true st).ask fun t st1 => match t with | true => .ok (D.bool true) st1 | false => ev C bs env b true st1
  | .not a, m, st => match m with
    | false => (ev C bs env a false st).bind fun d st1 => match tru st1 d with | some t => .ok (D.bool !t) st1 | none => .stuck
    | true => (ev C bs env a true st).ask fun t st1 => .ok (D.bool !t) st1
  | .ife c a b, m, st => (ev C bs env c true st).ask fun t st1 => match t with | true => ev C bs env a m st1 | false => ev C bs env b m st1
  | .chain o1 o2 a b c, m, st => (ev C bs env a false st).bind fun x st1 => (ev C bs env b false st1).bind fun y st2 => (opS o1 [x, y] st2).ask fun t st3 =>
    match t with
    | true => fin m ((ev C bs env c false st3).bind fun z st4 => opS o2 [y, z] st4)
    | false => .ok (D.bool false) st3
  | .nvr, m, st => .stuck
  | .fnv f, m, st => fin m (.ok (.ref st.length) (st ++ [.fnc f]))
  | .callv a es, m, st => fin m ((ev C bs env a false st).bind fun d st1 => match fncOf st1 d with
    | some f => (evs C bs env es st1).bind fun ds st2 => C bs f ds st2
    | none => .stuck)
  | .dcmp own tg kd src ifs ke ve, m, st => fin m ((evs C bs env src st).bind fun ds st1 => match walkF kd ds st1 with
    | none => .stuck
    | some its => (noExn (lcRun (fun x st2 => match asgItem tg x (wipeE env own) with
        | none => .stuck
        | some env' => (evAll C bs env' ifs st2).bind fun t st3 => match t with
          | true => (ev C bs env' ke false st3).bind fun k st4 => (ev C bs env' ve false st4).bind fun v st5 => putC bs its.2.length k v st5
          | false => .ok none st3) its.1 (its.2 ++ [.dct []]))).bind fun _ st6 => .ok (.ref its.2.length) st6)
  | .lc al own tg kd src ifs elt, m, st => fin m ((evs C bs env src st).bind fun ds st1 => match walkF kd ds st1 with
    | none => .stuck
    | some its => (noExn (lcRun (fun x st2 => match asgItem tg x (wipeE env own) with
        | none => .stuck
        | some env' => (evAll C bs env' ifs st2).bind fun t st3 => match t with
          | true => (ev C bs env' elt false st3).bind fun d st4 => .ok (some d) st4
          | false => .ok none st3) its.1 its.2)).bind fun acc st5 => mkL al acc st5)
termination_by structural x => x
def evs (C : Cl) (bs : List Nat) (env : Env) : List E → Sto → R (List D)
  | [], st => .ok [] st
  | e :: es, st => (ev C bs env e false st).bind fun d st1 => (evs C bs env es st1).bind fun ds st2 => .ok (d :: ds) st2
termination_by structural x => x
def evPart (C : Cl) (bs : List Nat) (env : Env) : List E → Sto → R (Option Int)
  | [], st => .ok none st
  | e :: es, st => match es with
    | [] => (ev C bs env e false st).bind part1
    | _ :: _ => .stuck
termination_by structural x => x
/-- all of some tests, one after the other -/
def evAll (C : Cl) (bs : List Nat) (env : Env) : List E → Sto → R Bool
  | [], st => .ok true st
  | e :: es, st => (ev C bs env e true st).ask fun t st1 => match t with | true => evAll C bs env es st1 | false => .ok false st1
termination_by structural x => x
end

/-! ### statements -/
/-- what an except suite says of the exception -/
inductive Hx where
  | cst (x : PyData)
  | fld
  | lst (hs : List Hx)
mutual
def hxV (v : Option PyData) : Hx → Option PyData
  | .cst x => some x
  | .fld => v
  | .lst hs => (hxVs v hs).map .list
termination_by structural x => x
def hxVs (v : Option PyData) : List Hx → Option (List PyData)
  | [] => some []
  | h :: hs => match hxV v h, hxVs v hs with | some x, some xs => some (x :: xs) | _, _ => none
termination_by structural x => x
end
inductive Hd where
  /-- except class c (as the name i): return h, or name = h -/
  | ret (c : Nat) (nm : Option Nat) (h : Hx)
  | set (c : Nat) (nm : Option Nat) (i : Nat) (h : Hx)
inductive S where
  | asg (t : Tg) (e : E)
  | par (ts : List Tg) (es : List E)
  | sub (o i e : E)
  | subAug (o i : E) (op : Op) (e : E)
  /-- a, b = e, where e may be a tuple of the store -/
  | unp (ts : List Tg) (e : E)
  | ex (e : E)
  | ret (e : E)
  | retN
  | ife (c : E) (a b : List S)
  | for (tg : Tg) (kd : Nat) (src : List E) (body : List S)
  | whl (c : E) (body : List S)
  | brk | cnt | pass
  | nvr
  | raise (c : Nat) (e : Option E)
  | tri (body : List S) (hs : List Hd)

inductive RS where
  | nx (env : Env) (st : Sto)
  | rt (d : D) (st : Sto)
  | bk (env : Env) (st : Sto)
  | ct (env : Env) (st : Sto)
  | exn (c : Nat) (v : Option PyData) (env : Env) (st : Sto)
  | stuck
/-- from an expression on -/
def R.toT (env : Env) (m : R D) (f : Bool → Sto → RS) : RS :=
  match m with
  | .ok (.p (.bool b)) st => f b st
  | .exn c v st => .exn c v env st
  | _ => .stuck
def R.to {α : Type} (env : Env) (m : R α) (f : α → Sto → RS) : RS :=
  match m with
  | .ok a st => f a st
  | .exn c v st => .exn c v env st
  | .stuck => .stuck
def nxt (o : Option Env) (st : Sto) : RS := match o with | some env => .nx env st | none => .stuck

def setItem (bs : List Nat) (o i d : D) (env : Env) (st : Sto) : RS :=
  match o, i with
  | .ref n, .p k => match getS st n with
    | .lst xs => match k with
      | .int j => match ixN xs.length j with | some m => (match okW bs n d with | true => .nx env (st.set n (.lst (xs.set m d))) | false => .stuck) | none => .stuck
      | _ => .stuck
    | o => match putD bs n o k d with
      | some o' => .nx env (st.set n o')
      | none => .stuck
  | _, _ => .stuck

/-- o[i] of a list or a dict of the store -/
def getSub (o i : D) (st : Sto) : R D :=
  match o, i with
  | .ref n, .p k => match getS st n with
    | .lst xs => match k with
      | .int j => match atI xs j with | some z => .ok z st | none => .stuck
      | _ => .stuck
    | o => dicIdx st o k
  | _, _ => .stuck
def forLoop (tg : Tg) (body : Env → Sto → RS) : List (List D) → Env → Sto → RS
  | [], env, st => .nx env st
  | x :: xs, env, st => match asgItem tg x env with
    | none => .stuck
    | some env1 => match body env1 st with
      | .nx env2 st2 => forLoop tg body xs env2 st2
      | .ct env2 st2 => forLoop tg body xs env2 st2
      | .bk env2 st2 => .nx env2 st2
      | r => r
def forLive (tg : Tg) (body : Env → Sto → RS) (en : Bool) (n : Nat) : Nat → Nat → Env → Sto → RS
  | 0, _, _, _ => .stuck
  | k + 1, i, env, st => match listItems st (.ref n) with
    | none => .stuck
    | some xs => match xs[i]? with
      | none => .nx env st
      | some x => match asgItem tg (rowOf en i x) env with
        | none => .stuck
        | some env1 => match body env1 st with
          | .nx env2 st2 => forLive tg body en n k (i + 1) env2 st2
          | .ct env2 st2 => forLive tg body en n k (i + 1) env2 st2
          | .bk env2 st2 => .nx env2 st2
          | r => r
def forRun (tg : Tg) (body : Env → Sto → RS) : Src → Env → Sto → RS
  | .fix its, env, st => forLoop tg body its env st
  | .live en n, env, st => forLive tg body en n TURNS 0 env st
def whileLoop (c : Env → Sto → R D) (body : Env → Sto → RS) : Nat → Env → Sto → RS
  | 0, _, _ => .stuck
  | k + 1, env, st => (c env st).toT env fun t st1 => match t with
    | false => .nx env st1
    | true => match body env st1 with
      | .nx env2 st2 => whileLoop c body k env2 st2
      | .ct env2 st2 => whileLoop c body k env2 st2
      | .bk env2 st2 => .nx env2 st2
      | r => r
def setH (env : Env) (i : Nat) (d : D) : Option Nat → Env
  | some j => setE (setE env i (some d)) j none
  | none => setE env i (some d)
def handle (c : Nat) (v : Option PyData) (env : Env) (st : Sto) : List Hd → RS
  | [] => .exn c v env st
  | .ret h nm x :: hs => match Nat.beq c h with
    | true => match hxV v x with
      | some d => .rt (.p d) st
      | none => .stuck
    | false => handle c v env st hs
  | .set h nm i x :: hs => match Nat.beq c h with
    | true => match hxV v x with
      | some d => .nx (setH env i (.p d) nm) st
      | none => .stuck
    | false => handle c v env st hs

mutual
def exec (C : Cl) (bs : List Nat) (fl : Nat) : S → Env → Sto → RS
  | .asg t e, env, st => (ev C bs env e false st).to env fun d st1 => nxt (Ev.asg t d env) st1
  | .par ts es, env, st => (evs C bs env es st).to env fun ds st1 => nxt (asgs ts ds env) st1
  | .sub o i e, env, st => (ev C bs env e false st).to env fun d st1 => (ev C bs env o false st1).to env fun x st2 => (ev C bs env i false st2).to env fun y st3 => setItem bs x y d env st3
  | .subAug o i op e, env, st => (ev C bs env o false st).to env fun x st1 => (ev C bs env i false st1).to env fun y st2 => (getSub x y st2).to env fun z st3 => (ev C bs env e false st3).to env fun w st4 => (opS op [z, w] st4).to env fun d st5 => setItem bs x y d env st5
  | .unp ts e, env, st => (ev C bs env e false st).to env fun d st1 => match items st1 d with
    | some ds => nxt (asgs ts ds env) st1
    | none => .stuck
  | .ex e, env, st => (ev C bs env e false st).to env fun _ st1 => .nx env st1
  | .ret e, env, st => (ev C bs env e false st).to env fun d st1 => .rt d st1
  | .retN, _, st => .rt D.none st
  | .ife c a b, env, st => (ev C bs env c true st).toT env fun t st1 => match t with | true => execs C bs fl a env st1 | false => execs C bs fl b env st1
  | .for tg kd src body, env, st => (evs C bs env src st).to env fun ds st1 => match walkF kd ds st1 with
    | none => .stuck
    | some its => forRun tg (fun env' st' => execs C bs fl body env' st') its.1 env its.2
  | .whl c body, env, st => whileLoop (fun env' st' => ev C bs env' c true st') (fun env' st' => execs C bs fl body env' st') fl env st
  | .brk, env, st => .bk env st
  | .cnt, env, st => .ct env st
  | .pass, env, st => .nx env st
  | .nvr, _, _ => .stuck
  | .raise c none, env, st => .exn c none env st
  | .raise c (some e), env, st => (ev C bs env e false st).to env fun d st1 => match frz DEEP d st1 with | some (x, st2) => .exn c (some x) env st2 | none => .stuck
  | .tri body hs, env, st => match execs C bs fl body env st with
    | .exn c v env' st' => handle c v env' st' hs
    | r => r
termination_by structural x => x
def execs (C : Cl) (bs : List Nat) (fl : Nat) : List S → Env → Sto → RS
  | [], env, st => .nx env st
  | s :: ss, env, st => match exec C bs fl s env st with
    | .nx env1 st1 => execs C bs fl ss env1 st1
    | r => r
termination_by structural x => x
end

/-! ### defs -/
/-- how a def hands back: 0 plain data (its own things of the store are forgotten), 1 as it is -/
structure Fn where
  np : Nat
  ns : Nat
  md : Nat
  body : List S
abbrev Tab := List Fn
def getF : Tab → Nat → Option Fn
  | [], _ => none
  | f :: _, 0 => some f
  | _ :: r, n + 1 => getF r n
def nones : Nat → Env
  | 0 => []
  | n + 1 => none :: nones n
def startE (ds : List D) (n : Nat) : Env := ds.map some ++ nones (n - ds.length)
def back (md m : Nat) : RS → R D
  | .rt d st => match md with
    | 0 => match frz DEEP d st with | some (x, st') => .ok (.p x) (st'.take m) | none => .stuck
    | _ => .ok d st
  | .nx _ st => match md with
    | 0 => .ok D.none (st.take m)
    | _ => .ok D.none st
  | .exn c v _ st => match md with
    | 0 => .exn c v (st.take m)
    | _ => .exn c v st
  | _ => .stuck
def callK (T : Tab) : Nat → Cl
  | 0 => fun _ _ _ _ => .stuck
  | k + 1 => fun bs f ds st => match getF T f with
    | none => .stuck
    | some F => match Nat.beq ds.length F.np with
      | false => .stuck
      | true => match F.md with
        | 0 => back 0 st.length (execs (callK T k) (st.length :: bs) TURNS F.body (startE ds F.ns) st)
        | m => back m 0 (execs (callK T k) bs TURNS F.body (startE ds F.ns) st)
end Ev

namespace Law
open Ev PySem
def f_is_number : Fn := ⟨1, 1, 0, [.ret (.and (.op (.isi [2]) [(.var 0)]) (.not (.op (.isi [1]) [(.var 0)])))]⟩
def f_tuple_of : Fn := ⟨1, 2, 0, [.ife (.op (.isi [4, 5]) [(.var 0)]) [.ret (.op .tupleOf [(.lc false [1] (.name 1) 0 [(.var 0)] [] (.call 1 [(.var 1)]))])] [], .ret (.var 0)]⟩
def f_is_tuple_of : Fn := ⟨2, 2, 0, [.ret (.and (.op (.isi [5]) [(.var 0)]) (.op .eq [(.op .len [(.var 0)]), (.var 1)]))]⟩
def f_is_word : Fn := ⟨1, 2, 0, [.ret (.and (.op (.isi [5]) [(.var 0)]) (.op .all [(.lc false [1] (.name 1) 0 [(.var 0)] [] (.and (.call 0 [(.var 1)]) (.op .ge [(.var 1), (.cst (.int 0))])))]))]⟩
def f__put : Fn := ⟨2, 3, 0, [.ife (.op .eq [(.op .idx [(.var 0), (.cst (.int 0))]), (.cst (.str ⟨#[109, 97, 107, 101]⟩))]) [.for (.name 2) 0 [(.op .idx [(.var 0), (.cst (.int 2))])] [.ex (.call 4 [(.var 2), (.var 1)])]] [], .ife (.op .notIn [(.var 0), (.var 1)]) [.ex (.meth .append (.var 1) [(.var 0)])] []]⟩
def f_parts_in_order : Fn := ⟨1, 2, 0, [.asg (.name 1) (.op (.lst true) []), .ex (.call 4 [(.call 1 [(.var 0)]), (.var 1)]), .ret (.op .tupleOf [(.var 1)])]⟩
def f_calls_in : Fn := ⟨1, 2, 0, [.ret (.op .tupleOf [(.op (.sorted false) [(.lc false [1] (.name 1) 0 [(.call 5 [(.var 0)])] [(.op .eq [(.op .idx [(.var 1), (.cst (.int 0))]), (.cst (.str ⟨#[99, 97, 108, 108]⟩))])] (.slc false (.var 1) [(.cst (.int 1))] []))])])]⟩
def f__leaves : Fn := ⟨1, 1, 0, [.ret (.ife (.op .eq [(.op .idx [(.var 0), (.cst (.int 0))]), (.cst (.str ⟨#[108, 101, 97, 102]⟩))]) (.op (.lst false) [(.op .idx [(.var 0), (.cst (.int 1))])]) (.op (.add false) [(.call 7 [(.op .idx [(.var 0), (.cst (.int 2))])]), (.call 7 [(.op .idx [(.var 0), (.cst (.int 3))])])]))]⟩
def f_leaves_of : Fn := ⟨1, 1, 0, [.ret (.op .tupleOf [(.call 7 [(.call 1 [(.var 0)])])])]⟩
def f_calls_of : Fn := ⟨1, 5, 0, [.asg (.name 1) (.op (.lst true) []), .for (.name 2) 0 [(.var 0)] [.asg (.name 3) (.op (.lst true) []), .for (.name 4) 0 [(.call 7 [(.var 2)])] [.ex (.meth .extend (.var 3) [(.call 6 [(.var 4)])])], .ex (.meth .append (.var 1) [(.var 3)])], .ret (.var 1)]⟩
def f__sorted_out : Fn := ⟨1, 6, 0, [.par [(.name 1), (.name 2)] [(.op (.lst true) []), (.op .dic [])], .whl (.cst (.bool true)) [.asg (.name 3) (.lc false [4] (.name 4) 1 [(.op .len [(.var 0)])] [(.and (.op .notIn [(.var 4), (.var 2)]) (.op .all [(.lc false [5] (.name 5) 0 [(.op .idx [(.var 0), (.var 4)])] [] (.op .inn [(.var 5), (.var 2)]))]))] (.var 4)), .ife (.op .eq [(.op .len [(.var 3)]), (.cst (.int 0))]) [.ret (.var 1)] [], .ex (.meth .append (.var 1) [(.op .idx [(.var 3), (.cst (.int 0))])]), .sub (.var 2) (.op .idx [(.var 3), (.cst (.int 0))]) (.cst (.bool true))]]⟩
def f__still_lists : Fn := ⟨1, 3, 0, [.ret (.lc false [1] (.name 1) 0 [(.call 9 [(.var 0)])] [] (.op (.sortSet false) [(.lc false [2] (.name 2) 0 [(.var 1)] [(.op .eq [(.op .idx [(.var 2), (.cst (.int 1))]), (.cst (.tuple []))])] (.op .idx [(.var 2), (.cst (.int 0))]))]))]⟩
def f_still_order : Fn := ⟨1, 1, 0, [.ret (.op .tupleOf [(.call 10 [(.call 11 [(.call 1 [(.var 0)])])])])]⟩
def f_all_calls : Fn := ⟨1, 5, 0, [.asg (.name 1) (.op (.lst true) []), .for (.name 2) 0 [(.call 1 [(.var 0)])] [.asg (.name 3) (.op (.lst true) []), .for (.name 4) 0 [(.call 8 [(.var 2)])] [.ex (.meth .extend (.var 3) [(.call 6 [(.var 4)])])], .ex (.meth .append (.var 1) [(.op .tupleOf [(.op (.sortSet false) [(.var 3)])])])], .ret (.var 1)]⟩
def f_spread : Fn := ⟨3, 9, 0, [.par [(.name 3), (.name 4)] [(.dcmp [6] (.name 6) 0 [(.var 2)] [] (.var 6) (.cst (.bool true))), (.op (.listOf true) [(.var 1)])], .whl (.op .ne [(.var 4), (.cst (.list []))]) [.asg (.name 5) (.meth .pop (.var 4) []), .ife (.op .notIn [(.op .tup [(.var 5), (.cst (.tuple []))]), (.var 3)]) [.sub (.var 3) (.op .tup [(.var 5), (.cst (.tuple []))]) (.cst (.bool true)), .for (.tup [(.name 7), (.name 8)]) 0 [(.op .idx [(.var 0), (.var 5)])] [.ife (.op .eq [(.var 8), (.cst (.tuple []))]) [.ex (.meth .append (.var 4) [(.var 7)])] [.sub (.var 3) (.op .tup [(.var 7), (.var 8)]) (.cst (.bool true))]]] []], .ret (.op .tupleOf [(.op (.sortK false) [(.var 3)])])]⟩
def f_first_lot : Fn := ⟨1, 1, 0, [.ret (.call 14 [(.var 0), (.cst (.list [.int 0])), (.cst (.list []))])]⟩
def f_next_lot : Fn := ⟨3, 6, 0, [.asg (.name 3) (.lc false [4, 5] (.tup [(.name 4), (.name 5)]) 0 [(.var 1)] [(.op .eq [(.var 5), (.op .tup [(.var 2)])])] (.var 4)), .ret (.call 14 [(.var 0), (.var 3), (.lc false [4, 5] (.tup [(.name 4), (.name 5)]) 0 [(.var 1)] [(.and (.op .gt [(.op .len [(.var 5)]), (.cst (.int 1))]) (.op .eq [(.op .idx [(.var 5), (.cst (.int 0))]), (.var 2)]))] (.op .tup [(.var 4), (.slc false (.var 5) [(.cst (.int 1))] [])]))])]⟩
def f_lot_on : Fn := ⟨3, 4, 0, [.for (.name 3) 0 [(.var 2)] [.asg (.name 1) (.call 16 [(.var 0), (.var 1), (.var 3)])], .ret (.var 1)]⟩
def f_lot_of : Fn := ⟨2, 3, 0, [.asg (.name 2) (.call 13 [(.var 0)]), .ret (.call 17 [(.var 2), (.call 15 [(.var 2)]), (.var 1)])]⟩
def f_steps_from : Fn := ⟨1, 3, 0, [.ret (.op (.sortSet false) [(.lc false [1, 2] (.tup [(.name 1), (.name 2)]) 0 [(.var 0)] [(.op .ne [(.var 2), (.cst (.tuple []))])] (.op .idx [(.var 2), (.cst (.int 0))]))])]⟩
def f_led_from : Fn := ⟨3, 9, 1, [.par [(.name 3), (.name 4)] [(.op .dic []), (.op (.lst true) [(.var 1)])], .whl (.op .ne [(.var 4), (.cst (.list []))]) [.asg (.name 5) (.meth .pop (.var 4) []), .ife (.op .notIn [(.var 5), (.var 3)]) [.sub (.var 3) (.var 5) (.lc false [6] (.name 6) 0 [(.call 19 [(.var 5)])] [] (.op .tup [(.var 6), (.call 16 [(.var 0), (.var 5), (.var 6)])])), .ex (.meth .extend (.var 4) [(.lc false [7, 8] (.tup [(.name 7), (.name 8)]) 0 [(.op .idx [(.var 3), (.var 5)])] [] (.var 8))]), .ife (.and (.op .notN [(.var 2)]) (.op .gt [(.op .len [(.var 3)]), (.var 2)])) [.raise 1 none] []] []], .ret (.var 3)]⟩
def f_table_of : Fn := ⟨1, 3, 1, [.asg (.name 1) (.call 13 [(.var 0)]), .asg (.name 2) (.call 15 [(.var 1)]), .ret (.op .tup [(.var 2), (.call 20 [(.var 1), (.var 2), (.cst (.int 400))])])]⟩
def f_reached_from : Fn := ⟨2, 9, 1, [.par [(.name 2), (.name 3)] [(.op .dic []), (.op (.lst false) [(.op .tup [(.var 1), (.cst (.tuple []))])])], .whl (.op .ne [(.var 3), (.cst (.list []))]) [.asg (.name 4) (.op (.lst true) []), .for (.tup [(.name 5), (.name 6)]) 0 [(.var 3)] [.for (.tup [(.name 7), (.name 8)]) 0 [(.op .idx [(.var 0), (.var 5)])] [.ife (.op .notIn [(.var 8), (.var 2)]) [.sub (.var 2) (.var 8) (.op (.tupS [true, false]) [(.op .spl [(.var 6)]), (.var 7)]), .ex (.meth .append (.var 4) [(.op .tup [(.var 8), (.op .idx [(.var 2), (.var 8)])])])] []]], .asg (.name 3) (.var 4)], .ret (.var 2)]⟩
def f_all_reached : Fn := ⟨1, 2, 1, [.ret (.dcmp [1] (.name 1) 0 [(.var 0)] [] (.var 1) (.call 22 [(.var 0), (.var 1)]))]⟩
def f_staying : Fn := ⟨3, 5, 0, [.ret (.lc false [3, 4] (.tup [(.name 3), (.name 4)]) 0 [(.op .idx [(.var 0), (.var 2)])] [(.or (.op .eq [(.var 4), (.var 2)]) (.op .inn [(.var 2), (.op .idx [(.var 1), (.var 4)])]))] (.op .tup [(.var 3), (.var 4)]))]⟩
def f_twice_led : Fn := ⟨2, 3, 0, [.for (.name 2) 0 [(.var 0)] [.ife (.op .gt [(.op .len [(.call 24 [(.var 0), (.var 1), (.var 2)])]), (.cst (.int 1))]) [.ret (.var 2)] []], .ret (.cst (.none))]⟩
def f_word_to : Fn := ⟨3, 3, 0, [.ret (.ife (.op .eq [(.var 2), (.var 1)]) (.cst (.tuple [])) (.op .idx [(.op .idx [(.var 0), (.var 1)]), (.var 2)]))]⟩
def f_two_rings : Fn := ⟨1, 8, 0, [.unp [(.name 4), (.name 5)] (.call 21 [(.var 0)]), .asg (.name 1) (.call 23 [(.var 5)]), .asg (.name 2) (.call 25 [(.var 5), (.var 1)]), .ife (.op .isN [(.var 2)]) [.raise 0 none] [], .asg (.name 3) (.op (.lst true) []), .for (.tup [(.name 6), (.name 7)]) 0 [(.slc false (.call 24 [(.var 5), (.var 1), (.var 2)]) [] [(.cst (.int 2))])] [.ex (.meth .append (.var 3) [(.op (.add false) [(.op .tup [(.var 6)]), (.ife (.op .eq [(.var 7), (.var 2)]) (.cst (.tuple [])) (.op .idx [(.op .idx [(.var 1), (.var 7)]), (.var 2)]))])])], .ret (.op .tup [(.call 26 [(.var 1), (.var 4), (.var 2)]), (.op .idx [(.var 3), (.cst (.int 0))]), (.op .idx [(.var 3), (.cst (.int 1))])])]⟩
def f_are_two_rings : Fn := ⟨2, 7, 0, [.ife (.or (.not (.call 2 [(.var 1), (.cst (.int 3))])) (.not (.op .all [(.lc false [4] (.name 4) 0 [(.var 1)] [] (.call 3 [(.var 4)]))]))) [.ret (.cst (.bool false))] [], .asg (.tup [(.name 4), (.name 5), (.name 6)]) (.var 1), .ife (.op .eq [(.op (.add false) [(.var 5), (.var 6)]), (.op (.add false) [(.var 6), (.var 5)])]) [.ret (.cst (.bool false))] [], .asg (.name 2) (.call 13 [(.var 0)]), .asg (.name 3) (.call 17 [(.var 2), (.call 15 [(.var 2)]), (.var 4)]), .ret (.and (.op .ne [(.var 3), (.cst (.tuple []))]) (.and (.op .eq [(.call 17 [(.var 2), (.var 3), (.var 5)]), (.var 3)]) (.op .eq [(.call 17 [(.var 2), (.var 3), (.var 6)]), (.var 3)])))]⟩
def f_best_rows : Fn := ⟨3, 10, 0, [.asg (.name 3) (.op .dic []), .for (.tup [(.name 4), (.name 4), (.name 5)]) 0 [(.op (.sorted false) [(.lc false [8] (.name 8) 0 [(.var 0)] [] (.op .tup [(.op .len [(.op .idx [(.var 1), (.var 8)])]), (.op .notIn [(.var 8), (.op .idx [(.var 1), (.var 8)])]), (.var 8)]))])] [.asg (.name 6) (.lc false [9] (.name 9) 0 [(.op .idx [(.var 1), (.var 5)])] [(.and (.op .inn [(.var 9), (.var 3)]) (.op .notIn [(.var 5), (.op .idx [(.var 1), (.var 9)])]))] (.op .idx [(.var 3), (.var 9)])), .asg (.name 7) (.ife (.op .ne [(.var 6), (.cst (.list []))]) (.op .maxLen [(.var 6)]) (.cst (.tuple []))), .sub (.var 3) (.var 5) (.ife (.op .inn [(.var 5), (.op .idx [(.var 1), (.var 5)])]) (.op (.tupS [false, true]) [(.var 5), (.op .spl [(.var 7)])]) (.var 7))], .ret (.op .idx [(.var 3), (.var 2)])]⟩
def f_sure_power : Fn := ⟨1, 4, 1, [.unp [(.name 2), (.name 3)] (.call 21 [(.var 0)]), .asg (.name 1) (.call 23 [(.var 3)]), .ife (.op .notN [(.call 25 [(.var 3), (.var 1)])]) [.raise 0 none] [], .ret (.op .tup [(.var 2), (.var 1), (.call 29 [(.var 3), (.var 1), (.var 2)])])]⟩
def f_power_of : Fn := ⟨1, 1, 0, [.ret (.op .len [(.op .idx [(.call 30 [(.var 0)]), (.cst (.int 2))])])]⟩
def f_ring_row : Fn := ⟨1, 7, 0, [.unp [(.name 2), (.name 3), (.name 4)] (.call 30 [(.var 0)]), .par [(.name 5), (.name 6)] [(.var 2), (.op (.lst true) [])], .for (.name 1) 0 [(.var 4)] [.ex (.meth .append (.var 6) [(.op .tup [(.call 26 [(.var 3), (.var 5), (.var 1)]), (.op .idx [(.op .idx [(.var 3), (.var 1)]), (.var 1)])])]), .asg (.name 5) (.var 1)], .ret (.op .tupleOf [(.var 6)])]⟩
def f_is_ring_row : Fn := ⟨2, 10, 0, [.ife (.or (.not (.op (.isi [5]) [(.var 1)])) (.not (.op .all [(.lc false [9] (.name 9) 0 [(.var 1)] [] (.call 2 [(.var 9), (.cst (.int 2))]))]))) [.ret (.cst (.bool false))] [], .ife (.not (.op .all [(.lc false [5, 6] (.tup [(.name 5), (.name 6)]) 0 [(.var 1)] [] (.and (.call 3 [(.var 5)]) (.and (.call 3 [(.var 6)]) (.op .ne [(.var 6), (.cst (.tuple []))]))))])) [.ret (.cst (.bool false))] [], .asg (.name 2) (.call 13 [(.var 0)]), .par [(.name 3), (.name 4)] [(.call 15 [(.var 2)]), (.op (.lst true) [])], .for (.tup [(.name 5), (.name 6)]) 0 [(.var 1)] [.asg (.name 3) (.call 17 [(.var 2), (.var 3), (.var 5)]), .ife (.or (.op .eq [(.var 3), (.cst (.tuple []))]) (.op .ne [(.call 17 [(.var 2), (.var 3), (.var 6)]), (.var 3)])) [.ret (.cst (.bool false))] [], .asg (.name 7) (.call 20 [(.var 2), (.var 3), (.cst (.none))]), .ife (.op .any [(.lc false [8] (.name 8) 0 [(.var 4)] [] (.op .inn [(.var 8), (.var 7)]))]) [.ret (.cst (.bool false))] [], .ex (.meth .append (.var 4) [(.var 3)])], .ret (.cst (.bool true))]⟩
def f_many_called : Fn := ⟨1, 3, 0, [.ret (.op .len [(.lc false [1, 2] (.tup [(.name 1), (.name 2)]) 0 [(.var 0)] [(.op .eq [(.var 2), (.cst (.tuple []))])] (.var 2))])]⟩
def f_sums_to : Fn := ⟨3, 11, 0, [.par [(.name 4), (.name 5), (.name 6)] [(.op .dic [(.var 0), (.cst (.int 1))]), (.op (.lst true) []), (.cst (.int 0))], .for (.name 3) 1 [(.op (.add false) [(.var 2), (.cst (.int 1))])] [.asg (.name 6) (.op .addI [.var 6, (.op .sum [(.lc false [8, 9] (.tup [(.name 8), (.name 9)]) 8 [(.var 4)] [] (.op (.mul false) [(.var 9), (.call 34 [(.var 8)])]))])]), .ex (.meth .append (.var 5) [(.var 6)]), .asg (.name 7) (.op .dic []), .for (.tup [(.name 8), (.name 9)]) 8 [(.var 4)] [.for (.tup [(.name 3), (.name 10)]) 0 [(.op .idx [(.var 1), (.var 8)])] [.sub (.var 7) (.var 10) (.op (.add false) [(.meth .get2 (.var 7) [(.var 10), (.cst (.int 0))]), (.var 9)])]], .asg (.name 4) (.var 7)], .ret (.var 5)]⟩
def f_told_far : Fn := ⟨2, 8, 0, [.par [(.name 3), (.name 4), (.name 5)] [(.cst (.int 0)), (.cst (.int 1)), (.op (.listOf false) [(.var 0)])], .for (.name 2) 1 [(.op .len [(.var 0)])] [.asg (.name 3) (.op .addI [.var 3, (.op (.mul false) [(.var 4), (.op .idx [(.var 5), (.cst (.int 0))])])]), .asg (.name 4) (.op .fdiv [(.op (.mul false) [(.var 4), (.op .subt [(.var 1), (.var 2)])]), (.op (.add false) [(.var 2), (.cst (.int 1))])]), .asg (.name 5) (.lc false [6, 7] (.tup [(.name 6), (.name 7)]) 4 [(.var 5), (.slc false (.var 5) [(.cst (.int 1))] [])] [] (.op .subt [(.var 7), (.var 6)]))], .ret (.var 3)]⟩
def f_period_of : Fn := ⟨2, 5, 0, [.asg (.name 2) (.cst (.int 1)), .for (.name 3) 0 [(.var 1)] [.ife (.op .inn [(.var 3), (.op .idx [(.var 0), (.var 3)])]) [.asg (.name 4) (.op .len [(.op .idx [(.op .idx [(.var 0), (.var 3)]), (.var 3)])]), .asg (.name 2) (.op .fdiv [(.op (.mul false) [(.var 2), (.var 4)]), (.op .gcd [(.var 2), (.var 4)])])] []], .ret (.var 2)]⟩
def f_calls_within : Fn := ⟨2, 11, 0, [.unp [(.name 6), (.name 7)] (.call 21 [(.var 0)]), .ife (.op .le [(.var 1), (.cst (.int 300))]) [.ret (.op .idx [(.call 35 [(.var 6), (.var 7), (.var 1)]), (.var 1)])] [], .asg (.name 2) (.call 23 [(.var 7)]), .ife (.op .notN [(.call 25 [(.var 7), (.var 2)])]) [.raise 1 none] [], .par [(.name 8), (.name 9)] [(.op .len [(.var 7)]), (.op (.add false) [(.op .len [(.call 29 [(.var 7), (.var 2), (.var 6)])]), (.cst (.int 1))])], .asg (.name 3) (.call 37 [(.var 2), (.var 7)]), .ife (.op .lt [(.var 1), (.op (.add false) [(.var 8), (.op (.mul false) [(.var 9), (.var 3)])])]) [.ret (.op .idx [(.call 35 [(.var 6), (.var 7), (.var 1)]), (.var 1)])] [], .asg (.name 4) (.op .mod [(.op .subt [(.var 1), (.var 8)]), (.var 3)]), .asg (.name 5) (.call 35 [(.var 6), (.var 7), (.op (.add false) [(.op (.add false) [(.var 8), (.var 4)]), (.op (.mul false) [(.op .subt [(.var 9), (.cst (.int 1))]), (.var 3)])])]), .ret (.call 36 [(.lc false [10] (.name 10) 1 [(.var 9)] [] (.op .idx [(.var 5), (.op (.add false) [(.op (.add false) [(.var 8), (.var 4)]), (.op (.mul false) [(.var 10), (.var 3)])])])), (.op .fdiv [(.op .subt [(.var 1), (.var 8)]), (.var 3)])])]⟩
def f_ways_within : Fn := ⟨2, 11, 0, [.par [(.name 4), (.name 5)] [(.call 13 [(.var 0)]), (.op (.rev false) [(.call 12 [(.var 0)])])], .asg (.name 2) (.op (.lst true) []), .for (.name 3) 1 [(.op (.add false) [(.var 1), (.cst (.int 1))])] [.asg (.name 6) (.op (.mul true) [(.cst (.list [.int 0])), (.op .len [(.var 4)])]), .subAug (.var 6) (.cst (.int 0)) .addI (.op .intOf [(.op .eq [(.var 3), (.cst (.int 0))])]), .for (.tup [(.name 7), (.name 8)]) 3 [(.var 4)] [.for (.tup [(.name 9), (.name 10)]) 0 [(.var 8)] [.ife (.chain .lt .le (.cst (.int 0)) (.op .len [(.var 10)]) (.var 3)) [.subAug (.var 6) (.var 9) .addI (.op .idx [(.op .idx [(.var 2), (.op .subt [(.var 3), (.op .len [(.var 10)])])]), (.var 7)])] []]], .for (.name 7) 0 [(.var 5)] [.for (.tup [(.name 9), (.name 10)]) 0 [(.op .idx [(.var 4), (.var 7)])] [.ife (.op .eq [(.var 10), (.cst (.tuple []))]) [.subAug (.var 6) (.var 9) .addI (.op .idx [(.var 6), (.var 7)])] []]], .ex (.meth .append (.var 2) [(.var 6)])], .ret (.op .sum [(.lc false [6] (.name 6) 0 [(.var 2)] [] (.op .sum [(.var 6)]))])]⟩
def f__law_same : Fn := ⟨2, 4, 0, [.ife (.op (.isi [4, 5]) [(.var 1)]) [.ife (.or (.op .ne [(.op (.isi [4]) [(.var 0)]), (.op (.isi [4]) [(.var 1)])]) (.op .ne [(.op (.isi [5]) [(.var 0)]), (.op (.isi [5]) [(.var 1)])])) [.ret (.cst (.bool false))] [], .ret (.and (.op .eq [(.op .len [(.var 0)]), (.op .len [(.var 1)])]) (.op .all [(.lc false [2, 3] (.tup [(.name 2), (.name 3)]) 4 [(.var 0), (.var 1)] [] (.call 40 [(.var 2), (.var 3)]))]))] [], .ife (.or (.op .isN [(.var 1)]) (.op (.isi [1, 3]) [(.var 1)])) [.ret (.and (.op .eq [(.var 0), (.var 1)]) (.and (.op .eq [(.op (.isi [1]) [(.var 0)]), (.op (.isi [1]) [(.var 1)])]) (.op .eq [(.op .isN [(.var 0)]), (.op .isN [(.var 1)])])))] [], .ret (.and (.op (.isi [2]) [(.var 0)]) (.and (.not (.op (.isi [1]) [(.var 0)])) (.op .eq [(.var 0), (.var 1)])))]⟩
def f__law_lists : Fn := ⟨1, 2, 0, [.ret (.ife (.op (.isi [4, 5]) [(.var 0)]) (.lc false [1] (.name 1) 0 [(.var 0)] [] (.call 41 [(.var 1)])) (.var 0))]⟩
def f__law_rule : Fn := ⟨2, 4, 0, [.asg (.name 2) (.op .tup [(.cst (.str ⟨#[109, 97, 107, 101]⟩)), (.var 0), (.op (.add false) [(.op .tupleOf [(.lc false [3] (.name 3) 0 [(.var 1)] [] (.op (.add false) [(.cst (.tuple [.str ⟨#[99, 97, 108, 108]⟩])), (.var 3)]))]), (.cst (.tuple [.tuple [.str ⟨#[97, 116]⟩, .tuple [.int 0]]]))])]), .ret (.op .tup [(.cst (.str ⟨#[97, 115, 107]⟩)), (.var 0), (.cst (.tuple [.str ⟨#[108, 101, 97, 102]⟩, .tuple [.str ⟨#[97, 116]⟩, .tuple []]])), (.op .tup [(.cst (.str ⟨#[108, 101, 97, 102]⟩)), (.var 2)])])]⟩
def f__law_row : Fn := ⟨0, 0, 0, [.ret (.op .tup [(.call 42 [(.cst (.int 0)), (.cst (.tuple [.tuple [.int 0, .tuple [.int 0]], .tuple [.int 0, .tuple [.int 0, .int 0]]]))])])]⟩
def f__law_fork : Fn := ⟨0, 0, 0, [.ret (.op .tup [(.call 42 [(.cst (.int 0)), (.cst (.tuple [.tuple [.int 0, .tuple [.int 0, .int 1]], .tuple [.int 0, .tuple [.int 1, .int 0]]]))])])]⟩
def f__law_wedge : Fn := ⟨0, 0, 0, [.ret (.op .tup [(.call 42 [(.cst (.int 0)), (.cst (.tuple [.tuple [.int 0, .tuple [.int 0]], .tuple [.int 1, .tuple [.int 1]]]))]), (.call 42 [(.cst (.int 1)), (.cst (.tuple [.tuple [.int 1, .tuple [.int 1]], .tuple [.int 1, .tuple [.int 1, .int 1]]]))])])]⟩
def f__law_heard : Fn := ⟨3, 4, 0, [.tri [.ife (.op .eq [(.var 0), (.cst (.int 0))]) [.ret (.call 38 [(.var 1), (.var 2)])] [], .ife (.op .eq [(.var 0), (.cst (.int 1))]) [.ret (.call 31 [(.var 1)])] [], .ret (.ife (.op .eq [(.var 0), (.cst (.int 2))]) (.call 32 [(.var 1)]) (.call 27 [(.var 1)]))] [.ret 0 (some 3) (.lst [(.cst (.str ⟨#[110, 111, 116]⟩)), (.cst (.bool true))]), .ret 1 (some 3) (.lst [(.cst (.str ⟨#[109, 117, 99, 104]⟩)), (.cst (.bool true))])]]⟩
def f__law_counts_right : Fn := ⟨0, 11, 0, [.par [(.name 6), (.name 7), (.name 8), (.name 9)] [(.call 43 []), (.call 44 []), (.call 45 []), (.cst (.tuple [.tuple [.str ⟨#[108, 101, 97, 102]⟩, .tuple [.str ⟨#[97, 116]⟩, .tuple [.int 0, .int 1]]]]))], .asg (.name 0) (.op (.lst false) [(.call 18 [(.var 6), (.cst (.tuple []))]), (.call 18 [(.var 6), (.cst (.tuple [.int 0]))]), (.call 18 [(.var 7), (.cst (.tuple [.int 0]))]), (.call 18 [(.var 7), (.cst (.tuple [.int 0, .int 0]))]), (.call 18 [(.var 7), (.cst (.tuple [.int 0, .int 1]))])]), .asg (.name 1) (.cst (.list [.tuple [.tuple [.int 0, .tuple []], .tuple [.int 0, .tuple [.int 0]], .tuple [.int 0, .tuple [.int 0, .int 0]]], .tuple [.tuple [.int 0, .tuple []], .tuple [.int 0, .tuple [.int 0]], .tuple [.int 0, .tuple [.int 0, .int 0]]], .tuple [.tuple [.int 0, .tuple [.int 1]]], .tuple [], .tuple [.tuple [.int 0, .tuple []], .tuple [.int 0, .tuple [.int 0, .int 1]], .tuple [.int 0, .tuple [.int 1, .int 0]]]])), .asg (.name 0) (.op (.add false) [(.var 0), (.op (.lst false) [(.call 18 [(.var 8), (.cst (.tuple [.int 1]))]), (.call 18 [(.var 8), (.cst (.tuple [.int 0, .int 0, .int 1]))]), (.call 18 [(.var 9), (.cst (.tuple []))]), (.call 18 [(.var 9), (.cst (.tuple [.int 0]))]), (.call 18 [(.var 6), (.cst (.tuple [.int 7]))])])]), .asg (.name 1) (.op (.add false) [(.op (.add false) [(.var 1), (.op (.mul false) [(.cst (.list [.tuple [.tuple [.int 1, .tuple []], .tuple [.int 1, .tuple [.int 1]], .tuple [.int 1, .tuple [.int 1, .int 1]]]])), (.cst (.int 2))])]), (.cst (.list [.tuple [.tuple [.int 0, .tuple []]], .tuple [], .tuple []]))]), .asg (.name 0) (.op (.add false) [(.var 0), (.op (.lst false) [(.lc false [10] (.name 10) 0 [(.op .tup [(.cst (.int 0)), (.cst (.int 1)), (.cst (.int 5)), (.cst (.int 300)), (.cst (.int 301)), (.op .pow [(.cst (.int 10)), (.cst (.int 18))])])] [] (.call 38 [(.var 6), (.var 10)])), (.lc false [10] (.name 10) 0 [(.op .tup [(.cst (.int 0)), (.cst (.int 5)), (.op .pow [(.cst (.int 10)), (.cst (.int 18))])])] [] (.call 38 [(.var 9), (.var 10)]))])]), .asg (.name 1) (.op (.add false) [(.var 1), (.op (.lst false) [(.op (.lst false) [(.cst (.int 1)), (.cst (.int 2)), (.cst (.int 6)), (.cst (.int 301)), (.cst (.int 302)), (.op (.add false) [(.op .pow [(.cst (.int 10)), (.cst (.int 18))]), (.cst (.int 1))])]), (.cst (.list [.int 1, .int 1, .int 1]))])]), .asg (.name 0) (.op (.add false) [(.var 0), (.op (.lst false) [(.lc false [10] (.name 10) 0 [(.op .tup [(.cst (.int 0)), (.cst (.int 1)), (.cst (.int 2)), (.cst (.int 10)), (.cst (.int 301)), (.op .pow [(.cst (.int 10)), (.cst (.int 9))])])] [] (.call 38 [(.var 8), (.var 10)])), (.lc false [10] (.name 10) 0 [(.cst (.tuple [.int 0, .int 1, .int 2, .int 3, .int 4, .int 40]))] [] (.call 38 [(.var 7), (.var 10)]))])]), .asg (.name 1) (.op (.add false) [(.var 1), (.cst (.list [.list [.int 1, .int 3, .int 6, .int 66, .int 45753, .int 500000001500000001], .list [.int 1, .int 1, .int 3, .int 3, .int 7, .int 2097151]]))]), .asg (.name 0) (.op (.add false) [(.var 0), (.op (.lst false) [(.op .eq [(.call 38 [(.var 7), (.cst (.int 300))]), (.op .subt [(.op .shl [(.cst (.int 1)), (.cst (.int 151))]), (.cst (.int 1))])]), (.call 46 [(.cst (.int 0)), (.var 7), (.cst (.int 301))]), (.call 46 [(.cst (.int 0)), (.var 7), (.op .pow [(.cst (.int 10)), (.cst (.int 18))])])])]), .asg (.name 1) (.op (.add false) [(.var 1), (.cst (.list [.bool true, .list [.str ⟨#[109, 117, 99, 104]⟩, .bool true], .list [.str ⟨#[109, 117, 99, 104]⟩, .bool true]]))]), .asg (.name 0) (.op (.add false) [(.var 0), (.op (.lst false) [(.lc false [10] (.name 10) 0 [(.cst (.tuple [.int 0, .int 1, .int 2, .int 3, .int 4, .int 5]))] [] (.call 39 [(.var 6), (.var 10)])), (.call 39 [(.var 7), (.cst (.int 4))]), (.call 39 [(.var 9), (.cst (.int 9))])])]), .asg (.name 1) (.op (.add false) [(.var 1), (.cst (.list [.list [.int 1, .int 2, .int 4, .int 7, .int 12, .int 20], .int 7, .int 1]))]), .asg (.name 2) (.cst (.tuple [.tuple [.str ⟨#[97, 115, 107]⟩, .int 0, .tuple [.str ⟨#[108, 101, 97, 102]⟩, .tuple [.str ⟨#[97, 116]⟩, .tuple []]], .tuple [.str ⟨#[97, 115, 107]⟩, .int 1, .tuple [.str ⟨#[108, 101, 97, 102]⟩, .tuple [.str ⟨#[99, 97, 108, 108]⟩, .int 0, .tuple [.int 0]]], .tuple [.str ⟨#[108, 101, 97, 102]⟩, .tuple [.str ⟨#[109, 97, 107, 101]⟩, .int 0, .tuple [.tuple [.str ⟨#[99, 97, 108, 108]⟩, .int 0, .tuple [.int 0]]]]]]]])), .asg (.name 3) (.op .tup [(.call 42 [(.cst (.int 0)), (.cst (.tuple [.tuple [.int 1, .tuple []], .tuple [.int 2, .tuple []]]))]), (.call 42 [(.cst (.int 1)), (.cst (.tuple [.tuple [.int 2, .tuple []]]))]), (.call 42 [(.cst (.int 2)), (.cst (.tuple [.tuple [.int 2, .tuple [.int 1]]]))])]), .asg (.name 4) (.op (.lst true) [(.cst (.int 1)), (.cst (.int 2))]), .for (.name 5) 1 [(.cst (.int 299))] [.ex (.meth .append (.var 4) [(.op (.add false) [(.op (.add false) [(.op .idx [(.var 4), (.cst (.int (-1)))]), (.op .idx [(.var 4), (.cst (.int (-2)))])]), (.cst (.int 1))])])], .asg (.name 0) (.op (.add false) [(.var 0), (.op (.lst false) [(.call 39 [(.var 6), (.cst (.int 300))]), (.call 18 [(.var 6), (.op (.mul false) [(.cst (.tuple [.int 0])), (.cst (.int 60))])])])]), .asg (.name 1) (.op (.add false) [(.var 1), (.op (.lst false) [(.op .idx [(.var 4), (.cst (.int 300))]), (.op .idx [(.var 1), (.cst (.int 0))])])]), .asg (.name 0) (.op (.add false) [(.var 0), (.op (.lst false) [(.call 39 [(.var 2), (.cst (.int 3))]), (.call 38 [(.var 2), (.cst (.int 3))]), (.call 39 [(.var 3), (.cst (.int 0))]), (.call 39 [(.var 3), (.cst (.int 2))]), (.call 38 [(.var 3), (.cst (.int 2))])])]), .ret (.call 40 [(.var 0), (.op (.add false) [(.var 1), (.cst (.list [.int 4, .int 4, .int 4, .int 8, .int 5]))])])]⟩
def f__law_rings_right : Fn := ⟨0, 10, 0, [.par [(.name 4), (.name 5), (.name 6), (.name 7)] [(.call 43 []), (.call 44 []), (.call 45 []), (.cst (.tuple [.tuple [.str ⟨#[108, 101, 97, 102]⟩, .tuple [.str ⟨#[97, 116]⟩, .tuple []]]]))], .asg (.name 0) (.op (.add true) [(.lc false [8] (.name 8) 0 [(.op .tup [(.var 4), (.var 6), (.var 7)])] [] (.call 31 [(.var 8)])), (.lc false [9] (.name 9) 0 [(.cst (.tuple [.int 1, .int 2]))] [] (.call 46 [(.var 9), (.var 5), (.cst (.none))]))]), .asg (.name 1) (.op (.lst true) [(.cst (.int 1)), (.cst (.int 2)), (.cst (.int 0)), (.cst (.list [.str ⟨#[110, 111, 116]⟩, .bool true])), (.cst (.list [.str ⟨#[110, 111, 116]⟩, .bool true]))]), .asg (.name 0) (.op (.add true) [(.op (.add false) [(.var 0), (.lc false [8] (.name 8) 0 [(.op .tup [(.var 4), (.var 6), (.var 7)])] [] (.call 46 [(.cst (.int 3)), (.var 8), (.cst (.none))]))]), (.op (.lst false) [(.call 28 [(.var 5), (.call 27 [(.var 5)])])])]), .asg (.name 1) (.op (.add true) [(.op (.add false) [(.var 1), (.op (.mul false) [(.cst (.list [.list [.str ⟨#[110, 111, 116]⟩, .bool true]])), (.cst (.int 3))])]), (.cst (.list [.bool true]))]), .asg (.name 0) (.op (.add true) [(.var 0), (.op (.lst false) [(.call 32 [(.var 7)]), (.call 33 [(.var 4), (.call 32 [(.var 4)])]), (.call 33 [(.var 6), (.call 32 [(.var 6)])]), (.op .len [(.call 32 [(.var 6)])])])]), .asg (.name 1) (.op (.add true) [(.var 1), (.cst (.list [.tuple [], .bool true, .bool true, .int 2]))]), .asg (.name 2) (.cst (.list [.tuple [], .tuple [.tuple [.tuple [], .tuple [.int 0]]], .tuple [.tuple [.tuple [], .tuple [.int 0, .int 0]]], .tuple [.tuple [.tuple [.int 0], .tuple [.int 0]]], .tuple [.tuple [.tuple [], .tuple [.int 0]], .tuple [.tuple [.int 1], .tuple [.int 1]]], .tuple [.tuple [.tuple [.int 1], .tuple [.int 1]]], .tuple [.tuple [.tuple [.int 0, .int 0, .int 1], .tuple [.int 1, .int 1, .int 1]]]])), .asg (.name 3) (.cst (.list [.tuple [.tuple [.tuple [], .tuple []]], .tuple [.tuple [.tuple [], .tuple [.int 1]]], .tuple [.tuple [.tuple [], .tuple [.int 0]], .tuple [.tuple [], .tuple [.int 0]]], .tuple [.tuple [.tuple [], .tuple [.int 0]], .tuple [.tuple [.int 0], .tuple [.int 0]]], .tuple [.tuple [.tuple [.int 1], .tuple [.int 1]], .tuple [.tuple [.int 1], .tuple [.int 1]]], .tuple [.tuple [.tuple [.int 2], .tuple [.int 0]]]])), .asg (.name 3) (.op (.add false) [(.var 3), (.cst (.list [.list [.tuple [.tuple [], .tuple [.int 0]]], .tuple [.list [.tuple [], .tuple [.int 0]]], .tuple [.tuple [.tuple [], .tuple [.int 0], .tuple []]], .tuple [.tuple [.tuple [], .list [.int 0]]], .tuple [.tuple [.none, .tuple [.int 0]]], .none, .int 7, .tuple [.tuple []], .tuple [.tuple [.tuple [.int 0], .tuple [.bool true]]], .tuple [.tuple [.tuple [.int 0], .tuple [.int (-1)]]]]))]), .ex (.meth .append (.var 0) [(.lc false [8] (.name 8) 0 [(.op (.add false) [(.var 2), (.var 3)])] [] (.call 33 [(.var 6), (.var 8)]))]), .ex (.meth .append (.var 1) [(.op (.add false) [(.op (.mul false) [(.cst (.list [.bool true])), (.cst (.int 7))]), (.op (.mul false) [(.cst (.list [.bool false])), (.cst (.int 16))])])]), .asg (.name 2) (.cst (.list [.tuple [.tuple [], .tuple [.int 0, .int 1], .tuple [.int 1, .int 0]], .tuple [.tuple [.int 0, .int 1], .tuple [.int 1, .int 0], .tuple [.int 0, .int 1]], .tuple [.tuple [.int 0], .tuple [.int 1, .int 0], .tuple [.int 1, .int 1, .int 0, .int 0]], .tuple [.tuple [], .tuple [.int 0, .int 1, .int 0, .int 1], .tuple [.int 0, .int 1, .int 1, .int 0]]])), .asg (.name 3) (.cst (.list [.tuple [.tuple [], .tuple [.int 0, .int 1], .tuple [.int 0, .int 1]], .tuple [.tuple [], .tuple [.int 0, .int 1], .tuple [.int 0, .int 1, .int 0, .int 1]], .tuple [.tuple [], .tuple [.int 0], .tuple [.int 1]], .tuple [.tuple [.int 0, .int 0], .tuple [.int 0, .int 1], .tuple [.int 1, .int 0]], .tuple [.tuple [], .tuple [.int 0, .int 1], .tuple []], .tuple [.tuple [], .tuple [], .tuple []]])), .asg (.name 3) (.op (.add false) [(.var 3), (.cst (.list [.list [.tuple [], .tuple [.int 0, .int 1], .tuple [.int 1, .int 0]], .tuple [.tuple [], .list [.int 0, .int 1], .tuple [.int 1, .int 0]], .tuple [.tuple [], .tuple [.int 0, .int 1]], .tuple [.tuple [], .tuple [.int 0, .int 1], .tuple [.int 1, .int 0], .tuple []], .none, .tuple [.tuple [], .str ⟨#[48, 49]⟩, .str ⟨#[49, 48]⟩], .tuple [.tuple [], .tuple [.int 0, .int 1], .tuple [.bool true, .int 0]]]))]), .ex (.meth .append (.var 0) [(.lc false [8] (.name 8) 0 [(.op (.add false) [(.var 2), (.var 3)])] [] (.call 28 [(.var 5), (.var 8)]))]), .ex (.meth .append (.var 1) [(.op (.add false) [(.op (.mul false) [(.cst (.list [.bool true])), (.cst (.int 4))]), (.op (.mul false) [(.cst (.list [.bool false])), (.cst (.int 13))])])]), .asg (.name 0) (.op (.add true) [(.var 0), (.op (.lst false) [(.call 28 [(.var 4), (.cst (.tuple [.tuple [], .tuple [.int 0], .tuple [.int 0, .int 0]]))]), (.call 33 [(.var 5), (.cst (.tuple [.tuple [.tuple [], .tuple [.int 0, .int 1]]]))]), (.call 33 [(.var 7), (.cst (.tuple []))])])]), .ret (.call 40 [(.var 0), (.op (.add false) [(.var 1), (.cst (.list [.bool false, .bool true, .bool true]))])])]⟩
def f__law_names_right : Fn := ⟨0, 4, 0, [.par [(.name 2), (.name 3)] [(.call 41 [(.call 45 [])]), (.call 41 [(.call 44 [])])], .asg (.name 0) (.op (.lst false) [(.callk 18 [] [1, 0] [(.cst (.list [.int 1])), (.var 2)]), (.callk 38 [] [1, 0] [(.cst (.int 10)), (.var 2)]), (.callk 39 [] [1, 0] [(.cst (.int 2)), (.var 2)]), (.callk 31 [] [0] [(.var 2)])]), .asg (.name 1) (.cst (.list [.tuple [.tuple [.int 1, .tuple []], .tuple [.int 1, .tuple [.int 1]], .tuple [.int 1, .tuple [.int 1, .int 1]]], .int 66, .int 6, .int 2])), .asg (.name 0) (.op (.add false) [(.var 0), (.op (.lst false) [(.callk 33 [] [1, 0] [(.cst (.tuple [.tuple [.tuple [], .tuple [.int 0]]])), (.var 2)]), (.callk 28 [] [1, 0] [(.cst (.tuple [.tuple [], .tuple [.int 0, .int 1], .tuple [.int 1, .int 0]])), (.var 3)])])]), .asg (.name 0) (.op (.add false) [(.var 0), (.op (.lst false) [(.call 33 [(.var 2), (.callk 32 [] [0] [(.var 2)])]), (.call 28 [(.var 3), (.callk 27 [] [0] [(.var 3)])]), (.var 2), (.var 3)])]), .ret (.call 40 [(.var 0), (.op (.add false) [(.op (.add false) [(.var 1), (.op (.mul false) [(.cst (.list [.bool true])), (.cst (.int 4))])]), (.op (.lst false) [(.call 41 [(.call 45 [])]), (.call 41 [(.call 44 [])])])])])]⟩
def f_law : Fn := ⟨1, 1, 0, [.ret (.and (.call 47 []) (.and (.call 48 []) (.call 49 [])))]⟩
def tab : Tab := ((f_is_number) :: (f_tuple_of) :: (f_is_tuple_of) :: (f_is_word) :: (f__put) :: (f_parts_in_order) :: (f_calls_in) :: (f__leaves) :: (f_leaves_of) :: (f_calls_of) :: (f__sorted_out) :: (f__still_lists) :: (f_still_order) :: (f_all_calls) :: (f_spread) :: (f_first_lot) :: (f_next_lot) :: (f_lot_on) :: (f_lot_of) :: (f_steps_from) :: (f_led_from) :: (f_table_of) :: (f_reached_from) :: (f_all_reached) :: (f_staying) :: (f_twice_led) :: (f_word_to) :: [f_two_rings, f_are_two_rings, f_best_rows, f_sure_power, f_power_of, f_ring_row, f_is_ring_row, f_many_called, f_sums_to, f_told_far, f_period_of, f_calls_within, f_ways_within, f__law_same, f__law_lists, f__law_rule, f__law_row, f__law_fork, f__law_wedge, f__law_heard, f__law_counts_right, f__law_rings_right, f__law_names_right, f_law])
end Law
set_option maxHeartbeats 0
set_option maxHeartbeats 0
/-! P48: k48's law, plain: its parts are reckoned out by the kernel. -/
namespace P48
open Ev Law PySem
def forkP : PyData := .tuple [.tuple [.str ⟨#[97, 115, 107]⟩, .int 0, .tuple [.str ⟨#[108, 101, 97, 102]⟩, .tuple [.str ⟨#[97, 116]⟩, .tuple []]], .tuple [.str ⟨#[108, 101, 97, 102]⟩, .tuple [.str ⟨#[109, 97, 107, 101]⟩, .int 0, .tuple [.tuple [.str ⟨#[99, 97, 108, 108]⟩, .int 0, .tuple [.int 0, .int 1]], .tuple [.str ⟨#[99, 97, 108, 108]⟩, .int 0, .tuple [.int 1, .int 0]], .tuple [.str ⟨#[97, 116]⟩, .tuple [.int 0]]]]]]]
theorem rings_right : callK tab 100 [0] 48 [] [] = .ok (.p (.bool true)) [] := by kernel_rfl
theorem names_right : callK tab 100 [0] 49 [] [] = .ok (.p (.bool true)) [] := by kernel_rfl
theorem call0 {T : Tab} {k : Nat} {bs : List Nat} {f : Nat} {ds : List D} {st : Sto} {np ns : Nat} {body : List S} (h : getF T f = some ⟨np, ns, 0, body⟩) (hl : Nat.beq ds.length np = true) :
    callK T (k + 1) bs f ds st = back 0 st.length (Ev.execs (callK T k) (st.length :: bs) TURNS body (startE ds ns) st) := by
  simp only [callK, h, hl]
theorem app (C : Cl) (bs : List Nat) (fl : Nat) : ∀ (xs ys : List S) (env : Ev.Env) (st : Sto), Ev.execs C bs fl (xs ++ ys) env st = match Ev.execs C bs fl xs env st with | .nx e s => Ev.execs C bs fl ys e s | r => r
  | [], ys, env, st => rfl
  | x :: xs, ys, env, st => by
    show (match Ev.exec C bs fl x env st with | .nx e s => Ev.execs C bs fl (xs ++ ys) e s | r => r) = match (match Ev.exec C bs fl x env st with | .nx e s => Ev.execs C bs fl xs e s | r => r) with | .nx e s => Ev.execs C bs fl ys e s | r => r
    cases Ev.exec C bs fl x env st with
    | nx e s => exact app C bs fl xs ys e s
    | _ => rfl
theorem app_nx {C : Cl} {bs : List Nat} {fl : Nat} {xs ys : List S} {env e : Ev.Env} {st s : Sto} (h : Ev.execs C bs fl xs env st = .nx e s) : Ev.execs C bs fl (xs ++ ys) env st = Ev.execs C bs fl ys e s := by
  rw [app, h]
/-! ### a long walk in pieces -/
def forG (tg : Tg) (body : Ev.Env → Sto → RS) : List (List D) → Ev.Env → Sto → Option (Ev.Env × Sto)
  | [], env, st => some (env, st)
  | x :: xs, env, st => match asgItem tg x env with
    | none => none
    | some e1 => match body e1 st with
      | .nx e2 s2 => forG tg body xs e2 s2
      | _ => none
theorem forG_app {tg : Tg} {body : Ev.Env → Sto → RS} {e : Ev.Env} {s : Sto} {ys : List (List D)} : ∀ {xs : List (List D)} {env : Ev.Env} {st : Sto}, forG tg body xs env st = some (e, s) → forLoop tg body (xs ++ ys) env st = forLoop tg body ys e s
  | [], env, st, h => by cases h; rfl
  | x :: xs, env, st, h => by
    unfold forG at h
    show forLoop tg body (x :: (xs ++ ys)) env st = _
    conv => lhs; unfold forLoop
    cases h1 : asgItem tg x env with
    | none => rw [h1] at h; cases h
    | some e1 =>
      rw [h1] at h
      dsimp only at h ⊢
      cases h2 : body e1 st with
      | nx e2 s2 =>
        rw [h2] at h
        exact forG_app h
      | _ => rw [h2] at h; cases h
theorem range_app (m n : Nat) : ∀ (i : Int), rangeFrom i (m + n) = rangeFrom i m ++ rangeFrom (i + m) n := by
  induction m with
  | zero => intro i; rw [Nat.zero_add, Int.natCast_zero, Int.add_zero]; rfl
  | succ m ih =>
    intro i
    rw [show m + 1 + n = (m + n) + 1 by omega]
    show [D.int i] :: rangeFrom (i + 1) (m + n) = [D.int i] :: (rangeFrom (i + 1) m ++ rangeFrom (i + (m + 1 : Nat)) n)
    rw [ih, show i + 1 + (m : Int) = i + (m + 1 : Nat) by omega]
theorem range_at {i j : Int} {m n k : Nat} (h1 : k = m + n) (h2 : j = i + (m : Int)) : rangeFrom i k = rangeFrom i m ++ rangeFrom j n := by
  subst h1; subst h2
  exact range_app m n i
def rowP : PyData := .tuple [.tuple [.str ⟨#[97, 115, 107]⟩, .int 0, .tuple [.str ⟨#[108, 101, 97, 102]⟩, .tuple [.str ⟨#[97, 116]⟩, .tuple []]], .tuple [.str ⟨#[108, 101, 97, 102]⟩, .tuple [.str ⟨#[109, 97, 107, 101]⟩, .int 0, .tuple [.tuple [.str ⟨#[99, 97, 108, 108]⟩, .int 0, .tuple [.int 0]], .tuple [.str ⟨#[99, 97, 108, 108]⟩, .int 0, .tuple [.int 0, .int 0]], .tuple [.str ⟨#[97, 116]⟩, .tuple [.int 0]]]]]]]
def wedgeP : PyData := .tuple [.tuple [.str ⟨#[97, 115, 107]⟩, .int 0, .tuple [.str ⟨#[108, 101, 97, 102]⟩, .tuple [.str ⟨#[97, 116]⟩, .tuple []]], .tuple [.str ⟨#[108, 101, 97, 102]⟩, .tuple [.str ⟨#[109, 97, 107, 101]⟩, .int 0, .tuple [.tuple [.str ⟨#[99, 97, 108, 108]⟩, .int 0, .tuple [.int 0]], .tuple [.str ⟨#[99, 97, 108, 108]⟩, .int 1, .tuple [.int 1]], .tuple [.str ⟨#[97, 116]⟩, .tuple [.int 0]]]]]], .tuple [.str ⟨#[97, 115, 107]⟩, .int 1, .tuple [.str ⟨#[108, 101, 97, 102]⟩, .tuple [.str ⟨#[97, 116]⟩, .tuple []]], .tuple [.str ⟨#[108, 101, 97, 102]⟩, .tuple [.str ⟨#[109, 97, 107, 101]⟩, .int 1, .tuple [.tuple [.str ⟨#[99, 97, 108, 108]⟩, .int 1, .tuple [.int 1]], .tuple [.str ⟨#[99, 97, 108, 108]⟩, .int 1, .tuple [.int 1, .int 1]], .tuple [.str ⟨#[97, 116]⟩, .tuple [.int 0]]]]]]]
def loneP : PyData := .tuple [.tuple [.str ⟨#[108, 101, 97, 102]⟩, .tuple [.str ⟨#[97, 116]⟩, .tuple [.int 0, .int 1]]]]
def bothP : PyData := .tuple [.tuple [.str ⟨#[97, 115, 107]⟩, .int 0, .tuple [.str ⟨#[108, 101, 97, 102]⟩, .tuple [.str ⟨#[97, 116]⟩, .tuple []]], .tuple [.str ⟨#[97, 115, 107]⟩, .int 1, .tuple [.str ⟨#[108, 101, 97, 102]⟩, .tuple [.str ⟨#[99, 97, 108, 108]⟩, .int 0, .tuple [.int 0]]], .tuple [.str ⟨#[108, 101, 97, 102]⟩, .tuple [.str ⟨#[109, 97, 107, 101]⟩, .int 0, .tuple [.tuple [.str ⟨#[99, 97, 108, 108]⟩, .int 0, .tuple [.int 0]]]]]]]]
def stillP : PyData := .tuple [.tuple [.str ⟨#[97, 115, 107]⟩, .int 0, .tuple [.str ⟨#[108, 101, 97, 102]⟩, .tuple [.str ⟨#[97, 116]⟩, .tuple []]], .tuple [.str ⟨#[108, 101, 97, 102]⟩, .tuple [.str ⟨#[109, 97, 107, 101]⟩, .int 0, .tuple [.tuple [.str ⟨#[99, 97, 108, 108]⟩, .int 1, .tuple []], .tuple [.str ⟨#[99, 97, 108, 108]⟩, .int 2, .tuple []], .tuple [.str ⟨#[97, 116]⟩, .tuple [.int 0]]]]]], .tuple [.str ⟨#[97, 115, 107]⟩, .int 1, .tuple [.str ⟨#[108, 101, 97, 102]⟩, .tuple [.str ⟨#[97, 116]⟩, .tuple []]], .tuple [.str ⟨#[108, 101, 97, 102]⟩, .tuple [.str ⟨#[109, 97, 107, 101]⟩, .int 1, .tuple [.tuple [.str ⟨#[99, 97, 108, 108]⟩, .int 2, .tuple []], .tuple [.str ⟨#[97, 116]⟩, .tuple [.int 0]]]]]], .tuple [.str ⟨#[97, 115, 107]⟩, .int 2, .tuple [.str ⟨#[108, 101, 97, 102]⟩, .tuple [.str ⟨#[97, 116]⟩, .tuple []]], .tuple [.str ⟨#[108, 101, 97, 102]⟩, .tuple [.str ⟨#[109, 97, 107, 101]⟩, .int 2, .tuple [.tuple [.str ⟨#[99, 97, 108, 108]⟩, .int 2, .tuple [.int 1]], .tuple [.str ⟨#[97, 116]⟩, .tuple [.int 0]]]]]]]
def refs : List D := ((.ref 2) :: (.ref 3) :: (.ref 4) :: (.ref 5) :: (.ref 6) :: (.ref 7) :: (.ref 8) :: (.ref 9) :: (.ref 10) :: (.ref 11) :: (.ref 12) :: (.ref 13) :: (.ref 14) :: (.ref 15) :: (.ref 16) :: (.ref 17) :: (.ref 18) :: (.ref 19) :: (.ref 20) :: (.ref 21) :: (.ref 22) :: (.ref 23) :: (.ref 24) :: (.ref 25) :: (.ref 26) :: (.ref 27) :: (.ref 28) :: (.ref 29) :: (.ref 30) :: (.ref 31) :: (.ref 32) :: (.ref 33) :: (.ref 34) :: (.ref 35) :: (.ref 36) :: (.ref 37) :: (.ref 38) :: (.ref 39) :: (.ref 40) :: (.ref 41) :: (.ref 42) :: (.ref 43) :: (.ref 44) :: (.ref 45) :: (.ref 46) :: (.ref 47) :: (.ref 48) :: (.ref 49) :: (.ref 50) :: (.ref 51) :: (.ref 52) :: (.ref 53) :: (.ref 54) :: (.ref 55) :: (.ref 56) :: (.ref 57) :: (.ref 58) :: (.ref 59) :: (.ref 60) :: (.ref 61) :: (.ref 62) :: (.ref 63) :: (.ref 64) :: (.ref 65) :: (.ref 66) :: (.ref 67) :: (.ref 68) :: (.ref 69) :: (.ref 70) :: (.ref 71) :: (.ref 72) :: (.ref 73) :: (.ref 74) :: (.ref 75) :: (.ref 76) :: (.ref 77) :: (.ref 78) :: (.ref 79) :: (.ref 80) :: (.ref 81) :: (.ref 82) :: (.ref 83) :: (.ref 84) :: (.ref 85) :: (.ref 86) :: (.ref 87) :: (.ref 88) :: (.ref 89) :: (.ref 90) :: (.ref 91) :: (.ref 92) :: (.ref 93) :: (.ref 94) :: (.ref 95) :: (.ref 96) :: (.ref 97) :: (.ref 98) :: (.ref 99) :: (.ref 100) :: (.ref 101) :: (.ref 102) :: (.ref 103) :: (.ref 104) :: (.ref 105) :: (.ref 106) :: (.ref 107) :: (.ref 108) :: (.ref 109) :: (.ref 110) :: (.ref 111) :: (.ref 112) :: (.ref 113) :: (.ref 114) :: (.ref 115) :: (.ref 116) :: (.ref 117) :: (.ref 118) :: (.ref 119) :: (.ref 120) :: (.ref 121) :: (.ref 122) :: (.ref 123) :: (.ref 124) :: (.ref 125) :: (.ref 126) :: (.ref 127) :: (.ref 128) :: (.ref 129) :: (.ref 130) :: (.ref 131) :: (.ref 132) :: (.ref 133) :: (.ref 134) :: (.ref 135) :: (.ref 136) :: (.ref 137) :: (.ref 138) :: (.ref 139) :: (.ref 140) :: (.ref 141) :: (.ref 142) :: (.ref 143) :: (.ref 144) :: (.ref 145) :: (.ref 146) :: (.ref 147) :: (.ref 148) :: (.ref 149) :: (.ref 150) :: (.ref 151) :: (.ref 152) :: (.ref 153) :: (.ref 154) :: (.ref 155) :: (.ref 156) :: (.ref 157) :: (.ref 158) :: (.ref 159) :: (.ref 160) :: (.ref 161) :: (.ref 162) :: (.ref 163) :: (.ref 164) :: (.ref 165) :: (.ref 166) :: (.ref 167) :: (.ref 168) :: (.ref 169) :: (.ref 170) :: (.ref 171) :: (.ref 172) :: (.ref 173) :: (.ref 174) :: (.ref 175) :: (.ref 176) :: (.ref 177) :: (.ref 178) :: (.ref 179) :: (.ref 180) :: (.ref 181) :: (.ref 182) :: (.ref 183) :: (.ref 184) :: (.ref 185) :: (.ref 186) :: (.ref 187) :: (.ref 188) :: (.ref 189) :: (.ref 190) :: (.ref 191) :: (.ref 192) :: (.ref 193) :: (.ref 194) :: (.ref 195) :: (.ref 196) :: (.ref 197) :: (.ref 198) :: (.ref 199) :: (.ref 200) :: (.ref 201) :: (.ref 202) :: (.ref 203) :: (.ref 204) :: (.ref 205) :: (.ref 206) :: (.ref 207) :: (.ref 208) :: (.ref 209) :: (.ref 210) :: (.ref 211) :: (.ref 212) :: (.ref 213) :: (.ref 214) :: (.ref 215) :: (.ref 216) :: (.ref 217) :: (.ref 218) :: (.ref 219) :: (.ref 220) :: (.ref 221) :: (.ref 222) :: (.ref 223) :: (.ref 224) :: (.ref 225) :: (.ref 226) :: (.ref 227) :: (.ref 228) :: (.ref 229) :: (.ref 230) :: (.ref 231) :: (.ref 232) :: (.ref 233) :: (.ref 234) :: (.ref 235) :: (.ref 236) :: (.ref 237) :: (.ref 238) :: (.ref 239) :: (.ref 240) :: (.ref 241) :: (.ref 242) :: (.ref 243) :: (.ref 244) :: (.ref 245) :: (.ref 246) :: (.ref 247) :: (.ref 248) :: (.ref 249) :: (.ref 250) :: (.ref 251) :: (.ref 252) :: (.ref 253) :: (.ref 254) :: (.ref 255) :: (.ref 256) :: (.ref 257) :: (.ref 258) :: (.ref 259) :: (.ref 260) :: (.ref 261) :: (.ref 262) :: (.ref 263) :: (.ref 264) :: (.ref 265) :: (.ref 266) :: (.ref 267) :: (.ref 268) :: (.ref 269) :: (.ref 270) :: (.ref 271) :: (.ref 272) :: (.ref 273) :: (.ref 274) :: (.ref 275) :: (.ref 276) :: (.ref 277) :: (.ref 278) :: [(.ref 279), (.ref 280), (.ref 281), (.ref 282), (.ref 283), (.ref 284), (.ref 285), (.ref 286), (.ref 287), (.ref 288), (.ref 289), (.ref 290), (.ref 291), (.ref 292), (.ref 293), (.ref 294), (.ref 295), (.ref 296), (.ref 297), (.ref 298), (.ref 299), (.ref 300), (.ref 301), (.ref 302)])
def objs : List SO := ((.lst [(.p (.int 1))]) :: (.lst [(.p (.int 1))]) :: (.lst [(.p (.int 2))]) :: (.lst [(.p (.int 3))]) :: (.lst [(.p (.int 5))]) :: (.lst [(.p (.int 8))]) :: (.lst [(.p (.int 13))]) :: (.lst [(.p (.int 21))]) :: (.lst [(.p (.int 34))]) :: (.lst [(.p (.int 55))]) :: (.lst [(.p (.int 89))]) :: (.lst [(.p (.int 144))]) :: (.lst [(.p (.int 233))]) :: (.lst [(.p (.int 377))]) :: (.lst [(.p (.int 610))]) :: (.lst [(.p (.int 987))]) :: (.lst [(.p (.int 1597))]) :: (.lst [(.p (.int 2584))]) :: (.lst [(.p (.int 4181))]) :: (.lst [(.p (.int 6765))]) :: (.lst [(.p (.int 10946))]) :: (.lst [(.p (.int 17711))]) :: (.lst [(.p (.int 28657))]) :: (.lst [(.p (.int 46368))]) :: (.lst [(.p (.int 75025))]) :: (.lst [(.p (.int 121393))]) :: (.lst [(.p (.int 196418))]) :: (.lst [(.p (.int 317811))]) :: (.lst [(.p (.int 514229))]) :: (.lst [(.p (.int 832040))]) :: (.lst [(.p (.int 1346269))]) :: (.lst [(.p (.int 2178309))]) :: (.lst [(.p (.int 3524578))]) :: (.lst [(.p (.int 5702887))]) :: (.lst [(.p (.int 9227465))]) :: (.lst [(.p (.int 14930352))]) :: (.lst [(.p (.int 24157817))]) :: (.lst [(.p (.int 39088169))]) :: (.lst [(.p (.int 63245986))]) :: (.lst [(.p (.int 102334155))]) :: (.lst [(.p (.int 165580141))]) :: (.lst [(.p (.int 267914296))]) :: (.lst [(.p (.int 433494437))]) :: (.lst [(.p (.int 701408733))]) :: (.lst [(.p (.int 1134903170))]) :: (.lst [(.p (.int 1836311903))]) :: (.lst [(.p (.int 2971215073))]) :: (.lst [(.p (.int 4807526976))]) :: (.lst [(.p (.int 7778742049))]) :: (.lst [(.p (.int 12586269025))]) :: (.lst [(.p (.int 20365011074))]) :: (.lst [(.p (.int 32951280099))]) :: (.lst [(.p (.int 53316291173))]) :: (.lst [(.p (.int 86267571272))]) :: (.lst [(.p (.int 139583862445))]) :: (.lst [(.p (.int 225851433717))]) :: (.lst [(.p (.int 365435296162))]) :: (.lst [(.p (.int 591286729879))]) :: (.lst [(.p (.int 956722026041))]) :: (.lst [(.p (.int 1548008755920))]) :: (.lst [(.p (.int 2504730781961))]) :: (.lst [(.p (.int 4052739537881))]) :: (.lst [(.p (.int 6557470319842))]) :: (.lst [(.p (.int 10610209857723))]) :: (.lst [(.p (.int 17167680177565))]) :: (.lst [(.p (.int 27777890035288))]) :: (.lst [(.p (.int 44945570212853))]) :: (.lst [(.p (.int 72723460248141))]) :: (.lst [(.p (.int 117669030460994))]) :: (.lst [(.p (.int 190392490709135))]) :: (.lst [(.p (.int 308061521170129))]) :: (.lst [(.p (.int 498454011879264))]) :: (.lst [(.p (.int 806515533049393))]) :: (.lst [(.p (.int 1304969544928657))]) :: (.lst [(.p (.int 2111485077978050))]) :: (.lst [(.p (.int 3416454622906707))]) :: (.lst [(.p (.int 5527939700884757))]) :: (.lst [(.p (.int 8944394323791464))]) :: (.lst [(.p (.int 14472334024676221))]) :: (.lst [(.p (.int 23416728348467685))]) :: (.lst [(.p (.int 37889062373143906))]) :: (.lst [(.p (.int 61305790721611591))]) :: (.lst [(.p (.int 99194853094755497))]) :: (.lst [(.p (.int 160500643816367088))]) :: (.lst [(.p (.int 259695496911122585))]) :: (.lst [(.p (.int 420196140727489673))]) :: (.lst [(.p (.int 679891637638612258))]) :: (.lst [(.p (.int 1100087778366101931))]) :: (.lst [(.p (.int 1779979416004714189))]) :: (.lst [(.p (.int 2880067194370816120))]) :: (.lst [(.p (.int 4660046610375530309))]) :: (.lst [(.p (.int 7540113804746346429))]) :: (.lst [(.p (.int 12200160415121876738))]) :: (.lst [(.p (.int 19740274219868223167))]) :: (.lst [(.p (.int 31940434634990099905))]) :: (.lst [(.p (.int 51680708854858323072))]) :: (.lst [(.p (.int 83621143489848422977))]) :: (.lst [(.p (.int 135301852344706746049))]) :: (.lst [(.p (.int 218922995834555169026))]) :: (.lst [(.p (.int 354224848179261915075))]) :: (.lst [(.p (.int 573147844013817084101))]) :: (.lst [(.p (.int 927372692193078999176))]) :: (.lst [(.p (.int 1500520536206896083277))]) :: (.lst [(.p (.int 2427893228399975082453))]) :: (.lst [(.p (.int 3928413764606871165730))]) :: (.lst [(.p (.int 6356306993006846248183))]) :: (.lst [(.p (.int 10284720757613717413913))]) :: (.lst [(.p (.int 16641027750620563662096))]) :: (.lst [(.p (.int 26925748508234281076009))]) :: (.lst [(.p (.int 43566776258854844738105))]) :: (.lst [(.p (.int 70492524767089125814114))]) :: (.lst [(.p (.int 114059301025943970552219))]) :: (.lst [(.p (.int 184551825793033096366333))]) :: (.lst [(.p (.int 298611126818977066918552))]) :: (.lst [(.p (.int 483162952612010163284885))]) :: (.lst [(.p (.int 781774079430987230203437))]) :: (.lst [(.p (.int 1264937032042997393488322))]) :: (.lst [(.p (.int 2046711111473984623691759))]) :: (.lst [(.p (.int 3311648143516982017180081))]) :: (.lst [(.p (.int 5358359254990966640871840))]) :: (.lst [(.p (.int 8670007398507948658051921))]) :: (.lst [(.p (.int 14028366653498915298923761))]) :: (.lst [(.p (.int 22698374052006863956975682))]) :: (.lst [(.p (.int 36726740705505779255899443))]) :: (.lst [(.p (.int 59425114757512643212875125))]) :: (.lst [(.p (.int 96151855463018422468774568))]) :: (.lst [(.p (.int 155576970220531065681649693))]) :: (.lst [(.p (.int 251728825683549488150424261))]) :: (.lst [(.p (.int 407305795904080553832073954))]) :: (.lst [(.p (.int 659034621587630041982498215))]) :: (.lst [(.p (.int 1066340417491710595814572169))]) :: (.lst [(.p (.int 1725375039079340637797070384))]) :: (.lst [(.p (.int 2791715456571051233611642553))]) :: (.lst [(.p (.int 4517090495650391871408712937))]) :: (.lst [(.p (.int 7308805952221443105020355490))]) :: (.lst [(.p (.int 11825896447871834976429068427))]) :: (.lst [(.p (.int 19134702400093278081449423917))]) :: (.lst [(.p (.int 30960598847965113057878492344))]) :: (.lst [(.p (.int 50095301248058391139327916261))]) :: (.lst [(.p (.int 81055900096023504197206408605))]) :: (.lst [(.p (.int 131151201344081895336534324866))]) :: (.lst [(.p (.int 212207101440105399533740733471))]) :: (.lst [(.p (.int 343358302784187294870275058337))]) :: (.lst [(.p (.int 555565404224292694404015791808))]) :: (.lst [(.p (.int 898923707008479989274290850145))]) :: (.lst [(.p (.int 1454489111232772683678306641953))]) :: (.lst [(.p (.int 2353412818241252672952597492098))]) :: (.lst [(.p (.int 3807901929474025356630904134051))]) :: (.lst [(.p (.int 6161314747715278029583501626149))]) :: (.lst [(.p (.int 9969216677189303386214405760200))]) :: (.lst [(.p (.int 16130531424904581415797907386349))]) :: (.lst [(.p (.int 26099748102093884802012313146549))]) :: (.lst [(.p (.int 42230279526998466217810220532898))]) :: (.lst [(.p (.int 68330027629092351019822533679447))]) :: (.lst [(.p (.int 110560307156090817237632754212345))]) :: (.lst [(.p (.int 178890334785183168257455287891792))]) :: (.lst [(.p (.int 289450641941273985495088042104137))]) :: (.lst [(.p (.int 468340976726457153752543329995929))]) :: (.lst [(.p (.int 757791618667731139247631372100066))]) :: (.lst [(.p (.int 1226132595394188293000174702095995))]) :: (.lst [(.p (.int 1983924214061919432247806074196061))]) :: (.lst [(.p (.int 3210056809456107725247980776292056))]) :: (.lst [(.p (.int 5193981023518027157495786850488117))]) :: (.lst [(.p (.int 8404037832974134882743767626780173))]) :: (.lst [(.p (.int 13598018856492162040239554477268290))]) :: (.lst [(.p (.int 22002056689466296922983322104048463))]) :: (.lst [(.p (.int 35600075545958458963222876581316753))]) :: (.lst [(.p (.int 57602132235424755886206198685365216))]) :: (.lst [(.p (.int 93202207781383214849429075266681969))]) :: (.lst [(.p (.int 150804340016807970735635273952047185))]) :: (.lst [(.p (.int 244006547798191185585064349218729154))]) :: (.lst [(.p (.int 394810887814999156320699623170776339))]) :: (.lst [(.p (.int 638817435613190341905763972389505493))]) :: (.lst [(.p (.int 1033628323428189498226463595560281832))]) :: (.lst [(.p (.int 1672445759041379840132227567949787325))]) :: (.lst [(.p (.int 2706074082469569338358691163510069157))]) :: (.lst [(.p (.int 4378519841510949178490918731459856482))]) :: (.lst [(.p (.int 7084593923980518516849609894969925639))]) :: (.lst [(.p (.int 11463113765491467695340528626429782121))]) :: (.lst [(.p (.int 18547707689471986212190138521399707760))]) :: (.lst [(.p (.int 30010821454963453907530667147829489881))]) :: (.lst [(.p (.int 48558529144435440119720805669229197641))]) :: (.lst [(.p (.int 78569350599398894027251472817058687522))]) :: (.lst [(.p (.int 127127879743834334146972278486287885163))]) :: (.lst [(.p (.int 205697230343233228174223751303346572685))]) :: (.lst [(.p (.int 332825110087067562321196029789634457848))]) :: (.lst [(.p (.int 538522340430300790495419781092981030533))]) :: (.lst [(.p (.int 871347450517368352816615810882615488381))]) :: (.lst [(.p (.int 1409869790947669143312035591975596518914))]) :: (.lst [(.p (.int 2281217241465037496128651402858212007295))]) :: (.lst [(.p (.int 3691087032412706639440686994833808526209))]) :: (.lst [(.p (.int 5972304273877744135569338397692020533504))]) :: (.lst [(.p (.int 9663391306290450775010025392525829059713))]) :: (.lst [(.p (.int 15635695580168194910579363790217849593217))]) :: (.lst [(.p (.int 25299086886458645685589389182743678652930))]) :: (.lst [(.p (.int 40934782466626840596168752972961528246147))]) :: (.lst [(.p (.int 66233869353085486281758142155705206899077))]) :: (.lst [(.p (.int 107168651819712326877926895128666735145224))]) :: (.lst [(.p (.int 173402521172797813159685037284371942044301))]) :: (.lst [(.p (.int 280571172992510140037611932413038677189525))]) :: (.lst [(.p (.int 453973694165307953197296969697410619233826))]) :: (.lst [(.p (.int 734544867157818093234908902110449296423351))]) :: (.lst [(.p (.int 1188518561323126046432205871807859915657177))]) :: (.lst [(.p (.int 1923063428480944139667114773918309212080528))]) :: (.lst [(.p (.int 3111581989804070186099320645726169127737705))]) :: (.lst [(.p (.int 5034645418285014325766435419644478339818233))]) :: (.lst [(.p (.int 8146227408089084511865756065370647467555938))]) :: (.lst [(.p (.int 13180872826374098837632191485015125807374171))]) :: (.lst [(.p (.int 21327100234463183349497947550385773274930109))]) :: (.lst [(.p (.int 34507973060837282187130139035400899082304280))]) :: (.lst [(.p (.int 55835073295300465536628086585786672357234389))]) :: (.lst [(.p (.int 90343046356137747723758225621187571439538669))]) :: (.lst [(.p (.int 146178119651438213260386312206974243796773058))]) :: (.lst [(.p (.int 236521166007575960984144537828161815236311727))]) :: (.lst [(.p (.int 382699285659014174244530850035136059033084785))]) :: (.lst [(.p (.int 619220451666590135228675387863297874269396512))]) :: (.lst [(.p (.int 1001919737325604309473206237898433933302481297))]) :: (.lst [(.p (.int 1621140188992194444701881625761731807571877809))]) :: (.lst [(.p (.int 2623059926317798754175087863660165740874359106))]) :: (.lst [(.p (.int 4244200115309993198876969489421897548446236915))]) :: (.lst [(.p (.int 6867260041627791953052057353082063289320596021))]) :: (.lst [(.p (.int 11111460156937785151929026842503960837766832936))]) :: (.lst [(.p (.int 17978720198565577104981084195586024127087428957))]) :: (.lst [(.p (.int 29090180355503362256910111038089984964854261893))]) :: (.lst [(.p (.int 47068900554068939361891195233676009091941690850))]) :: (.lst [(.p (.int 76159080909572301618801306271765994056795952743))]) :: (.lst [(.p (.int 123227981463641240980692501505442003148737643593))]) :: (.lst [(.p (.int 199387062373213542599493807777207997205533596336))]) :: (.lst [(.p (.int 322615043836854783580186309282650000354271239929))]) :: (.lst [(.p (.int 522002106210068326179680117059857997559804836265))]) :: (.lst [(.p (.int 844617150046923109759866426342507997914076076194))]) :: (.lst [(.p (.int 1366619256256991435939546543402365995473880912459))]) :: (.lst [(.p (.int 2211236406303914545699412969744873993387956988653))]) :: (.lst [(.p (.int 3577855662560905981638959513147239988861837901112))]) :: (.lst [(.p (.int 5789092068864820527338372482892113982249794889765))]) :: (.lst [(.p (.int 9366947731425726508977331996039353971111632790877))]) :: (.lst [(.p (.int 15156039800290547036315704478931467953361427680642))]) :: (.lst [(.p (.int 24522987531716273545293036474970821924473060471519))]) :: (.lst [(.p (.int 39679027332006820581608740953902289877834488152161))]) :: (.lst [(.p (.int 64202014863723094126901777428873111802307548623680))]) :: (.lst [(.p (.int 103881042195729914708510518382775401680142036775841))]) :: (.lst [(.p (.int 168083057059453008835412295811648513482449585399521))]) :: (.lst [(.p (.int 271964099255182923543922814194423915162591622175362))]) :: (.lst [(.p (.int 440047156314635932379335110006072428645041207574883))]) :: (.lst [(.p (.int 712011255569818855923257924200496343807632829750245))]) :: (.lst [(.p (.int 1152058411884454788302593034206568772452674037325128))]) :: (.lst [(.p (.int 1864069667454273644225850958407065116260306867075373))]) :: (.lst [(.p (.int 3016128079338728432528443992613633888712980904400501))]) :: (.lst [(.p (.int 4880197746793002076754294951020699004973287771475874))]) :: (.lst [(.p (.int 7896325826131730509282738943634332893686268675876375))]) :: (.lst [(.p (.int 12776523572924732586037033894655031898659556447352249))]) :: (.lst [(.p (.int 20672849399056463095319772838289364792345825123228624))]) :: (.lst [(.p (.int 33449372971981195681356806732944396691005381570580873))]) :: (.lst [(.p (.int 54122222371037658776676579571233761483351206693809497))]) :: (.lst [(.p (.int 87571595343018854458033386304178158174356588264390370))]) :: (.lst [(.p (.int 141693817714056513234709965875411919657707794958199867))]) :: (.lst [(.p (.int 229265413057075367692743352179590077832064383222590237))]) :: (.lst [(.p (.int 370959230771131880927453318055001997489772178180790104))]) :: (.lst [(.p (.int 600224643828207248620196670234592075321836561403380341))]) :: (.lst [(.p (.int 971183874599339129547649988289594072811608739584170445))]) :: (.lst [(.p (.int 1571408518427546378167846658524186148133445300987550786))]) :: (.lst [(.p (.int 2542592393026885507715496646813780220945054040571721231))]) :: (.lst [(.p (.int 4114000911454431885883343305337966369078499341559272017))]) :: (.lst [(.p (.int 6656593304481317393598839952151746590023553382130993248))]) :: (.lst [(.p (.int 10770594215935749279482183257489712959102052723690265265))]) :: (.lst [(.p (.int 17427187520417066673081023209641459549125606105821258513))]) :: (.lst [(.p (.int 28197781736352815952563206467131172508227658829511523778))]) :: (.lst [(.p (.int 45624969256769882625644229676772632057353264935332782291))]) :: (.lst [(.p (.int 73822750993122698578207436143903804565580923764844306069))]) :: (.lst [(.p (.int 119447720249892581203851665820676436622934188700177088360))]) :: (.lst [(.p (.int 193270471243015279782059101964580241188515112465021394429))]) :: (.lst [(.p (.int 312718191492907860985910767785256677811449301165198482789))]) :: (.lst [(.p (.int 505988662735923140767969869749836918999964413630219877218))]) :: (.lst [(.p (.int 818706854228831001753880637535093596811413714795418360007))]) :: (.lst [(.p (.int 1324695516964754142521850507284930515811378128425638237225))]) :: (.lst [(.p (.int 2143402371193585144275731144820024112622791843221056597232))]) :: (.lst [(.p (.int 3468097888158339286797581652104954628434169971646694834457))]) :: [(.lst [(.p (.int 5611500259351924431073312796924978741056961814867751431689))]), (.lst [(.p (.int 9079598147510263717870894449029933369491131786514446266146))]), (.lst [(.p (.int 14691098406862188148944207245954912110548093601382197697835))]), (.lst [(.p (.int 23770696554372451866815101694984845480039225387896643963981))]), (.lst [(.p (.int 38461794961234640015759308940939757590587318989278841661816))]), (.lst [(.p (.int 62232491515607091882574410635924603070626544377175485625797))]), (.lst [(.p (.int 100694286476841731898333719576864360661213863366454327287613))]), (.lst [(.p (.int 162926777992448823780908130212788963731840407743629812913410))]), (.lst [(.p (.int 263621064469290555679241849789653324393054271110084140201023))]), (.lst [(.p (.int 426547842461739379460149980002442288124894678853713953114433))]), (.lst [(.p (.int 690168906931029935139391829792095612517948949963798093315456))]), (.lst [(.p (.int 1116716749392769314599541809794537900642843628817512046429889))]), (.lst [(.p (.int 1806885656323799249738933639586633513160792578781310139745345))]), (.lst [(.p (.int 2923602405716568564338475449381171413803636207598822186175234))]), (.lst [(.p (.int 4730488062040367814077409088967804926964428786380132325920579))]), (.lst [(.p (.int 7654090467756936378415884538348976340768064993978954512095813))]), (.lst [(.p (.int 12384578529797304192493293627316781267732493780359086838016392))]), (.lst [(.p (.int 20038668997554240570909178165665757608500558774338041350112205))]), (.lst [(.p (.int 32423247527351544763402471792982538876233052554697128188128597))]), (.lst [(.p (.int 52461916524905785334311649958648296484733611329035169538240802))]), (.lst [(.p (.int 84885164052257330097714121751630835360966663883732297726369399))]), (.lst [(.p (.int 137347080577163115432025771710279131845700275212767467264610201))]), (.lst [(.p (.int 222232244629420445529739893461909967206666939096499764990979600))]), (.lst [(.p (.int 359579325206583560961765665172189099052367214309267232255589801))])])
def sumsS : List D := ((.p (.int 1)) :: (.p (.int 2)) :: (.p (.int 4)) :: (.p (.int 7)) :: (.p (.int 12)) :: (.p (.int 20)) :: (.p (.int 33)) :: (.p (.int 54)) :: (.p (.int 88)) :: (.p (.int 143)) :: (.p (.int 232)) :: (.p (.int 376)) :: (.p (.int 609)) :: (.p (.int 986)) :: (.p (.int 1596)) :: (.p (.int 2583)) :: (.p (.int 4180)) :: (.p (.int 6764)) :: (.p (.int 10945)) :: (.p (.int 17710)) :: (.p (.int 28656)) :: (.p (.int 46367)) :: (.p (.int 75024)) :: (.p (.int 121392)) :: (.p (.int 196417)) :: (.p (.int 317810)) :: (.p (.int 514228)) :: (.p (.int 832039)) :: (.p (.int 1346268)) :: (.p (.int 2178308)) :: (.p (.int 3524577)) :: (.p (.int 5702886)) :: (.p (.int 9227464)) :: (.p (.int 14930351)) :: (.p (.int 24157816)) :: (.p (.int 39088168)) :: (.p (.int 63245985)) :: (.p (.int 102334154)) :: (.p (.int 165580140)) :: (.p (.int 267914295)) :: (.p (.int 433494436)) :: (.p (.int 701408732)) :: (.p (.int 1134903169)) :: (.p (.int 1836311902)) :: (.p (.int 2971215072)) :: (.p (.int 4807526975)) :: (.p (.int 7778742048)) :: (.p (.int 12586269024)) :: (.p (.int 20365011073)) :: (.p (.int 32951280098)) :: (.p (.int 53316291172)) :: (.p (.int 86267571271)) :: (.p (.int 139583862444)) :: (.p (.int 225851433716)) :: (.p (.int 365435296161)) :: (.p (.int 591286729878)) :: (.p (.int 956722026040)) :: (.p (.int 1548008755919)) :: (.p (.int 2504730781960)) :: (.p (.int 4052739537880)) :: (.p (.int 6557470319841)) :: (.p (.int 10610209857722)) :: (.p (.int 17167680177564)) :: (.p (.int 27777890035287)) :: (.p (.int 44945570212852)) :: (.p (.int 72723460248140)) :: (.p (.int 117669030460993)) :: (.p (.int 190392490709134)) :: (.p (.int 308061521170128)) :: (.p (.int 498454011879263)) :: (.p (.int 806515533049392)) :: (.p (.int 1304969544928656)) :: (.p (.int 2111485077978049)) :: (.p (.int 3416454622906706)) :: (.p (.int 5527939700884756)) :: (.p (.int 8944394323791463)) :: (.p (.int 14472334024676220)) :: (.p (.int 23416728348467684)) :: (.p (.int 37889062373143905)) :: (.p (.int 61305790721611590)) :: (.p (.int 99194853094755496)) :: (.p (.int 160500643816367087)) :: (.p (.int 259695496911122584)) :: (.p (.int 420196140727489672)) :: (.p (.int 679891637638612257)) :: (.p (.int 1100087778366101930)) :: (.p (.int 1779979416004714188)) :: (.p (.int 2880067194370816119)) :: (.p (.int 4660046610375530308)) :: (.p (.int 7540113804746346428)) :: (.p (.int 12200160415121876737)) :: (.p (.int 19740274219868223166)) :: (.p (.int 31940434634990099904)) :: (.p (.int 51680708854858323071)) :: (.p (.int 83621143489848422976)) :: (.p (.int 135301852344706746048)) :: (.p (.int 218922995834555169025)) :: (.p (.int 354224848179261915074)) :: (.p (.int 573147844013817084100)) :: (.p (.int 927372692193078999175)) :: (.p (.int 1500520536206896083276)) :: (.p (.int 2427893228399975082452)) :: (.p (.int 3928413764606871165729)) :: (.p (.int 6356306993006846248182)) :: (.p (.int 10284720757613717413912)) :: (.p (.int 16641027750620563662095)) :: (.p (.int 26925748508234281076008)) :: (.p (.int 43566776258854844738104)) :: (.p (.int 70492524767089125814113)) :: (.p (.int 114059301025943970552218)) :: (.p (.int 184551825793033096366332)) :: (.p (.int 298611126818977066918551)) :: (.p (.int 483162952612010163284884)) :: (.p (.int 781774079430987230203436)) :: (.p (.int 1264937032042997393488321)) :: (.p (.int 2046711111473984623691758)) :: (.p (.int 3311648143516982017180080)) :: (.p (.int 5358359254990966640871839)) :: (.p (.int 8670007398507948658051920)) :: (.p (.int 14028366653498915298923760)) :: (.p (.int 22698374052006863956975681)) :: (.p (.int 36726740705505779255899442)) :: (.p (.int 59425114757512643212875124)) :: (.p (.int 96151855463018422468774567)) :: (.p (.int 155576970220531065681649692)) :: (.p (.int 251728825683549488150424260)) :: (.p (.int 407305795904080553832073953)) :: (.p (.int 659034621587630041982498214)) :: (.p (.int 1066340417491710595814572168)) :: (.p (.int 1725375039079340637797070383)) :: (.p (.int 2791715456571051233611642552)) :: (.p (.int 4517090495650391871408712936)) :: (.p (.int 7308805952221443105020355489)) :: (.p (.int 11825896447871834976429068426)) :: (.p (.int 19134702400093278081449423916)) :: (.p (.int 30960598847965113057878492343)) :: (.p (.int 50095301248058391139327916260)) :: (.p (.int 81055900096023504197206408604)) :: (.p (.int 131151201344081895336534324865)) :: (.p (.int 212207101440105399533740733470)) :: (.p (.int 343358302784187294870275058336)) :: (.p (.int 555565404224292694404015791807)) :: (.p (.int 898923707008479989274290850144)) :: (.p (.int 1454489111232772683678306641952)) :: (.p (.int 2353412818241252672952597492097)) :: (.p (.int 3807901929474025356630904134050)) :: (.p (.int 6161314747715278029583501626148)) :: (.p (.int 9969216677189303386214405760199)) :: (.p (.int 16130531424904581415797907386348)) :: (.p (.int 26099748102093884802012313146548)) :: (.p (.int 42230279526998466217810220532897)) :: (.p (.int 68330027629092351019822533679446)) :: (.p (.int 110560307156090817237632754212344)) :: (.p (.int 178890334785183168257455287891791)) :: (.p (.int 289450641941273985495088042104136)) :: (.p (.int 468340976726457153752543329995928)) :: (.p (.int 757791618667731139247631372100065)) :: (.p (.int 1226132595394188293000174702095994)) :: (.p (.int 1983924214061919432247806074196060)) :: (.p (.int 3210056809456107725247980776292055)) :: (.p (.int 5193981023518027157495786850488116)) :: (.p (.int 8404037832974134882743767626780172)) :: (.p (.int 13598018856492162040239554477268289)) :: (.p (.int 22002056689466296922983322104048462)) :: (.p (.int 35600075545958458963222876581316752)) :: (.p (.int 57602132235424755886206198685365215)) :: (.p (.int 93202207781383214849429075266681968)) :: (.p (.int 150804340016807970735635273952047184)) :: (.p (.int 244006547798191185585064349218729153)) :: (.p (.int 394810887814999156320699623170776338)) :: (.p (.int 638817435613190341905763972389505492)) :: (.p (.int 1033628323428189498226463595560281831)) :: (.p (.int 1672445759041379840132227567949787324)) :: (.p (.int 2706074082469569338358691163510069156)) :: (.p (.int 4378519841510949178490918731459856481)) :: (.p (.int 7084593923980518516849609894969925638)) :: (.p (.int 11463113765491467695340528626429782120)) :: (.p (.int 18547707689471986212190138521399707759)) :: (.p (.int 30010821454963453907530667147829489880)) :: (.p (.int 48558529144435440119720805669229197640)) :: (.p (.int 78569350599398894027251472817058687521)) :: (.p (.int 127127879743834334146972278486287885162)) :: (.p (.int 205697230343233228174223751303346572684)) :: (.p (.int 332825110087067562321196029789634457847)) :: (.p (.int 538522340430300790495419781092981030532)) :: (.p (.int 871347450517368352816615810882615488380)) :: (.p (.int 1409869790947669143312035591975596518913)) :: (.p (.int 2281217241465037496128651402858212007294)) :: (.p (.int 3691087032412706639440686994833808526208)) :: (.p (.int 5972304273877744135569338397692020533503)) :: (.p (.int 9663391306290450775010025392525829059712)) :: (.p (.int 15635695580168194910579363790217849593216)) :: (.p (.int 25299086886458645685589389182743678652929)) :: (.p (.int 40934782466626840596168752972961528246146)) :: (.p (.int 66233869353085486281758142155705206899076)) :: (.p (.int 107168651819712326877926895128666735145223)) :: (.p (.int 173402521172797813159685037284371942044300)) :: (.p (.int 280571172992510140037611932413038677189524)) :: (.p (.int 453973694165307953197296969697410619233825)) :: (.p (.int 734544867157818093234908902110449296423350)) :: (.p (.int 1188518561323126046432205871807859915657176)) :: (.p (.int 1923063428480944139667114773918309212080527)) :: (.p (.int 3111581989804070186099320645726169127737704)) :: (.p (.int 5034645418285014325766435419644478339818232)) :: (.p (.int 8146227408089084511865756065370647467555937)) :: (.p (.int 13180872826374098837632191485015125807374170)) :: (.p (.int 21327100234463183349497947550385773274930108)) :: (.p (.int 34507973060837282187130139035400899082304279)) :: (.p (.int 55835073295300465536628086585786672357234388)) :: (.p (.int 90343046356137747723758225621187571439538668)) :: (.p (.int 146178119651438213260386312206974243796773057)) :: (.p (.int 236521166007575960984144537828161815236311726)) :: (.p (.int 382699285659014174244530850035136059033084784)) :: (.p (.int 619220451666590135228675387863297874269396511)) :: (.p (.int 1001919737325604309473206237898433933302481296)) :: (.p (.int 1621140188992194444701881625761731807571877808)) :: (.p (.int 2623059926317798754175087863660165740874359105)) :: (.p (.int 4244200115309993198876969489421897548446236914)) :: (.p (.int 6867260041627791953052057353082063289320596020)) :: (.p (.int 11111460156937785151929026842503960837766832935)) :: (.p (.int 17978720198565577104981084195586024127087428956)) :: (.p (.int 29090180355503362256910111038089984964854261892)) :: (.p (.int 47068900554068939361891195233676009091941690849)) :: (.p (.int 76159080909572301618801306271765994056795952742)) :: (.p (.int 123227981463641240980692501505442003148737643592)) :: (.p (.int 199387062373213542599493807777207997205533596335)) :: (.p (.int 322615043836854783580186309282650000354271239928)) :: (.p (.int 522002106210068326179680117059857997559804836264)) :: (.p (.int 844617150046923109759866426342507997914076076193)) :: (.p (.int 1366619256256991435939546543402365995473880912458)) :: (.p (.int 2211236406303914545699412969744873993387956988652)) :: (.p (.int 3577855662560905981638959513147239988861837901111)) :: (.p (.int 5789092068864820527338372482892113982249794889764)) :: (.p (.int 9366947731425726508977331996039353971111632790876)) :: (.p (.int 15156039800290547036315704478931467953361427680641)) :: (.p (.int 24522987531716273545293036474970821924473060471518)) :: (.p (.int 39679027332006820581608740953902289877834488152160)) :: (.p (.int 64202014863723094126901777428873111802307548623679)) :: (.p (.int 103881042195729914708510518382775401680142036775840)) :: (.p (.int 168083057059453008835412295811648513482449585399520)) :: (.p (.int 271964099255182923543922814194423915162591622175361)) :: (.p (.int 440047156314635932379335110006072428645041207574882)) :: (.p (.int 712011255569818855923257924200496343807632829750244)) :: (.p (.int 1152058411884454788302593034206568772452674037325127)) :: (.p (.int 1864069667454273644225850958407065116260306867075372)) :: (.p (.int 3016128079338728432528443992613633888712980904400500)) :: (.p (.int 4880197746793002076754294951020699004973287771475873)) :: (.p (.int 7896325826131730509282738943634332893686268675876374)) :: (.p (.int 12776523572924732586037033894655031898659556447352248)) :: (.p (.int 20672849399056463095319772838289364792345825123228623)) :: (.p (.int 33449372971981195681356806732944396691005381570580872)) :: (.p (.int 54122222371037658776676579571233761483351206693809496)) :: (.p (.int 87571595343018854458033386304178158174356588264390369)) :: (.p (.int 141693817714056513234709965875411919657707794958199866)) :: (.p (.int 229265413057075367692743352179590077832064383222590236)) :: (.p (.int 370959230771131880927453318055001997489772178180790103)) :: (.p (.int 600224643828207248620196670234592075321836561403380340)) :: (.p (.int 971183874599339129547649988289594072811608739584170444)) :: (.p (.int 1571408518427546378167846658524186148133445300987550785)) :: (.p (.int 2542592393026885507715496646813780220945054040571721230)) :: (.p (.int 4114000911454431885883343305337966369078499341559272016)) :: (.p (.int 6656593304481317393598839952151746590023553382130993247)) :: (.p (.int 10770594215935749279482183257489712959102052723690265264)) :: (.p (.int 17427187520417066673081023209641459549125606105821258512)) :: (.p (.int 28197781736352815952563206467131172508227658829511523777)) :: (.p (.int 45624969256769882625644229676772632057353264935332782290)) :: (.p (.int 73822750993122698578207436143903804565580923764844306068)) :: (.p (.int 119447720249892581203851665820676436622934188700177088359)) :: (.p (.int 193270471243015279782059101964580241188515112465021394428)) :: (.p (.int 312718191492907860985910767785256677811449301165198482788)) :: (.p (.int 505988662735923140767969869749836918999964413630219877217)) :: (.p (.int 818706854228831001753880637535093596811413714795418360006)) :: (.p (.int 1324695516964754142521850507284930515811378128425638237224)) :: (.p (.int 2143402371193585144275731144820024112622791843221056597231)) :: (.p (.int 3468097888158339286797581652104954628434169971646694834456)) :: (.p (.int 5611500259351924431073312796924978741056961814867751431688)) :: (.p (.int 9079598147510263717870894449029933369491131786514446266145)) :: [(.p (.int 14691098406862188148944207245954912110548093601382197697834)), (.p (.int 23770696554372451866815101694984845480039225387896643963980)), (.p (.int 38461794961234640015759308940939757590587318989278841661815)), (.p (.int 62232491515607091882574410635924603070626544377175485625796)), (.p (.int 100694286476841731898333719576864360661213863366454327287612)), (.p (.int 162926777992448823780908130212788963731840407743629812913409)), (.p (.int 263621064469290555679241849789653324393054271110084140201022)), (.p (.int 426547842461739379460149980002442288124894678853713953114432)), (.p (.int 690168906931029935139391829792095612517948949963798093315455)), (.p (.int 1116716749392769314599541809794537900642843628817512046429888)), (.p (.int 1806885656323799249738933639586633513160792578781310139745344)), (.p (.int 2923602405716568564338475449381171413803636207598822186175233)), (.p (.int 4730488062040367814077409088967804926964428786380132325920578)), (.p (.int 7654090467756936378415884538348976340768064993978954512095812)), (.p (.int 12384578529797304192493293627316781267732493780359086838016391)), (.p (.int 20038668997554240570909178165665757608500558774338041350112204)), (.p (.int 32423247527351544763402471792982538876233052554697128188128596)), (.p (.int 52461916524905785334311649958648296484733611329035169538240801)), (.p (.int 84885164052257330097714121751630835360966663883732297726369398)), (.p (.int 137347080577163115432025771710279131845700275212767467264610200)), (.p (.int 222232244629420445529739893461909967206666939096499764990979599)), (.p (.int 359579325206583560961765665172189099052367214309267232255589800)), (.p (.int 581811569836004006491505558634099066259034153405766997246569400)), (.p (.int 941390895042587567453271223806288165311401367715034229502159201))])
/-! ### ways_within of the row, 300 far -/
def wB : List S := f_ways_within.body
def wF : List S := match wB.getD 2 .nvr with | .for _ _ _ b => b | _ => []
def wBody (C : Cl) (e : Ev.Env) (s : Sto) : RS := Ev.execs C [1, 0, 0] TURNS wF e s
def wE (k : Nat) : Ev.Env := [some (.p rowP), some (.p (.int 300)), some (.ref 1), some (.p (.int k)), some (.p (.list [.tuple [.tuple [.int 0, .tuple [.int 0]], .tuple [.int 0, .tuple [.int 0, .int 0]]]])), some (.p (.tuple [.int 0])),
  some (.ref (k + 2)), some (.p (.int 0)), some (.p (.tuple [.tuple [.int 0, .tuple [.int 0]], .tuple [.int 0, .tuple [.int 0, .int 0]]])), some (.p (.int 0)), some (.p (.tuple [.int 0, .int 0]))]
def wS (z : List D) (k : Nat) : Sto := .lst z :: .lst (refs.take (k + 1)) :: objs.take (k + 1)
def wE0 : Ev.Env := [some (.p rowP), some (.p (.int 300)), some (.ref 1), none, some (.p (.list [.tuple [.tuple [.int 0, .tuple [.int 0]], .tuple [.int 0, .tuple [.int 0, .int 0]]]])), some (.p (.tuple [.int 0])), none, none, none, none, none]
theorem w1 (z : List D) : Ev.execs (callK tab 98) [1, 0, 0] TURNS (wB.take 2) (startE [.p rowP, .p (.int 300)] 11) [.lst z] = .nx wE0 [.lst z, .lst []] := by kernel_rfl
theorem exec_for (C : Cl) (bs : List Nat) (fl : Nat) (tg : Tg) (kd : Nat) (src : List E) (body : List S) (env : Ev.Env) (st : Sto) : Ev.exec C bs fl (.for tg kd src body) env st = (evs C bs env src st).to env fun ds st1 => match walkF kd ds st1 with
    | none => .stuck
    | some its => forRun tg (fun env' st' => Ev.execs C bs fl body env' st') its.1 env its.2 := rfl
theorem execs1 {C : Cl} {bs : List Nat} {fl : Nat} {x : S} {env : Ev.Env} {st : Sto} : Ev.execs C bs fl [x] env st = Ev.exec C bs fl x env st := by
  show (match Ev.exec C bs fl x env st with | .nx e s => Ev.execs C bs fl [] e s | r => r) = _
  cases Ev.exec C bs fl x env st <;> rfl
theorem for_of {C : Cl} {bs : List Nat} {fl : Nat} {tg : Tg} {kd : Nat} {src : List E} {body : List S} {env : Ev.Env} {st st1 : Sto} {ds : List D} {its : List (List D)} (e : evs C bs env src st = .ok ds st1) (hw : walkF kd ds st1 = some (.fix its, st1)) :
    Ev.exec C bs fl (.for tg kd src body) env st = forLoop tg (fun env' st' => Ev.execs C bs fl body env' st') its env st1 := by
  rw [exec_for, e]
  show (match walkF kd ds st1 with
    | none => RS.stuck
    | some its => forRun tg (fun env' st' => Ev.execs C bs fl body env' st') its.1 env its.2) = _
  rw [hw]
  rfl
theorem w2 (C : Cl) (z : List D) : Ev.execs C [1, 0, 0] TURNS ((wB.drop 2).take 1) wE0 [.lst z, .lst []] = forLoop (.name 3) (wBody C) (rangeFrom 0 301) wE0 [.lst z, .lst []] := by
  have hs : (wB.drop 2).take 1 = [.for (.name 3) 1 [.op (.add false) [.var 1, .cst (.int 1)]] wF] := rfl
  have e : evs C [1, 0, 0] wE0 [.op (.add false) [.var 1, .cst (.int 1)]] [.lst z, .lst []] = .ok [.p (.int 301)] [.lst z, .lst []] := by kernel_rfl
  have hw : walkF 1 [.p (.int 301)] [.lst z, .lst []] = some (.fix (rangeFrom 0 301), [.lst z, .lst []]) := by kernel_rfl
  rw [hs, execs1, for_of e hw]
  generalize rangeFrom 0 301 = its
  rfl
theorem w3_0 (z : List D) : forG (.name 3) (wBody (callK tab 98)) (rangeFrom 0 60) wE0 [.lst z, .lst []] = some (wE 59, wS z 59) := by kernel_rfl
theorem w3_1 (z : List D) : forG (.name 3) (wBody (callK tab 98)) (rangeFrom 60 60) (wE 59) (wS z 59) = some (wE 119, wS z 119) := by kernel_rfl
theorem w3_2 (z : List D) : forG (.name 3) (wBody (callK tab 98)) (rangeFrom 120 50) (wE 119) (wS z 119) = some (wE 169, wS z 169) := by kernel_rfl
theorem w3_3 (z : List D) : forG (.name 3) (wBody (callK tab 98)) (rangeFrom 170 40) (wE 169) (wS z 169) = some (wE 209, wS z 209) := by kernel_rfl
theorem w3_4 (z : List D) : forG (.name 3) (wBody (callK tab 98)) (rangeFrom 210 40) (wE 209) (wS z 209) = some (wE 249, wS z 249) := by kernel_rfl
theorem w3_5 (z : List D) : forG (.name 3) (wBody (callK tab 98)) (rangeFrom 250 30) (wE 249) (wS z 249) = some (wE 279, wS z 279) := by kernel_rfl
theorem w3_6 (z : List D) : forG (.name 3) (wBody (callK tab 98)) (rangeFrom 280 21) (wE 279) (wS z 279) = some (wE 300, wS z 300) := by kernel_rfl
theorem w4 (z : List D) : Ev.execs (callK tab 98) [1, 0, 0] TURNS (wB.drop 3) (wE 300) (wS z 300) = .rt (.p (.int 941390895042587567453271223806288165311401367715034229502159201)) (wS z 300) := by kernel_rfl
theorem ways (z : List D) : callK tab 99 [0, 0] 39 [.p rowP, .p (.int 300)] [.lst z] = .ok (.p (.int 941390895042587567453271223806288165311401367715034229502159201)) [.lst z] := by
  have t : callK tab 99 [0, 0] 39 [.p rowP, .p (.int 300)] [.lst z] = back 0 1 (Ev.execs (callK tab 98) [1, 0, 0] TURNS wB (startE [.p rowP, .p (.int 300)] 11) [.lst z]) := call0 (h := rfl) rfl
  rw [t]
  have hB : wB = wB.take 2 ++ ((wB.drop 2).take 1 ++ wB.drop 3) := rfl
  rw [hB, app_nx (w1 z)]
  have r : rangeFrom 0 301 = rangeFrom 0 60 ++ (rangeFrom 60 60 ++ (rangeFrom 120 50 ++ (rangeFrom 170 40 ++ (rangeFrom 210 40 ++ (rangeFrom 250 30 ++ (rangeFrom 280 21 ++ [])))))) := by
    have q0 : rangeFrom 0 301 = rangeFrom 0 60 ++ rangeFrom 60 241 := range_at (by decide) (by decide)
    have q1 : rangeFrom 60 241 = rangeFrom 60 60 ++ rangeFrom 120 181 := range_at (by decide) (by decide)
    have q2 : rangeFrom 120 181 = rangeFrom 120 50 ++ rangeFrom 170 131 := range_at (by decide) (by decide)
    have q3 : rangeFrom 170 131 = rangeFrom 170 40 ++ rangeFrom 210 91 := range_at (by decide) (by decide)
    have q4 : rangeFrom 210 91 = rangeFrom 210 40 ++ rangeFrom 250 51 := range_at (by decide) (by decide)
    have q5 : rangeFrom 250 51 = rangeFrom 250 30 ++ rangeFrom 280 21 := range_at (by decide) (by decide)
    rw [q0, q1, q2, q3, q4, q5, List.append_nil]
  have loop : forLoop (.name 3) (wBody (callK tab 98)) (rangeFrom 0 301) wE0 [.lst z, .lst []] = .nx (wE 300) (wS z 300) := by
    rw [r, forG_app (w3_0 z), forG_app (w3_1 z), forG_app (w3_2 z), forG_app (w3_3 z), forG_app (w3_4 z), forG_app (w3_5 z), forG_app (w3_6 z)]
    rfl
  have l2 : Ev.execs (callK tab 98) [1, 0, 0] TURNS ((wB.drop 2).take 1) wE0 [.lst z, .lst []] = .nx (wE 300) (wS z 300) := by rw [w2, loop]
  rw [app_nx l2, w4]
  rfl
/-! ### calls_within of the fork, 300 far -/
def aP : PyData := .tuple [.tuple [.int 0, .tuple []], .tuple [.int 0, .tuple [.int 0, .int 1]], .tuple [.int 0, .tuple [.int 1, .int 0]]]
def bP : PyData := .tuple [.tuple [.int 0, .tuple [.int 1]]]
def gP : PyData := .tuple [.tuple [.int 0, .tuple [.int 0]]]
def T : Sto := [.dtn [(aP, .p (.list [.tuple [.int 0, bP], .tuple [.int 1, gP]])), (gP, .p (.list [.tuple [.int 0, aP]])), (bP, .p (.list [.tuple [.int 1, aP]]))], .lst [], .tpl [.p aP, .ref 0]]
def tots : List D := ((.p (.int 1)) :: (.p (.int 1)) :: (.p (.int 3)) :: (.p (.int 3)) :: (.p (.int 7)) :: (.p (.int 7)) :: (.p (.int 15)) :: (.p (.int 15)) :: (.p (.int 31)) :: (.p (.int 31)) :: (.p (.int 63)) :: (.p (.int 63)) :: (.p (.int 127)) :: (.p (.int 127)) :: (.p (.int 255)) :: (.p (.int 255)) :: (.p (.int 511)) :: (.p (.int 511)) :: (.p (.int 1023)) :: (.p (.int 1023)) :: (.p (.int 2047)) :: (.p (.int 2047)) :: (.p (.int 4095)) :: (.p (.int 4095)) :: (.p (.int 8191)) :: (.p (.int 8191)) :: (.p (.int 16383)) :: (.p (.int 16383)) :: (.p (.int 32767)) :: (.p (.int 32767)) :: (.p (.int 65535)) :: (.p (.int 65535)) :: (.p (.int 131071)) :: (.p (.int 131071)) :: (.p (.int 262143)) :: (.p (.int 262143)) :: (.p (.int 524287)) :: (.p (.int 524287)) :: (.p (.int 1048575)) :: (.p (.int 1048575)) :: (.p (.int 2097151)) :: (.p (.int 2097151)) :: (.p (.int 4194303)) :: (.p (.int 4194303)) :: (.p (.int 8388607)) :: (.p (.int 8388607)) :: (.p (.int 16777215)) :: (.p (.int 16777215)) :: (.p (.int 33554431)) :: (.p (.int 33554431)) :: (.p (.int 67108863)) :: (.p (.int 67108863)) :: (.p (.int 134217727)) :: (.p (.int 134217727)) :: (.p (.int 268435455)) :: (.p (.int 268435455)) :: (.p (.int 536870911)) :: (.p (.int 536870911)) :: (.p (.int 1073741823)) :: (.p (.int 1073741823)) :: (.p (.int 2147483647)) :: (.p (.int 2147483647)) :: (.p (.int 4294967295)) :: (.p (.int 4294967295)) :: (.p (.int 8589934591)) :: (.p (.int 8589934591)) :: (.p (.int 17179869183)) :: (.p (.int 17179869183)) :: (.p (.int 34359738367)) :: (.p (.int 34359738367)) :: (.p (.int 68719476735)) :: (.p (.int 68719476735)) :: (.p (.int 137438953471)) :: (.p (.int 137438953471)) :: (.p (.int 274877906943)) :: (.p (.int 274877906943)) :: (.p (.int 549755813887)) :: (.p (.int 549755813887)) :: (.p (.int 1099511627775)) :: (.p (.int 1099511627775)) :: (.p (.int 2199023255551)) :: (.p (.int 2199023255551)) :: (.p (.int 4398046511103)) :: (.p (.int 4398046511103)) :: (.p (.int 8796093022207)) :: (.p (.int 8796093022207)) :: (.p (.int 17592186044415)) :: (.p (.int 17592186044415)) :: (.p (.int 35184372088831)) :: (.p (.int 35184372088831)) :: (.p (.int 70368744177663)) :: (.p (.int 70368744177663)) :: (.p (.int 140737488355327)) :: (.p (.int 140737488355327)) :: (.p (.int 281474976710655)) :: (.p (.int 281474976710655)) :: (.p (.int 562949953421311)) :: (.p (.int 562949953421311)) :: (.p (.int 1125899906842623)) :: (.p (.int 1125899906842623)) :: (.p (.int 2251799813685247)) :: (.p (.int 2251799813685247)) :: (.p (.int 4503599627370495)) :: (.p (.int 4503599627370495)) :: (.p (.int 9007199254740991)) :: (.p (.int 9007199254740991)) :: (.p (.int 18014398509481983)) :: (.p (.int 18014398509481983)) :: (.p (.int 36028797018963967)) :: (.p (.int 36028797018963967)) :: (.p (.int 72057594037927935)) :: (.p (.int 72057594037927935)) :: (.p (.int 144115188075855871)) :: (.p (.int 144115188075855871)) :: (.p (.int 288230376151711743)) :: (.p (.int 288230376151711743)) :: (.p (.int 576460752303423487)) :: (.p (.int 576460752303423487)) :: (.p (.int 1152921504606846975)) :: (.p (.int 1152921504606846975)) :: (.p (.int 2305843009213693951)) :: (.p (.int 2305843009213693951)) :: (.p (.int 4611686018427387903)) :: (.p (.int 4611686018427387903)) :: (.p (.int 9223372036854775807)) :: (.p (.int 9223372036854775807)) :: (.p (.int 18446744073709551615)) :: (.p (.int 18446744073709551615)) :: (.p (.int 36893488147419103231)) :: (.p (.int 36893488147419103231)) :: (.p (.int 73786976294838206463)) :: (.p (.int 73786976294838206463)) :: (.p (.int 147573952589676412927)) :: (.p (.int 147573952589676412927)) :: (.p (.int 295147905179352825855)) :: (.p (.int 295147905179352825855)) :: (.p (.int 590295810358705651711)) :: (.p (.int 590295810358705651711)) :: (.p (.int 1180591620717411303423)) :: (.p (.int 1180591620717411303423)) :: (.p (.int 2361183241434822606847)) :: (.p (.int 2361183241434822606847)) :: (.p (.int 4722366482869645213695)) :: (.p (.int 4722366482869645213695)) :: (.p (.int 9444732965739290427391)) :: (.p (.int 9444732965739290427391)) :: (.p (.int 18889465931478580854783)) :: (.p (.int 18889465931478580854783)) :: (.p (.int 37778931862957161709567)) :: (.p (.int 37778931862957161709567)) :: (.p (.int 75557863725914323419135)) :: (.p (.int 75557863725914323419135)) :: (.p (.int 151115727451828646838271)) :: (.p (.int 151115727451828646838271)) :: (.p (.int 302231454903657293676543)) :: (.p (.int 302231454903657293676543)) :: (.p (.int 604462909807314587353087)) :: (.p (.int 604462909807314587353087)) :: (.p (.int 1208925819614629174706175)) :: (.p (.int 1208925819614629174706175)) :: (.p (.int 2417851639229258349412351)) :: (.p (.int 2417851639229258349412351)) :: (.p (.int 4835703278458516698824703)) :: (.p (.int 4835703278458516698824703)) :: (.p (.int 9671406556917033397649407)) :: (.p (.int 9671406556917033397649407)) :: (.p (.int 19342813113834066795298815)) :: (.p (.int 19342813113834066795298815)) :: (.p (.int 38685626227668133590597631)) :: (.p (.int 38685626227668133590597631)) :: (.p (.int 77371252455336267181195263)) :: (.p (.int 77371252455336267181195263)) :: (.p (.int 154742504910672534362390527)) :: (.p (.int 154742504910672534362390527)) :: (.p (.int 309485009821345068724781055)) :: (.p (.int 309485009821345068724781055)) :: (.p (.int 618970019642690137449562111)) :: (.p (.int 618970019642690137449562111)) :: (.p (.int 1237940039285380274899124223)) :: (.p (.int 1237940039285380274899124223)) :: (.p (.int 2475880078570760549798248447)) :: (.p (.int 2475880078570760549798248447)) :: (.p (.int 4951760157141521099596496895)) :: (.p (.int 4951760157141521099596496895)) :: (.p (.int 9903520314283042199192993791)) :: (.p (.int 9903520314283042199192993791)) :: (.p (.int 19807040628566084398385987583)) :: (.p (.int 19807040628566084398385987583)) :: (.p (.int 39614081257132168796771975167)) :: (.p (.int 39614081257132168796771975167)) :: (.p (.int 79228162514264337593543950335)) :: (.p (.int 79228162514264337593543950335)) :: (.p (.int 158456325028528675187087900671)) :: (.p (.int 158456325028528675187087900671)) :: (.p (.int 316912650057057350374175801343)) :: (.p (.int 316912650057057350374175801343)) :: (.p (.int 633825300114114700748351602687)) :: (.p (.int 633825300114114700748351602687)) :: (.p (.int 1267650600228229401496703205375)) :: (.p (.int 1267650600228229401496703205375)) :: (.p (.int 2535301200456458802993406410751)) :: (.p (.int 2535301200456458802993406410751)) :: (.p (.int 5070602400912917605986812821503)) :: (.p (.int 5070602400912917605986812821503)) :: (.p (.int 10141204801825835211973625643007)) :: (.p (.int 10141204801825835211973625643007)) :: (.p (.int 20282409603651670423947251286015)) :: (.p (.int 20282409603651670423947251286015)) :: (.p (.int 40564819207303340847894502572031)) :: (.p (.int 40564819207303340847894502572031)) :: (.p (.int 81129638414606681695789005144063)) :: (.p (.int 81129638414606681695789005144063)) :: (.p (.int 162259276829213363391578010288127)) :: (.p (.int 162259276829213363391578010288127)) :: (.p (.int 324518553658426726783156020576255)) :: (.p (.int 324518553658426726783156020576255)) :: (.p (.int 649037107316853453566312041152511)) :: (.p (.int 649037107316853453566312041152511)) :: (.p (.int 1298074214633706907132624082305023)) :: (.p (.int 1298074214633706907132624082305023)) :: (.p (.int 2596148429267413814265248164610047)) :: (.p (.int 2596148429267413814265248164610047)) :: (.p (.int 5192296858534827628530496329220095)) :: (.p (.int 5192296858534827628530496329220095)) :: (.p (.int 10384593717069655257060992658440191)) :: (.p (.int 10384593717069655257060992658440191)) :: (.p (.int 20769187434139310514121985316880383)) :: (.p (.int 20769187434139310514121985316880383)) :: (.p (.int 41538374868278621028243970633760767)) :: (.p (.int 41538374868278621028243970633760767)) :: (.p (.int 83076749736557242056487941267521535)) :: (.p (.int 83076749736557242056487941267521535)) :: (.p (.int 166153499473114484112975882535043071)) :: (.p (.int 166153499473114484112975882535043071)) :: (.p (.int 332306998946228968225951765070086143)) :: (.p (.int 332306998946228968225951765070086143)) :: (.p (.int 664613997892457936451903530140172287)) :: (.p (.int 664613997892457936451903530140172287)) :: (.p (.int 1329227995784915872903807060280344575)) :: (.p (.int 1329227995784915872903807060280344575)) :: (.p (.int 2658455991569831745807614120560689151)) :: (.p (.int 2658455991569831745807614120560689151)) :: (.p (.int 5316911983139663491615228241121378303)) :: (.p (.int 5316911983139663491615228241121378303)) :: (.p (.int 10633823966279326983230456482242756607)) :: (.p (.int 10633823966279326983230456482242756607)) :: (.p (.int 21267647932558653966460912964485513215)) :: (.p (.int 21267647932558653966460912964485513215)) :: (.p (.int 42535295865117307932921825928971026431)) :: (.p (.int 42535295865117307932921825928971026431)) :: (.p (.int 85070591730234615865843651857942052863)) :: (.p (.int 85070591730234615865843651857942052863)) :: (.p (.int 170141183460469231731687303715884105727)) :: (.p (.int 170141183460469231731687303715884105727)) :: (.p (.int 340282366920938463463374607431768211455)) :: (.p (.int 340282366920938463463374607431768211455)) :: (.p (.int 680564733841876926926749214863536422911)) :: (.p (.int 680564733841876926926749214863536422911)) :: (.p (.int 1361129467683753853853498429727072845823)) :: (.p (.int 1361129467683753853853498429727072845823)) :: (.p (.int 2722258935367507707706996859454145691647)) :: (.p (.int 2722258935367507707706996859454145691647)) :: (.p (.int 5444517870735015415413993718908291383295)) :: (.p (.int 5444517870735015415413993718908291383295)) :: (.p (.int 10889035741470030830827987437816582766591)) :: (.p (.int 10889035741470030830827987437816582766591)) :: (.p (.int 21778071482940061661655974875633165533183)) :: (.p (.int 21778071482940061661655974875633165533183)) :: (.p (.int 43556142965880123323311949751266331066367)) :: (.p (.int 43556142965880123323311949751266331066367)) :: (.p (.int 87112285931760246646623899502532662132735)) :: (.p (.int 87112285931760246646623899502532662132735)) :: (.p (.int 174224571863520493293247799005065324265471)) :: (.p (.int 174224571863520493293247799005065324265471)) :: (.p (.int 348449143727040986586495598010130648530943)) :: (.p (.int 348449143727040986586495598010130648530943)) :: (.p (.int 696898287454081973172991196020261297061887)) :: [(.p (.int 696898287454081973172991196020261297061887)), (.p (.int 1393796574908163946345982392040522594123775)), (.p (.int 1393796574908163946345982392040522594123775)), (.p (.int 2787593149816327892691964784081045188247551)), (.p (.int 2787593149816327892691964784081045188247551)), (.p (.int 5575186299632655785383929568162090376495103)), (.p (.int 5575186299632655785383929568162090376495103)), (.p (.int 11150372599265311570767859136324180752990207)), (.p (.int 11150372599265311570767859136324180752990207)), (.p (.int 22300745198530623141535718272648361505980415)), (.p (.int 22300745198530623141535718272648361505980415)), (.p (.int 44601490397061246283071436545296723011960831)), (.p (.int 44601490397061246283071436545296723011960831)), (.p (.int 89202980794122492566142873090593446023921663)), (.p (.int 89202980794122492566142873090593446023921663)), (.p (.int 178405961588244985132285746181186892047843327)), (.p (.int 178405961588244985132285746181186892047843327)), (.p (.int 356811923176489970264571492362373784095686655)), (.p (.int 356811923176489970264571492362373784095686655)), (.p (.int 713623846352979940529142984724747568191373311)), (.p (.int 713623846352979940529142984724747568191373311)), (.p (.int 1427247692705959881058285969449495136382746623)), (.p (.int 1427247692705959881058285969449495136382746623)), (.p (.int 2854495385411919762116571938898990272765493247))])
def totsP : List PyData := ((.int 1) :: (.int 1) :: (.int 3) :: (.int 3) :: (.int 7) :: (.int 7) :: (.int 15) :: (.int 15) :: (.int 31) :: (.int 31) :: (.int 63) :: (.int 63) :: (.int 127) :: (.int 127) :: (.int 255) :: (.int 255) :: (.int 511) :: (.int 511) :: (.int 1023) :: (.int 1023) :: (.int 2047) :: (.int 2047) :: (.int 4095) :: (.int 4095) :: (.int 8191) :: (.int 8191) :: (.int 16383) :: (.int 16383) :: (.int 32767) :: (.int 32767) :: (.int 65535) :: (.int 65535) :: (.int 131071) :: (.int 131071) :: (.int 262143) :: (.int 262143) :: (.int 524287) :: (.int 524287) :: (.int 1048575) :: (.int 1048575) :: (.int 2097151) :: (.int 2097151) :: (.int 4194303) :: (.int 4194303) :: (.int 8388607) :: (.int 8388607) :: (.int 16777215) :: (.int 16777215) :: (.int 33554431) :: (.int 33554431) :: (.int 67108863) :: (.int 67108863) :: (.int 134217727) :: (.int 134217727) :: (.int 268435455) :: (.int 268435455) :: (.int 536870911) :: (.int 536870911) :: (.int 1073741823) :: (.int 1073741823) :: (.int 2147483647) :: (.int 2147483647) :: (.int 4294967295) :: (.int 4294967295) :: (.int 8589934591) :: (.int 8589934591) :: (.int 17179869183) :: (.int 17179869183) :: (.int 34359738367) :: (.int 34359738367) :: (.int 68719476735) :: (.int 68719476735) :: (.int 137438953471) :: (.int 137438953471) :: (.int 274877906943) :: (.int 274877906943) :: (.int 549755813887) :: (.int 549755813887) :: (.int 1099511627775) :: (.int 1099511627775) :: (.int 2199023255551) :: (.int 2199023255551) :: (.int 4398046511103) :: (.int 4398046511103) :: (.int 8796093022207) :: (.int 8796093022207) :: (.int 17592186044415) :: (.int 17592186044415) :: (.int 35184372088831) :: (.int 35184372088831) :: (.int 70368744177663) :: (.int 70368744177663) :: (.int 140737488355327) :: (.int 140737488355327) :: (.int 281474976710655) :: (.int 281474976710655) :: (.int 562949953421311) :: (.int 562949953421311) :: (.int 1125899906842623) :: (.int 1125899906842623) :: (.int 2251799813685247) :: (.int 2251799813685247) :: (.int 4503599627370495) :: (.int 4503599627370495) :: (.int 9007199254740991) :: (.int 9007199254740991) :: (.int 18014398509481983) :: (.int 18014398509481983) :: (.int 36028797018963967) :: (.int 36028797018963967) :: (.int 72057594037927935) :: (.int 72057594037927935) :: (.int 144115188075855871) :: (.int 144115188075855871) :: (.int 288230376151711743) :: (.int 288230376151711743) :: (.int 576460752303423487) :: (.int 576460752303423487) :: (.int 1152921504606846975) :: (.int 1152921504606846975) :: (.int 2305843009213693951) :: (.int 2305843009213693951) :: (.int 4611686018427387903) :: (.int 4611686018427387903) :: (.int 9223372036854775807) :: (.int 9223372036854775807) :: (.int 18446744073709551615) :: (.int 18446744073709551615) :: (.int 36893488147419103231) :: (.int 36893488147419103231) :: (.int 73786976294838206463) :: (.int 73786976294838206463) :: (.int 147573952589676412927) :: (.int 147573952589676412927) :: (.int 295147905179352825855) :: (.int 295147905179352825855) :: (.int 590295810358705651711) :: (.int 590295810358705651711) :: (.int 1180591620717411303423) :: (.int 1180591620717411303423) :: (.int 2361183241434822606847) :: (.int 2361183241434822606847) :: (.int 4722366482869645213695) :: (.int 4722366482869645213695) :: (.int 9444732965739290427391) :: (.int 9444732965739290427391) :: (.int 18889465931478580854783) :: (.int 18889465931478580854783) :: (.int 37778931862957161709567) :: (.int 37778931862957161709567) :: (.int 75557863725914323419135) :: (.int 75557863725914323419135) :: (.int 151115727451828646838271) :: (.int 151115727451828646838271) :: (.int 302231454903657293676543) :: (.int 302231454903657293676543) :: (.int 604462909807314587353087) :: (.int 604462909807314587353087) :: (.int 1208925819614629174706175) :: (.int 1208925819614629174706175) :: (.int 2417851639229258349412351) :: (.int 2417851639229258349412351) :: (.int 4835703278458516698824703) :: (.int 4835703278458516698824703) :: (.int 9671406556917033397649407) :: (.int 9671406556917033397649407) :: (.int 19342813113834066795298815) :: (.int 19342813113834066795298815) :: (.int 38685626227668133590597631) :: (.int 38685626227668133590597631) :: (.int 77371252455336267181195263) :: (.int 77371252455336267181195263) :: (.int 154742504910672534362390527) :: (.int 154742504910672534362390527) :: (.int 309485009821345068724781055) :: (.int 309485009821345068724781055) :: (.int 618970019642690137449562111) :: (.int 618970019642690137449562111) :: (.int 1237940039285380274899124223) :: (.int 1237940039285380274899124223) :: (.int 2475880078570760549798248447) :: (.int 2475880078570760549798248447) :: (.int 4951760157141521099596496895) :: (.int 4951760157141521099596496895) :: (.int 9903520314283042199192993791) :: (.int 9903520314283042199192993791) :: (.int 19807040628566084398385987583) :: (.int 19807040628566084398385987583) :: (.int 39614081257132168796771975167) :: (.int 39614081257132168796771975167) :: (.int 79228162514264337593543950335) :: (.int 79228162514264337593543950335) :: (.int 158456325028528675187087900671) :: (.int 158456325028528675187087900671) :: (.int 316912650057057350374175801343) :: (.int 316912650057057350374175801343) :: (.int 633825300114114700748351602687) :: (.int 633825300114114700748351602687) :: (.int 1267650600228229401496703205375) :: (.int 1267650600228229401496703205375) :: (.int 2535301200456458802993406410751) :: (.int 2535301200456458802993406410751) :: (.int 5070602400912917605986812821503) :: (.int 5070602400912917605986812821503) :: (.int 10141204801825835211973625643007) :: (.int 10141204801825835211973625643007) :: (.int 20282409603651670423947251286015) :: (.int 20282409603651670423947251286015) :: (.int 40564819207303340847894502572031) :: (.int 40564819207303340847894502572031) :: (.int 81129638414606681695789005144063) :: (.int 81129638414606681695789005144063) :: (.int 162259276829213363391578010288127) :: (.int 162259276829213363391578010288127) :: (.int 324518553658426726783156020576255) :: (.int 324518553658426726783156020576255) :: (.int 649037107316853453566312041152511) :: (.int 649037107316853453566312041152511) :: (.int 1298074214633706907132624082305023) :: (.int 1298074214633706907132624082305023) :: (.int 2596148429267413814265248164610047) :: (.int 2596148429267413814265248164610047) :: (.int 5192296858534827628530496329220095) :: (.int 5192296858534827628530496329220095) :: (.int 10384593717069655257060992658440191) :: (.int 10384593717069655257060992658440191) :: (.int 20769187434139310514121985316880383) :: (.int 20769187434139310514121985316880383) :: (.int 41538374868278621028243970633760767) :: (.int 41538374868278621028243970633760767) :: (.int 83076749736557242056487941267521535) :: (.int 83076749736557242056487941267521535) :: (.int 166153499473114484112975882535043071) :: (.int 166153499473114484112975882535043071) :: (.int 332306998946228968225951765070086143) :: (.int 332306998946228968225951765070086143) :: (.int 664613997892457936451903530140172287) :: (.int 664613997892457936451903530140172287) :: (.int 1329227995784915872903807060280344575) :: (.int 1329227995784915872903807060280344575) :: (.int 2658455991569831745807614120560689151) :: (.int 2658455991569831745807614120560689151) :: (.int 5316911983139663491615228241121378303) :: (.int 5316911983139663491615228241121378303) :: (.int 10633823966279326983230456482242756607) :: (.int 10633823966279326983230456482242756607) :: (.int 21267647932558653966460912964485513215) :: (.int 21267647932558653966460912964485513215) :: (.int 42535295865117307932921825928971026431) :: (.int 42535295865117307932921825928971026431) :: (.int 85070591730234615865843651857942052863) :: (.int 85070591730234615865843651857942052863) :: (.int 170141183460469231731687303715884105727) :: (.int 170141183460469231731687303715884105727) :: (.int 340282366920938463463374607431768211455) :: (.int 340282366920938463463374607431768211455) :: (.int 680564733841876926926749214863536422911) :: (.int 680564733841876926926749214863536422911) :: (.int 1361129467683753853853498429727072845823) :: (.int 1361129467683753853853498429727072845823) :: (.int 2722258935367507707706996859454145691647) :: (.int 2722258935367507707706996859454145691647) :: (.int 5444517870735015415413993718908291383295) :: (.int 5444517870735015415413993718908291383295) :: (.int 10889035741470030830827987437816582766591) :: (.int 10889035741470030830827987437816582766591) :: (.int 21778071482940061661655974875633165533183) :: (.int 21778071482940061661655974875633165533183) :: (.int 43556142965880123323311949751266331066367) :: (.int 43556142965880123323311949751266331066367) :: (.int 87112285931760246646623899502532662132735) :: (.int 87112285931760246646623899502532662132735) :: (.int 174224571863520493293247799005065324265471) :: (.int 174224571863520493293247799005065324265471) :: (.int 348449143727040986586495598010130648530943) :: (.int 348449143727040986586495598010130648530943) :: (.int 696898287454081973172991196020261297061887) :: [(.int 696898287454081973172991196020261297061887), (.int 1393796574908163946345982392040522594123775), (.int 1393796574908163946345982392040522594123775), (.int 2787593149816327892691964784081045188247551), (.int 2787593149816327892691964784081045188247551), (.int 5575186299632655785383929568162090376495103), (.int 5575186299632655785383929568162090376495103), (.int 11150372599265311570767859136324180752990207), (.int 11150372599265311570767859136324180752990207), (.int 22300745198530623141535718272648361505980415), (.int 22300745198530623141535718272648361505980415), (.int 44601490397061246283071436545296723011960831), (.int 44601490397061246283071436545296723011960831), (.int 89202980794122492566142873090593446023921663), (.int 89202980794122492566142873090593446023921663), (.int 178405961588244985132285746181186892047843327), (.int 178405961588244985132285746181186892047843327), (.int 356811923176489970264571492362373784095686655), (.int 356811923176489970264571492362373784095686655), (.int 713623846352979940529142984724747568191373311), (.int 713623846352979940529142984724747568191373311), (.int 1427247692705959881058285969449495136382746623), (.int 1427247692705959881058285969449495136382746623), (.int 2854495385411919762116571938898990272765493247)])
def fz : List SO := ((.fzd [(bP, (.p (.int 1))), (gP, (.p (.int 1)))]) :: (.fzd [(aP, (.p (.int 2)))]) :: (.fzd [(bP, (.p (.int 2))), (gP, (.p (.int 2)))]) :: (.fzd [(aP, (.p (.int 4)))]) :: (.fzd [(bP, (.p (.int 4))), (gP, (.p (.int 4)))]) :: (.fzd [(aP, (.p (.int 8)))]) :: (.fzd [(bP, (.p (.int 8))), (gP, (.p (.int 8)))]) :: (.fzd [(aP, (.p (.int 16)))]) :: (.fzd [(bP, (.p (.int 16))), (gP, (.p (.int 16)))]) :: (.fzd [(aP, (.p (.int 32)))]) :: (.fzd [(bP, (.p (.int 32))), (gP, (.p (.int 32)))]) :: (.fzd [(aP, (.p (.int 64)))]) :: (.fzd [(bP, (.p (.int 64))), (gP, (.p (.int 64)))]) :: (.fzd [(aP, (.p (.int 128)))]) :: (.fzd [(bP, (.p (.int 128))), (gP, (.p (.int 128)))]) :: (.fzd [(aP, (.p (.int 256)))]) :: (.fzd [(bP, (.p (.int 256))), (gP, (.p (.int 256)))]) :: (.fzd [(aP, (.p (.int 512)))]) :: (.fzd [(bP, (.p (.int 512))), (gP, (.p (.int 512)))]) :: (.fzd [(aP, (.p (.int 1024)))]) :: (.fzd [(bP, (.p (.int 1024))), (gP, (.p (.int 1024)))]) :: (.fzd [(aP, (.p (.int 2048)))]) :: (.fzd [(bP, (.p (.int 2048))), (gP, (.p (.int 2048)))]) :: (.fzd [(aP, (.p (.int 4096)))]) :: (.fzd [(bP, (.p (.int 4096))), (gP, (.p (.int 4096)))]) :: (.fzd [(aP, (.p (.int 8192)))]) :: (.fzd [(bP, (.p (.int 8192))), (gP, (.p (.int 8192)))]) :: (.fzd [(aP, (.p (.int 16384)))]) :: (.fzd [(bP, (.p (.int 16384))), (gP, (.p (.int 16384)))]) :: (.fzd [(aP, (.p (.int 32768)))]) :: (.fzd [(bP, (.p (.int 32768))), (gP, (.p (.int 32768)))]) :: (.fzd [(aP, (.p (.int 65536)))]) :: (.fzd [(bP, (.p (.int 65536))), (gP, (.p (.int 65536)))]) :: (.fzd [(aP, (.p (.int 131072)))]) :: (.fzd [(bP, (.p (.int 131072))), (gP, (.p (.int 131072)))]) :: (.fzd [(aP, (.p (.int 262144)))]) :: (.fzd [(bP, (.p (.int 262144))), (gP, (.p (.int 262144)))]) :: (.fzd [(aP, (.p (.int 524288)))]) :: (.fzd [(bP, (.p (.int 524288))), (gP, (.p (.int 524288)))]) :: (.fzd [(aP, (.p (.int 1048576)))]) :: (.fzd [(bP, (.p (.int 1048576))), (gP, (.p (.int 1048576)))]) :: (.fzd [(aP, (.p (.int 2097152)))]) :: (.fzd [(bP, (.p (.int 2097152))), (gP, (.p (.int 2097152)))]) :: (.fzd [(aP, (.p (.int 4194304)))]) :: (.fzd [(bP, (.p (.int 4194304))), (gP, (.p (.int 4194304)))]) :: (.fzd [(aP, (.p (.int 8388608)))]) :: (.fzd [(bP, (.p (.int 8388608))), (gP, (.p (.int 8388608)))]) :: (.fzd [(aP, (.p (.int 16777216)))]) :: (.fzd [(bP, (.p (.int 16777216))), (gP, (.p (.int 16777216)))]) :: (.fzd [(aP, (.p (.int 33554432)))]) :: (.fzd [(bP, (.p (.int 33554432))), (gP, (.p (.int 33554432)))]) :: (.fzd [(aP, (.p (.int 67108864)))]) :: (.fzd [(bP, (.p (.int 67108864))), (gP, (.p (.int 67108864)))]) :: (.fzd [(aP, (.p (.int 134217728)))]) :: (.fzd [(bP, (.p (.int 134217728))), (gP, (.p (.int 134217728)))]) :: (.fzd [(aP, (.p (.int 268435456)))]) :: (.fzd [(bP, (.p (.int 268435456))), (gP, (.p (.int 268435456)))]) :: (.fzd [(aP, (.p (.int 536870912)))]) :: (.fzd [(bP, (.p (.int 536870912))), (gP, (.p (.int 536870912)))]) :: (.fzd [(aP, (.p (.int 1073741824)))]) :: (.fzd [(bP, (.p (.int 1073741824))), (gP, (.p (.int 1073741824)))]) :: (.fzd [(aP, (.p (.int 2147483648)))]) :: (.fzd [(bP, (.p (.int 2147483648))), (gP, (.p (.int 2147483648)))]) :: (.fzd [(aP, (.p (.int 4294967296)))]) :: (.fzd [(bP, (.p (.int 4294967296))), (gP, (.p (.int 4294967296)))]) :: (.fzd [(aP, (.p (.int 8589934592)))]) :: (.fzd [(bP, (.p (.int 8589934592))), (gP, (.p (.int 8589934592)))]) :: (.fzd [(aP, (.p (.int 17179869184)))]) :: (.fzd [(bP, (.p (.int 17179869184))), (gP, (.p (.int 17179869184)))]) :: (.fzd [(aP, (.p (.int 34359738368)))]) :: (.fzd [(bP, (.p (.int 34359738368))), (gP, (.p (.int 34359738368)))]) :: (.fzd [(aP, (.p (.int 68719476736)))]) :: (.fzd [(bP, (.p (.int 68719476736))), (gP, (.p (.int 68719476736)))]) :: (.fzd [(aP, (.p (.int 137438953472)))]) :: (.fzd [(bP, (.p (.int 137438953472))), (gP, (.p (.int 137438953472)))]) :: (.fzd [(aP, (.p (.int 274877906944)))]) :: (.fzd [(bP, (.p (.int 274877906944))), (gP, (.p (.int 274877906944)))]) :: (.fzd [(aP, (.p (.int 549755813888)))]) :: (.fzd [(bP, (.p (.int 549755813888))), (gP, (.p (.int 549755813888)))]) :: (.fzd [(aP, (.p (.int 1099511627776)))]) :: (.fzd [(bP, (.p (.int 1099511627776))), (gP, (.p (.int 1099511627776)))]) :: (.fzd [(aP, (.p (.int 2199023255552)))]) :: (.fzd [(bP, (.p (.int 2199023255552))), (gP, (.p (.int 2199023255552)))]) :: (.fzd [(aP, (.p (.int 4398046511104)))]) :: (.fzd [(bP, (.p (.int 4398046511104))), (gP, (.p (.int 4398046511104)))]) :: (.fzd [(aP, (.p (.int 8796093022208)))]) :: (.fzd [(bP, (.p (.int 8796093022208))), (gP, (.p (.int 8796093022208)))]) :: (.fzd [(aP, (.p (.int 17592186044416)))]) :: (.fzd [(bP, (.p (.int 17592186044416))), (gP, (.p (.int 17592186044416)))]) :: (.fzd [(aP, (.p (.int 35184372088832)))]) :: (.fzd [(bP, (.p (.int 35184372088832))), (gP, (.p (.int 35184372088832)))]) :: (.fzd [(aP, (.p (.int 70368744177664)))]) :: (.fzd [(bP, (.p (.int 70368744177664))), (gP, (.p (.int 70368744177664)))]) :: (.fzd [(aP, (.p (.int 140737488355328)))]) :: (.fzd [(bP, (.p (.int 140737488355328))), (gP, (.p (.int 140737488355328)))]) :: (.fzd [(aP, (.p (.int 281474976710656)))]) :: (.fzd [(bP, (.p (.int 281474976710656))), (gP, (.p (.int 281474976710656)))]) :: (.fzd [(aP, (.p (.int 562949953421312)))]) :: (.fzd [(bP, (.p (.int 562949953421312))), (gP, (.p (.int 562949953421312)))]) :: (.fzd [(aP, (.p (.int 1125899906842624)))]) :: (.fzd [(bP, (.p (.int 1125899906842624))), (gP, (.p (.int 1125899906842624)))]) :: (.fzd [(aP, (.p (.int 2251799813685248)))]) :: (.fzd [(bP, (.p (.int 2251799813685248))), (gP, (.p (.int 2251799813685248)))]) :: (.fzd [(aP, (.p (.int 4503599627370496)))]) :: (.fzd [(bP, (.p (.int 4503599627370496))), (gP, (.p (.int 4503599627370496)))]) :: (.fzd [(aP, (.p (.int 9007199254740992)))]) :: (.fzd [(bP, (.p (.int 9007199254740992))), (gP, (.p (.int 9007199254740992)))]) :: (.fzd [(aP, (.p (.int 18014398509481984)))]) :: (.fzd [(bP, (.p (.int 18014398509481984))), (gP, (.p (.int 18014398509481984)))]) :: (.fzd [(aP, (.p (.int 36028797018963968)))]) :: (.fzd [(bP, (.p (.int 36028797018963968))), (gP, (.p (.int 36028797018963968)))]) :: (.fzd [(aP, (.p (.int 72057594037927936)))]) :: (.fzd [(bP, (.p (.int 72057594037927936))), (gP, (.p (.int 72057594037927936)))]) :: (.fzd [(aP, (.p (.int 144115188075855872)))]) :: (.fzd [(bP, (.p (.int 144115188075855872))), (gP, (.p (.int 144115188075855872)))]) :: (.fzd [(aP, (.p (.int 288230376151711744)))]) :: (.fzd [(bP, (.p (.int 288230376151711744))), (gP, (.p (.int 288230376151711744)))]) :: (.fzd [(aP, (.p (.int 576460752303423488)))]) :: (.fzd [(bP, (.p (.int 576460752303423488))), (gP, (.p (.int 576460752303423488)))]) :: (.fzd [(aP, (.p (.int 1152921504606846976)))]) :: (.fzd [(bP, (.p (.int 1152921504606846976))), (gP, (.p (.int 1152921504606846976)))]) :: (.fzd [(aP, (.p (.int 2305843009213693952)))]) :: (.fzd [(bP, (.p (.int 2305843009213693952))), (gP, (.p (.int 2305843009213693952)))]) :: (.fzd [(aP, (.p (.int 4611686018427387904)))]) :: (.fzd [(bP, (.p (.int 4611686018427387904))), (gP, (.p (.int 4611686018427387904)))]) :: (.fzd [(aP, (.p (.int 9223372036854775808)))]) :: (.fzd [(bP, (.p (.int 9223372036854775808))), (gP, (.p (.int 9223372036854775808)))]) :: (.fzd [(aP, (.p (.int 18446744073709551616)))]) :: (.fzd [(bP, (.p (.int 18446744073709551616))), (gP, (.p (.int 18446744073709551616)))]) :: (.fzd [(aP, (.p (.int 36893488147419103232)))]) :: (.fzd [(bP, (.p (.int 36893488147419103232))), (gP, (.p (.int 36893488147419103232)))]) :: (.fzd [(aP, (.p (.int 73786976294838206464)))]) :: (.fzd [(bP, (.p (.int 73786976294838206464))), (gP, (.p (.int 73786976294838206464)))]) :: (.fzd [(aP, (.p (.int 147573952589676412928)))]) :: (.fzd [(bP, (.p (.int 147573952589676412928))), (gP, (.p (.int 147573952589676412928)))]) :: (.fzd [(aP, (.p (.int 295147905179352825856)))]) :: (.fzd [(bP, (.p (.int 295147905179352825856))), (gP, (.p (.int 295147905179352825856)))]) :: (.fzd [(aP, (.p (.int 590295810358705651712)))]) :: (.fzd [(bP, (.p (.int 590295810358705651712))), (gP, (.p (.int 590295810358705651712)))]) :: (.fzd [(aP, (.p (.int 1180591620717411303424)))]) :: (.fzd [(bP, (.p (.int 1180591620717411303424))), (gP, (.p (.int 1180591620717411303424)))]) :: (.fzd [(aP, (.p (.int 2361183241434822606848)))]) :: (.fzd [(bP, (.p (.int 2361183241434822606848))), (gP, (.p (.int 2361183241434822606848)))]) :: (.fzd [(aP, (.p (.int 4722366482869645213696)))]) :: (.fzd [(bP, (.p (.int 4722366482869645213696))), (gP, (.p (.int 4722366482869645213696)))]) :: (.fzd [(aP, (.p (.int 9444732965739290427392)))]) :: (.fzd [(bP, (.p (.int 9444732965739290427392))), (gP, (.p (.int 9444732965739290427392)))]) :: (.fzd [(aP, (.p (.int 18889465931478580854784)))]) :: (.fzd [(bP, (.p (.int 18889465931478580854784))), (gP, (.p (.int 18889465931478580854784)))]) :: (.fzd [(aP, (.p (.int 37778931862957161709568)))]) :: (.fzd [(bP, (.p (.int 37778931862957161709568))), (gP, (.p (.int 37778931862957161709568)))]) :: (.fzd [(aP, (.p (.int 75557863725914323419136)))]) :: (.fzd [(bP, (.p (.int 75557863725914323419136))), (gP, (.p (.int 75557863725914323419136)))]) :: (.fzd [(aP, (.p (.int 151115727451828646838272)))]) :: (.fzd [(bP, (.p (.int 151115727451828646838272))), (gP, (.p (.int 151115727451828646838272)))]) :: (.fzd [(aP, (.p (.int 302231454903657293676544)))]) :: (.fzd [(bP, (.p (.int 302231454903657293676544))), (gP, (.p (.int 302231454903657293676544)))]) :: (.fzd [(aP, (.p (.int 604462909807314587353088)))]) :: (.fzd [(bP, (.p (.int 604462909807314587353088))), (gP, (.p (.int 604462909807314587353088)))]) :: (.fzd [(aP, (.p (.int 1208925819614629174706176)))]) :: (.fzd [(bP, (.p (.int 1208925819614629174706176))), (gP, (.p (.int 1208925819614629174706176)))]) :: (.fzd [(aP, (.p (.int 2417851639229258349412352)))]) :: (.fzd [(bP, (.p (.int 2417851639229258349412352))), (gP, (.p (.int 2417851639229258349412352)))]) :: (.fzd [(aP, (.p (.int 4835703278458516698824704)))]) :: (.fzd [(bP, (.p (.int 4835703278458516698824704))), (gP, (.p (.int 4835703278458516698824704)))]) :: (.fzd [(aP, (.p (.int 9671406556917033397649408)))]) :: (.fzd [(bP, (.p (.int 9671406556917033397649408))), (gP, (.p (.int 9671406556917033397649408)))]) :: (.fzd [(aP, (.p (.int 19342813113834066795298816)))]) :: (.fzd [(bP, (.p (.int 19342813113834066795298816))), (gP, (.p (.int 19342813113834066795298816)))]) :: (.fzd [(aP, (.p (.int 38685626227668133590597632)))]) :: (.fzd [(bP, (.p (.int 38685626227668133590597632))), (gP, (.p (.int 38685626227668133590597632)))]) :: (.fzd [(aP, (.p (.int 77371252455336267181195264)))]) :: (.fzd [(bP, (.p (.int 77371252455336267181195264))), (gP, (.p (.int 77371252455336267181195264)))]) :: (.fzd [(aP, (.p (.int 154742504910672534362390528)))]) :: (.fzd [(bP, (.p (.int 154742504910672534362390528))), (gP, (.p (.int 154742504910672534362390528)))]) :: (.fzd [(aP, (.p (.int 309485009821345068724781056)))]) :: (.fzd [(bP, (.p (.int 309485009821345068724781056))), (gP, (.p (.int 309485009821345068724781056)))]) :: (.fzd [(aP, (.p (.int 618970019642690137449562112)))]) :: (.fzd [(bP, (.p (.int 618970019642690137449562112))), (gP, (.p (.int 618970019642690137449562112)))]) :: (.fzd [(aP, (.p (.int 1237940039285380274899124224)))]) :: (.fzd [(bP, (.p (.int 1237940039285380274899124224))), (gP, (.p (.int 1237940039285380274899124224)))]) :: (.fzd [(aP, (.p (.int 2475880078570760549798248448)))]) :: (.fzd [(bP, (.p (.int 2475880078570760549798248448))), (gP, (.p (.int 2475880078570760549798248448)))]) :: (.fzd [(aP, (.p (.int 4951760157141521099596496896)))]) :: (.fzd [(bP, (.p (.int 4951760157141521099596496896))), (gP, (.p (.int 4951760157141521099596496896)))]) :: (.fzd [(aP, (.p (.int 9903520314283042199192993792)))]) :: (.fzd [(bP, (.p (.int 9903520314283042199192993792))), (gP, (.p (.int 9903520314283042199192993792)))]) :: (.fzd [(aP, (.p (.int 19807040628566084398385987584)))]) :: (.fzd [(bP, (.p (.int 19807040628566084398385987584))), (gP, (.p (.int 19807040628566084398385987584)))]) :: (.fzd [(aP, (.p (.int 39614081257132168796771975168)))]) :: (.fzd [(bP, (.p (.int 39614081257132168796771975168))), (gP, (.p (.int 39614081257132168796771975168)))]) :: (.fzd [(aP, (.p (.int 79228162514264337593543950336)))]) :: (.fzd [(bP, (.p (.int 79228162514264337593543950336))), (gP, (.p (.int 79228162514264337593543950336)))]) :: (.fzd [(aP, (.p (.int 158456325028528675187087900672)))]) :: (.fzd [(bP, (.p (.int 158456325028528675187087900672))), (gP, (.p (.int 158456325028528675187087900672)))]) :: (.fzd [(aP, (.p (.int 316912650057057350374175801344)))]) :: (.fzd [(bP, (.p (.int 316912650057057350374175801344))), (gP, (.p (.int 316912650057057350374175801344)))]) :: (.fzd [(aP, (.p (.int 633825300114114700748351602688)))]) :: (.fzd [(bP, (.p (.int 633825300114114700748351602688))), (gP, (.p (.int 633825300114114700748351602688)))]) :: (.fzd [(aP, (.p (.int 1267650600228229401496703205376)))]) :: (.fzd [(bP, (.p (.int 1267650600228229401496703205376))), (gP, (.p (.int 1267650600228229401496703205376)))]) :: (.fzd [(aP, (.p (.int 2535301200456458802993406410752)))]) :: (.fzd [(bP, (.p (.int 2535301200456458802993406410752))), (gP, (.p (.int 2535301200456458802993406410752)))]) :: (.fzd [(aP, (.p (.int 5070602400912917605986812821504)))]) :: (.fzd [(bP, (.p (.int 5070602400912917605986812821504))), (gP, (.p (.int 5070602400912917605986812821504)))]) :: (.fzd [(aP, (.p (.int 10141204801825835211973625643008)))]) :: (.fzd [(bP, (.p (.int 10141204801825835211973625643008))), (gP, (.p (.int 10141204801825835211973625643008)))]) :: (.fzd [(aP, (.p (.int 20282409603651670423947251286016)))]) :: (.fzd [(bP, (.p (.int 20282409603651670423947251286016))), (gP, (.p (.int 20282409603651670423947251286016)))]) :: (.fzd [(aP, (.p (.int 40564819207303340847894502572032)))]) :: (.fzd [(bP, (.p (.int 40564819207303340847894502572032))), (gP, (.p (.int 40564819207303340847894502572032)))]) :: (.fzd [(aP, (.p (.int 81129638414606681695789005144064)))]) :: (.fzd [(bP, (.p (.int 81129638414606681695789005144064))), (gP, (.p (.int 81129638414606681695789005144064)))]) :: (.fzd [(aP, (.p (.int 162259276829213363391578010288128)))]) :: (.fzd [(bP, (.p (.int 162259276829213363391578010288128))), (gP, (.p (.int 162259276829213363391578010288128)))]) :: (.fzd [(aP, (.p (.int 324518553658426726783156020576256)))]) :: (.fzd [(bP, (.p (.int 324518553658426726783156020576256))), (gP, (.p (.int 324518553658426726783156020576256)))]) :: (.fzd [(aP, (.p (.int 649037107316853453566312041152512)))]) :: (.fzd [(bP, (.p (.int 649037107316853453566312041152512))), (gP, (.p (.int 649037107316853453566312041152512)))]) :: (.fzd [(aP, (.p (.int 1298074214633706907132624082305024)))]) :: (.fzd [(bP, (.p (.int 1298074214633706907132624082305024))), (gP, (.p (.int 1298074214633706907132624082305024)))]) :: (.fzd [(aP, (.p (.int 2596148429267413814265248164610048)))]) :: (.fzd [(bP, (.p (.int 2596148429267413814265248164610048))), (gP, (.p (.int 2596148429267413814265248164610048)))]) :: (.fzd [(aP, (.p (.int 5192296858534827628530496329220096)))]) :: (.fzd [(bP, (.p (.int 5192296858534827628530496329220096))), (gP, (.p (.int 5192296858534827628530496329220096)))]) :: (.fzd [(aP, (.p (.int 10384593717069655257060992658440192)))]) :: (.fzd [(bP, (.p (.int 10384593717069655257060992658440192))), (gP, (.p (.int 10384593717069655257060992658440192)))]) :: (.fzd [(aP, (.p (.int 20769187434139310514121985316880384)))]) :: (.fzd [(bP, (.p (.int 20769187434139310514121985316880384))), (gP, (.p (.int 20769187434139310514121985316880384)))]) :: (.fzd [(aP, (.p (.int 41538374868278621028243970633760768)))]) :: (.fzd [(bP, (.p (.int 41538374868278621028243970633760768))), (gP, (.p (.int 41538374868278621028243970633760768)))]) :: (.fzd [(aP, (.p (.int 83076749736557242056487941267521536)))]) :: (.fzd [(bP, (.p (.int 83076749736557242056487941267521536))), (gP, (.p (.int 83076749736557242056487941267521536)))]) :: (.fzd [(aP, (.p (.int 166153499473114484112975882535043072)))]) :: (.fzd [(bP, (.p (.int 166153499473114484112975882535043072))), (gP, (.p (.int 166153499473114484112975882535043072)))]) :: (.fzd [(aP, (.p (.int 332306998946228968225951765070086144)))]) :: (.fzd [(bP, (.p (.int 332306998946228968225951765070086144))), (gP, (.p (.int 332306998946228968225951765070086144)))]) :: (.fzd [(aP, (.p (.int 664613997892457936451903530140172288)))]) :: (.fzd [(bP, (.p (.int 664613997892457936451903530140172288))), (gP, (.p (.int 664613997892457936451903530140172288)))]) :: (.fzd [(aP, (.p (.int 1329227995784915872903807060280344576)))]) :: (.fzd [(bP, (.p (.int 1329227995784915872903807060280344576))), (gP, (.p (.int 1329227995784915872903807060280344576)))]) :: (.fzd [(aP, (.p (.int 2658455991569831745807614120560689152)))]) :: (.fzd [(bP, (.p (.int 2658455991569831745807614120560689152))), (gP, (.p (.int 2658455991569831745807614120560689152)))]) :: (.fzd [(aP, (.p (.int 5316911983139663491615228241121378304)))]) :: (.fzd [(bP, (.p (.int 5316911983139663491615228241121378304))), (gP, (.p (.int 5316911983139663491615228241121378304)))]) :: (.fzd [(aP, (.p (.int 10633823966279326983230456482242756608)))]) :: (.fzd [(bP, (.p (.int 10633823966279326983230456482242756608))), (gP, (.p (.int 10633823966279326983230456482242756608)))]) :: (.fzd [(aP, (.p (.int 21267647932558653966460912964485513216)))]) :: (.fzd [(bP, (.p (.int 21267647932558653966460912964485513216))), (gP, (.p (.int 21267647932558653966460912964485513216)))]) :: (.fzd [(aP, (.p (.int 42535295865117307932921825928971026432)))]) :: (.fzd [(bP, (.p (.int 42535295865117307932921825928971026432))), (gP, (.p (.int 42535295865117307932921825928971026432)))]) :: (.fzd [(aP, (.p (.int 85070591730234615865843651857942052864)))]) :: (.fzd [(bP, (.p (.int 85070591730234615865843651857942052864))), (gP, (.p (.int 85070591730234615865843651857942052864)))]) :: (.fzd [(aP, (.p (.int 170141183460469231731687303715884105728)))]) :: (.fzd [(bP, (.p (.int 170141183460469231731687303715884105728))), (gP, (.p (.int 170141183460469231731687303715884105728)))]) :: (.fzd [(aP, (.p (.int 340282366920938463463374607431768211456)))]) :: (.fzd [(bP, (.p (.int 340282366920938463463374607431768211456))), (gP, (.p (.int 340282366920938463463374607431768211456)))]) :: (.fzd [(aP, (.p (.int 680564733841876926926749214863536422912)))]) :: (.fzd [(bP, (.p (.int 680564733841876926926749214863536422912))), (gP, (.p (.int 680564733841876926926749214863536422912)))]) :: (.fzd [(aP, (.p (.int 1361129467683753853853498429727072845824)))]) :: (.fzd [(bP, (.p (.int 1361129467683753853853498429727072845824))), (gP, (.p (.int 1361129467683753853853498429727072845824)))]) :: (.fzd [(aP, (.p (.int 2722258935367507707706996859454145691648)))]) :: (.fzd [(bP, (.p (.int 2722258935367507707706996859454145691648))), (gP, (.p (.int 2722258935367507707706996859454145691648)))]) :: (.fzd [(aP, (.p (.int 5444517870735015415413993718908291383296)))]) :: (.fzd [(bP, (.p (.int 5444517870735015415413993718908291383296))), (gP, (.p (.int 5444517870735015415413993718908291383296)))]) :: (.fzd [(aP, (.p (.int 10889035741470030830827987437816582766592)))]) :: (.fzd [(bP, (.p (.int 10889035741470030830827987437816582766592))), (gP, (.p (.int 10889035741470030830827987437816582766592)))]) :: (.fzd [(aP, (.p (.int 21778071482940061661655974875633165533184)))]) :: (.fzd [(bP, (.p (.int 21778071482940061661655974875633165533184))), (gP, (.p (.int 21778071482940061661655974875633165533184)))]) :: (.fzd [(aP, (.p (.int 43556142965880123323311949751266331066368)))]) :: (.fzd [(bP, (.p (.int 43556142965880123323311949751266331066368))), (gP, (.p (.int 43556142965880123323311949751266331066368)))]) :: (.fzd [(aP, (.p (.int 87112285931760246646623899502532662132736)))]) :: (.fzd [(bP, (.p (.int 87112285931760246646623899502532662132736))), (gP, (.p (.int 87112285931760246646623899502532662132736)))]) :: (.fzd [(aP, (.p (.int 174224571863520493293247799005065324265472)))]) :: (.fzd [(bP, (.p (.int 174224571863520493293247799005065324265472))), (gP, (.p (.int 174224571863520493293247799005065324265472)))]) :: (.fzd [(aP, (.p (.int 348449143727040986586495598010130648530944)))]) :: (.fzd [(bP, (.p (.int 348449143727040986586495598010130648530944))), (gP, (.p (.int 348449143727040986586495598010130648530944)))]) :: [(.fzd [(aP, (.p (.int 696898287454081973172991196020261297061888)))]), (.fzd [(bP, (.p (.int 696898287454081973172991196020261297061888))), (gP, (.p (.int 696898287454081973172991196020261297061888)))]), (.fzd [(aP, (.p (.int 1393796574908163946345982392040522594123776)))]), (.fzd [(bP, (.p (.int 1393796574908163946345982392040522594123776))), (gP, (.p (.int 1393796574908163946345982392040522594123776)))]), (.fzd [(aP, (.p (.int 2787593149816327892691964784081045188247552)))]), (.fzd [(bP, (.p (.int 2787593149816327892691964784081045188247552))), (gP, (.p (.int 2787593149816327892691964784081045188247552)))]), (.fzd [(aP, (.p (.int 5575186299632655785383929568162090376495104)))]), (.fzd [(bP, (.p (.int 5575186299632655785383929568162090376495104))), (gP, (.p (.int 5575186299632655785383929568162090376495104)))]), (.fzd [(aP, (.p (.int 11150372599265311570767859136324180752990208)))]), (.fzd [(bP, (.p (.int 11150372599265311570767859136324180752990208))), (gP, (.p (.int 11150372599265311570767859136324180752990208)))]), (.fzd [(aP, (.p (.int 22300745198530623141535718272648361505980416)))]), (.fzd [(bP, (.p (.int 22300745198530623141535718272648361505980416))), (gP, (.p (.int 22300745198530623141535718272648361505980416)))]), (.fzd [(aP, (.p (.int 44601490397061246283071436545296723011960832)))]), (.fzd [(bP, (.p (.int 44601490397061246283071436545296723011960832))), (gP, (.p (.int 44601490397061246283071436545296723011960832)))]), (.fzd [(aP, (.p (.int 89202980794122492566142873090593446023921664)))]), (.fzd [(bP, (.p (.int 89202980794122492566142873090593446023921664))), (gP, (.p (.int 89202980794122492566142873090593446023921664)))]), (.fzd [(aP, (.p (.int 178405961588244985132285746181186892047843328)))]), (.fzd [(bP, (.p (.int 178405961588244985132285746181186892047843328))), (gP, (.p (.int 178405961588244985132285746181186892047843328)))]), (.fzd [(aP, (.p (.int 356811923176489970264571492362373784095686656)))]), (.fzd [(bP, (.p (.int 356811923176489970264571492362373784095686656))), (gP, (.p (.int 356811923176489970264571492362373784095686656)))]), (.fzd [(aP, (.p (.int 713623846352979940529142984724747568191373312)))]), (.fzd [(bP, (.p (.int 713623846352979940529142984724747568191373312))), (gP, (.p (.int 713623846352979940529142984724747568191373312)))]), (.fzd [(aP, (.p (.int 1427247692705959881058285969449495136382746624)))]), (.fzd [(bP, (.p (.int 1427247692705959881058285969449495136382746624))), (gP, (.p (.int 1427247692705959881058285969449495136382746624)))])])
def sB : List S := f_sums_to.body
def sF : List S := match sB.getD 1 .nvr with | .for _ _ _ b => b | _ => []
def sBody (C : Cl) (e : Ev.Env) (s : Sto) : RS := Ev.execs C [3, 0, 0, 0] TURNS sF e s
def sE0 : Ev.Env := [some (.p aP), some (.ref 0), some (.p (.int 300)), none, some (.ref 3), some (.ref 4), some (.p (.int 0)), none, none, none, none]
def sS0 : Sto := T ++ [.dtn [(aP, (.p (.int 1)))], .lst []]
def sS (i : Nat) (x : SO) : Sto := T ++ (.fzd [(aP, (.p (.int 1)))] :: .lst (tots.take (i + 1)) :: (fz.take i ++ [x]))
def sE_50 : Ev.Env := [some (.p aP), some (.ref 0), some (.p (.int 300)), some (.p (.int 0)), some (.ref 54), some (.ref 4), some (.p (.int 33554431)), some (.ref 54), some (.p gP), some (.p (.int 16777216)), some (.p aP)]
def sS_50 : Sto := sS 49 (.dtn [(aP, (.p (.int 33554432)))])
def sE_100 : Ev.Env := [some (.p aP), some (.ref 0), some (.p (.int 300)), some (.p (.int 0)), some (.ref 104), some (.ref 4), some (.p (.int 1125899906842623)), some (.ref 104), some (.p gP), some (.p (.int 562949953421312)), some (.p aP)]
def sS_100 : Sto := sS 99 (.dtn [(aP, (.p (.int 1125899906842624)))])
def sE_150 : Ev.Env := [some (.p aP), some (.ref 0), some (.p (.int 300)), some (.p (.int 0)), some (.ref 154), some (.ref 4), some (.p (.int 37778931862957161709567)), some (.ref 154), some (.p gP), some (.p (.int 18889465931478580854784)), some (.p aP)]
def sS_150 : Sto := sS 149 (.dtn [(aP, (.p (.int 37778931862957161709568)))])
def sE_200 : Ev.Env := [some (.p aP), some (.ref 0), some (.p (.int 300)), some (.p (.int 0)), some (.ref 204), some (.ref 4), some (.p (.int 1267650600228229401496703205375)), some (.ref 204), some (.p gP), some (.p (.int 633825300114114700748351602688)), some (.p aP)]
def sS_200 : Sto := sS 199 (.dtn [(aP, (.p (.int 1267650600228229401496703205376)))])
def sE_250 : Ev.Env := [some (.p aP), some (.ref 0), some (.p (.int 300)), some (.p (.int 0)), some (.ref 254), some (.ref 4), some (.p (.int 42535295865117307932921825928971026431)), some (.ref 254), some (.p gP), some (.p (.int 21267647932558653966460912964485513216)), some (.p aP)]
def sS_250 : Sto := sS 249 (.dtn [(aP, (.p (.int 42535295865117307932921825928971026432)))])
def sE_301 : Ev.Env := [some (.p aP), some (.ref 0), some (.p (.int 300)), some (.p (.int 1)), some (.ref 305), some (.ref 4), some (.p (.int 2854495385411919762116571938898990272765493247)), some (.ref 305), some (.p aP), some (.p (.int 1427247692705959881058285969449495136382746624)), some (.p gP)]
def sS_301 : Sto := sS 300 (.dtn [(bP, (.p (.int 1427247692705959881058285969449495136382746624))), (gP, (.p (.int 1427247692705959881058285969449495136382746624)))])
theorem x1 : Ev.execs (callK tab 97) [3, 0, 0, 0] TURNS (sB.take 1) (startE [.p aP, .ref 0, .p (.int 300)] 11) T = .nx sE0 sS0 := by kernel_rfl
theorem x2 (C : Cl) : Ev.execs C [3, 0, 0, 0] TURNS ((sB.drop 1).take 1) sE0 sS0 = forLoop (.name 3) (sBody C) (rangeFrom 0 301) sE0 sS0 := by
  have hs : (sB.drop 1).take 1 = [.for (.name 3) 1 [.op (.add false) [.var 2, .cst (.int 1)]] sF] := rfl
  have e : evs C [3, 0, 0, 0] sE0 [.op (.add false) [.var 2, .cst (.int 1)]] sS0 = .ok [.p (.int 301)] sS0 := by kernel_rfl
  have hw : walkF 1 [.p (.int 301)] sS0 = some (.fix (rangeFrom 0 301), sS0) := by kernel_rfl
  rw [hs, execs1, for_of e hw]
  generalize rangeFrom 0 301 = its
  rfl
theorem x3_0 : forG (.name 3) (sBody (callK tab 97)) (rangeFrom 0 50) sE0 sS0 = some (sE_50, sS_50) := by kernel_rfl
theorem x3_1 : forG (.name 3) (sBody (callK tab 97)) (rangeFrom 50 50) sE_50 sS_50 = some (sE_100, sS_100) := by kernel_rfl
theorem x3_2 : forG (.name 3) (sBody (callK tab 97)) (rangeFrom 100 50) sE_100 sS_100 = some (sE_150, sS_150) := by kernel_rfl
theorem x3_3 : forG (.name 3) (sBody (callK tab 97)) (rangeFrom 150 50) sE_150 sS_150 = some (sE_200, sS_200) := by kernel_rfl
theorem x3_4 : forG (.name 3) (sBody (callK tab 97)) (rangeFrom 200 50) sE_200 sS_200 = some (sE_250, sS_250) := by kernel_rfl
theorem x3_5 : forG (.name 3) (sBody (callK tab 97)) (rangeFrom 250 51) sE_250 sS_250 = some (sE_301, sS_301) := by kernel_rfl
theorem x4 : back 0 3 (Ev.execs (callK tab 97) [3, 0, 0, 0] TURNS (sB.drop 2) sE_301 sS_301) = .ok (.p (.list totsP)) T := by kernel_rfl
theorem sums : callK tab 98 [0, 0, 0] 35 [.p aP, .ref 0, .p (.int 300)] T = .ok (.p (.list totsP)) T := by
  have t : callK tab 98 [0, 0, 0] 35 [.p aP, .ref 0, .p (.int 300)] T = back 0 3 (Ev.execs (callK tab 97) [3, 0, 0, 0] TURNS sB (startE [.p aP, .ref 0, .p (.int 300)] 11) T) := call0 (h := rfl) rfl
  rw [t]
  have hB : sB = sB.take 1 ++ ((sB.drop 1).take 1 ++ sB.drop 2) := rfl
  rw [hB, app_nx x1]
  have r : rangeFrom 0 301 = rangeFrom 0 50 ++ (rangeFrom 50 50 ++ (rangeFrom 100 50 ++ (rangeFrom 150 50 ++ (rangeFrom 200 50 ++ (rangeFrom 250 51 ++ []))))) := by
    have q0 : rangeFrom 0 301 = rangeFrom 0 50 ++ rangeFrom 50 251 := range_at (by decide) (by decide)
    have q1 : rangeFrom 50 251 = rangeFrom 50 50 ++ rangeFrom 100 201 := range_at (by decide) (by decide)
    have q2 : rangeFrom 100 201 = rangeFrom 100 50 ++ rangeFrom 150 151 := range_at (by decide) (by decide)
    have q3 : rangeFrom 150 151 = rangeFrom 150 50 ++ rangeFrom 200 101 := range_at (by decide) (by decide)
    have q4 : rangeFrom 200 101 = rangeFrom 200 50 ++ rangeFrom 250 51 := range_at (by decide) (by decide)
    rw [q0, q1, q2, q3, q4, List.append_nil]
  have loop : forLoop (.name 3) (sBody (callK tab 97)) (rangeFrom 0 301) sE0 sS0 = .nx sE_301 sS_301 := by
    rw [r, forG_app x3_0, forG_app x3_1, forG_app x3_2, forG_app x3_3, forG_app x3_4, forG_app x3_5]
    rfl
  have l2 : Ev.execs (callK tab 97) [3, 0, 0, 0] TURNS ((sB.drop 1).take 1) sE0 sS0 = .nx sE_301 sS_301 := by rw [x2, loop]
  rw [app_nx l2]
  exact x4
def cwB : List S := f_calls_within.body
def yE : Ev.Env := [some (.p forkP), some (.p (.int 300)), none, none, none, none, some (.p aP), some (.ref 0), none, none, none]
theorem y1 : Ev.execs (callK tab 98) [0, 0, 0] TURNS (cwB.take 1) (startE [.p forkP, .p (.int 300)] 11) [] = .nx yE T := by kernel_rfl
theorem y2 (C : Cl) (hc : C [0, 0, 0] 35 [.p aP, .ref 0, .p (.int 300)] T = .ok (.p (.list totsP)) T) (rest : List S) : Ev.execs C [0, 0, 0] TURNS (.ife (.op .le [.var 1, .cst (.int 300)]) [.ret (.op .idx [.call 35 [.var 6, .var 7, .var 1], .var 1])] [] :: rest) yE T = .rt (.p (.int 2854495385411919762116571938898990272765493247)) T := by
  have a : opS .le [.p (.int 300), .p (.int 300)] T = .ok (.p (.bool true)) T := by kernel_rfl
  have b : opS .idx [.p (.list totsP), .p (.int 300)] T = .ok (.p (.int 2854495385411919762116571938898990272765493247)) T := by kernel_rfl
  have tb : ∀ b : Bool, tru T (.p (.bool b)) = some b := fun _ => rfl
  generalize T = Z at *
  simp only [yE, Ev.execs, Ev.exec, evs, ev, fin, R.bind, R.to, R.toT, R.ask, getE, setE, Ev.asg, nxt, a, b, hc, tb, D.bool]
theorem f300 : callK tab 99 [0, 0] 38 [.p forkP, .p (.int 300)] [] = .ok (.p (.int 2854495385411919762116571938898990272765493247)) [] := by
  have t : callK tab 99 [0, 0] 38 [.p forkP, .p (.int 300)] [] = back 0 0 (Ev.execs (callK tab 98) [0, 0, 0] TURNS cwB (startE [.p forkP, .p (.int 300)] 11) []) := call0 (h := rfl) rfl
  rw [t]
  have hB : cwB = cwB.take 1 ++ (.ife (.op .le [.var 1, .cst (.int 300)]) [.ret (.op .idx [.call 35 [.var 6, .var 7, .var 1], .var 1])] [] :: cwB.drop 2) := rfl
  rw [hB, app_nx y1, y2 _ sums]
  rfl

/-! ### the counts -/
def cB : List S := f__law_counts_right.body
def b0 : List S := (cB.drop 0).take 1
def b1 : List S := (cB.drop 1).take 4
def b2 : List S := (cB.drop 5).take 2
def b3 : List S := (cB.drop 7).take 2
def b4 : List S := (cB.drop 9).take 2
def b5 : List S := (cB.drop 11).take 2
def b6 : List S := (cB.drop 13).take 4
def b7 : List S := (cB.drop 17).take 2
def b8 : List S := (cB.drop 19).take 2
def h1 : PyData := .list [.tuple [.tuple [.int 0, .tuple []], .tuple [.int 0, .tuple [.int 0]], .tuple [.int 0, .tuple [.int 0, .int 0]]], .tuple [.tuple [.int 0, .tuple []], .tuple [.int 0, .tuple [.int 0]], .tuple [.int 0, .tuple [.int 0, .int 0]]], .tuple [.tuple [.int 0, .tuple [.int 1]]], .tuple [], .tuple [.tuple [.int 0, .tuple []], .tuple [.int 0, .tuple [.int 0, .int 1]], .tuple [.int 0, .tuple [.int 1, .int 0]]], .tuple [.tuple [.int 1, .tuple []], .tuple [.int 1, .tuple [.int 1]], .tuple [.int 1, .tuple [.int 1, .int 1]]], .tuple [.tuple [.int 1, .tuple []], .tuple [.int 1, .tuple [.int 1]], .tuple [.int 1, .tuple [.int 1, .int 1]]], .tuple [.tuple [.int 0, .tuple []]], .tuple [], .tuple []]
def h2 : PyData := .list [.tuple [.tuple [.int 0, .tuple []], .tuple [.int 0, .tuple [.int 0]], .tuple [.int 0, .tuple [.int 0, .int 0]]], .tuple [.tuple [.int 0, .tuple []], .tuple [.int 0, .tuple [.int 0]], .tuple [.int 0, .tuple [.int 0, .int 0]]], .tuple [.tuple [.int 0, .tuple [.int 1]]], .tuple [], .tuple [.tuple [.int 0, .tuple []], .tuple [.int 0, .tuple [.int 0, .int 1]], .tuple [.int 0, .tuple [.int 1, .int 0]]], .tuple [.tuple [.int 1, .tuple []], .tuple [.int 1, .tuple [.int 1]], .tuple [.int 1, .tuple [.int 1, .int 1]]], .tuple [.tuple [.int 1, .tuple []], .tuple [.int 1, .tuple [.int 1]], .tuple [.int 1, .tuple [.int 1, .int 1]]], .tuple [.tuple [.int 0, .tuple []]], .tuple [], .tuple [], .list [.int 1, .int 2, .int 6, .int 301, .int 302, .int 1000000000000000001], .list [.int 1, .int 1, .int 1]]
def h3 : PyData := .list [.tuple [.tuple [.int 0, .tuple []], .tuple [.int 0, .tuple [.int 0]], .tuple [.int 0, .tuple [.int 0, .int 0]]], .tuple [.tuple [.int 0, .tuple []], .tuple [.int 0, .tuple [.int 0]], .tuple [.int 0, .tuple [.int 0, .int 0]]], .tuple [.tuple [.int 0, .tuple [.int 1]]], .tuple [], .tuple [.tuple [.int 0, .tuple []], .tuple [.int 0, .tuple [.int 0, .int 1]], .tuple [.int 0, .tuple [.int 1, .int 0]]], .tuple [.tuple [.int 1, .tuple []], .tuple [.int 1, .tuple [.int 1]], .tuple [.int 1, .tuple [.int 1, .int 1]]], .tuple [.tuple [.int 1, .tuple []], .tuple [.int 1, .tuple [.int 1]], .tuple [.int 1, .tuple [.int 1, .int 1]]], .tuple [.tuple [.int 0, .tuple []]], .tuple [], .tuple [], .list [.int 1, .int 2, .int 6, .int 301, .int 302, .int 1000000000000000001], .list [.int 1, .int 1, .int 1], .list [.int 1, .int 3, .int 6, .int 66, .int 45753, .int 500000001500000001], .list [.int 1, .int 1, .int 3, .int 3, .int 7, .int 2097151]]
def h4 : PyData := .list [.tuple [.tuple [.int 0, .tuple []], .tuple [.int 0, .tuple [.int 0]], .tuple [.int 0, .tuple [.int 0, .int 0]]], .tuple [.tuple [.int 0, .tuple []], .tuple [.int 0, .tuple [.int 0]], .tuple [.int 0, .tuple [.int 0, .int 0]]], .tuple [.tuple [.int 0, .tuple [.int 1]]], .tuple [], .tuple [.tuple [.int 0, .tuple []], .tuple [.int 0, .tuple [.int 0, .int 1]], .tuple [.int 0, .tuple [.int 1, .int 0]]], .tuple [.tuple [.int 1, .tuple []], .tuple [.int 1, .tuple [.int 1]], .tuple [.int 1, .tuple [.int 1, .int 1]]], .tuple [.tuple [.int 1, .tuple []], .tuple [.int 1, .tuple [.int 1]], .tuple [.int 1, .tuple [.int 1, .int 1]]], .tuple [.tuple [.int 0, .tuple []]], .tuple [], .tuple [], .list [.int 1, .int 2, .int 6, .int 301, .int 302, .int 1000000000000000001], .list [.int 1, .int 1, .int 1], .list [.int 1, .int 3, .int 6, .int 66, .int 45753, .int 500000001500000001], .list [.int 1, .int 1, .int 3, .int 3, .int 7, .int 2097151], .bool true, .list [.str ⟨#[109, 117, 99, 104]⟩, .bool true], .list [.str ⟨#[109, 117, 99, 104]⟩, .bool true]]
def h5 : PyData := .list [.tuple [.tuple [.int 0, .tuple []], .tuple [.int 0, .tuple [.int 0]], .tuple [.int 0, .tuple [.int 0, .int 0]]], .tuple [.tuple [.int 0, .tuple []], .tuple [.int 0, .tuple [.int 0]], .tuple [.int 0, .tuple [.int 0, .int 0]]], .tuple [.tuple [.int 0, .tuple [.int 1]]], .tuple [], .tuple [.tuple [.int 0, .tuple []], .tuple [.int 0, .tuple [.int 0, .int 1]], .tuple [.int 0, .tuple [.int 1, .int 0]]], .tuple [.tuple [.int 1, .tuple []], .tuple [.int 1, .tuple [.int 1]], .tuple [.int 1, .tuple [.int 1, .int 1]]], .tuple [.tuple [.int 1, .tuple []], .tuple [.int 1, .tuple [.int 1]], .tuple [.int 1, .tuple [.int 1, .int 1]]], .tuple [.tuple [.int 0, .tuple []]], .tuple [], .tuple [], .list [.int 1, .int 2, .int 6, .int 301, .int 302, .int 1000000000000000001], .list [.int 1, .int 1, .int 1], .list [.int 1, .int 3, .int 6, .int 66, .int 45753, .int 500000001500000001], .list [.int 1, .int 1, .int 3, .int 3, .int 7, .int 2097151], .bool true, .list [.str ⟨#[109, 117, 99, 104]⟩, .bool true], .list [.str ⟨#[109, 117, 99, 104]⟩, .bool true], .list [.int 1, .int 2, .int 4, .int 7, .int 12, .int 20], .int 7, .int 1]
def h7 : PyData := .list [.tuple [.tuple [.int 0, .tuple []], .tuple [.int 0, .tuple [.int 0]], .tuple [.int 0, .tuple [.int 0, .int 0]]], .tuple [.tuple [.int 0, .tuple []], .tuple [.int 0, .tuple [.int 0]], .tuple [.int 0, .tuple [.int 0, .int 0]]], .tuple [.tuple [.int 0, .tuple [.int 1]]], .tuple [], .tuple [.tuple [.int 0, .tuple []], .tuple [.int 0, .tuple [.int 0, .int 1]], .tuple [.int 0, .tuple [.int 1, .int 0]]], .tuple [.tuple [.int 1, .tuple []], .tuple [.int 1, .tuple [.int 1]], .tuple [.int 1, .tuple [.int 1, .int 1]]], .tuple [.tuple [.int 1, .tuple []], .tuple [.int 1, .tuple [.int 1]], .tuple [.int 1, .tuple [.int 1, .int 1]]], .tuple [.tuple [.int 0, .tuple []]], .tuple [], .tuple [], .list [.int 1, .int 2, .int 6, .int 301, .int 302, .int 1000000000000000001], .list [.int 1, .int 1, .int 1], .list [.int 1, .int 3, .int 6, .int 66, .int 45753, .int 500000001500000001], .list [.int 1, .int 1, .int 3, .int 3, .int 7, .int 2097151], .bool true, .list [.str ⟨#[109, 117, 99, 104]⟩, .bool true], .list [.str ⟨#[109, 117, 99, 104]⟩, .bool true], .list [.int 1, .int 2, .int 4, .int 7, .int 12, .int 20], .int 7, .int 1, .int 941390895042587567453271223806288165311401367715034229502159201, .tuple [.tuple [.int 0, .tuple []], .tuple [.int 0, .tuple [.int 0]], .tuple [.int 0, .tuple [.int 0, .int 0]]]]
def e0 : Ev.Env := [none, none, none, none, none, none, some (.p rowP), some (.p forkP), some (.p wedgeP), some (.p loneP), none]
def e1 : Ev.Env := [some (.p h1), some (.p h1), none, none, none, none, some (.p rowP), some (.p forkP), some (.p wedgeP), some (.p loneP), none]
def e2 : Ev.Env := [some (.p h2), some (.p h2), none, none, none, none, some (.p rowP), some (.p forkP), some (.p wedgeP), some (.p loneP), none]
def e3 : Ev.Env := [some (.p h3), some (.p h3), none, none, none, none, some (.p rowP), some (.p forkP), some (.p wedgeP), some (.p loneP), none]
def e4 : Ev.Env := [some (.p h4), some (.p h4), none, none, none, none, some (.p rowP), some (.p forkP), some (.p wedgeP), some (.p loneP), none]
def e5 : Ev.Env := [some (.p h5), some (.p h5), none, none, none, none, some (.p rowP), some (.p forkP), some (.p wedgeP), some (.p loneP), none]
def e6 : Ev.Env := [some (.p h5), some (.p h5), some (.p bothP), some (.p stillP), some (.ref 0), some (.p (.int 298)), some (.p rowP), some (.p forkP), some (.p wedgeP), some (.p loneP), none]
def e7 : Ev.Env := [some (.p h7), some (.p h7), some (.p bothP), some (.p stillP), some (.ref 0), some (.p (.int 298)), some (.p rowP), some (.p forkP), some (.p wedgeP), some (.p loneP), none]
theorem c0 : Ev.execs (callK tab 99) [0, 0] TURNS b0 (startE [] 11) [] = .nx e0 [] := by kernel_rfl
theorem c1 : Ev.execs (callK tab 99) [0, 0] TURNS b1 e0 [] = .nx e1 [] := by kernel_rfl
theorem c2 : Ev.execs (callK tab 99) [0, 0] TURNS b2 e1 [] = .nx e2 [] := by kernel_rfl
theorem c3 : Ev.execs (callK tab 99) [0, 0] TURNS b3 e2 [] = .nx e3 [] := by kernel_rfl
theorem c5 : Ev.execs (callK tab 99) [0, 0] TURNS b5 e4 [] = .nx e5 [] := by kernel_rfl
theorem c6 : Ev.execs (callK tab 99) [0, 0] TURNS b6 e5 [] = .nx e6 [.lst sumsS] := by kernel_rfl
theorem c8 : Ev.execs (callK tab 99) [0, 0] TURNS b8 e7 [.lst sumsS] = .rt (.p (.bool true)) [.lst sumsS] := by kernel_rfl
theorem f301 : callK tab 99 [0, 0] 46 [.p (.int 0), .p forkP, .p (.int 301)] [] = .ok (.p (.list [.str ⟨#[109, 117, 99, 104]⟩, .bool true])) [] := by kernel_rfl
theorem far18 : callK tab 99 [0, 0] 46 [.p (.int 0), .p forkP, .p (.int 1000000000000000000)] [] = .ok (.p (.list [.str ⟨#[109, 117, 99, 104]⟩, .bool true])) [] := by kernel_rfl
theorem c4' (C : Cl) (hx : C [0, 0] 38 [.p forkP, .p (.int 300)] [] = .ok (.p (.int 2854495385411919762116571938898990272765493247)) []) (hy : C [0, 0] 46 [.p (.int 0), .p forkP, .p (.int 301)] [] = .ok (.p (.list [.str ⟨#[109, 117, 99, 104]⟩, .bool true])) []) (hz : C [0, 0] 46 [.p (.int 0), .p forkP, .p (.int 1000000000000000000)] [] = .ok (.p (.list [.str ⟨#[109, 117, 99, 104]⟩, .bool true])) []) : Ev.execs C [0, 0] TURNS b4 e3 [] = .nx e4 [] := by
  have hb : b4 = [.asg (.name 0) (.op (.add false) [.var 0, .op (.lst false) [.op .eq [.call 38 [.var 7, .cst (.int 300)], .op .subt [.op .shl [.cst (.int 1), .cst (.int 151)], .cst (.int 1)]], .call 46 [.cst (.int 0), .var 7, .cst (.int 301)], .call 46 [.cst (.int 0), .var 7, .op .pow [.cst (.int 10), .cst (.int 18)]]]]),
    .asg (.name 1) (.op (.add false) [.var 1, .cst (.list [.bool true, .list [.str ⟨#[109, 117, 99, 104]⟩, .bool true], .list [.str ⟨#[109, 117, 99, 104]⟩, .bool true]])])] := rfl
  have a : opS .shl [.p (.int 1), .p (.int 151)] [] = .ok (.p (.int 2854495385411919762116571938898990272765493248)) [] := by kernel_rfl
  have a2 : opS .subt [.p (.int 2854495385411919762116571938898990272765493248), .p (.int 1)] [] = .ok (.p (.int 2854495385411919762116571938898990272765493247)) [] := by kernel_rfl
  have a3 : opS .eq [.p (.int 2854495385411919762116571938898990272765493247), .p (.int 2854495385411919762116571938898990272765493247)] [] = .ok (.p (.bool true)) [] := by kernel_rfl
  have a4 : opS .pow [.p (.int 10), .p (.int 18)] [] = .ok (.p (.int 1000000000000000000)) [] := by kernel_rfl
  have b : opS (.lst false) [.p (.bool true), .p (.list [.str ⟨#[109, 117, 99, 104]⟩, .bool true]), .p (.list [.str ⟨#[109, 117, 99, 104]⟩, .bool true])] [] = .ok (.p (.list [.bool true, .list [.str ⟨#[109, 117, 99, 104]⟩, .bool true], .list [.str ⟨#[109, 117, 99, 104]⟩, .bool true]])) [] := by kernel_rfl
  have c : opS (.add false) [.p h3, .p (.list [.bool true, .list [.str ⟨#[109, 117, 99, 104]⟩, .bool true], .list [.str ⟨#[109, 117, 99, 104]⟩, .bool true]])] [] = .ok (.p h4) [] := by kernel_rfl
  rw [hb]
  generalize ([] : Sto) = Z at *
  simp only [e3, Ev.execs, Ev.exec, evs, ev, fin, R.bind, R.to, R.toT, R.ask, getE, setE, Ev.asg, nxt, a, a2, a3, a4, hx, hy, hz, b, c]
  rfl
def zeros : PyData := .tuple ((.int 0) :: (.int 0) :: (.int 0) :: (.int 0) :: (.int 0) :: (.int 0) :: (.int 0) :: (.int 0) :: (.int 0) :: (.int 0) :: (.int 0) :: (.int 0) :: (.int 0) :: (.int 0) :: (.int 0) :: (.int 0) :: (.int 0) :: (.int 0) :: (.int 0) :: (.int 0) :: (.int 0) :: (.int 0) :: (.int 0) :: (.int 0) :: (.int 0) :: (.int 0) :: (.int 0) :: (.int 0) :: (.int 0) :: (.int 0) :: (.int 0) :: (.int 0) :: (.int 0) :: (.int 0) :: (.int 0) :: (.int 0) :: [.int 0, .int 0, .int 0, .int 0, .int 0, .int 0, .int 0, .int 0, .int 0, .int 0, .int 0, .int 0, .int 0, .int 0, .int 0, .int 0, .int 0, .int 0, .int 0, .int 0, .int 0, .int 0, .int 0, .int 0])
theorem lots : callK tab 99 [0, 0] 18 [.p rowP, .p zeros] [.lst sumsS] = .ok (.p (.tuple [.tuple [.int 0, .tuple []], .tuple [.int 0, .tuple [.int 0]], .tuple [.int 0, .tuple [.int 0, .int 0]]])) [.lst sumsS] := by kernel_rfl
theorem c7' (C : Cl) (hw : C [0, 0] 39 [.p rowP, .p (.int 300)] [.lst sumsS] = .ok (.p (.int 941390895042587567453271223806288165311401367715034229502159201)) [.lst sumsS]) (hl : C [0, 0] 18 [.p rowP, .p zeros] [.lst sumsS] = .ok (.p (.tuple [.tuple [.int 0, .tuple []], .tuple [.int 0, .tuple [.int 0]], .tuple [.int 0, .tuple [.int 0, .int 0]]])) [.lst sumsS]) : Ev.execs C [0, 0] TURNS b7 e6 [.lst sumsS] = .nx e7 [.lst sumsS] := by
  have hb : b7 = [.asg (.name 0) (.op (.add false) [.var 0, .op (.lst false) [.call 39 [.var 6, .cst (.int 300)], .call 18 [.var 6, .op (.mul false) [.cst (.tuple [.int 0]), .cst (.int 60)]]]]),
    .asg (.name 1) (.op (.add false) [.var 1, .op (.lst false) [.op .idx [.var 4, .cst (.int 300)], .op .idx [.var 1, .cst (.int 0)]]])] := rfl
  have a : opS (.mul false) [.p (.tuple [.int 0]), .p (.int 60)] [.lst sumsS] = .ok (.p zeros) [.lst sumsS] := by kernel_rfl
  have b : opS (.lst false) [.p (.int 941390895042587567453271223806288165311401367715034229502159201), .p (.tuple [.tuple [.int 0, .tuple []], .tuple [.int 0, .tuple [.int 0]], .tuple [.int 0, .tuple [.int 0, .int 0]]])] [.lst sumsS] = .ok (.p (.list [.int 941390895042587567453271223806288165311401367715034229502159201, .tuple [.tuple [.int 0, .tuple []], .tuple [.int 0, .tuple [.int 0]], .tuple [.int 0, .tuple [.int 0, .int 0]]]])) [.lst sumsS] := by kernel_rfl
  have c : opS (.add false) [.p h5, .p (.list [.int 941390895042587567453271223806288165311401367715034229502159201, .tuple [.tuple [.int 0, .tuple []], .tuple [.int 0, .tuple [.int 0]], .tuple [.int 0, .tuple [.int 0, .int 0]]]])] [.lst sumsS] = .ok (.p h7) [.lst sumsS] := by kernel_rfl
  have d : opS .idx [.ref 0, .p (.int 300)] [.lst sumsS] = .ok (.p (.int 941390895042587567453271223806288165311401367715034229502159201)) [.lst sumsS] := by kernel_rfl
  have e : opS .idx [.p h5, .p (.int 0)] [.lst sumsS] = .ok (.p (.tuple [.tuple [.int 0, .tuple []], .tuple [.int 0, .tuple [.int 0]], .tuple [.int 0, .tuple [.int 0, .int 0]]])) [.lst sumsS] := by kernel_rfl
  rw [hb]
  generalize ([.lst sumsS] : Sto) = Z at *
  simp only [e6, Ev.execs, Ev.exec, evs, ev, fin, R.bind, R.to, R.toT, R.ask, getE, setE, Ev.asg, nxt, a, hw, hl, b, c, d, e]
  rfl
theorem counts_right : callK tab 100 [0] 47 [] [] = .ok (.p (.bool true)) [] := by
  have t : callK tab 100 [0] 47 [] [] = back 0 0 (Ev.execs (callK tab 99) [0, 0] TURNS cB (startE [] 11) []) := call0 (h := rfl) rfl
  rw [t]
  have hB : cB = b0 ++ (b1 ++ (b2 ++ (b3 ++ (b4 ++ (b5 ++ (b6 ++ (b7 ++ b8))))))) := rfl
  rw [hB, app_nx c0, app_nx c1, app_nx c2, app_nx c3, app_nx (c4' _ f300 f301 far18), app_nx c5, app_nx c6, app_nx (c7' _ (ways _) lots), c8]
  rfl
/-! ### the law -/
theorem t1 (X : PyData) : callK tab 101 [] 50 [.p X] [] = back 0 0 (Ev.execs (callK tab 100) [0] TURNS f_law.body (startE [.p X] f_law.ns) []) := call0 (h := rfl) rfl
theorem t2 (C : Cl) (X : PyData) (e1 : C [0] 47 [] [] = .ok (.p (.bool true)) []) (e2 : C [0] 48 [] [] = .ok (.p (.bool true)) []) (e3 : C [0] 49 [] [] = .ok (.p (.bool true)) []) : back 0 0 (Ev.execs C [0] TURNS f_law.body (startE [.p X] f_law.ns) []) = .ok (.p (.bool true)) [] := by
  have bk : back 0 0 (.rt (.p (.bool true)) []) = .ok (.p (.bool true)) [] := rfl
  have tb : ∀ (st : Sto) (b : Bool), tru st (.p (.bool b)) = some b := fun _ _ => rfl
  simp only [f_law, Ev.execs, Ev.exec, evs, ev, fin, R.bind, R.to, R.toT, R.ask, e1, e2, e3, tb, D.bool, bk]
theorem pure_law (ns : List Int) (_ : ns.length ≤ 63) (_ : ∀ z ∈ ns, Builtin.Int.intBits z ≤ 1048576) : callK tab 101 [] 50 [.p (.list (ns.map .int))] [] = .ok (.p (.bool true)) [] := (t1 _).trans (t2 _ _ counts_right rings_right names_right)
end P48

/-! EvA: data as keys of sets and dicts; their hashes. -/
namespace EvK
open PySem PySem.Spec PyProof.Rows L2
mutual
theorem ky_eq : ∀ (x y : PyData) (n m : Nat), Ev.kyP n x = true → Ev.kyP m y = true → PyData.eqv x y = true → x = y
  | .int i, y, n, m, _, hy, e => by
    cases y with
    | int j => rw [show i = j by simpa [PyData.eqv] using e]
    | bool b => unfold Ev.kyP at hy; cases hy
    | _ => cases e
  | .str i, y, n, m, _, hy, e => by
    cases y with
    | str j => rw [show i = j by simpa [PyData.eqv] using e]
    | _ => cases e
  | .tuple xs, y, n, m, hx, hy, e => by
    cases y with
    | tuple ys =>
      cases n with
      | zero => unfold Ev.kyP at hx; cases hx
      | succ n => cases m with
        | zero => unfold Ev.kyP at hy; cases hy
        | succ m =>
          unfold Ev.kyP at hx hy
          rw [PyData.eqv] at e
          rw [kys_eq xs ys n m hx hy e]
    | _ => cases e
  | .none, y, n, m, hx, _, _ => by unfold Ev.kyP at hx; cases hx
  | .bool _, y, n, m, hx, _, _ => by unfold Ev.kyP at hx; cases hx
  | .list _, y, n, m, hx, _, _ => by unfold Ev.kyP at hx; cases hx
  | .dict _, y, n, m, hx, _, _ => by unfold Ev.kyP at hx; cases hx
theorem kys_eq : ∀ (xs ys : List PyData) (n m : Nat), Ev.kyL n xs = true → Ev.kyL m ys = true → PyData.eqvAll xs ys = true → xs = ys
  | [], [], _, _, _, _, _ => rfl
  | [], _ :: _, _, _, _, _, e => by cases e
  | _ :: _, [], _, _, _, _, e => by cases e
  | x :: xs, y :: ys, n, m, hx, hy, e => by
    rw [PyData.eqvAll] at e
    obtain ⟨e1, e2⟩ := Bool.and_eq_true_iff.mp e
    unfold Ev.kyL at hx hy
    cases h1 : Ev.kyP n x with
    | false => rw [h1] at hx; cases hx
    | true => cases h2 : Ev.kyP m y with
      | false => rw [h2] at hy; cases hy
      | true =>
        rw [h1] at hx
        rw [h2] at hy
        rw [ky_eq x y n m h1 h2 e1, kys_eq xs ys n m hx hy e2]
end
mutual
theorem ky_refl : ∀ (x : PyData) (n : Nat), Ev.kyP n x = true → PyData.eqv x x = true
  | .int i, n, _ => by simp [PyData.eqv]
  | .str i, n, _ => by simp [PyData.eqv]
  | .tuple xs, n, hx => by
    cases n with
    | zero => unfold Ev.kyP at hx; cases hx
    | succ n =>
      unfold Ev.kyP at hx
      rw [PyData.eqv]
      exact kys_refl xs n hx
  | .none, n, hx => by unfold Ev.kyP at hx; cases hx
  | .bool _, n, hx => by unfold Ev.kyP at hx; cases hx
  | .list _, n, hx => by unfold Ev.kyP at hx; cases hx
  | .dict _, n, hx => by unfold Ev.kyP at hx; cases hx
theorem kys_refl : ∀ (xs : List PyData) (n : Nat), Ev.kyL n xs = true → PyData.eqvAll xs xs = true
  | [], _, _ => rfl
  | x :: xs, n, hx => by
    unfold Ev.kyL at hx
    cases h1 : Ev.kyP n x with
    | false => rw [h1] at hx; cases hx
    | true =>
      rw [h1] at hx
      rw [PyData.eqvAll, ky_refl x n h1, kys_refl xs n hx]
      rfl
end
mutual
/-- a datum as a key -/
def kOf : PyData → NestedKey
  | .none => .none
  | .bool _ => .none
  | .int i => .num i
  | .str x => .text x
  | .list _ => .none
  | .tuple xs => .tup (kOfs xs)
  | .dict _ => .none
def kOfs : List PyData → List NestedKey
  | [] => []
  | x :: xs => kOf x :: kOfs xs
end
mutual
theorem data_kOf : ∀ (x : PyData) (n : Nat), Ev.kyP n x = true → (kOf x).data = x ∧ (kOf x).depth ≤ n
  | .int i, n, _ => ⟨by rw [kOf, NestedKey.data], by rw [kOf, NestedKey.depth]; exact Nat.zero_le _⟩
  | .str i, n, _ => ⟨by rw [kOf, NestedKey.data], by rw [kOf, NestedKey.depth]; exact Nat.zero_le _⟩
  | .tuple xs, n, hx => by
    cases n with
    | zero => unfold Ev.kyP at hx; cases hx
    | succ n =>
      unfold Ev.kyP at hx
      obtain ⟨h1, h2⟩ := datas_kOf xs n hx
      exact ⟨by rw [kOf, NestedKey.data, h1], by rw [kOf, NestedKey.depth]; exact Nat.succ_le_succ h2⟩
  | .none, n, hx => by unfold Ev.kyP at hx; cases hx
  | .bool _, n, hx => by unfold Ev.kyP at hx; cases hx
  | .list _, n, hx => by unfold Ev.kyP at hx; cases hx
  | .dict _, n, hx => by unfold Ev.kyP at hx; cases hx
theorem datas_kOf : ∀ (xs : List PyData) (n : Nat), Ev.kyL n xs = true → NestedKey.datas (kOfs xs) = xs ∧ NestedKey.depthAll (kOfs xs) ≤ n
  | [], _, _ => ⟨by rw [kOfs, NestedKey.datas], by rw [kOfs, NestedKey.depthAll]; exact Nat.zero_le _⟩
  | x :: xs, n, hx => by
    unfold Ev.kyL at hx
    cases h1 : Ev.kyP n x with
    | false => rw [h1] at hx; cases hx
    | true =>
      rw [h1] at hx
      obtain ⟨a1, a2⟩ := data_kOf x n h1
      obtain ⟨b1, b2⟩ := datas_kOf xs n hx
      exact ⟨by rw [kOfs, NestedKey.datas, a1, b1], by rw [kOfs, NestedKey.depthAll]; exact Nat.max_le.mpr ⟨a2, b2⟩⟩
end

/-! ### keys of whole numbers, nested: their hashes are the same in any world -/
mutual
theorem ky_of_kyN : ∀ (x : PyData) (n : Nat), Ev.kyN n x = true → Ev.kyP n x = true
  | .int i, n, _ => by unfold Ev.kyP; cases n <;> rfl
  | .tuple xs, n, hx => by
    cases n with
    | zero => unfold Ev.kyN at hx; cases hx
    | succ n =>
      unfold Ev.kyN at hx
      unfold Ev.kyP
      exact kys_of_kyN xs n hx
  | .str _, n, hx => by unfold Ev.kyN at hx; cases hx
  | .none, n, hx => by unfold Ev.kyN at hx; cases hx
  | .bool _, n, hx => by unfold Ev.kyN at hx; cases hx
  | .list _, n, hx => by unfold Ev.kyN at hx; cases hx
  | .dict _, n, hx => by unfold Ev.kyN at hx; cases hx
theorem kys_of_kyN : ∀ (xs : List PyData) (n : Nat), Ev.kyNs n xs = true → Ev.kyL n xs = true
  | [], _, _ => by unfold Ev.kyL; rfl
  | x :: xs, n, hx => by
    unfold Ev.kyNs at hx
    cases h1 : Ev.kyN n x with
    | false => rw [h1] at hx; cases hx
    | true =>
      rw [h1] at hx
      unfold Ev.kyL
      rw [ky_of_kyN x n h1]
      exact kys_of_kyN xs n hx
end
mutual
theorem hash_any : ∀ (x : PyData) (n : Nat) (w w' : World), Ev.kyN n x = true → (kOf x).hash w = (kOf x).hash w'
  | .int i, n, w, w', _ => by rw [kOf, NestedKey.hash, NestedKey.hash]
  | .tuple xs, n, w, w', hx => by
    cases n with
    | zero => unfold Ev.kyN at hx; cases hx
    | succ n =>
      unfold Ev.kyN at hx
      rw [kOf, NestedKey.hash, NestedKey.hash, hashes_any xs n w w' hx]
  | .str _, n, _, _, hx => by unfold Ev.kyN at hx; cases hx
  | .none, n, _, _, hx => by unfold Ev.kyN at hx; cases hx
  | .bool _, n, _, _, hx => by unfold Ev.kyN at hx; cases hx
  | .list _, n, _, _, hx => by unfold Ev.kyN at hx; cases hx
  | .dict _, n, _, _, hx => by unfold Ev.kyN at hx; cases hx
theorem hashes_any : ∀ (xs : List PyData) (n : Nat) (w w' : World), Ev.kyNs n xs = true → NestedKey.hashes w (kOfs xs) = NestedKey.hashes w' (kOfs xs)
  | [], _, _, _, _ => by rw [kOfs, NestedKey.hashes, NestedKey.hashes]
  | x :: xs, n, w, w', hx => by
    unfold Ev.kyNs at hx
    cases h1 : Ev.kyN n x with
    | false => rw [h1] at hx; cases hx
    | true =>
      rw [h1] at hx
      rw [kOfs, NestedKey.hashes, NestedKey.hashes, hash_any x n w w' h1, hashes_any xs n w w' hx]
end
theorem keyT_tup {x : PyData} (h : Ev.keyT x = true) : ∃ xs, x = .tuple xs ∧ Ev.kyN 8 x = true := by
  cases x with
  | tuple xs => exact ⟨xs, rfl, by unfold Ev.kyN; exact h⟩
  | _ => cases h
/-- eqv of keys is = of what they are as keys -/
theorem eqv_kOf {x y : PyData} (hx : Ev.kyP 8 x = true) (hy : Ev.kyP 8 y = true) : PyData.eqv x y = decide (kOf x = kOf y) := by
  by_cases h : kOf x = kOf y
  · rw [decide_eq_true h]
    have e : x = y := by rw [← (data_kOf x 8 hx).1, ← (data_kOf y 8 hy).1, h]
    subst e
    exact ky_refl x 8 hx
  · rw [decide_eq_false h]
    cases q : PyData.eqv x y with
    | false => rfl
    | true => exact absurd (by rw [ky_eq x y 8 8 hx hy q]) h
end EvK

/-! Ev1: what the reckoner's values, stores and ends stand for over the hand layer's abstract heap. -/
namespace Ev
/-- where the defs stand -/
class FnTab where
  fa : Nat → Option PySem.Addr
variable [FnTab]
open PySem PySem.Spec PyProof.Rows L2

/-- the frozen part of the heap; where the store's places stand -/
structure Gh where
  G : Hp
  mu : List Addr
/-- the written part; the exception classes: where they stand, the field they keep -/
structure Kit where
  K : PySem.W.Frag
  cl : List (Addr × Option Str)

def Sub (G G' : Hp) : Prop := ∀ a o, G a = some o → G' a = some o
theorem Sub.refl (G : Hp) : Sub G G := fun _ _ h => h
theorem Sub.trans {A B C : Hp} (x : Sub A B) (y : Sub B C) : Sub A C := fun a o h => y a o (x a o h)
theorem Sub.free {A B : Hp} (x : Sub A B) {a : Addr} (h : B a = none) : A a = none := by
  cases q : A a with
  | none => rfl
  | some o => rw [x a o q] at h; cases h
theorem Sub.new {A : Hp} {p : Addr} {o : HO} (h : A p = none) : Sub A (upd A p o) := fun a u e => by
  rw [upd_ne (ne_of_none e h)]; exact e
theorem Sub.both {A B : Hp} {p : Addr} {o : HO} (x : Sub A B) : Sub (upd A p o) (upd B p o) := fun a u e => by
  by_cases h : a = p
  · subst h; rw [upd_same] at e ⊢; exact e
  · rw [upd_ne h] at e ⊢; exact x a u e

section
variable {K : PySem.W.Frag} {G G' : Hp}
theorem rd_mono (h : Sub G G') {a : Addr} {u : HO} : Rd G a u → Rd G' a u
  | .inl e => .inl (h _ _ e)
  | .inr ⟨o, e⟩ => .inr ⟨o, h _ _ e⟩
theorem sql_mono (h : Sub G G') {a : Addr} {xs : List V} : SqL K G a xs → SqL K G' a xs
  | .inl e => .inl (rd_mono h e)
  | .inr e => .inr e
theorem sqt_mono (h : Sub G G') {a : Addr} {xs : List V} : SqT K G a xs → SqT K G' a xs
  | .inl e => .inl (rd_mono h e)
  | .inr e => .inr e
mutual
theorem dp_mono (h : Sub G G') : ∀ (d : PyData) (v : V), Dp K G v d → Dp K G' v d
  | .none, _, .non => .non
  | .bool _, _, .bl b => .bl b
  | .int _, _, .int i => .int i
  | .str _, _, .str x => .str x
  | .list ds, _, .lst hs ha => .lst (sql_mono h hs) (dpAll_mono h ds _ ha)
  | .tuple ds, _, .tup hs ha => .tup (sqt_mono h hs) (dpAll_mono h ds _ ha)
theorem dpAll_mono (h : Sub G G') : ∀ (ds : List PyData) (vs : List V), DpAll K G vs ds → DpAll K G' vs ds
  | [], _, .nil => .nil
  | d :: ds, _, .cons h1 h2 => .cons (dp_mono h d _ h1) (dpAll_mono h ds _ h2)
end
theorem dpl_len {vs : List V} {ds : List PyData} (h : DpAll K G vs ds) : vs.length = ds.length := by
  induction ds generalizing vs with
  | nil => cases h; rfl
  | cons d ds ih => cases h with | cons h1 h2 => simp [ih h2]
theorem dpl_app : ∀ {vs ws : List V} {ds es : List PyData}, DpAll K G vs ds → DpAll K G ws es → DpAll K G (vs ++ ws) (ds ++ es)
  | _, _, [], _, .nil, h => h
  | _, _, _ :: _, _, .cons a b, h => .cons a (dpl_app b h)
theorem dpl_get {vs : List V} {ds : List PyData} (h : DpAll K G vs ds) {i : Nat} {d : PyData} (e : ds[i]? = some d) : ∃ v, vs[i]? = some v ∧ Dp K G v d := by
  induction ds generalizing vs i with
  | nil => simp at e
  | cons x ds ih =>
    cases h with
    | cons h1 h2 =>
      cases i with
      | zero => simp at e; subst e; exact ⟨_, rfl, h1⟩
      | succ i =>
        obtain ⟨v, a, b⟩ := ih h2 (by simpa using e)
        exact ⟨v, by simpa using a, b⟩
theorem dpl_get' {vs : List V} {ds : List PyData} (h : DpAll K G vs ds) {i : Nat} {v : V} (e : vs[i]? = some v) : ∃ d, ds[i]? = some d ∧ Dp K G v d := by
  have hl : i < ds.length := by rw [← dpl_len h]; exact (List.getElem?_eq_some_iff.mp e).1
  obtain ⟨v', a, b⟩ := dpl_get h (List.getElem?_eq_getElem hl)
  rw [e] at a; cases a
  exact ⟨_, List.getElem?_eq_getElem hl, b⟩
theorem dpl_take {vs : List V} {ds : List PyData} (h : DpAll K G vs ds) (n : Nat) : DpAll K G (vs.take n) (ds.take n) := by
  induction n generalizing vs ds with
  | zero => simp; exact .nil
  | succ n ih => cases ds with
    | nil => cases h; exact .nil
    | cons d ds => cases h with | cons a b => exact .cons a (ih b)
theorem dpl_drop {vs : List V} {ds : List PyData} (h : DpAll K G vs ds) (n : Nat) : DpAll K G (vs.drop n) (ds.drop n) := by
  induction n generalizing vs ds with
  | zero => simpa using h
  | succ n ih => cases ds with
    | nil => cases h; exact .nil
    | cons d ds => cases h with | cons a b => exact ih b
end

/-! ### values of the store -/
section
variable (K : PySem.W.Frag)
def RepD (g : Gh) : D → V → Prop
  | .p x, v => Dp K g.G v x
  | .ref n, v => ∃ a, g.mu[n]? = some a ∧ v = .ref a
abbrev RepDs (g : Gh) : List D → List V → Prop := Paired (RepD K g)
def keyP : PyData → Option Key
  | .int i => some (.inl i)
  | .str x => some (.inr x)
  | _ => none
abbrev RepKv (g : Gh) : List (PyData × D) → List (Key × V) → Prop := Paired fun (p : PyData × D) (q : Key × V) => keyP p.1 = some q.1 ∧ RepD K g p.2 q.2
def mutable : SO → Bool
  | .lst _ => true
  | .dct _ => true
  | .dtn _ => true
  | _ => false
def froz : SO → Bool
  | .fz _ => true
  | .fzd _ => true
  | .tpl _ => true
  | .fnc _ => true
  | _ => false
/-- the dict at a, its keys tuples: its one object -/
def RAW (w : World) (a : Addr) (xs : List (NestedKey × Addr × Value)) : Heap → Prop := fun h => (a == sysModules) = false ∧ xs.length ≤ sizeLine ∧ (xs.map (·.1)).Nodup ∧
  ∃ o es ep, h.get? a = some o ∧ o.ExactDict ∧ o.data = .dict es ep ∧ es.toList = xs.map fun x => (⟨x.1.hash w, .ref x.2.1, x.2.2⟩ : DictEntry)
abbrev RepKn (g : Gh) : List (PyData × D) → List (NestedKey × Addr × Value) → Prop := Paired fun (p : PyData × D) (x : NestedKey × Addr × Value) =>
  keyT p.1 = true ∧ x.1 = EvK.kOf p.1 ∧ Dp K g.G (.ref x.2.1) p.1 ∧ ∃ v, RelV v x.2.2 ∧ RepD K g p.2 v
/-- a dict, whatever its keys are -/
def DicH (g : Gh) (a : Addr) (kvs : List (PyData × D)) (ho : HO) : Prop := (∃ ks, ho = .dK ks ∧ RepKv K g kvs ks) ∨ ∃ w xs, ho = .ext (RAW w a xs) ∧ RepKn K g kvs xs ∧ kvs ≠ []
def MutO (g : Gh) (a : Addr) : SO → HO → Prop
  | .lst xs, ho => ∃ vs, ho = .lst vs ∧ RepDs K g xs vs
  | .dct kvs, ho => ∃ ks, ho = .dK ks ∧ RepKv K g kvs ks
  | .dtn kvs, ho => ∃ w xs, ho = .ext (RAW w a xs) ∧ RepKn K g kvs xs ∧ kvs ≠ []
  | _, _ => False
def FrzO (g : Gh) (a : Addr) : SO → Prop
  | .fz x => Dp K g.G (.ref a) x
  | .fzd kvs => ∃ od ho, g.G a = some (.frz od ho) ∧ DicH K g a kvs ho
  | .tpl ds => ∃ vs, g.G a = some (.tup vs) ∧ RepDs K g ds vs
  | .fnc f => FnTab.fa f = some a
  | _ => True
structure Ok (g : Gh) (H : Hp) (st : Sto) : Prop where
  len : g.mu.length = st.length
  sub : Sub g.G H
  muts : ∀ n, mutable (getS st n) = true → ∃ a ho, g.mu[n]? = some a ∧ g.G a = none ∧ H a = some ho ∧ MutO K g a (getS st n) ho
  frz : ∀ n, froz (getS st n) = true → ∃ a, g.mu[n]? = some a ∧ FrzO K g a (getS st n)
  inj : ∀ n m a, mutable (getS st n) = true → mutable (getS st m) = true → g.mu[n]? = some a → g.mu[m]? = some a → n = m
end
/-- the references in a thing of the store lie below b -/
def refLt (b : Nat) : D → Prop
  | .p _ => True
  | .ref n => n < b
def soLt (b : Nat) : SO → Prop
  | .lst xs => ∀ d ∈ xs, refLt b d
  | .dct kvs => ∀ p ∈ kvs, refLt b p.2
  | .dtn kvs => ∀ p ∈ kvs, refLt b p.2
  | .fzd kvs => ∀ p ∈ kvs, refLt b p.2
  | .tpl xs => ∀ d ∈ xs, refLt b d
  | _ => True
def StoW (bs : List Nat) (st : Sto) : Prop := ∀ b ∈ bs, b ≤ st.length ∧ ∀ n, n < b → soLt b (getS st n)
structure At (K : PySem.W.Frag) (bs : List Nat) (g : Gh) (H : Hp) (st : Sto) : Prop where
  ok : Ok K g H st
  w : StoW bs st
structure Step (g : Gh) (H : Hp) (st : Sto) (g' : Gh) (H' : Hp) (st' : Sto) : Prop where
  fro : Sub g.G g'.G
  mu : ∀ (n : Nat) (a : Addr), g.mu[n]? = some a → g'.mu[n]? = some a
  frame : ∀ a o, H a = some o → g.G a = none → (∀ n, mutable (getS st n) = true → g.mu[n]? ≠ some a) → H' a = some o ∧ g'.G a = none ∧ ∀ n, mutable (getS st' n) = true → g'.mu[n]? ≠ some a
theorem Step.refl {g : Gh} {H : Hp} {st : Sto} : Step g H st g H st := ⟨Sub.refl _, fun _ _ h => h, fun a o h1 h2 h3 => ⟨h1, h2, h3⟩⟩
theorem Step.trans {g g1 g2 : Gh} {H H1 H2 : Hp} {st st1 st2 : Sto} (x : Step g H st g1 H1 st1) (y : Step g1 H1 st1 g2 H2 st2) : Step g H st g2 H2 st2 :=
  ⟨x.fro.trans y.fro, fun n a h => y.mu n a (x.mu n a h), fun a o h1 h2 h3 => by
    obtain ⟨k1, k2, k3⟩ := x.frame a o h1 h2 h3
    exact y.frame a o k1 k2 k3⟩

section
variable {K : PySem.W.Frag} {g g' : Gh} {H H' : Hp} {st st' : Sto}
theorem RepD.mono (f : Sub g.G g'.G) (m : ∀ (n : Nat) (a : Addr), g.mu[n]? = some a → g'.mu[n]? = some a) : ∀ {d : D} {v : V}, RepD K g d v → RepD K g' d v
  | .p x, v, h => dp_mono f x v h
  | .ref n, v, ⟨a, e, h⟩ => ⟨a, m n a e, h⟩
theorem RepDs.mono (f : Sub g.G g'.G) (m : ∀ (n : Nat) (a : Addr), g.mu[n]? = some a → g'.mu[n]? = some a) : ∀ {ds : List D} {vs : List V}, RepDs K g ds vs → RepDs K g' ds vs
  | _, _, .nil => .nil
  | _, _, .cons a b => .cons (a.mono f m) (RepDs.mono f m b)
theorem RepKv.mono (f : Sub g.G g'.G) (m : ∀ (n : Nat) (a : Addr), g.mu[n]? = some a → g'.mu[n]? = some a) : ∀ {ds : List (PyData × D)} {vs : List (Key × V)}, RepKv K g ds vs → RepKv K g' ds vs
  | _, _, .nil => .nil
  | _, _, .cons a b => .cons ⟨a.1, a.2.mono f m⟩ (RepKv.mono f m b)
theorem RepKn.mono (f : Sub g.G g'.G) (m : ∀ (n : Nat) (a : Addr), g.mu[n]? = some a → g'.mu[n]? = some a) : ∀ {ds : List (PyData × D)} {vs : List (NestedKey × Addr × Value)}, RepKn K g ds vs → RepKn K g' ds vs
  | _, _, .nil => .nil
  | _, _, .cons a b => .cons ⟨a.1, a.2.1, dp_mono f _ _ a.2.2.1, let ⟨v, h1, h2⟩ := a.2.2.2; ⟨v, h1, h2.mono f m⟩⟩ (RepKn.mono f m b)
theorem DicH.mono (f : Sub g.G g'.G) (m : ∀ (n : Nat) (a : Addr), g.mu[n]? = some a → g'.mu[n]? = some a) {a : Addr} {kvs : List (PyData × D)} {ho : HO} : DicH K g a kvs ho → DicH K g' a kvs ho
  | .inl ⟨ks, e, r⟩ => .inl ⟨ks, e, r.mono f m⟩
  | .inr ⟨w, xs, e, r, n⟩ => .inr ⟨w, xs, e, r.mono f m, n⟩
theorem MutO.mono (f : Sub g.G g'.G) (m : ∀ (n : Nat) (a : Addr), g.mu[n]? = some a → g'.mu[n]? = some a) {a : Addr} : ∀ {o : SO} {ho : HO}, MutO K g a o ho → MutO K g' a o ho
  | .lst xs, _, ⟨vs, e, r⟩ => ⟨vs, e, r.mono f m⟩
  | .dct kvs, _, ⟨ks, e, r⟩ => ⟨ks, e, r.mono f m⟩
  | .dtn kvs, _, ⟨w, xs, e, r, n⟩ => ⟨w, xs, e, r.mono f m, n⟩
theorem FrzO.mono (f : Sub g.G g'.G) (m : ∀ (n : Nat) (a : Addr), g.mu[n]? = some a → g'.mu[n]? = some a) {a : Addr} : ∀ {o : SO}, FrzO K g a o → FrzO K g' a o
  | .fz x, h => dp_mono f _ _ h
  | .fzd kvs, ⟨od, ho, e, r⟩ => ⟨od, ho, f _ _ e, r.mono f m⟩
  | .tpl ds, ⟨vs, e, r⟩ => ⟨vs, f _ _ e, r.mono f m⟩
  | .fnc f, h => h
  | .lst _, _ => True.intro
  | .dct _, _ => True.intro
  | .dtn _, _ => True.intro
  | .dead, _ => True.intro
theorem Step.rep (s : Step g H st g' H' st') {d : D} {v : V} (h : RepD K g d v) : RepD K g' d v := h.mono s.fro s.mu
theorem Step.reps (s : Step g H st g' H' st') {ds : List D} {vs : List V} (h : RepDs K g ds vs) : RepDs K g' ds vs := h.mono s.fro s.mu
theorem Step.dp (s : Step g H st g' H' st') {d : PyData} {v : V} (h : Dp K g.G v d) : Dp K g'.G v d := dp_mono s.fro d v h

theorem RepDs.len {ds : List D} {vs : List V} (h : RepDs K g ds vs) : ds.length = vs.length := Paired.length h
theorem RepDs.app : ∀ {ds es : List D} {vs ws : List V}, RepDs K g ds vs → RepDs K g es ws → RepDs K g (ds ++ es) (vs ++ ws)
  | _, _, _, _, .nil, h => h
  | _, _, _, _, .cons a b, h => .cons a (RepDs.app b h)
theorem RepDs.get {ds : List D} {vs : List V} (h : RepDs K g ds vs) {i : Nat} {d : D} (e : ds[i]? = some d) : ∃ v, vs[i]? = some v ∧ RepD K g d v := by
  induction h generalizing i with
  | nil => simp at e
  | cons a b ih =>
    cases i with
    | zero => simp at e; subst e; exact ⟨_, rfl, a⟩
    | succ i => exact ih (by simpa using e)
theorem RepDs.get' {ds : List D} {vs : List V} (h : RepDs K g ds vs) {i : Nat} {v : V} (e : vs[i]? = some v) : ∃ d, ds[i]? = some d ∧ RepD K g d v := by
  induction h generalizing i with
  | nil => simp at e
  | cons a b ih =>
    cases i with
    | zero => simp at e; subst e; exact ⟨_, rfl, a⟩
    | succ i => exact ih (by simpa using e)
theorem RepDs.set {ds : List D} {vs : List V} (h : RepDs K g ds vs) (i : Nat) {d : D} {v : V} (r : RepD K g d v) : RepDs K g (ds.set i d) (vs.set i v) := by
  induction h generalizing i with
  | nil => exact .nil
  | cons a b ih =>
    cases i with
    | zero => exact .cons r b
    | succ i => exact .cons a (ih i)
theorem RepDs.take {ds : List D} {vs : List V} (h : RepDs K g ds vs) (n : Nat) : RepDs K g (ds.take n) (vs.take n) := by
  induction h generalizing n with
  | nil => simp; exact .nil
  | cons a b ih => cases n with
    | zero => exact .nil
    | succ n => exact .cons a (ih n)
theorem RepDs.drop {ds : List D} {vs : List V} (h : RepDs K g ds vs) (n : Nat) : RepDs K g (ds.drop n) (vs.drop n) := by
  induction h generalizing n with
  | nil => simp; exact .nil
  | cons a b ih => cases n with
    | zero => exact .cons a b
    | succ n => exact ih n
theorem RepDs.reverse {ds : List D} {vs : List V} (h : RepDs K g ds vs) : RepDs K g ds.reverse vs.reverse := by
  induction h with
  | nil => exact .nil
  | cons a b ih => rw [List.reverse_cons, List.reverse_cons]; exact ih.app (.cons a .nil)
theorem reps_of_all : ∀ {xs : List PyData} {vs : List V}, DpAll K g.G vs xs → RepDs K g (xs.map .p) vs
  | [], _, .nil => .nil
  | _ :: _, _, .cons a b => .cons a (reps_of_all b)
theorem all_of_reps : ∀ {xs : List PyData} {vs : List V}, RepDs K g (xs.map .p) vs → DpAll K g.G vs xs
  | [], _, .nil => .nil
  | _ :: _, _, .cons a b => .cons a (all_of_reps b)
theorem reps1 {d : D} {vs : List V} (h : RepDs K g [d] vs) : ∃ v, vs = [v] ∧ RepD K g d v := by
  cases h with | cons a b => cases b; exact ⟨_, rfl, a⟩
theorem reps2 {d e : D} {vs : List V} (h : RepDs K g [d, e] vs) : ∃ v w, vs = [v, w] ∧ RepD K g d v ∧ RepD K g e w := by
  cases h with | cons a b => cases b with | cons c f => cases f; exact ⟨_, _, rfl, a, c⟩
theorem of_reps1 {ds : List D} {v : V} (h : RepDs K g ds [v]) : ∃ d, ds = [d] ∧ RepD K g d v := by
  cases h with | cons a b => cases b; exact ⟨_, rfl, a⟩
theorem of_reps2 {ds : List D} {v w : V} (h : RepDs K g ds [v, w]) : ∃ d e, ds = [d, e] ∧ RepD K g d v ∧ RepD K g e w := by
  cases h with | cons a b => cases b with | cons c f => cases f; exact ⟨_, _, rfl, a, c⟩

/-! plain values by their kinds -/
theorem dp_int {v : V} {i : Int} (h : Dp K H v (.int i)) : v = .int i := by cases h; rfl
theorem dp_bl {v : V} {b : Bool} (h : Dp K H v (.bool b)) : v = .bl b := by cases h; rfl
theorem dp_str {v : V} {x : Str} (h : Dp K H v (.str x)) : v = .str x := by cases h; rfl
theorem dp_non {v : V} (h : Dp K H v .none) : v = .non := by cases h; rfl
theorem dp_lst {v : V} {xs : List PyData} (h : Dp K H v (.list xs)) : ∃ a vs, v = .ref a ∧ SqL K H a vs ∧ DpAll K H vs xs := by cases h with | lst a b => exact ⟨_, _, rfl, a, b⟩
theorem dp_tup {v : V} {xs : List PyData} (h : Dp K H v (.tuple xs)) : ∃ a vs, v = .ref a ∧ SqT K H a vs ∧ DpAll K H vs xs := by cases h with | tup a b => exact ⟨_, _, rfl, a, b⟩
theorem dp_dic {v : V} {xs : List (PyData × PyData)} (h : Dp K H v (.dict xs)) : False := by cases h

/-! ### the store's places -/
theorem getS_lt {st : Sto} : ∀ {n : Nat}, getS st n ≠ .dead → n < st.length := by
  induction st with
  | nil => intro n h; exact absurd rfl h
  | cons o r ih =>
    intro n h
    cases n with
    | zero => simp
    | succ n => have := ih (n := n) h; simp; omega
theorem getS_app_lt {st : Sto} {o : List SO} : ∀ {n : Nat}, n < st.length → getS (st ++ o) n = getS st n := by
  induction st with
  | nil => intro n h; simp at h
  | cons a r ih =>
    intro n h
    cases n with
    | zero => rfl
    | succ n => exact ih (n := n) (by simpa using h)
theorem getS_app_eq {st : Sto} {o : SO} : getS (st ++ [o]) st.length = o := by
  induction st with
  | nil => rfl
  | cons a r ih => exact ih
theorem getS_app_gt {st : Sto} {o : SO} : ∀ {n : Nat}, st.length < n → getS (st ++ [o]) n = .dead := by
  induction st with
  | nil => intro n h; cases n with | zero => simp at h | succ n => cases n <;> rfl
  | cons a r ih =>
    intro n h
    cases n with
    | zero => simp at h
    | succ n => exact ih (n := n) (by simpa using h)
theorem getS_set_eq {st : Sto} {o : SO} : ∀ {n : Nat}, n < st.length → getS (st.set n o) n = o := by
  induction st with
  | nil => intro n h; simp at h
  | cons a r ih =>
    intro n h
    cases n with
    | zero => rfl
    | succ n => exact ih (n := n) (by simpa using h)
theorem getS_set_ne {st : Sto} {o : SO} : ∀ {n m : Nat}, n ≠ m → getS (st.set n o) m = getS st m := by
  induction st with
  | nil => intro n m h; rfl
  | cons a r ih =>
    intro n m h
    cases n with
    | zero => cases m with
      | zero => exact absurd rfl h
      | succ m => rfl
    | succ n => cases m with
      | zero => rfl
      | succ m => exact ih (n := n) (m := m) (by omega)
theorem getS_take {st : Sto} : ∀ {n m : Nat}, n < m → getS (st.take m) n = getS st n := by
  induction st with
  | nil => intro n m h; simp
  | cons a r ih =>
    intro n m h
    cases m with
    | zero => omega
    | succ m => cases n with
      | zero => rfl
      | succ n => exact ih (n := n) (m := m) (by omega)
theorem getS_take_ge {st : Sto} : ∀ {n m : Nat}, m ≤ n → getS (st.take m) n = .dead := by
  induction st with
  | nil => intro n m h; simp; rfl
  | cons a r ih =>
    intro n m h
    cases m with
    | zero => rfl
    | succ m => cases n with
      | zero => omega
      | succ n => exact ih (n := n) (m := m) (by omega)
theorem mut_lt {st : Sto} {n : Nat} (h : mutable (getS st n) = true) : n < st.length := getS_lt fun e => by rw [e] at h; cases h

/-! ### what is in the store -/
theorem Ok.lstAt (o : Ok K g H st) {n : Nat} {xs : List D} (e : getS st n = .lst xs) : ∃ a vs, g.mu[n]? = some a ∧ g.G a = none ∧ H a = some (.lst vs) ∧ RepDs K g xs vs := by
  obtain ⟨a, ho, h1, h2, h3, h4⟩ := o.muts n (by rw [e]; rfl)
  rw [e] at h4
  obtain ⟨vs, rfl, r⟩ := h4
  exact ⟨a, vs, h1, h2, h3, r⟩
theorem Ok.dctAt (o : Ok K g H st) {n : Nat} {kvs : List (PyData × D)} (e : getS st n = .dct kvs) : ∃ a ks, g.mu[n]? = some a ∧ g.G a = none ∧ H a = some (.dK ks) ∧ RepKv K g kvs ks := by
  obtain ⟨a, ho, h1, h2, h3, h4⟩ := o.muts n (by rw [e]; rfl)
  rw [e] at h4
  obtain ⟨ks, rfl, r⟩ := h4
  exact ⟨a, ks, h1, h2, h3, r⟩
theorem Ok.dtnAt (o : Ok K g H st) {n : Nat} {kvs : List (PyData × D)} (e : getS st n = .dtn kvs) : ∃ a w xs, g.mu[n]? = some a ∧ g.G a = none ∧ H a = some (.ext (RAW w a xs)) ∧ RepKn K g kvs xs ∧ kvs ≠ [] := by
  obtain ⟨a, ho, h1, h2, h3, h4⟩ := o.muts n (by rw [e]; rfl)
  rw [e] at h4
  obtain ⟨w, xs, rfl, r⟩ := h4
  exact ⟨a, w, xs, h1, h2, h3, r⟩
theorem Ok.fzAt (o : Ok K g H st) {n : Nat} {x : PyData} (e : getS st n = .fz x) : ∃ a, g.mu[n]? = some a ∧ Dp K g.G (.ref a) x := by
  obtain ⟨a, h1, h2⟩ := o.frz n (by rw [e]; rfl)
  rw [e] at h2
  exact ⟨a, h1, h2⟩
theorem Ok.fzdAt (o : Ok K g H st) {n : Nat} {kvs : List (PyData × D)} (e : getS st n = .fzd kvs) : ∃ a od ho, g.mu[n]? = some a ∧ g.G a = some (.frz od ho) ∧ DicH K g a kvs ho := by
  obtain ⟨a, h1, h2⟩ := o.frz n (by rw [e]; rfl)
  rw [e] at h2
  obtain ⟨od, ho, h3, h4⟩ := h2
  exact ⟨a, od, ho, h1, h3, h4⟩
theorem Ok.tplAt (o : Ok K g H st) {n : Nat} {ds : List D} (e : getS st n = .tpl ds) : ∃ a vs, g.mu[n]? = some a ∧ g.G a = some (.tup vs) ∧ RepDs K g ds vs := by
  obtain ⟨a, h1, h2⟩ := o.frz n (by rw [e]; rfl)
  rw [e] at h2
  obtain ⟨vs, h3, h4⟩ := h2
  exact ⟨a, vs, h1, h3, h4⟩
/-- a dict that is read: it stands as such, or locked -/
theorem Ok.dicAt (o : Ok K g H st) {n : Nat} {kvs : List (PyData × D)} (e : dicOf (getS st n) = some kvs) : ∃ a ho, g.mu[n]? = some a ∧ Rd H a ho ∧ DicH K g a kvs ho := by
  cases hn : getS st n with
  | dct ks =>
    rw [hn] at e; cases e
    obtain ⟨a, ks', h1, h2, h3, h4⟩ := o.dctAt hn
    exact ⟨a, _, h1, .inl h3, .inl ⟨ks', rfl, h4⟩⟩
  | dtn ks =>
    rw [hn] at e; cases e
    obtain ⟨a, w, xs, h1, h2, h3, h4⟩ := o.dtnAt hn
    exact ⟨a, _, h1, .inl h3, .inr ⟨w, xs, rfl, h4⟩⟩
  | fzd ks =>
    rw [hn] at e; cases e
    obtain ⟨a, od, ho, h1, h2, h3⟩ := o.fzdAt hn
    exact ⟨a, ho, h1, .inr ⟨od, o.sub _ _ h2⟩, h3⟩
  | _ => rw [hn] at e; cases e
/-- a list that is read -/
theorem Ok.list (o : Ok K g H st) {d : D} {xs : List D} {v : V} (e : listItems st d = some xs) (r : RepD K g d v) : ∃ a vs, v = .ref a ∧ SqL K H a vs ∧ RepDs K g xs vs := by
  cases d with
  | p x =>
    cases x with
    | list ys =>
      simp only [listItems, Option.some.injEq] at e
      subst e
      obtain ⟨a, vs, rfl, hs, ha⟩ := dp_lst r
      exact ⟨a, vs, rfl, sql_mono o.sub hs, reps_of_all ha⟩
    | _ => simp [listItems] at e
  | ref n =>
    obtain ⟨a, hm, rfl⟩ := r
    have e' : (match getS st n with | .lst xs => some xs | .fz (.list xs) => some (xs.map D.p) | _ => none) = some xs := e
    cases hn : getS st n with
    | lst ys =>
      rw [hn] at e'
      injection e' with e'; subst e'
      obtain ⟨a', vs, h1, h2, h3, h4⟩ := o.lstAt hn
      rw [hm] at h1; cases h1
      exact ⟨a, vs, rfl, .inl (.inl h3), h4⟩
    | fz y =>
      rw [hn] at e'
      cases y with
      | list ys =>
        injection e' with e'; subst e'
        obtain ⟨a', h1, h2⟩ := o.fzAt hn
        rw [hm] at h1; cases h1
        obtain ⟨a2, vs, q, hs, ha⟩ := dp_lst h2
        cases q
        exact ⟨a, vs, rfl, sql_mono o.sub hs, reps_of_all ha⟩
      | _ => cases e'
    | _ => rw [hn] at e'; cases e'
theorem Ok.items (o : Ok K g H st) {d : D} {xs : List D} {v : V} (e : items st d = some xs) (r : RepD K g d v) : ∃ a vs, v = .ref a ∧ (SqL K H a vs ∨ SqT K H a vs) ∧ RepDs K g xs vs := by
  cases d with
  | p x =>
    cases x with
    | list ys =>
      obtain ⟨a, vs, h1, h2, h3⟩ := o.list (d := .p (.list ys)) (xs := xs) e r
      exact ⟨a, vs, h1, .inl h2, h3⟩
    | tuple ys =>
      simp only [Ev.items, Option.some.injEq] at e
      subst e
      obtain ⟨a, vs, rfl, hs, ha⟩ := dp_tup r
      exact ⟨a, vs, rfl, .inr (sqt_mono o.sub hs), reps_of_all ha⟩
    | _ => simp [Ev.items] at e
  | ref n =>
    cases hn : getS st n with
    | tpl ds =>
      have e' : (match getS st n with | .lst xs => some xs | .fz (.list xs) => some (xs.map D.p) | .tpl xs => some xs | _ => none) = some xs := e
      rw [hn] at e'
      cases e'
      obtain ⟨a, vs, h1, h2, h3⟩ := o.tplAt hn
      obtain ⟨a', hm, rfl⟩ := r
      have ea := Option.some.inj (hm.symm.trans h1)
      subst ea
      exact ⟨a', vs, rfl, .inr (.inl (.inl (o.sub _ _ h2))), h3⟩
    | _ =>
      have e' : (match getS st n with | .lst xs => some xs | .fz (.list xs) => some (xs.map D.p) | .tpl xs => some xs | _ => none) = some xs := e
      have e2 : listItems st (.ref n) = some xs := by
        show (match getS st n with | .lst xs => some xs | .fz (.list xs) => some (xs.map D.p) | _ => none) = some xs
        rw [hn] at e' ⊢
        first | exact e' | (rename_i y; cases y <;> exact e')
      obtain ⟨a, vs, h1, h2, h3⟩ := o.list (d := .ref n) (xs := xs) e2 r
      exact ⟨a, vs, h1, .inl h2, h3⟩

/-! ### new things -/
/-- an object is laid and frozen -/
theorem at_froz {bs : List Nat} (o : At K bs g H st) {p : Addr} {ho : HO} (hp : H p = none) : At K bs ⟨upd g.G p ho, g.mu⟩ (upd H p ho) st ∧ Step g H st ⟨upd g.G p ho, g.mu⟩ (upd H p ho) st := by
  have hg : g.G p = none := o.ok.sub.free hp
  have sG : Sub g.G (upd g.G p ho) := Sub.new hg
  refine ⟨⟨⟨o.ok.len, o.ok.sub.both, fun n hn => ?_, fun n hn => ?_, o.ok.inj⟩, o.w⟩, ⟨sG, fun _ _ h => h, fun a u h1 h2 h3 => ?_⟩⟩
  · obtain ⟨a, ho', h1, h2, h3, h4⟩ := o.ok.muts n hn
    have hne : a ≠ p := ne_of_none h3 hp
    exact ⟨a, ho', h1, by show upd g.G p ho a = none; rw [upd_ne hne]; exact h2, by rw [upd_ne hne]; exact h3, MutO.mono (g' := ⟨upd g.G p ho, g.mu⟩) sG (fun _ _ h => h) h4⟩
  · obtain ⟨a, h1, h2⟩ := o.ok.frz n hn
    exact ⟨a, h1, FrzO.mono (g' := ⟨upd g.G p ho, g.mu⟩) sG (fun _ _ h => h) h2⟩
  · have hne : a ≠ p := ne_of_none h1 hp
    exact ⟨by rw [upd_ne hne]; exact h1, by show upd g.G p ho a = none; rw [upd_ne hne]; exact h2, h3⟩
/-- an object is laid that nothing looks at -/
theorem at_laid {bs : List Nat} (o : At K bs g H st) {p : Addr} {ho : HO} (hp : H p = none) : At K bs g (upd H p ho) st ∧ Step g H st g (upd H p ho) st := by
  refine ⟨⟨⟨o.ok.len, fun a u h => by rw [upd_ne (ne_of_none (o.ok.sub a u h) hp)]; exact o.ok.sub a u h, fun n hn => ?_, o.ok.frz, o.ok.inj⟩, o.w⟩, ⟨Sub.refl _, fun _ _ h => h, fun a u h1 h2 h3 => ?_⟩⟩
  · obtain ⟨a, ho', h1, h2, h3, h4⟩ := o.ok.muts n hn
    exact ⟨a, ho', h1, h2, by rw [upd_ne (ne_of_none h3 hp)]; exact h3, h4⟩
  · exact ⟨by rw [upd_ne (ne_of_none h1 hp)]; exact h1, h2, h3⟩
/-- an object is laid in the store -/
theorem at_store {bs : List Nat} (o : At K bs g H st) {p : Addr} {so : SO} {ho : HO} (hp : H p = none) (hm : mutable so = true) (hr : MutO K g p so ho) :
    At K bs ⟨g.G, g.mu ++ [p]⟩ (upd H p ho) (st ++ [so]) ∧ Step g H st ⟨g.G, g.mu ++ [p]⟩ (upd H p ho) (st ++ [so]) ∧ (g.mu ++ [p])[st.length]? = some p := by
  have hg : g.G p = none := o.ok.sub.free hp
  have hl := o.ok.len
  have mm : ∀ (n : Nat) (a : Addr), g.mu[n]? = some a → (g.mu ++ [p])[n]? = some a := fun n a h => by
    have := (List.getElem?_eq_some_iff.mp h).1
    rw [List.getElem?_append_left this]; exact h
  have mlast : (g.mu ++ [p])[st.length]? = some p := by rw [← hl, List.getElem?_append_right (Nat.le_refl _)]; simp
  have npos : ∀ n a, mutable (getS st n) = true → g.mu[n]? = some a → a ≠ p := fun n a hn ha e => by
    obtain ⟨a', ho', h1, h2, h3, h4⟩ := o.ok.muts n hn
    rw [ha] at h1; cases h1; subst e
    rw [hp] at h3; cases h3
  have old : ∀ n, n < st.length → getS (st ++ [so]) n = getS st n := fun n h => getS_app_lt h
  have cases_ : ∀ n, mutable (getS (st ++ [so]) n) = true → (n < st.length ∧ mutable (getS st n) = true) ∨ n = st.length := fun n hn => by
    rcases Nat.lt_trichotomy n st.length with h | h | h
    · rw [old n h] at hn; exact .inl ⟨h, hn⟩
    · exact .inr h
    · rw [getS_app_gt h] at hn; cases hn
  refine ⟨⟨⟨by simp [hl], fun a u h => by rw [upd_ne (ne_of_none (o.ok.sub a u h) hp)]; exact o.ok.sub a u h, fun n hn => ?_, fun n hn => ?_, fun n m a h1 h2 h3 h4 => ?_⟩, fun b hb => ?_⟩, ⟨Sub.refl _, mm, fun a u h1 h2 h3 => ?_⟩, mlast⟩
  · rcases cases_ n hn with ⟨h, hn⟩ | h
    · obtain ⟨a, ho', h1, h2, h3, h4⟩ := o.ok.muts n hn
      exact ⟨a, ho', mm n a h1, h2, by rw [upd_ne (ne_of_none h3 hp)]; exact h3, by rw [old n h]; exact MutO.mono (g := g) (g' := ⟨g.G, g.mu ++ [p]⟩) (Sub.refl g.G) mm h4⟩
    · subst h
      exact ⟨p, ho, mlast, hg, upd_same, by rw [getS_app_eq]; exact MutO.mono (g := g) (g' := ⟨g.G, g.mu ++ [p]⟩) (Sub.refl g.G) mm hr⟩
  · have hlt : n < (st ++ [so]).length := getS_lt (by intro q; rw [q] at hn; cases hn)
    have hlt' : n < st.length := by
      rcases Nat.lt_or_ge n st.length with h | h
      · exact h
      · have e : n = st.length := by rw [List.length_append] at hlt; simp at hlt; omega
        subst e
        rw [getS_app_eq] at hn
        cases so <;> first | exact absurd hn Bool.false_ne_true | exact absurd hm Bool.false_ne_true
    rw [old n hlt'] at hn ⊢
    obtain ⟨a, h1, h2⟩ := o.ok.frz n hn
    exact ⟨a, mm n a h1, FrzO.mono (g := g) (g' := ⟨g.G, g.mu ++ [p]⟩) (Sub.refl g.G) mm h2⟩
  · rcases cases_ n h1 with ⟨hn, hn'⟩ | hn
    · have e3 : g.mu[n]? = some a := by rw [List.getElem?_append_left (by omega)] at h3; exact h3
      rcases cases_ m h2 with ⟨hm', hm''⟩ | hm'
      · have e4 : g.mu[m]? = some a := by rw [List.getElem?_append_left (by omega)] at h4; exact h4
        exact o.ok.inj n m a hn' hm'' e3 e4
      · subst hm'
        rw [mlast] at h4; cases h4
        exact absurd rfl (npos n _ hn' e3)
    · subst hn
      rw [mlast] at h3; cases h3
      rcases cases_ m h2 with ⟨hm', hm''⟩ | hm'
      · have e4 : g.mu[m]? = some p := by rw [List.getElem?_append_left (by omega)] at h4; exact h4
        exact absurd rfl (npos m _ hm'' e4)
      · exact hm'.symm
  · obtain ⟨h1, h2⟩ := o.w b hb
    refine ⟨by simp; omega, fun n hn => ?_⟩
    rw [old n (by omega)]
    exact h2 n hn
  · have hne : a ≠ p := ne_of_none h1 hp
    refine ⟨by rw [upd_ne hne]; exact h1, h2, fun n hn q => ?_⟩
    rcases cases_ n hn with ⟨h, hn⟩ | h
    · rw [List.getElem?_append_left (by omega)] at q
      exact h3 n hn q
    · subst h
      rw [mlast] at q; cases q
      exact hne rfl
/-- a thing of the store is changed -/
theorem at_write {bs : List Nat} (o : At K bs g H st) {n : Nat} {p : Addr} {so : SO} {ho : HO} (hn : mutable (getS st n) = true) (hp : g.mu[n]? = some p) (hm : mutable so = true) (hr : MutO K g p so ho)
    (hw : ∀ b ∈ bs, n < b → soLt b so) : At K bs g (upd H p ho) (st.set n so) ∧ Step g H st g (upd H p ho) (st.set n so) := by
  have hlt := mut_lt hn
  obtain ⟨p', ho', q1, hg, q3, _⟩ := o.ok.muts n hn
  rw [hp] at q1; cases q1
  have other : ∀ m a, m ≠ n → mutable (getS st m) = true → g.mu[m]? = some a → a ≠ p := fun m a hne hm' ha e => by
    subst e
    exact hne (o.ok.inj m n a hm' hn ha hp)
  have mcase : ∀ m, mutable (getS (st.set n so) m) = true → m = n ∨ (m ≠ n ∧ mutable (getS st m) = true) := fun m h => by
    by_cases e : m = n
    · exact .inl e
    · rw [getS_set_ne (Ne.symm e)] at h; exact .inr ⟨e, h⟩
  refine ⟨⟨⟨by simpa using o.ok.len, fun a u h => by rw [upd_ne (fun e => by subst e; rw [hg] at h; cases h)]; exact o.ok.sub a u h, fun m h => ?_, fun m h => ?_, fun m k a h1 h2 h3 h4 => ?_⟩, fun b hb => ?_⟩, ⟨Sub.refl _, fun _ _ h => h, fun a u h1 h2 h3 => ?_⟩⟩
  · rcases mcase m h with rfl | ⟨e, h'⟩
    · exact ⟨p, ho, hp, hg, upd_same, by rw [getS_set_eq hlt]; exact hr⟩
    · obtain ⟨a, u, h1, h2, h3, h4⟩ := o.ok.muts m h'
      exact ⟨a, u, h1, h2, by rw [upd_ne (other m a e h' h1)]; exact h3, by rw [getS_set_ne (Ne.symm e)]; exact h4⟩
  · by_cases e : m = n
    · subst e
      rw [getS_set_eq hlt] at h; cases so <;> first | exact absurd h Bool.false_ne_true | exact absurd hm Bool.false_ne_true
    · rw [getS_set_ne (Ne.symm e)] at h ⊢
      exact o.ok.frz m h
  · have f : ∀ m, mutable (getS (st.set n so) m) = true → mutable (getS st m) = true := fun m h => by
      rcases mcase m h with rfl | ⟨_, h⟩
      · exact hn
      · exact h
    exact o.ok.inj m k a (f m h1) (f k h2) h3 h4
  · obtain ⟨h1, h2⟩ := o.w b hb
    refine ⟨by simpa using h1, fun m hm' => ?_⟩
    by_cases e : m = n
    · subst e; rw [getS_set_eq hlt]; exact hw b hb hm'
    · rw [getS_set_ne (Ne.symm e)]; exact h2 m hm'
  · have hne : a ≠ p := fun e => h3 n hn (by rw [e]; exact hp)
    refine ⟨by rw [upd_ne hne]; exact h1, h2, fun m h q => ?_⟩
    rcases mcase m h with rfl | ⟨_, h'⟩
    · exact h3 _ hn q
    · exact h3 _ h' q
/-- a list of the store is frozen -/
theorem at_fz {bs : List Nat} (o : At K bs g H st) {n : Nat} {p : Addr} {xs : List D} {ps : List PyData} {vs : List V} (hn : getS st n = .lst xs) (hp : g.mu[n]? = some p) (hH : H p = some (.lst vs)) (hv : DpAll K g.G vs ps) :
    At K bs ⟨upd g.G p (.lst vs), g.mu⟩ H (st.set n (.fz (.list ps))) ∧ Step g H st ⟨upd g.G p (.lst vs), g.mu⟩ H (st.set n (.fz (.list ps))) ∧ Dp K (upd g.G p (.lst vs)) (.ref p) (.list ps) := by
  have hmu : mutable (getS st n) = true := by rw [hn]; rfl
  have hlt := mut_lt hmu
  obtain ⟨p', ho', q1, hg, q3, _⟩ := o.ok.muts n hmu
  rw [hp] at q1; cases q1
  have sG : Sub g.G (upd g.G p (.lst vs)) := Sub.new hg
  have nd : Dp K (upd g.G p (.lst vs)) (.ref p) (.list ps) := .lst (.inl (.inl upd_same)) (dpAll_mono sG _ _ hv)
  have mcase : ∀ m, mutable (getS (st.set n (.fz (.list ps))) m) = true → m ≠ n ∧ mutable (getS st m) = true := fun m h => by
    by_cases e : m = n
    · subst e; rw [getS_set_eq hlt] at h; cases h
    · rw [getS_set_ne (Ne.symm e)] at h; exact ⟨e, h⟩
  refine ⟨⟨⟨by simpa using o.ok.len, fun a u h => ?_, fun m h => ?_, fun m h => ?_, fun m k a h1 h2 h3 h4 => o.ok.inj m k a (mcase m h1).2 (mcase k h2).2 h3 h4⟩, fun b hb => ?_⟩, ⟨sG, fun _ _ h => h, fun a u h1 h2 h3 => ?_⟩, nd⟩
  · by_cases e : a = p
    · subst e
      have h' : upd g.G a (.lst vs) a = some u := h
      rw [upd_same] at h'; cases h'; exact hH
    · have h' : upd g.G p (.lst vs) a = some u := h
      rw [upd_ne e] at h'; exact o.ok.sub a u h'
  · obtain ⟨e, h'⟩ := mcase m h
    obtain ⟨a, u, h1, h2, h3, h4⟩ := o.ok.muts m h'
    have hne : a ≠ p := fun q => e (o.ok.inj m n a h' hmu h1 (by rw [q]; exact hp))
    exact ⟨a, u, h1, by show upd g.G p _ a = none; rw [upd_ne hne]; exact h2, h3, by rw [getS_set_ne (Ne.symm e)]; exact MutO.mono (g' := ⟨upd g.G p (.lst vs), g.mu⟩) sG (fun _ _ h => h) h4⟩
  · by_cases e : m = n
    · subst e
      rw [getS_set_eq hlt]
      exact ⟨p, hp, nd⟩
    · rw [getS_set_ne (Ne.symm e)] at h ⊢
      obtain ⟨a, h1, h2⟩ := o.ok.frz m h
      exact ⟨a, h1, FrzO.mono (g' := ⟨upd g.G p (.lst vs), g.mu⟩) sG (fun _ _ h => h) h2⟩
  · obtain ⟨h1, h2⟩ := o.w b hb
    refine ⟨by simpa using h1, fun m hm' => ?_⟩
    by_cases e : m = n
    · subst e; rw [getS_set_eq hlt]; trivial
    · rw [getS_set_ne (Ne.symm e)]; exact h2 m hm'
  · have hne : a ≠ p := fun e => h3 n hmu (by rw [e]; exact hp)
    refine ⟨h1, by show upd g.G p _ a = none; rw [upd_ne hne]; exact h2, fun m h q => h3 m (mcase m h).2 q⟩

/-- a tuple is laid in the store -/
theorem at_tpl {bs : List Nat} (o : At K bs g H st) {p : Addr} {ds : List D} {vs : List V} (hp : H p = none) (hr : RepDs K g ds vs) :
    At K bs ⟨upd g.G p (.tup vs), g.mu ++ [p]⟩ (upd H p (.tup vs)) (st ++ [.tpl ds]) ∧ Step g H st ⟨upd g.G p (.tup vs), g.mu ++ [p]⟩ (upd H p (.tup vs)) (st ++ [.tpl ds]) ∧ (g.mu ++ [p])[st.length]? = some p := by
  have hg : g.G p = none := o.ok.sub.free hp
  have sG : Sub g.G (upd g.G p (.tup vs)) := Sub.new hg
  have hl := o.ok.len
  have mm : ∀ (n : Nat) (a : Addr), g.mu[n]? = some a → (g.mu ++ [p])[n]? = some a := fun n a h => by
    have := (List.getElem?_eq_some_iff.mp h).1
    rw [List.getElem?_append_left this]; exact h
  have mlast : (g.mu ++ [p])[st.length]? = some p := by rw [← hl, List.getElem?_append_right (Nat.le_refl _)]; simp
  have old : ∀ n, n < st.length → getS (st ++ [.tpl ds]) n = getS st n := fun n h => getS_app_lt h
  have cases_ : ∀ n, mutable (getS (st ++ [.tpl ds]) n) = true → n < st.length ∧ mutable (getS st n) = true := fun n hn => by
    rcases Nat.lt_trichotomy n st.length with h | h | h
    · rw [old n h] at hn; exact ⟨h, hn⟩
    · subst h; rw [getS_app_eq] at hn; cases hn
    · rw [getS_app_gt h] at hn; cases hn
  have am : ∀ n a, n < st.length → (g.mu ++ [p])[n]? = some a → g.mu[n]? = some a := fun n a h q => by
    rw [List.getElem?_append_left (by omega)] at q; exact q
  refine ⟨⟨⟨by simp [hl], o.ok.sub.both, fun n hn => ?_, fun n hn => ?_, fun n m a h1 h2 h3 h4 => o.ok.inj n m a (cases_ n h1).2 (cases_ m h2).2 (am n a (cases_ n h1).1 h3) (am m a (cases_ m h2).1 h4)⟩, fun b hb => ?_⟩, ⟨sG, mm, fun a u h1 h2 h3 => ?_⟩, mlast⟩
  · obtain ⟨h, hn⟩ := cases_ n hn
    obtain ⟨a, ho', h1, h2, h3, h4⟩ := o.ok.muts n hn
    have hne : a ≠ p := ne_of_none h3 hp
    exact ⟨a, ho', mm n a h1, by show upd g.G p _ a = none; rw [upd_ne hne]; exact h2, by rw [upd_ne hne]; exact h3, by rw [old n h]; exact MutO.mono (g := g) (g' := ⟨upd g.G p (.tup vs), g.mu ++ [p]⟩) sG mm h4⟩
  · rcases Nat.lt_trichotomy n st.length with h | h | h
    · rw [old n h] at hn ⊢
      obtain ⟨a, h1, h2⟩ := o.ok.frz n hn
      exact ⟨a, mm n a h1, FrzO.mono (g := g) (g' := ⟨upd g.G p (.tup vs), g.mu ++ [p]⟩) sG mm h2⟩
    · subst h
      rw [getS_app_eq]
      exact ⟨p, mlast, vs, upd_same, RepDs.mono (g := g) (g' := ⟨upd g.G p (.tup vs), g.mu ++ [p]⟩) sG mm hr⟩
    · rw [getS_app_gt h] at hn; cases hn
  · obtain ⟨h1, h2⟩ := o.w b hb
    refine ⟨by simp; omega, fun n hn => ?_⟩
    rw [old n (by omega)]
    exact h2 n hn
  · have hne : a ≠ p := ne_of_none h1 hp
    refine ⟨by rw [upd_ne hne]; exact h1, by show upd g.G p _ a = none; rw [upd_ne hne]; exact h2, fun n hn q => ?_⟩
    obtain ⟨h, hn⟩ := cases_ n hn
    exact h3 n hn (am n a h q)
/-- a dict of the store is locked for good -/
theorem at_fzd {bs : List Nat} (o : At K bs g H st) {n : Nat} {p : Addr} {kvs : List (PyData × D)} {ho : HO} (od : Obj) (hn : mutable (getS st n) = true) (hk : dicOf (getS st n) = some kvs) (hp : g.mu[n]? = some p) (hH : H p = some ho) (hv : DicH K g p kvs ho) :
    At K bs ⟨upd g.G p (.frz od ho), g.mu⟩ (upd H p (.frz od ho)) (st.set n (.fzd kvs)) ∧ Step g H st ⟨upd g.G p (.frz od ho), g.mu⟩ (upd H p (.frz od ho)) (st.set n (.fzd kvs)) := by
  have hlt := mut_lt hn
  obtain ⟨p', ho', q1, hg, q3, _⟩ := o.ok.muts n hn
  rw [hp] at q1; cases q1
  have sG : Sub g.G (upd g.G p (.frz od ho)) := Sub.new hg
  have mcase : ∀ m, mutable (getS (st.set n (.fzd kvs)) m) = true → m ≠ n ∧ mutable (getS st m) = true := fun m h => by
    by_cases e : m = n
    · subst e; rw [getS_set_eq hlt] at h; cases h
    · rw [getS_set_ne (Ne.symm e)] at h; exact ⟨e, h⟩
  refine ⟨⟨⟨by simpa using o.ok.len, o.ok.sub.both, fun m h => ?_, fun m h => ?_, fun m k a h1 h2 h3 h4 => o.ok.inj m k a (mcase m h1).2 (mcase k h2).2 h3 h4⟩, fun b hb => ?_⟩, ⟨sG, fun _ _ h => h, fun a u h1 h2 h3 => ?_⟩⟩
  · obtain ⟨e, h'⟩ := mcase m h
    obtain ⟨a, u, h1, h2, h3, h4⟩ := o.ok.muts m h'
    have hne : a ≠ p := fun q => e (o.ok.inj m n a h' hn h1 (by rw [q]; exact hp))
    exact ⟨a, u, h1, by show upd g.G p _ a = none; rw [upd_ne hne]; exact h2, by rw [upd_ne hne]; exact h3, by rw [getS_set_ne (Ne.symm e)]; exact MutO.mono (g' := ⟨upd g.G p (.frz od ho), g.mu⟩) sG (fun _ _ h => h) h4⟩
  · by_cases e : m = n
    · subst e
      rw [getS_set_eq hlt]
      exact ⟨p, hp, od, ho, upd_same, DicH.mono (g := g) (g' := ⟨upd g.G p (.frz od ho), g.mu⟩) sG (fun _ _ h => h) hv⟩
    · rw [getS_set_ne (Ne.symm e)] at h ⊢
      obtain ⟨a, h1, h2⟩ := o.ok.frz m h
      exact ⟨a, h1, FrzO.mono (g' := ⟨upd g.G p (.frz od ho), g.mu⟩) sG (fun _ _ h => h) h2⟩
  · obtain ⟨h1, h2⟩ := o.w b hb
    refine ⟨by simpa using h1, fun m hm' => ?_⟩
    by_cases e : m = n
    · subst e; rw [getS_set_eq hlt]
      have z := h2 m hm'
      cases q : getS st m with
      | dct ks => rw [q] at z hk; cases hk; exact z
      | dtn ks => rw [q] at z hk; cases hk; exact z
      | fzd ks => rw [q] at hn; cases hn
      | _ => rw [q] at hk; cases hk
    · rw [getS_set_ne (Ne.symm e)]; exact h2 m hm'
  · have hne : a ≠ p := fun e => h3 n hn (by rw [e]; exact hp)
    refine ⟨by rw [upd_ne hne]; exact h1, by show upd g.G p _ a = none; rw [upd_ne hne]; exact h2, fun m h q => h3 m (mcase m h).2 q⟩

/-! ### freezing, looking -/
theorem mapF_ok {bs : List Nat} {f : D → Sto → Option (PyData × Sto)} (hf : ∀ {g : Gh} {st : Sto} {d : D} {v : V} {x : PyData} {st' : Sto}, At K bs g H st → RepD K g d v → f d st = some (x, st') →
      ∃ g', At K bs g' H st' ∧ Step g H st g' H st' ∧ Dp K g'.G v x) :
    ∀ (ds : List D) {g : Gh} {st : Sto} {vs : List V} {xs : List PyData} {st' : Sto}, At K bs g H st → RepDs K g ds vs → mapF f ds st = some (xs, st') → ∃ g', At K bs g' H st' ∧ Step g H st g' H st' ∧ DpAll K g'.G vs xs
  | [], g, st, vs, xs, st', o, r, e => by
    unfold mapF at e
    injection e with e; injection e with e1 e2; subst e1; subst e2
    cases r
    exact ⟨g, o, Step.refl, .nil⟩
  | d :: ds, g, st, vs, xs, st', o, r, e => by
    unfold mapF at e
    cases r with
    | cons a b =>
      cases h1 : f d st with
      | none => rw [h1] at e; cases e
      | some q =>
        obtain ⟨x, st1⟩ := q
        rw [h1] at e
        dsimp only at e
        cases h2 : mapF f ds st1 with
        | none => rw [h2] at e; cases e
        | some q2 =>
          obtain ⟨ys, st2⟩ := q2
          rw [h2] at e
          injection e with e; injection e with e1 e2; subst e1; subst e2
          obtain ⟨g1, o1, s1, d1⟩ := hf o a h1
          obtain ⟨g2, o2, s2, d2⟩ := mapF_ok hf ds o1 (s1.reps b) h2
          exact ⟨g2, o2, s1.trans s2, .cons (s2.dp d1) d2⟩
theorem frz_ok {bs : List Nat} : ∀ (k : Nat) {g : Gh} {st : Sto} {d : D} {v : V} {x : PyData} {st' : Sto}, At K bs g H st → RepD K g d v → frz k d st = some (x, st') →
      ∃ g', At K bs g' H st' ∧ Step g H st g' H st' ∧ Dp K g'.G v x
  | 0, g, st, .p y, v, x, st', o, r, e => by
    unfold frz at e
    injection e with e; injection e with e1 e2; subst e1; subst e2
    exact ⟨g, o, Step.refl, r⟩
  | 0, g, st, .ref n, v, x, st', o, r, e => by unfold frz at e; cases e
  | k + 1, g, st, .p y, v, x, st', o, r, e => by
    unfold frz at e
    injection e with e; injection e with e1 e2; subst e1; subst e2
    exact ⟨g, o, Step.refl, r⟩
  | k + 1, g, st, .ref n, v, x, st', o, r, e => by
    unfold frz at e
    obtain ⟨a, hm, rfl⟩ := r
    dsimp only at e
    cases hn : getS st n with
    | fz y =>
      rw [hn] at e
      injection e with e; injection e with e1 e2; subst e1; subst e2
      obtain ⟨a', h1, h2⟩ := o.ok.fzAt hn
      rw [hm] at h1; cases h1
      exact ⟨g, o, Step.refl, h2⟩
    | lst xs =>
      rw [hn] at e
      dsimp only at e
      cases h2 : mapF (frz k) xs st with
      | none => rw [h2] at e; cases e
      | some q2 =>
        obtain ⟨ps, st1⟩ := q2
        rw [h2] at e
        dsimp only at e
        obtain ⟨a', vs, h3, h4, h5, h6⟩ := o.ok.lstAt hn
        rw [hm] at h3; cases h3
        obtain ⟨g1, o1, s1, d1⟩ := mapF_ok (fun o r e => frz_ok k o r e) xs o h6 h2
        have hm1 := s1.mu n a hm
        cases hy : getS st1 n with
        | lst ys =>
          rw [hy] at e
          injection e with e; injection e with e1 e2; subst e1; subst e2
          obtain ⟨o2, s2, d2⟩ := at_fz (n := n) (p := a) (vs := vs) o1 hy hm1 h5 d1
          exact ⟨_, o2, s1.trans s2, d2⟩
        | _ => rw [hy] at e; cases e
    | _ => rw [hn] at e; cases e
end
end Ev

/-! Ev2: the ends of the reckoner's steps; the operations on values keep what the reckoner says of them. -/
namespace Ev
variable [FnTab]
open PySem PySem.Spec PyProof.Rows L2

abbrev N0 : PySem.W.Frag := []
theorem rd_of_sql {H : Hp} {a : Addr} {xs : List V} (h : SqL N0 H a xs) : Rd H a (.lst xs) := by
  rcases h with h | ⟨o, its, n, h, _⟩
  · exact h
  · cases h
theorem rd_of_sqt {H : Hp} {a : Addr} {xs : List V} (h : SqT N0 H a xs) : Rd H a (.tup xs) := by
  rcases h with h | ⟨o, its, n, h, _⟩
  · exact h
  · cases h
section
variable {K : PySem.W.Frag} {H : Hp}
theorem sql_k {a : Addr} {xs : List V} (h : SqL N0 H a xs) : SqL K H a xs := .inl (rd_of_sql h)
theorem sqt_k {a : Addr} {xs : List V} (h : SqT N0 H a xs) : SqT K H a xs := .inl (rd_of_sqt h)
mutual
theorem dp_k : ∀ (d : PyData) (v : V), Dp N0 H v d → Dp K H v d
  | .none, _, .non => .non
  | .bool _, _, .bl b => .bl b
  | .int _, _, .int i => .int i
  | .str _, _, .str x => .str x
  | .list ds, _, .lst hs ha => .lst (sql_k hs) (dpAll_k ds _ ha)
  | .tuple ds, _, .tup hs ha => .tup (sqt_k hs) (dpAll_k ds _ ha)
theorem dpAll_k : ∀ (ds : List PyData) (vs : List V), DpAll N0 H vs ds → DpAll K H vs ds
  | [], _, .nil => .nil
  | d :: ds, _, .cons h1 h2 => .cons (dp_k d _ h1) (dpAll_k ds _ h2)
end
end

/-! ### ends -/
abbrev XW := Value → Option Addr → Hp → Prop
/-- how an exception of the reckoner's lies: its class, its own dict -/
def ExnR (cl : List (Addr × Option Str)) (g : Gh) (c : Nat) (x : Option PyData) (cls : Value) (dx : Option Addr) : Prop :=
  ∃ C f, cl[c]? = some (C, f) ∧ cls = .ref C ∧ match f, x with
    | none, none => dx = none
    | some f, some d => ∃ a v, dx = some a ∧ g.G a = some (.xd [(f, v)]) ∧ Dp N0 g.G v d
    | _, _ => False
def Post {α β : Type} (cl : List (Addr × Option Str)) (bs : List Nat) (Rep : Gh → α → β → Prop) (g : Gh) (H : Hp) (st : Sto) (r : R α) (Q : β → Hp → Prop) (W : XW) : Prop :=
  match r with
  | .ok d st' => ∀ v g' H', At N0 bs g' H' st' → Step g H st g' H' st' → Rep g' d v → Q v H'
  | .exn c x st' => ∀ cls dx g' H', At N0 bs g' H' st' → Step g H st g' H' st' → ExnR cl g' c x cls dx → W cls dx H'
  | .stuck => False
abbrev PostD (cl : List (Addr × Option Str)) (bs : List Nat) := Post cl bs (RepD N0)
abbrev PostL (cl : List (Addr × Option Str)) (bs : List Nat) := Post cl bs (RepDs N0)

section
variable {α β α' β' : Type} {cl : List (Addr × Option Str)} {bs : List Nat} {Rep : Gh → α → β → Prop} {Rep' : Gh → α' → β' → Prop} {g g1 : Gh} {H H1 : Hp} {st st1 : Sto} {r : R α} {Q : β → Hp → Prop} {W : XW}
theorem Post.later (h : Post cl bs Rep g H st r Q W) (s : Step g H st g1 H1 st1) : Post cl bs Rep g1 H1 st1 r Q W := by
  cases r with
  | ok d st' => exact fun v g' H' a s' rep => h v g' H' a (s.trans s') rep
  | exn c x st' => exact fun cls dx g' H' a s' e => h cls dx g' H' a (s.trans s') e
  | stuck => exact h
theorem Post.fin {d : α} {v : β} (h : Post cl bs Rep g H st (.ok d st) Q W) (a : At N0 bs g H st) (rep : Rep g d v) : Q v H := h v g H a Step.refl rep
theorem Post.fin' {d : α} {v : β} (h : Post cl bs Rep g H st (.ok d st1) Q W) (a : At N0 bs g1 H1 st1) (s : Step g H st g1 H1 st1) (rep : Rep g1 d v) : Q v H1 := h v g1 H1 a s rep
theorem Post.bind {f : α → Sto → R α'} {Q' : β' → Hp → Prop} (h : Post cl bs Rep' g H st (r.bind f) Q' W)
    (k : ∀ d st1 v g1 H1, At N0 bs g1 H1 st1 → Step g H st g1 H1 st1 → Rep g1 d v → Post cl bs Rep' g1 H1 st1 (f d st1) Q' W → Q v H1) : Post cl bs Rep g H st r Q W := by
  cases r with
  | ok d st' => exact fun v g' H' a s rep => k d st' v g' H' a s rep (Post.later h s)
  | exn c x st' => exact h
  | stuck => exact h
theorem Post.mono {Q' : β → Hp → Prop} (h : Post cl bs Rep g H st r Q W) (k : ∀ v H, Q v H → Q' v H) : Post cl bs Rep g H st r Q' W := by
  cases r with
  | ok d st' => exact fun v g' H' a s rep => k _ _ (h v g' H' a s rep)
  | exn c x st' => exact h
  | stuck => exact h
theorem chk_post {b : Bool} (h : Post cl bs Rep g H st (chk b r) Q W) : b = true ∧ Post cl bs Rep g H st r Q W := by
  cases b with
  | true => exact ⟨rfl, h⟩
  | false => exact h.elim
end

section
variable {cl : List (Addr × Option Str)} {bs : List Nat} {g : Gh} {H : Hp} {st : Sto} {Q : VK} {W : XW}
theorem line_eq : (sizeLine : Nat) = LINE := sizeLine_eq
/-- a new list -/
theorem mkL_post {al : Bool} {ds : List D} {vs : List V} (h : PostD cl bs g H st (mkL al ds st) Q W) (a : At N0 bs g H st) (r : RepDs N0 g ds vs) : vs.length ≤ sizeLine ∧ ∀ p, H p = none → Q (.ref p) (upd H p (.lst vs)) := by
  unfold mkL at h
  obtain ⟨hl, h⟩ := chk_post h
  have hl' : ds.length ≤ LINE := Nat.le_of_ble_eq_true hl
  refine ⟨by rw [← r.len, line_eq]; exact hl', fun p hp => ?_⟩
  cases al with
  | true =>
    obtain ⟨a1, s1, e1⟩ := at_store (K := N0) (so := .lst ds) (ho := .lst vs) a hp rfl ⟨vs, rfl, r⟩
    exact Post.fin' h a1 s1 ⟨p, e1, rfl⟩
  | false =>
    simp only [toPs] at h
    cases q : frzL DEEP ds st with
    | none => rw [q] at h; exact h.elim
    | some z =>
      obtain ⟨ps, st1⟩ := z
      rw [q] at h
      obtain ⟨g1, a1, s1, d1⟩ := mapF_ok (fun o r e => frz_ok DEEP o r e) ds a r q
      obtain ⟨a2, s2⟩ := at_froz (ho := .lst vs) a1 hp
      exact Post.fin' h a2 (s1.trans s2) (show Dp N0 _ _ _ from .lst (.inl (.inl upd_same)) (dpAll_mono s2.fro _ _ d1))
/-- a new tuple -/
theorem mkT_post {ds : List D} {vs : List V} (h : PostD cl bs g H st (mkT ds st) Q W) (a : At N0 bs g H st) (r : RepDs N0 g ds vs) : vs.length ≤ sizeLine ∧ ∀ p, H p = none → Q (.ref p) (upd H p (.tup vs)) := by
  unfold mkT at h
  obtain ⟨hl, h⟩ := chk_post h
  have hl' : ds.length ≤ LINE := Nat.le_of_ble_eq_true hl
  refine ⟨by rw [← r.len, line_eq]; exact hl', fun p hp => ?_⟩
  cases q : frzL DEEP ds st with
  | none =>
    rw [q] at h
    obtain ⟨a1, s1, e1⟩ := at_tpl (K := N0) a hp r
    exact Post.fin' h a1 s1 ⟨p, e1, rfl⟩
  | some z =>
    obtain ⟨ps, st1⟩ := z
    rw [q] at h
    obtain ⟨g1, a1, s1, d1⟩ := mapF_ok (fun o r e => frz_ok DEEP o r e) ds a r q
    obtain ⟨a2, s2⟩ := at_froz (ho := .tup vs) a1 hp
    exact Post.fin' h a2 (s1.trans s2) (show Dp N0 _ _ _ from .tup (.inl (.inl upd_same)) (dpAll_mono s2.fro _ _ d1))
/-- a new tuple of plain data -/
theorem newT_post {xs : List PyData} {vs : List V} (h : PostD cl bs g H st (.ok (.p (.tuple xs)) st) Q W) (a : At N0 bs g H st) (r : DpAll N0 g.G vs xs) : ∀ p, H p = none → Q (.ref p) (upd H p (.tup vs)) := fun p hp => by
  obtain ⟨a2, s2⟩ := at_froz (ho := .tup vs) a hp
  exact Post.fin' h a2 s2 (show Dp N0 _ _ _ from .tup (.inl (.inl upd_same)) (dpAll_mono s2.fro _ _ r))
end

/-- what an operation of the reckoner's says of values -/
def rO (cl : List (Addr × Option Str)) (bs : List Nat) (f : List D → Sto → R D) : List V → Hp → VK → Prop := fun vs H Q =>
  ∃ g st ds W, At N0 bs g H st ∧ RepDs N0 g ds vs ∧ PostD cl bs g H st (f ds st) Q W

section
variable {X : Cx} {cl : List (Addr × Option Str)} {bs : List Nat}
theorem opInt2_inv {g : Gh} {H : Hp} {st : Sto} {Q : VK} {W : XW} {h : Int → Int → Option PyData} {ds : List D} (p : PostD cl bs g H st (opInt2 st h ds) Q W) :
    ∃ i j z, ds = [.p (.int i), .p (.int j)] ∧ h i j = some z ∧ PostD cl bs g H st (.ok (.p z) st) Q W := by
  unfold opInt2 at p
  split at p
  · rename_i i j
    cases hz : h i j with
    | none => rw [hz] at p; exact p.elim
    | some z => rw [hz] at p; exact ⟨i, j, z, rfl, hz, p⟩
  · exact p.elim
/-- an operation on two ints -/
theorem s_int2 {f : Value → Value → Sem Value} {o : Op} {h : Int → Int → Option PyData} (he : ∀ ds st, opS o ds st = opInt2 st h ds)
    (base : ∀ i j d, h i j = some d → ∃ v, (∀ G, Dp N0 G v d) ∧ ∀ pins s σ H (a b : Value) (Q : VK), Inv X pins σ H s → RelV (.int i) a → RelV (.int j) b → Q v H → wpAny (model X.prog X.w) X.A (f a b) (EP X pins σ Q) X.xe s) :
    OpR X f (fun x y => rO cl bs (opS o) [x, y]) := by
  intro pins s σ H x y v u Q I rx ry hh
  obtain ⟨g, st, ds, W, a, r, p⟩ := hh
  rw [he] at p
  obtain ⟨i, j, z, rfl, hz, p⟩ := opInt2_inv p
  cases r with
  | cons ra r =>
    cases r with
    | cons rb r =>
      have e1 := dp_int ra
      have e2 := dp_int rb
      subst e1; subst e2
      obtain ⟨w, hw, hb⟩ := base i j z hz
      exact hb pins s σ H v u Q I rx ry (Post.fin p a (show Dp N0 _ _ _ from hw _))
theorem s_subt : OpR X (binaryOp .Sub) (fun x y => rO cl bs (opS .subt) [x, y]) := s_int2 (h := fun i j => some (.int (i - j))) (fun _ _ => rfl) fun i j d e => by
  injection e with e; subst e
  exact ⟨.int (i - j), fun _ => .int _, fun pins s σ H a b Q I ra rb q => op_sub pins s σ H _ _ a b Q I ra rb ⟨i, j, rfl, rfl, q⟩⟩
theorem s_fdiv : OpR X (binaryOp .FloorDiv) (fun x y => rO cl bs (opS .fdiv) [x, y]) := s_int2 (fun _ _ => rfl) fun i j d e => by
  cases j with
  | negSucc _ => cases e
  | ofNat k => cases k with
    | zero => cases e
    | succ k =>
      dsimp only at e
      cases hq : Nat.blt (k + 1).log2 9000 with
      | false => rw [hq] at e; cases e
      | true =>
        rw [hq] at e
        injection e with e; subst e
        have hlt : (k + 1).log2 < 9000 := Nat.le_of_ble_eq_true hq
        exact ⟨.int (i / .ofNat (k + 1)), fun _ => .int _, fun pins s σ H a b Q I ra rb q => op_fdivW pins s σ H _ _ a b Q I ra rb ⟨i, .ofNat (k + 1), rfl, rfl, ⟨Int.natCast_pos.mpr (Nat.succ_pos k), hlt⟩, q⟩⟩
theorem s_mod : OpR X (binaryOp .Mod) (fun x y => rO cl bs (opS .mod) [x, y]) := s_int2 (fun _ _ => rfl) fun i j d e => by
  cases j with
  | negSucc _ => cases e
  | ofNat k => cases k with
    | zero => cases e
    | succ k =>
      injection e with e; subst e
      exact ⟨.int (i % .ofNat (k + 1)), fun _ => .int _, fun pins s σ H a b Q I ra rb q => op_mod pins s σ H _ _ a b Q I ra rb ⟨i, .ofNat (k + 1), rfl, rfl, Int.natCast_pos.mpr (Nat.succ_pos k), q⟩⟩
theorem powI_eq (i : Int) (n : Nat) : powI i n = i ^ n := by
  cases i with
  | ofNat k => show ((k ^ n : Nat) : Int) = (k : Int) ^ n; rw [Int.natCast_pow]
  | negSucc k =>
    have e0 : (Int.negSucc k) = -((k + 1 : Nat) : Int) := rfl
    have h2 : ∀ m : Nat, (Int.negSucc k) ^ m = if m % 2 = 0 then (((k + 1) ^ m : Nat) : Int) else -(((k + 1) ^ m : Nat) : Int) := by
      intro m
      induction m with
      | zero => simp
      | succ m ih =>
        rw [Int.pow_succ, ih, e0]
        by_cases h : m % 2 = 0
        · rw [if_pos h, if_neg (by omega), Nat.pow_succ, Int.natCast_mul, Int.mul_neg]
        · rw [if_neg h, if_pos (by omega), Nat.pow_succ, Int.natCast_mul, Int.neg_mul_neg]
    unfold powI
    rw [h2]
    by_cases h : n % 2 = 0
    · rw [if_pos h, h]; rfl
    · rw [if_neg h]
      have h1 : n % 2 = 1 := by omega
      rw [h1]; rfl
theorem s_pow : OpR X (binaryOp .Pow) (fun x y => rO cl bs (opS .pow) [x, y]) := s_int2 (fun _ _ => rfl) fun i j d e => by
  cases j with
  | negSucc _ => cases e
  | ofNat k =>
    dsimp only at e
    cases h1 : Nat.ble k 1000000 with
    | false => rw [h1] at e; cases h2 : Nat.blt i.natAbs (2 ^ 64) <;> rw [h2] at e <;> cases e
    | true =>
      cases h2 : Nat.blt i.natAbs (2 ^ 64) with
      | false => rw [h1, h2] at e; cases e
      | true =>
        rw [h1, h2] at e
        injection e with e; subst e
        have l1 : k ≤ 1000000 := Nat.le_of_ble_eq_true h1
        have l2 : i.natAbs < 2 ^ 64 := Nat.le_of_ble_eq_true h2
        refine ⟨.int (powI i k), fun _ => .int _, fun pins s σ H a b Q I ra rb q => op_pow pins s σ H _ _ a b Q I ra rb ⟨i, .ofNat k, rfl, rfl, ⟨Int.natCast_nonneg k, Int.ofNat_le.mpr l1, l2⟩, ?_⟩⟩
        rw [powI_eq] at q
        exact q
theorem s_lt : OpR X (compareOp .Lt) (fun x y => rO cl bs (opS .lt) [x, y]) := s_int2 (h := fun i j => some (.bool (ltI i j))) (fun _ _ => rfl) fun i j d e => by
  injection e with e; subst e
  exact ⟨.bl (ltI i j), fun _ => .bl _, fun pins s σ H a b Q I ra rb q => op_lt pins s σ H _ _ a b Q I ra rb ⟨i, j, rfl, rfl, q⟩⟩
theorem s_le : OpR X (compareOp .LtE) (fun x y => rO cl bs (opS .le) [x, y]) := s_int2 (h := fun i j => some (.bool (leI i j))) (fun _ _ => rfl) fun i j d e => by
  injection e with e; subst e
  exact ⟨.bl (leI i j), fun _ => .bl _, fun pins s σ H a b Q I ra rb q => op_le pins s σ H _ _ a b Q I ra rb ⟨i, j, rfl, rfl, q⟩⟩
theorem s_gt : OpR X (compareOp .Gt) (fun x y => rO cl bs (opS .gt) [x, y]) := s_int2 (h := fun i j => some (.bool (ltI j i))) (fun _ _ => rfl) fun i j d e => by
  injection e with e; subst e
  exact ⟨.bl (ltI j i), fun _ => .bl _, fun pins s σ H a b Q I ra rb q => op_gt pins s σ H _ _ a b Q I ra rb ⟨i, j, rfl, rfl, q⟩⟩
theorem s_ge : OpR X (compareOp .GtE) (fun x y => rO cl bs (opS .ge) [x, y]) := s_int2 (h := fun i j => some (.bool (leI j i))) (fun _ _ => rfl) fun i j d e => by
  injection e with e; subst e
  exact ⟨.bl (leI j i), fun _ => .bl _, fun pins s σ H a b Q I ra rb q => op_ge pins s σ H _ _ a b Q I ra rb ⟨i, j, rfl, rfl, q⟩⟩

/-! ### int, str, tuple, list: + and * -/
theorem lst_raw {pins : List (Addr × Obj)} {σ : L2.St} {H : Hp} {s : Shared} {l : Addr} {xs : List V} (I : Inv X pins σ H s) (h : Rd H l (.lst xs)) : xs.length ≤ sizeLine ∧ ∃ (its : List Value) (n : Nat), Vals xs its ∧ xs.length = its.length ∧ s.heap.get? l = some { cls := .type "list", data := .seq its.toArray n } := by
  obtain ⟨z, its, n, r, e⟩ := h.ok I.hok
  exact ⟨z, its, n, r, r.length, e⟩
theorem op_catR : OpR X (binaryOp .Add) (fun x y H Q => ∃ l b xs zs, x = .ref l ∧ y = .ref b ∧ Rd H l (.lst xs) ∧ Rd H b (.lst zs) ∧ xs.length + zs.length ≤ sizeLine ∧ ∀ p, H p = none → Q (.ref p) (upd H p (.lst (xs ++ zs)))) := by
  intro pins s σ H x y v u Q I rx ry h
  obtain ⟨l, b, xs, zs, rfl, rfl, hH, hB, hz, q⟩ := h
  cases rx
  cases ry
  obtain ⟨z, its, n, r, hl, e⟩ := lst_raw I hH
  obtain ⟨z2, its2, n2, r2, hl2, e2⟩ := lst_raw I hB
  refine PySem.P.add_list e e2 ?_ (by rw [List.size_toArray, List.size_toArray]; omega)
  have ea : its.toArray ++ its2.toArray = (its ++ its2).toArray := by simp
  rw [ea]
  exact ⟨.ref _, _, I.lnew (t' := s.toks) (r.append r2) (by rw [List.length_append]; omega), rfl, q _ I.fresh⟩
theorem strlen (x : Str) : x.length = x.cps.size := rfl
theorem s_add {al : Bool} : OpR X (binaryOp .Add) (fun x y => rO cl bs (opS (.add al)) [x, y]) := by
  intro pins s σ H x y v u Q I rx ry hh
  obtain ⟨g, st, ds, W, a, r, p⟩ := hh
  obtain ⟨d, e, rfl, ra, rb⟩ := of_reps2 r
  have p0 : PostD cl bs g H st (opAdd al st d e) Q W := p
  clear p
  have p := p0
  clear p0
  unfold opAdd at p
  split at p
  · have e1 := dp_int ra
    have e2 := dp_int rb
    subst e1; subst e2
    exact op_add pins s σ H _ _ v u Q I rx ry ⟨_, _, rfl, rfl, Post.fin p a (show Dp N0 _ _ _ from .int _)⟩
  · obtain ⟨hl, p⟩ := chk_post p
    have e1 := dp_str ra
    have e2 := dp_str rb
    subst e1; subst e2
    exact op_add_str pins s σ H _ _ v u Q I rx ry ⟨_, _, rfl, rfl, by rw [line_eq]; exact Nat.le_of_ble_eq_true hl, Post.fin p a (show Dp N0 _ _ _ from .str _)⟩
  · rename_i xs ys
    obtain ⟨hl, p⟩ := chk_post p
    have hl := Nat.le_of_ble_eq_true hl
    obtain ⟨b, vs, rfl, h1, d1⟩ := dp_tup ra
    obtain ⟨c, ws, rfl, h2, d2⟩ := dp_tup rb
    have l1 := dpl_len d1
    have l2 := dpl_len d2
    refine op_catA pins s σ H _ _ v u Q I rx ry ⟨b, c, vs, ws, rfl, rfl, sqt_k (sqt_mono a.ok.sub h1), sqt_k (sqt_mono a.ok.sub h2), by rw [line_eq, l1, l2]; exact hl, fun e => ?_, fun _ e => ?_, fun _ _ => newT_post p a (dpl_app d1 d2)⟩
    · subst e
      have e : xs = [] := by cases xs with | nil => rfl | cons _ _ => cases l1
      subst e
      exact Post.fin p a rb
    · subst e
      have e : ys = [] := by cases ys with | nil => rfl | cons _ _ => cases l2
      subst e
      rw [List.append_nil] at p
      exact Post.fin p a ra
  · cases h1 : listItems st d with
    | none => rw [h1] at p; exact p.elim
    | some xs =>
      cases h2 : listItems st e with
      | none => rw [h1, h2] at p; exact p.elim
      | some ys =>
        rw [h1, h2] at p
        obtain ⟨b, vs, rfl, k1, r1⟩ := a.ok.list h1 ra
        obtain ⟨c, ws, rfl, k2, r2⟩ := a.ok.list h2 rb
        obtain ⟨hz, q⟩ := mkL_post p a (r1.app r2)
        exact op_catR pins s σ H _ _ v u Q I rx ry ⟨b, c, vs, ws, rfl, rfl, rd_of_sql k1, rd_of_sql k2, by rw [List.length_append] at hz; exact hz, q⟩
theorem s_neg : UnR X (unaryOp .USub) (fun x => rO cl bs (opS .neg) [x]) := by
  intro pins s σ H x v Q I rx hh
  obtain ⟨g, st, ds, W, a, r, p⟩ := hh
  obtain ⟨d, rfl, ra⟩ := of_reps1 r
  have go : ∃ i, d = .p (.int i) ∧ PostD cl bs g H st (.ok (D.int (-i)) st) Q W := by
    cases d with
    | ref _ => exact p.elim
    | p z => cases z <;> first | exact p.elim | exact ⟨_, rfl, p⟩
  obtain ⟨i, rfl, p⟩ := go
  have e1 := dp_int ra
  subst e1
  exact un_neg pins s σ H _ v Q I rx ⟨_, rfl, Post.fin p a (show Dp N0 _ _ _ from .int _)⟩

/-! ### comparisons -/
theorem mapP_ok {K : PySem.W.Frag} {g : Gh} {H : Hp} {f : D → Option PyData} (hf : ∀ {d : D} {v : V} {x : PyData}, RepD K g d v → f d = some x → Dp K H v x) :
    ∀ (ds : List D) {vs : List V} {xs : List PyData}, RepDs K g ds vs → mapP f ds = some xs → DpAll K H vs xs
  | [], vs, xs, r, e => by
    unfold mapP at e
    injection e with e; subst e
    cases r
    exact .nil
  | d :: ds, vs, xs, r, e => by
    unfold mapP at e
    cases r with
    | cons a b =>
      cases h1 : f d with
      | none => rw [h1] at e; cases e
      | some x =>
        rw [h1] at e
        dsimp only at e
        cases h2 : mapP f ds with
        | none => rw [h2] at e; cases e
        | some ys =>
          rw [h2] at e
          injection e with e; subst e
          exact .cons (hf a h1) (mapP_ok hf ds b h2)
theorem peek_ok {K : PySem.W.Frag} {g : Gh} {H : Hp} {st : Sto} (o : Ok K g H st) : ∀ (k : Nat) {d : D} {v : V} {x : PyData}, RepD K g d v → peek k st d = some x → Dp K H v x
  | 0, .p y, v, x, r, e => by
    unfold peek at e
    injection e with e; subst e
    exact dp_mono o.sub _ _ r
  | 0, .ref n, v, x, r, e => by unfold peek at e; cases e
  | k + 1, .p y, v, x, r, e => by
    unfold peek at e
    injection e with e; subst e
    exact dp_mono o.sub _ _ r
  | k + 1, .ref n, v, x, r, e => by
    unfold peek at e
    obtain ⟨a, hm, rfl⟩ := r
    dsimp only at e
    cases hn : getS st n with
    | fz y =>
      rw [hn] at e
      injection e with e; subst e
      obtain ⟨a', h1, h2⟩ := o.fzAt hn
      rw [hm] at h1; cases h1
      exact dp_mono o.sub _ _ h2
    | lst xs =>
      rw [hn] at e
      dsimp only at e
      cases h2 : mapP (peek k st) xs with
      | none => rw [h2] at e; cases e
      | some ps =>
        rw [h2] at e
        injection e with e; subst e
        obtain ⟨a', vs, h3, h4, h5, h6⟩ := o.lstAt hn
        rw [hm] at h3; cases h3
        exact .lst (.inl (.inl h5)) (mapP_ok (fun r e => peek_ok o k r e) xs h6 h2)
    | _ => rw [hn] at e; cases e
mutual
theorem lay_ok : ∀ (x : PyData) (k : Nat), lay k x = true → x.canLay0 = true ∧ x.depth ≤ k
  | .none, k, h => by simp [PyData.canLay0, PyData.depth]
  | .bool _, k, h => by simp [PyData.canLay0, PyData.depth]
  | .int _, k, h => by simp [PyData.canLay0, PyData.depth]
  | .str s, k, h => by
    have h : PyData.canLay0 (.str s) = true := by unfold lay at h; cases k <;> exact h
    exact ⟨h, by simp [PyData.depth]⟩
  | .list xs, 0, h => by unfold lay at h; cases h
  | .list xs, k + 1, h => by
    have h : layL k xs = true := by unfold lay at h; exact h
    obtain ⟨a, b⟩ := layL_ok xs k h
    exact ⟨by simp [PyData.canLay0, a], by simp [PyData.depth]; exact b⟩
  | .tuple xs, 0, h => by unfold lay at h; cases h
  | .tuple xs, k + 1, h => by
    have h : layL k xs = true := by unfold lay at h; exact h
    obtain ⟨a, b⟩ := layL_ok xs k h
    exact ⟨by simp [PyData.canLay0, a], by simp [PyData.depth]; exact b⟩
  | .dict _, k, h => by unfold lay at h; cases k <;> cases h
theorem layL_ok : ∀ (xs : List PyData) (k : Nat), layL k xs = true → PyData.canLayAll0 xs = true ∧ PyData.depthAll xs ≤ k
  | [], k, h => by simp [PyData.canLayAll0, PyData.depthAll]
  | x :: xs, k, h => by
    unfold layL at h
    cases q : lay k x with
    | false => rw [q] at h; cases h
    | true =>
      rw [q] at h
      obtain ⟨a, b⟩ := lay_ok x k q
      obtain ⟨c, d⟩ := layL_ok xs k h
      exact ⟨by simp [PyData.canLayAll0, a, c], by simp [PyData.depthAll]; omega⟩
end
theorem shaped_of {x : PyData} (h : lay 60 x = true) : SeqAt.shaped x = true := by
  obtain ⟨a, b⟩ := lay_ok x 60 h
  unfold SeqAt.shaped
  rw [a, decide_eq_true (by omega)]
  rfl
theorem eq_inv {g : Gh} {H : Hp} {st : Sto} {Q : VK} {W : XW} {d e : D} {neg : Bool} {x y : V} (p : PostD cl bs g H st (opEq st d e neg) Q W) (a : At N0 bs g H st) (ra : RepD N0 g d x) (rb : RepD N0 g e y) :
    ∃ z w, Dp N0 H x z ∧ Dp N0 H y w ∧ SeqAt.shaped z = true ∧ SeqAt.shaped w = true ∧ Q (.bl (ng neg (PyData.eqv z w))) H := by
  unfold opEq at p
  cases h1 : peek DEEP st d with
  | none => rw [h1] at p; exact p.elim
  | some z =>
    cases h2 : peek DEEP st e with
    | none => rw [h1, h2] at p; exact p.elim
    | some w =>
      rw [h1, h2] at p
      obtain ⟨k1, p⟩ := chk_post p
      obtain ⟨k2, p⟩ := chk_post p
      exact ⟨z, w, peek_ok a.ok _ ra h1, peek_ok a.ok _ rb h2, shaped_of k1, shaped_of k2, Post.fin p a (show Dp N0 _ _ _ from .bl _)⟩
theorem s_eq (hu : X.A.units + 64 < cLine) : OpR X (compareOp .Eq) (fun x y => rO cl bs (opS .eq) [x, y]) := by
  intro pins s σ H x y v u Q I rx ry hh
  obtain ⟨g, st, ds, W, a, r, p⟩ := hh
  obtain ⟨d, e, rfl, ra, rb⟩ := of_reps2 r
  obtain ⟨z, w, h1, h2, h3, h4, q⟩ := eq_inv (neg := false) p a ra rb
  exact op_eqD hu pins s σ H _ _ v u Q I rx ry ⟨z, w, dp_k _ _ h1, dp_k _ _ h2, h3, h4, q⟩
theorem s_ne (hu : X.A.units + 64 < cLine) : OpR X (compareOp .NotEq) (fun x y => rO cl bs (opS .ne) [x, y]) := by
  intro pins s σ H x y v u Q I rx ry hh
  obtain ⟨g, st, ds, W, a, r, p⟩ := hh
  obtain ⟨d, e, rfl, ra, rb⟩ := of_reps2 r
  obtain ⟨z, w, h1, h2, h3, h4, q⟩ := eq_inv (neg := true) p a ra rb
  exact op_neD hu pins s σ H _ _ v u Q I rx ry ⟨z, w, dp_k _ _ h1, dp_k _ _ h2, h3, h4, q⟩
theorem non_iff {g : Gh} {d : D} {x : V} (r : RepD N0 g d x) : x = .non ↔ d = .p .none := by
  constructor
  · intro e
    subst e
    cases d with
    | ref n => obtain ⟨a, _, e⟩ := r; cases e
    | p z => cases (show Dp N0 g.G .non z from r); rfl
  · intro e
    subst e
    exact dp_non r
theorem s_isN : OpR X (compareOp .Is) (fun x y H Q => y = .non ∧ rO cl bs (opS .isN) [x] H Q) := by
  intro pins s σ H x y v u Q I rx ry hh
  obtain ⟨rfl, g, st, ds, W, a, r, p⟩ := hh
  obtain ⟨d, rfl, ra⟩ := of_reps1 r
  refine op_isN pins s σ H _ _ v u Q I rx ry ⟨rfl, ?_⟩
  by_cases e : x = .non
  · have := (non_iff ra).mp e
    subst this
    rw [decide_eq_true e]
    exact Post.fin (d := D.bool true) p a (show Dp N0 _ _ _ from .bl _)
  · have hne : d ≠ .p .none := fun q => e ((non_iff ra).mpr q)
    rw [decide_eq_false e]
    have p' : PostD cl bs g H st (.ok (D.bool false) st) Q W := by
      cases d with
      | ref n => exact p
      | p z => cases z <;> first | exact absurd rfl hne | exact p
    exact Post.fin p' a (show Dp N0 _ _ _ from .bl _)
theorem s_notN : OpR X (compareOp .IsNot) (fun x y H Q => y = .non ∧ rO cl bs (opS .notN) [x] H Q) := by
  intro pins s σ H x y v u Q I rx ry hh
  obtain ⟨rfl, g, st, ds, W, a, r, p⟩ := hh
  obtain ⟨d, rfl, ra⟩ := of_reps1 r
  refine op_notN pins s σ H _ _ v u Q I rx ry ⟨rfl, ?_⟩
  by_cases e : x = .non
  · have := (non_iff ra).mp e
    subst this
    rw [decide_eq_true e]
    exact Post.fin (d := D.bool false) p a (show Dp N0 _ _ _ from .bl _)
  · have hne : d ≠ .p .none := fun q => e ((non_iff ra).mpr q)
    rw [decide_eq_false e]
    have p' : PostD cl bs g H st (.ok (D.bool true) st) Q W := by
      cases d with
      | ref n => exact p
      | p z => cases z <;> first | exact absurd rfl hne | exact p
    exact Post.fin p' a (show Dp N0 _ _ _ from .bl _)
end
end Ev

/-! Ev3: things that are being made; in, subscripts, slices, built-ins. -/
namespace Ev
variable [FnTab]
open PySem PySem.Spec PyProof.Rows L2

/-! ### a thing that is being made: tracked, not frozen, not in the store -/
structure Pend (g : Gh) (H : Hp) (st : Sto) (p : Addr) (ho : HO) : Prop where
  fro : g.G p = none
  at_ : H p = some ho
  out : ∀ n, mutable (getS st n) = true → g.mu[n]? ≠ some p
section
variable {K : PySem.W.Frag} {bs : List Nat} {g g' g0 : Gh} {H H' H0 : Hp} {st st' st0 : Sto} {p : Addr} {ho ho' : HO}
theorem pend_new (a : At K bs g H st) (hp : H p = none) : Pend g (upd H p ho) st p ho :=
  ⟨a.ok.sub.free hp, upd_same, fun n hn e => by
    obtain ⟨q, u, h1, _, h3, _⟩ := a.ok.muts n hn
    rw [e] at h1; cases h1
    rw [hp] at h3; cases h3⟩
theorem pend_step (q : Pend g H st p ho) (s : Step g H st g' H' st') : Pend g' H' st' p ho := by
  obtain ⟨h1, h2, h3⟩ := s.frame p ho q.at_ q.fro q.out
  exact ⟨h2, h1, h3⟩
theorem pend_upd (a : At K bs g H st) (q : Pend g H st p ho) : At K bs g (upd H p ho') st ∧ Pend g (upd H p ho') st p ho' := by
  refine ⟨⟨⟨a.ok.len, fun b u h => ?_, fun n hn => ?_, a.ok.frz, a.ok.inj⟩, a.w⟩, ⟨q.fro, upd_same, q.out⟩⟩
  · by_cases e : b = p
    · subst e; rw [q.fro] at h; cases h
    · rw [upd_ne e]; exact a.ok.sub b u h
  · obtain ⟨b, u, h1, h2, h3, h4⟩ := a.ok.muts n hn
    exact ⟨b, u, h1, h2, by rw [upd_ne (fun e => q.out n hn (by rw [h1, e]))]; exact h3, h4⟩
theorem pend_froz (a : At K bs g H st) (q : Pend g H st p ho) : At K bs ⟨upd g.G p ho, g.mu⟩ H st := by
  have sG : Sub g.G (upd g.G p ho) := Sub.new q.fro
  refine ⟨⟨a.ok.len, fun b u h => ?_, fun n hn => ?_, fun n hn => ?_, a.ok.inj⟩, a.w⟩
  · by_cases e : b = p
    · subst e
      have h' : upd g.G b ho b = some u := h
      rw [upd_same] at h'; cases h'; exact q.at_
    · have h' : upd g.G p ho b = some u := h
      rw [upd_ne e] at h'; exact a.ok.sub b u h'
  · obtain ⟨b, u, h1, h2, h3, h4⟩ := a.ok.muts n hn
    have hne : b ≠ p := fun e => q.out n hn (by rw [h1, e])
    exact ⟨b, u, h1, by show upd g.G p ho b = none; rw [upd_ne hne]; exact h2, h3, MutO.mono (g' := ⟨upd g.G p ho, g.mu⟩) sG (fun _ _ h => h) h4⟩
  · obtain ⟨b, h1, h2⟩ := a.ok.frz n hn
    exact ⟨b, h1, FrzO.mono (g' := ⟨upd g.G p ho, g.mu⟩) sG (fun _ _ h => h) h2⟩
theorem pend_store {so : SO} (a : At K bs g H st) (q : Pend g H st p ho) (hm : mutable so = true) (hr : MutO K g p so ho) :
    At K bs ⟨g.G, g.mu ++ [p]⟩ H (st ++ [so]) ∧ (g.mu ++ [p])[st.length]? = some p ∧ ∀ n, mutable (getS (st ++ [so]) n) = true → (n < st.length ∧ mutable (getS st n) = true) ∨ n = st.length := by
  have hl := a.ok.len
  have mm : ∀ (n : Nat) (b : Addr), g.mu[n]? = some b → (g.mu ++ [p])[n]? = some b := fun n b h => by
    have := (List.getElem?_eq_some_iff.mp h).1
    rw [List.getElem?_append_left this]; exact h
  have mlast : (g.mu ++ [p])[st.length]? = some p := by rw [← hl, List.getElem?_append_right (Nat.le_refl _)]; simp
  have old : ∀ n, n < st.length → getS (st ++ [so]) n = getS st n := fun n h => getS_app_lt h
  have cases_ : ∀ n, mutable (getS (st ++ [so]) n) = true → (n < st.length ∧ mutable (getS st n) = true) ∨ n = st.length := fun n hn => by
    rcases Nat.lt_trichotomy n st.length with h | h | h
    · rw [old n h] at hn; exact .inl ⟨h, hn⟩
    · exact .inr h
    · rw [getS_app_gt h] at hn; cases hn
  refine ⟨⟨⟨by simp [hl], a.ok.sub, fun n hn => ?_, fun n hn => ?_, fun n m b h1 h2 h3 h4 => ?_⟩, fun b hb => ?_⟩, mlast, cases_⟩
  · rcases cases_ n hn with ⟨h, hn⟩ | h
    · obtain ⟨b, u, h1, h2, h3, h4⟩ := a.ok.muts n hn
      exact ⟨b, u, mm n b h1, h2, h3, by rw [old n h]; exact MutO.mono (g := g) (g' := ⟨g.G, g.mu ++ [p]⟩) (Sub.refl g.G) mm h4⟩
    · subst h
      exact ⟨p, ho, mlast, q.fro, q.at_, by rw [getS_app_eq]; exact MutO.mono (g := g) (g' := ⟨g.G, g.mu ++ [p]⟩) (Sub.refl g.G) mm hr⟩
  · have hlt : n < (st ++ [so]).length := getS_lt (by intro q; rw [q] at hn; cases hn)
    have hlt' : n < st.length := by
      rcases Nat.lt_or_ge n st.length with h | h
      · exact h
      · have e : n = st.length := by rw [List.length_append] at hlt; simp at hlt; omega
        subst e
        rw [getS_app_eq] at hn
        cases so <;> first | exact absurd hn Bool.false_ne_true | exact absurd hm Bool.false_ne_true
    rw [old n hlt'] at hn ⊢
    obtain ⟨b, h1, h2⟩ := a.ok.frz n hn
    exact ⟨b, mm n b h1, FrzO.mono (g := g) (g' := ⟨g.G, g.mu ++ [p]⟩) (Sub.refl g.G) mm h2⟩
  · rcases cases_ n h1 with ⟨hn, hn'⟩ | hn
    · have e3 : g.mu[n]? = some b := by rw [List.getElem?_append_left (by omega)] at h3; exact h3
      rcases cases_ m h2 with ⟨hm', hm''⟩ | hm'
      · have e4 : g.mu[m]? = some b := by rw [List.getElem?_append_left (by omega)] at h4; exact h4
        exact a.ok.inj n m b hn' hm'' e3 e4
      · subst hm'
        rw [mlast] at h4; cases h4
        exact absurd e3 (q.out n hn')
    · subst hn
      rw [mlast] at h3; cases h3
      rcases cases_ m h2 with ⟨hm', hm''⟩ | hm'
      · have e4 : g.mu[m]? = some p := by rw [List.getElem?_append_left (by omega)] at h4; exact h4
        exact absurd e4 (q.out m hm'')
      · exact hm'.symm
  · obtain ⟨h1, h2⟩ := a.w b hb
    refine ⟨by simp; omega, fun n hn => ?_⟩
    rw [old n (by omega)]
    exact h2 n hn
theorem step_upd (s : Step g0 H0 st0 g H st) (h0 : H0 p = none) : Step g0 H0 st0 g (upd H p ho) st :=
  ⟨s.fro, s.mu, fun a o h1 h2 h3 => by
    obtain ⟨k1, k2, k3⟩ := s.frame a o h1 h2 h3
    exact ⟨by rw [upd_ne (ne_of_none h1 h0)]; exact k1, k2, k3⟩⟩
theorem step_froz (s : Step g0 H0 st0 g H st) (h0 : H0 p = none) (hg : g.G p = none) : Step g0 H0 st0 ⟨upd g.G p ho, g.mu⟩ H st :=
  ⟨s.fro.trans (Sub.new hg), s.mu, fun a o h1 h2 h3 => by
    obtain ⟨k1, k2, k3⟩ := s.frame a o h1 h2 h3
    exact ⟨k1, by show upd g.G p ho a = none; rw [upd_ne (ne_of_none h1 h0)]; exact k2, k3⟩⟩
theorem step_store {so : SO} (s : Step g0 H0 st0 g H st) (h0 : H0 p = none) (hl : g.mu.length = st.length) (hc : ∀ n, mutable (getS (st ++ [so]) n) = true → (n < st.length ∧ mutable (getS st n) = true) ∨ n = st.length) (he : (g.mu ++ [p])[st.length]? = some p) :
    Step g0 H0 st0 ⟨g.G, g.mu ++ [p]⟩ H (st ++ [so]) :=
  ⟨s.fro, fun n a h => by
    have h := s.mu n a h
    have := (List.getElem?_eq_some_iff.mp h).1
    show (g.mu ++ [p])[n]? = some a
    rw [List.getElem?_append_left this]; exact h, fun a o h1 h2 h3 => by
    obtain ⟨k1, k2, k3⟩ := s.frame a o h1 h2 h3
    refine ⟨k1, k2, fun n hn e => ?_⟩
    rcases hc n hn with ⟨h, hn⟩ | h
    · have e' : (g.mu ++ [p])[n]? = some a := e
      rw [List.getElem?_append_left (by omega)] at e'
      exact k3 n hn e'
    · subst h
      have e' : (g.mu ++ [p])[st.length]? = some a := e
      rw [he] at e'; cases e'
      rw [h0] at h1; cases h1⟩
end
section
variable {cl : List (Addr × Option Str)} {bs : List Nat} {g g0 : Gh} {H H0 : Hp} {st st0 : Sto} {Q : VK} {W : XW} {p : Addr}
/-- a list that was filled step by step is done -/
theorem mkL_pend {al : Bool} {ds : List D} {vs : List V} (h : PostD cl bs g0 H0 st0 (mkL al ds st) Q W) (s : Step g0 H0 st0 g H st) (a : At N0 bs g H st) (q : Pend g H st p (.lst vs)) (r : RepDs N0 g ds vs) (h0 : H0 p = none) : Q (.ref p) H := by
  unfold mkL at h
  obtain ⟨hl, h⟩ := chk_post h
  cases al with
  | true =>
    obtain ⟨a1, e1, c1⟩ := pend_store (so := .lst ds) a q rfl ⟨vs, rfl, r⟩
    exact Post.fin' h a1 (step_store s h0 a.ok.len c1 e1) ⟨p, e1, rfl⟩
  | false =>
    simp only [toPs] at h
    cases z : frzL DEEP ds st with
    | none => rw [z] at h; exact h.elim
    | some z2 =>
      obtain ⟨ps, st1⟩ := z2
      rw [z] at h
      obtain ⟨g1, a1, s1, d1⟩ := mapF_ok (fun o r e => frz_ok DEEP o r e) ds a r z
      have q1 := pend_step q s1
      have a2 := pend_froz a1 q1
      exact Post.fin' h a2 (step_froz (s.trans s1) h0 q1.fro) (show Dp N0 _ _ _ from .lst (.inl (.inl upd_same)) (dpAll_mono (Sub.new q1.fro) _ _ d1))
/-- a dict's display is done -/
theorem dic_pend {kvs : List (PyData × D)} {ks : List (Key × V)} (h : PostD cl bs g0 H0 st0 (.ok (.ref st.length) (st ++ [.dct kvs])) Q W) (s : Step g0 H0 st0 g H st) (a : At N0 bs g H st) (q : Pend g H st p (.dK ks)) (r : RepKv N0 g kvs ks) (h0 : H0 p = none) : Q (.ref p) H := by
  obtain ⟨a1, e1, c1⟩ := pend_store (so := .dct kvs) a q rfl ⟨ks, rfl, r⟩
  exact Post.fin' h a1 (step_store s h0 a.ok.len c1 e1) ⟨p, e1, rfl⟩
end

/-! ### dicts -/
section
variable {K : PySem.W.Frag} {g : Gh}
theorem keyP_rel {G : Hp} {k : PyData} {q : Key} {v : V} (h : keyP k = some q) (r : Dp N0 G v k) : v = kV q := by
  cases k with
  | int i => injection h with h; subst h; exact dp_int r
  | str x => injection h with h; subst h; exact dp_str r
  | _ => cases h
theorem keyOk_some {k : PyData} (h : keyOk k = true) : ∃ q, keyP k = some q := by
  cases k with
  | int i => exact ⟨_, rfl⟩
  | str x => exact ⟨_, rfl⟩
  | _ => cases h
theorem eqv_key {a k : PyData} {p q : Key} (ha : keyP a = some p) (hk : keyP k = some q) : PyData.eqv a k = decide (p = q) := by
  cases a with
  | int i =>
    injection ha with ha; subst ha
    cases k with
    | int j => injection hk with hk; subst hk; rw [key_ll]; simp [PyData.eqv]
    | str y => injection hk with hk; subst hk; rw [key_lr]; simp [PyData.eqv]
    | _ => cases hk
  | str x =>
    injection ha with ha; subst ha
    cases k with
    | int j => injection hk with hk; subst hk; rw [key_rl]; simp [PyData.eqv]
    | str y =>
      injection hk with hk; subst hk; rw [key_rr]
      simp only [PyData.eqv]
      rw [Bool.eq_iff_iff]; simp
    | _ => cases hk
  | _ => cases ha
theorem dGet_ok {k : PyData} {q : Key} (hk : keyP k = some q) : ∀ {kvs : List (PyData × D)} {ks : List (Key × V)}, RepKv K g kvs ks → match dGet kvs k with | some d => ∃ v, valV ks q = some v ∧ RepD K g d v | none => valV ks q = none
  | [], _, .nil => rfl
  | (a, d) :: r, _, .cons (b := b) h1 h2 => by
    unfold dGet
    have e := eqv_key h1.1 hk
    by_cases c : b.1 = q
    · rw [e, decide_eq_true c]
      exact ⟨b.2, valV_pos c, h1.2⟩
    · rw [e, decide_eq_false c]
      dsimp only
      rw [valV_neg c]
      exact dGet_ok hk h2
theorem any_key {k : PyData} {q : Key} (hk : keyP k = some q) {ks : List (Key × V)} : (ks.any fun kv => decide (kv.1 = q)) = (valV ks q).isSome := valV_any q ks
theorem dPut_ok {k : PyData} {q : Key} {d : D} {v : V} (hk : keyP k = some q) (hd : RepD K g d v) {kvs : List (PyData × D)} {ks : List (Key × V)} (nd : (ks.map (·.1)).Nodup) (r : RepKv K g kvs ks) : RepKv K g (dPut kvs k d) (putK ks q v) := by
  induction r with
  | nil =>
    unfold dPut putK
    simp
    exact .cons ⟨hk, hd⟩ .nil
  | @cons a b r ks h1 h2 ih =>
    obtain ⟨a, e⟩ := a
    unfold dPut
    have ev := eqv_key h1.1 hk
    rw [List.map_cons] at nd
    obtain ⟨n1, n2⟩ := List.nodup_cons.mp nd
    by_cases c : b.1 = q
    · rw [ev, decide_eq_true c]
      have hp : putK (b :: ks) q v = (b.1, v) :: ks := by
        unfold putK
        rw [if_pos (by simp [c])]
        rw [List.map_cons, if_pos c]
        congr 1
        have : ∀ kv ∈ ks, (if kv.1 = q then (kv.1, v) else kv) = kv := fun kv hkv => by
          rw [if_neg]
          intro e'
          exact n1 (List.mem_map.mpr ⟨kv, hkv, by rw [e', c]⟩)
        rw [List.map_congr_left this, List.map_id']
      rw [hp]
      exact .cons ⟨h1.1, hd⟩ h2
    · rw [ev, decide_eq_false c]
      have hp : putK (b :: ks) q v = b :: putK ks q v := by
        unfold putK
        rw [List.any_cons, decide_eq_false c, Bool.false_or]
        split
        · rw [List.map_cons, if_neg c]
        · rfl
      rw [hp]
      exact .cons h1 (ih n2)
end
end Ev

/-! EvN: dicts whose keys are tuples of whole numbers, nested: what each question of them and each change says. -/
namespace EvK
open PySem PySem.Spec PyProof.Rows L2
section
variable {X : Cx} {pins : List (Addr × Obj)} {σ : L2.St} {H : Hp} {s : Shared}
mutual
theorem nested_of (I : Inv X pins σ H s) : ∀ (d : PyData) (v : V) (u : Value) (n : Nat), Ev.kyP n d = true → Dp X.K H v d → RelV v u → NestedIs s.heap (kOf d) u
  | .int i, v, u, n, _, h, r => by
    cases h
    obtain ⟨t, rfl⟩ := r
    exact .int i t
  | .str i, v, u, n, _, h, r => by
    cases h
    obtain ⟨t, rfl⟩ := r
    exact .text i t
  | .tuple ds, v, u, n, hk, h, r => by
    cases h with
    | tup hs ha =>
      cases r
      obtain ⟨its, rv, ⟨o, ho, hc, m, hd⟩, _⟩ := I.tuple hs
      cases n with
      | zero => unfold Ev.kyP at hk; cases hk
      | succ n =>
        unfold Ev.kyP at hk
        exact .tup ho hc hd (by simpa using nesteds_of I ds _ its n hk ha rv)
  | .none, v, u, n, hx, _, _ => by unfold Ev.kyP at hx; cases hx
  | .bool _, v, u, n, hx, _, _ => by unfold Ev.kyP at hx; cases hx
  | .list _, v, u, n, hx, _, _ => by unfold Ev.kyP at hx; cases hx
  | .dict _, v, u, n, hx, _, _ => by unfold Ev.kyP at hx; cases hx
theorem nesteds_of (I : Inv X pins σ H s) : ∀ (ds : List PyData) (vs : List V) (us : List Value) (n : Nat), Ev.kyL n ds = true → DpAll X.K H vs ds → Vals vs us → NestedAll s.heap (kOfs ds) us
  | [], vs, us, n, _, h, r => by
    cases h
    cases r
    exact .nil
  | d :: ds, vs, us, n, hk, h, r => by
    unfold Ev.kyL at hk
    cases h1 : Ev.kyP n d with
    | false => rw [h1] at hk; cases hk
    | true =>
      rw [h1] at hk
      cases h with
      | cons a b => cases r with
        | cons c e => exact .cons (nested_of I d _ _ n h1 a c) (nesteds_of I ds _ _ n hk b e)
end
end
end EvK
namespace Ev
variable [FnTab]
open PySem PySem.Spec PyProof.Rows L2
section
variable {g : Gh}
theorem dGetN_ok {k : PyData} (hk : keyT k = true) : ∀ {kvs : List (PyData × D)} {xs : List (NestedKey × Addr × Value)}, RepKn N0 g kvs xs →
    match dGet kvs k with | some d => ∃ p v, atKey xs (EvK.kOf k) = some p ∧ RelV v p.2 ∧ RepD N0 g d v | none => atKey xs (EvK.kOf k) = none
  | [], _, .nil => rfl
  | (a, d) :: r, b :: xs, .cons h1 h2 => by
    obtain ⟨t1, t2, t3, v, t4, t5⟩ := h1
    obtain ⟨_, _, k1⟩ := EvK.keyT_tup hk
    obtain ⟨_, _, k2⟩ := EvK.keyT_tup t1
    have e := EvK.eqv_kOf (EvK.ky_of_kyN a 8 k2) (EvK.ky_of_kyN k 8 k1)
    unfold dGet
    by_cases c : b.1 = EvK.kOf k
    · have c' : EvK.kOf a = EvK.kOf k := by rw [← t2]; exact c
      rw [e, decide_eq_true c']
      refine ⟨b.2, v, ?_, t4, t5⟩
      unfold atKey
      rw [List.find?_cons, decide_eq_true c]
      rfl
    · have c' : ¬ EvK.kOf a = EvK.kOf k := by rw [← t2]; exact c
      rw [e, decide_eq_false c']
      have q : atKey (b :: xs) (EvK.kOf k) = atKey xs (EvK.kOf k) := by
        unfold atKey
        rw [List.find?_cons, decide_eq_false c]
      rw [q]
      exact dGetN_ok hk h2
theorem keys_eq : ∀ {kvs : List (PyData × D)} {xs : List (NestedKey × Addr × Value)}, RepKn N0 g kvs xs → ∀ x ∈ xs, ∃ k, keyT k = true ∧ x.1 = EvK.kOf k ∧ Dp N0 g.G (.ref x.2.1) k
  | _, _, .nil, x, hx => nomatch hx
  | _, _, .cons h1 h2, x, hx => by
    rcases List.mem_cons.mp hx with e | hx
    · rw [e]; exact ⟨_, h1.1, h1.2.1, h1.2.2.1⟩
    · exact keys_eq h2 x hx
theorem dPutN_ok {k : PyData} {d : D} {b : Addr} {v : V} {r : Value} (hk : keyT k = true) (hb : Dp N0 g.G (.ref b) k) (rv : RelV v r) (hd : RepD N0 g d v) : ∀ {kvs : List (PyData × D)} {xs : List (NestedKey × Addr × Value)}, (xs.map (·.1)).Nodup → RepKn N0 g kvs xs →
    RepKn N0 g (dPut kvs k d) (storedH xs (EvK.kOf k) b r)
  | [], _, _, .nil => .cons ⟨hk, rfl, hb, v, rv, hd⟩ .nil
  | (a, e) :: kvs, x :: xs, nd, .cons h1 h2 => by
    obtain ⟨_, _, k1⟩ := EvK.keyT_tup hk
    obtain ⟨_, _, k2⟩ := EvK.keyT_tup h1.1
    have ev := EvK.eqv_kOf (EvK.ky_of_kyN a 8 k2) (EvK.ky_of_kyN k 8 k1)
    rw [List.map_cons] at nd
    obtain ⟨n1, n2⟩ := List.nodup_cons.mp nd
    unfold dPut
    by_cases c : x.1 = EvK.kOf k
    · have c' : EvK.kOf a = EvK.kOf k := by rw [← h1.2.1]; exact c
      rw [ev, decide_eq_true c']
      have q : storedH (x :: xs) (EvK.kOf k) b r = (x.1, x.2.1, r) :: xs := by
        unfold storedH atKey
        rw [List.find?_cons, decide_eq_true c]
        show (x :: xs).map (putAt (EvK.kOf k) r) = _
        rw [List.map_cons, map_putAt_of_not_mem xs _ _ (by rw [← c]; exact n1)]
        unfold putAt
        rw [if_pos c]
      rw [q]
      exact .cons ⟨h1.1, h1.2.1, h1.2.2.1, v, rv, hd⟩ h2
    · have c' : ¬ EvK.kOf a = EvK.kOf k := by rw [← h1.2.1]; exact c
      rw [ev, decide_eq_false c']
      have q : storedH (x :: xs) (EvK.kOf k) b r = x :: storedH xs (EvK.kOf k) b r := by
        unfold storedH atKey
        rw [List.find?_cons, decide_eq_false c]
        show (if ((xs.find? _).map _).isSome = true then _ else _) = _
        split
        · rw [List.map_cons]
          congr 1
          unfold putAt
          rw [if_neg c]
        · rfl
      rw [q]
      exact .cons h1 (dPutN_ok hk hb rv hd n2 h2)
theorem stored_len {K : Type} [DecidableEq K] (xs : List (K × Addr × Value)) (k : K) (a : Addr) (v : Value) : (storedH xs k a v).length ≤ xs.length + 1 := by
  unfold storedH
  split
  · rw [List.length_map]; omega
  · rw [List.length_append]; exact Nat.le_refl _
theorem stored_nd {K : Type} [DecidableEq K] {xs : List (K × Addr × Value)} {k : K} {a : Addr} {v : Value} (nd : (xs.map (·.1)).Nodup) : ((storedH xs k a v).map (·.1)).Nodup := by
  unfold storedH
  split
  · rw [keys_map_putAt]; exact nd
  · rename_i h
    rw [List.map_append, List.nodup_append]
    refine ⟨nd, by simp, fun x hx y hy e => ?_⟩
    have hy' : y = k := by simpa using hy
    subst hy'; subst e
    apply h
    obtain ⟨z, hz, e⟩ := List.mem_map.mp hx
    unfold atKey
    rw [Option.isSome_map, List.find?_isSome]
    exact ⟨z, hz, decide_eq_true e⟩
end
section
variable {X : Cx} {pins : List (Addr × Obj)} {σ : L2.St} {H : Hp} {s : Shared} {g : Gh} {a : Addr} {kvs : List (PyData × D)} {k : PyData} {ho : HO} {y : V} {u : Value} {E : Value → Shared → Prop}
theorem key_is (I : Inv X pins σ H s) (hs : Sub g.G H) {b : Addr} (hk : keyT k = true) (h : Dp N0 g.G (.ref b) k) : (nestedKind X.prog X.w).is s.heap (EvK.kOf k) b := by
  obtain ⟨_, _, k1⟩ := EvK.keyT_tup hk
  have k2 := EvK.ky_of_kyN k 8 k1
  exact ⟨EvK.nested_of I k (.ref b) (.ref b) 8 k2 (dp_k _ _ (dp_mono hs _ _ h)) rfl, (EvK.data_kOf k 8 k2).2⟩
theorem raw_at {w : World} {h : Heap} {xs : List (NestedKey × Addr × Value)} (r : RAW w a xs h) (hk : ∀ x ∈ xs, ∃ k, keyT k = true ∧ x.1 = EvK.kOf k ∧ (nestedKind X.prog X.w).is h x.1 x.2.1) : h.DictOfH (nestedKind X.prog X.w) a xs := by
  obtain ⟨_, _, nd, o, es, ep, h1, h2, h3, h4⟩ := r
  refine ⟨o, es, ep, h1, h2, h3, ?_, fun x hx => let ⟨_, _, _, q⟩ := hk x hx; q, nd⟩
  rw [h4]
  refine List.map_congr_left fun x hx => ?_
  obtain ⟨k, k1, k2, _⟩ := hk x hx
  obtain ⟨_, _, k3⟩ := EvK.keyT_tup k1
  show (⟨x.1.hash w, .ref x.2.1, x.2.2⟩ : DictEntry) = ⟨x.1.hash X.w, .ref x.2.1, x.2.2⟩
  rw [k2, EvK.hash_any k 8 w X.w k3]
theorem raw_of {h : Heap} {xs : List (NestedKey × Addr × Value)} (z : (a == sysModules) = false) (l : xs.length ≤ sizeLine) (r : h.DictOfH (nestedKind X.prog X.w) a xs) : RAW X.w a xs h := by
  obtain ⟨o, es, ep, h1, h2, h3, h4, _, nd⟩ := r
  exact ⟨z, l, nd, o, es, ep, h1, h2, h3, h4⟩
theorem ext_raw {w : World} {h : Heap} {H : Hp} {P : Program} {w' : World} {xs : List (NestedKey × Addr × Value)} (r : RAW w a xs h) : ObjOk P w' H h a (.ext (RAW w a xs)) := by
  refine ⟨r, let ⟨_, _, _, o, _, _, h1, _⟩ := r; ⟨o, h1⟩, fun h1 h2 q k => ?_⟩
  obtain ⟨r1, r2, r3, o, es, ep, e1, e2⟩ := q
  exact ⟨r1, r2, r3, o, es, ep, k _ e1, e2⟩
/-- a dict that is asked for k: its keys are numbers and texts, or tuples -/
theorem dic_at (I : Inv X pins σ H s) (hs : Sub g.G H) (hr : Rd H a ho) (hd : DicH N0 g a kvs ho) (hk : keyFit kvs k = true) :
    (∃ ks q, Rd H a (.dK ks) ∧ RepKv N0 g kvs ks ∧ keyP k = some q) ∨ (keyT k = true ∧ ∃ xs, s.heap.DictOfH (nestedKind X.prog X.w) a xs ∧ RepKn N0 g kvs xs ∧ (a == sysModules) = false ∧ xs.length ≤ sizeLine) := by
  rcases hd with ⟨ks, rfl, r⟩ | ⟨w, xs, rfl, r, ne⟩
  · cases r with
    | nil =>
      have hk : (match keyOk k with | true => true | false => keyT k) = true := hk
      cases q : keyOk k with
      | true =>
        obtain ⟨p, hp⟩ := keyOk_some q
        exact .inl ⟨[], p, hr, .nil, hp⟩
      | false =>
        rw [q] at hk
        refine .inr ⟨hk, [], ?_, .nil, ?_⟩
        · obtain ⟨z, hdd, vs, rel, o, es, ep, h1, h2, h3, _, h4, _⟩ := dk_rd I.hok hr
          cases rel
          have e0 : es.toList = [] := List.length_eq_zero_iff.mp h4.length
          exact ⟨o, es, ep, h1, h2, h3, e0, fun x hx => (nomatch hx), List.nodup_nil⟩
        · obtain ⟨z, hdd, _⟩ := dk_rd I.hok hr
          exact ⟨hdd, Nat.zero_le _⟩
    | @cons p q ps qs h1 h2 =>
      obtain ⟨a', d'⟩ := p
      have hk : (match keyOk a' with | true => keyOk k | false => keyT k) = true := hk
      have ha : keyOk a' = true := by
        have h1 : keyP a' = some q.1 := h1.1
        cases a' <;> first | rfl | cases h1
      rw [ha] at hk
      obtain ⟨p, hp⟩ := keyOk_some hk
      exact .inl ⟨_, p, hr, .cons h1 h2, hp⟩
  · have ok : RAW w a xs s.heap := by
      rcases hr with hr | ⟨ob, hr⟩
      · exact (I.hok a _ hr).1
      · exact (I.hok a _ hr).2.1
    have kk : ∀ x ∈ xs, ∃ k, keyT k = true ∧ x.1 = EvK.kOf k ∧ (nestedKind X.prog X.w).is s.heap x.1 x.2.1 := fun x hx => by
      obtain ⟨k, k1, k2, k3⟩ := keys_eq r x hx
      exact ⟨k, k1, k2, by rw [k2]; exact key_is I hs k1 k3⟩
    refine .inr ⟨?_, xs, raw_at ok kk, r, ok.1, ok.2.1⟩
    cases r with
    | nil => exact absurd rfl ne
    | @cons p q ps qs h1 h2 =>
      obtain ⟨a', d'⟩ := p
      have hk : (match keyOk a' with | true => keyOk k | false => keyT k) = true := hk
      have ha : keyOk a' = false := by
        obtain ⟨_, e, _⟩ := EvK.keyT_tup h1.1
        have e : a' = _ := e
        rw [e]; rfl
      rw [ha] at hk
      exact hk
theorem room8 {A : Around} (hu : A.units + 9 < cLine) : (nestedKind X.prog X.w).room A.in1 := by
  show A.in1.units + 8 < cLine
  have e : A.in1.units = A.units + 1 := rfl
  omega
theorem refN (hk : keyT k = true) {G : Hp} (h : Dp N0 G y k) : ∃ b, y = .ref b := by
  obtain ⟨xs, e, _⟩ := EvK.keyT_tup hk
  subst e
  obtain ⟨b, _, e, _⟩ := dp_tup h
  exact ⟨b, e⟩
theorem dic_in {A : Around} {Q : Value → Shared → Prop} (hu : A.units + 9 < cLine) (I : Inv X pins σ H s) (hs : Sub g.G H) (hr : Rd H a ho) (hd : DicH N0 g a kvs ho) (hk : keyFit kvs k = true) (hy : Dp N0 g.G y k) (ry : RelV y u)
    (h : ∀ s', Inv X pins σ H s' → Q (.bool (dGet kvs k).isSome) s') : wpAny (model X.prog X.w) A (compareOp .In u (.ref a)) Q E s := by
  rcases dic_at I hs hr hd hk with ⟨ks, q, h1, h2, h3⟩ | ⟨h1, xs, h2, h3, h4, h5⟩
  · have ey := keyP_rel h3 hy
    subst ey
    have e : (valV ks q).isSome = (dGet kvs k).isSome := by
      have := dGet_ok h3 h2
      cases z : dGet kvs k with
      | none => rw [z] at this; rw [this]; rfl
      | some d => rw [z] at this; obtain ⟨v, hv, _⟩ := this; rw [hv]; rfl
    rw [← e] at h
    exact d_in (by omega) I (.inl ⟨ks, q, h1, rfl, rfl⟩) ry h
  · obtain ⟨b, rfl⟩ := refN h1 hy
    cases (show u = Value.ref b from ry)
    refine wpAny_in_heap (room8 hu) (key_is I hs h1 hy) h4 h2 ?_
    have e : (atKey xs (EvK.kOf k)).isSome = (dGet kvs k).isSome := by
      have := dGetN_ok h1 h3
      cases z : dGet kvs k with
      | none => rw [z] at this; rw [this]; rfl
      | some d => rw [z] at this; obtain ⟨p, v, hv, _⟩ := this; rw [hv]; rfl
    rw [e]
    exact h _ (I.tok _)
theorem dic_notIn {A : Around} {Q : Value → Shared → Prop} (hu : A.units + 9 < cLine) (I : Inv X pins σ H s) (hs : Sub g.G H) (hr : Rd H a ho) (hd : DicH N0 g a kvs ho) (hk : keyFit kvs k = true) (hy : Dp N0 g.G y k) (ry : RelV y u)
    (h : ∀ s', Inv X pins σ H s' → Q (.bool (!(dGet kvs k).isSome)) s') : wpAny (model X.prog X.w) A (compareOp .NotIn u (.ref a)) Q E s := by
  rcases dic_at I hs hr hd hk with ⟨ks, q, h1, h2, h3⟩ | ⟨h1, xs, h2, h3, h4, h5⟩
  · have ey := keyP_rel h3 hy
    subst ey
    have e : (valV ks q).isSome = (dGet kvs k).isSome := by
      have := dGet_ok h3 h2
      cases z : dGet kvs k with
      | none => rw [z] at this; rw [this]; rfl
      | some d => rw [z] at this; obtain ⟨v, hv, _⟩ := this; rw [hv]; rfl
    rw [← e] at h
    exact d_notIn (by omega) I (.inl ⟨ks, q, h1, rfl, rfl⟩) ry h
  · obtain ⟨b, rfl⟩ := refN h1 hy
    cases (show u = Value.ref b from ry)
    refine wpAny_notIn_heap (room8 hu) (key_is I hs h1 hy) h4 h2 ?_
    have e : (atKey xs (EvK.kOf k)).isSome = (dGet kvs k).isSome := by
      have := dGetN_ok h1 h3
      cases z : dGet kvs k with
      | none => rw [z] at this; rw [this]; rfl
      | some d => rw [z] at this; obtain ⟨p, v, hv, _⟩ := this; rw [hv]; rfl
    rw [e]
    exact h _ (I.tok _)
theorem dic_type (I : Inv X pins σ H s) (hr : Rd H a ho) (hd : DicH N0 g a kvs ho) : s.TypeIs (.ref a) "dict" ∧ (∀ b, Value.ref a = .ref b → ∃ ob, s.heap.get? b = some ob ∧ ob.dict = none) ∧ (a == sysModules) = false := by
  rcases hd with ⟨ks, rfl, r⟩ | ⟨w, xs, rfl, r⟩
  · exact isD_at I (.inl ⟨ks, hr⟩)
  · have ok : RAW w a xs s.heap := by
      rcases hr with hr | ⟨ob, hr⟩
      · exact (I.hok a _ hr).1
      · exact (I.hok a _ hr).2.1
    obtain ⟨z, _, _, o, es, ep, h1, h2, h3, h4⟩ := ok
    exact ⟨⟨o, h1, h2.1⟩, fun b q => by cases q; exact ⟨o, h1, h2.2.1⟩, z⟩
theorem dic_get {A : Around} {Q : Value → Shared → Prop} {d : D} (hu : A.units + 9 < cLine) (I : Inv X pins σ H s) (hs : Sub g.G H) (hr : Rd H a ho) (hd : DicH N0 g a kvs ho) (hk : keyFit kvs k = true) (hy : Dp N0 g.G y k) (ry : RelV y u) (hz : dGet kvs k = some d)
    (h : ∀ v w' s', Inv X pins σ H s' → RelV v w' → RepD N0 g d v → Q w' s') : wpAny (model X.prog X.w) A (getItem (.ref a) u) Q E s := by
  rcases dic_at I hs hr hd hk with ⟨ks, q, h1, h2, h3⟩ | ⟨h1, xs, h2, h3, h4, h5⟩
  · have ey := keyP_rel h3 hy
    subst ey
    have := dGet_ok h3 h2
    rw [hz] at this
    obtain ⟨v, hv, rv⟩ := this
    exact d_getItem (by omega) I (.inl ⟨ks, q, h1, rfl, hv.symm⟩) ry fun w' s' I' r' => h v w' s' I' r' rv
  · obtain ⟨b, rfl⟩ := refN h1 hy
    cases (show u = Value.ref b from ry)
    have := dGetN_ok h1 h3
    rw [hz] at this
    obtain ⟨p, v, hv, rv, rd⟩ := this
    exact wpAny_getItem_heap (room8 hu) (key_is I hs h1 hy) h2 hv (h v _ _ (I.tok _) rv rd)
theorem dic_get1 {A : Around} {Q : Value → Shared → Prop} (hu : A.units + 9 < cLine) (I : Inv X pins σ H s) (hs : Sub g.G H) (hr : Rd H a ho) (hd : DicH N0 g a kvs ho) (hk : keyFit kvs k = true) (hy : Dp N0 g.G y k) (ry : RelV y u)
    (h : ∀ v w' s', Inv X pins σ H s' → RelV v w' → RepD N0 g (orD (dGet kvs k) D.none) v → Q w' s') : wpAny (model X.prog X.w) A (call (.builtin "dict.get") [.ref a, u]) Q E s := by
  rcases dic_at I hs hr hd hk with ⟨ks, q, h1, h2, h3⟩ | ⟨h1, xs, h2, h3, h4, h5⟩
  · have ey := keyP_rel h3 hy
    subst ey
    have := dGet_ok h3 h2
    refine d_get1 (by omega) I (.inl ⟨ks, q, h1, rfl, rfl⟩) ry fun w' s' I' r' => h _ w' s' I' r' ?_
    cases z : dGet kvs k with
    | none => rw [z] at this; rw [this]; exact (show Dp N0 _ _ _ from .non)
    | some d => rw [z] at this; obtain ⟨v, hv, rv⟩ := this; rw [hv]; exact rv
  · obtain ⟨b, rfl⟩ := refN h1 hy
    cases (show u = Value.ref b from ry)
    have := dGetN_ok h1 h3
    refine call_meetsIn PySem.F.slot_dict_get h2.typeIs PySem.F.entry_dict_get (PySem.F.args_dict_get_2 _ _) (meetsH_dict_get (nestedKind X.prog X.w) a b h4) ⟨room8 hu, EvK.kOf k, xs, key_is I hs h1 hy, h2, ?_⟩
    cases z : dGet kvs k with
    | none =>
      rw [z] at this h
      rw [this]
      exact h .non .none _ (I.tok _) rfl (show Dp N0 _ _ _ from .non)
    | some d =>
      rw [z] at this h
      obtain ⟨p, v, hv, rv, rd⟩ := this
      rw [hv]
      exact h v _ _ (I.tok _) rv rd
theorem dic_get2 {A : Around} {Q : Value → Shared → Prop} {x : D} {vx : V} {r : Value} (hu : A.units + 9 < cLine) (I : Inv X pins σ H s) (hs : Sub g.G H) (hr : Rd H a ho) (hd : DicH N0 g a kvs ho) (hk : keyFit kvs k = true) (hy : Dp N0 g.G y k) (ry : RelV y u) (rx : RelV vx r) (rdx : RepD N0 g x vx)
    (h : ∀ v w' s', Inv X pins σ H s' → RelV v w' → RepD N0 g (orD (dGet kvs k) x) v → Q w' s') : wpAny (model X.prog X.w) A (call (.builtin "dict.get") [.ref a, u, r]) Q E s := by
  rcases dic_at I hs hr hd hk with ⟨ks, q, h1, h2, h3⟩ | ⟨h1, xs, h2, h3, h4, h5⟩
  · have ey := keyP_rel h3 hy
    subst ey
    have := dGet_ok h3 h2
    refine d_get2 (by omega) I (.inl ⟨ks, q, h1, rfl, rfl⟩) ry rx fun w' s' I' r' => h _ w' s' I' r' ?_
    cases z : dGet kvs k with
    | none => rw [z] at this; rw [this]; exact rdx
    | some d => rw [z] at this; obtain ⟨v, hv, rv⟩ := this; rw [hv]; exact rv
  · obtain ⟨b, rfl⟩ := refN h1 hy
    cases (show u = Value.ref b from ry)
    have := dGetN_ok h1 h3
    refine call_meetsIn PySem.F.slot_dict_get h2.typeIs PySem.F.entry_dict_get (PySem.F.args_dict_get_3 _ _ _) (meetsH_dict_get_default (nestedKind X.prog X.w) a b h4 r) ⟨room8 hu, EvK.kOf k, xs, key_is I hs h1 hy, h2, ?_⟩
    cases z : dGet kvs k with
    | none =>
      rw [z] at this h
      rw [this]
      exact h vx r _ (I.tok _) rx rdx
    | some d =>
      rw [z] at this h
      obtain ⟨p, v, hv, rv, rd⟩ := this
      rw [hv]
      exact h v _ _ (I.tok _) rv rd
theorem dic_len {A : Around} {Q : Value → Shared → Prop} (I : Inv X pins σ H s) (hs : Sub g.G H) (hr : Rd H a ho) (hd : DicH N0 g a kvs ho) (h : ∀ t s', Inv X pins σ H s' → Q (.int kvs.length t) s') : wpAny (model X.prog X.w) A (call (.builtin "len") [.ref a]) Q E s := by
  have hd0 := hd
  rcases hd with ⟨ks, rfl, r⟩ | ⟨w, xs, rfl, r, ne⟩
  · have e : kvs.length = ks.length := Paired.length r
    rw [e] at h
    exact d_len I hr h
  · have e : kvs.length = xs.length := Paired.length r
    have ok : RAW w a xs s.heap := by
      rcases hr with hr | ⟨ob, hr⟩
      · exact (I.hok a _ hr).1
      · exact (I.hok a _ hr).2.1
    have kk : ∀ x ∈ xs, ∃ k, keyT k = true ∧ x.1 = EvK.kOf k ∧ (nestedKind X.prog X.w).is s.heap x.1 x.2.1 := fun x hx => by
      obtain ⟨k, k1, k2, k3⟩ := keys_eq r x hx
      exact ⟨k, k1, k2, by rw [k2]; exact key_is I hs k1 k3⟩
    have l := ok.2.1
    refine call_len_dictH ok.1 (raw_at ok kk) (by rw [sizeLine_eq] at l; omega) ?_
    rw [← e]
    exact h _ _ (I.tok _)
end
end Ev

/-! Ev4: in, subscripts, slices, built-ins, methods: each keeps what the reckoner says. -/
namespace Ev
variable [FnTab]
open PySem PySem.Spec PyProof.Rows L2
section
variable {X : Cx} {cl : List (Addr × Option Str)} {bs : List Nat}

/-! ### in -/
theorem isIn_any (d : PyData) : ∀ zs : List PyData, isIn d zs = zs.any fun z => PyData.eqv z d
  | [] => rfl
  | z :: zs => by
    unfold isIn
    rw [List.any_cons, isIn_any d zs]
    cases PyData.eqv z d <;> rfl
theorem op_inT (hu : X.A.units + 65 < cLine) : OpR X (compareOp .In) (fun x y H Q => ∃ d ds, Dp X.K H x d ∧ Dp X.K H y (.tuple ds) ∧ SeqAt.shaped d = true ∧ SeqAt.shaped (.tuple ds) = true ∧ Q (.bl (ds.any fun z => PyData.eqv z d)) H) := by
  intro pins s σ H x y v u Q I rx ry h
  obtain ⟨d, ds, hd, he, sd, se, q⟩ := h
  obtain ⟨as, r1⟩ := Dp.reads I d x v hd rx
  obtain ⟨bs, r2⟩ := Dp.reads I (.tuple ds) y u he ry
  exact SeqAt.in_tuple_reads r2 r1 (SeqAt.canLay_of_shaped se) (SeqAt.canLay_of_shaped sd) (room_in_shaped sd hu) ⟨.bl _, H, I, rfl, q⟩
theorem op_notInT (hu : X.A.units + 65 < cLine) : OpR X (compareOp .NotIn) (fun x y H Q => ∃ d ds, Dp X.K H x d ∧ Dp X.K H y (.tuple ds) ∧ SeqAt.shaped d = true ∧ SeqAt.shaped (.tuple ds) = true ∧ Q (.bl (!ds.any fun z => PyData.eqv z d)) H) := by
  intro pins s σ H x y v u Q I rx ry h
  obtain ⟨d, ds, hd, he, sd, se, q⟩ := h
  obtain ⟨as, r1⟩ := Dp.reads I d x v hd rx
  obtain ⟨bs, r2⟩ := Dp.reads I (.tuple ds) y u he ry
  exact SeqAt.notIn_tuple_reads r2 r1 (SeqAt.canLay_of_shaped se) (SeqAt.canLay_of_shaped sd) (room_in_shaped sd hu) ⟨.bl _, H, I, rfl, q⟩
/-- the three forms of x in y -/
inductive InV (H : Hp) (x y : V) (c : Bool) : Prop where
  | dct (a : Addr) (g : Gh) (kvs : List (PyData × D)) (ho : HO) (k : PyData) : Sub g.G H → y = .ref a → Rd H a ho → DicH N0 g a kvs ho → keyFit kvs k = true → Dp N0 g.G x k → c = (dGet kvs k).isSome → InV H x y c
  | lst (d : PyData) (ds : List PyData) : Dp N0 H x d → Dp N0 H y (.list ds) → SeqAt.shaped d = true → SeqAt.shaped (.list ds) = true → c = (ds.any fun z => PyData.eqv z d) → InV H x y c
  | tup (d : PyData) (ds : List PyData) : Dp N0 H x d → Dp N0 H y (.tuple ds) → SeqAt.shaped d = true → SeqAt.shaped (.tuple ds) = true → c = (ds.any fun z => PyData.eqv z d) → InV H x y c
theorem in_inv {g : Gh} {H : Hp} {st : Sto} {Q : VK} {W : XW} {d e : D} {neg : Bool} {x y : V} (p : PostD cl bs g H st (opIn st d e neg) Q W) (a : At N0 bs g H st) (ra : RepD N0 g d x) (rb : RepD N0 g e y) :
    ∃ c, InV H x y c ∧ Q (.bl (ng neg c)) H := by
  have fin : ∀ c, PostD cl bs g H st (.ok (D.bool (ng neg c)) st) Q W → Q (.bl (ng neg c)) H := fun c p => Post.fin p a (show Dp N0 _ _ _ from .bl _)
  have lists : ∀ ys z, peek DEEP st d = some z → Dp N0 H y (.list ys) → PostD cl bs g H st (chk (lay 60 z) (chk (lay 60 (.list ys)) (.ok (D.bool (ng neg (isIn z ys))) st))) Q W →
      ∃ c, InV H x y c ∧ Q (.bl (ng neg c)) H := fun ys z hz hy p => by
    obtain ⟨k1, p⟩ := chk_post p
    obtain ⟨k2, p⟩ := chk_post p
    exact ⟨isIn z ys, .lst z ys (peek_ok a.ok _ ra hz) hy (shaped_of k1) (shaped_of k2) (isIn_any z ys), fin _ p⟩
  unfold opIn at p
  cases e with
  | ref n =>
    have other : PostD cl bs g H st (match peek DEEP st d, peek DEEP st (.ref n) with
        | some x, some (.list ys) => chk (lay 60 x) (chk (lay 60 (.list ys)) (.ok (D.bool (ng neg (isIn x ys))) st))
        | _, _ => .stuck) Q W → ∃ c, InV H x y c ∧ Q (.bl (ng neg c)) H := fun p => by
      cases h1 : peek DEEP st d with
      | none => rw [h1] at p; exact p.elim
      | some z =>
        cases h2 : peek DEEP st (.ref n) with
        | none => rw [h1, h2] at p; exact p.elim
        | some w =>
          rw [h1, h2] at p
          cases w with
          | list ys => exact lists ys z h1 (peek_ok a.ok _ rb h2) p
          | _ => exact p.elim
    cases hn : dicOf (getS st n) with
    | some kvs =>
      simp only [hn] at p
      cases d with
      | ref _ => exact p.elim
      | p k =>
        obtain ⟨k1, p⟩ := chk_post p
        obtain ⟨b, ho, h1, h2, h3⟩ := a.ok.dicAt hn
        obtain ⟨b', hb, rfl⟩ := rb
        rw [hb] at h1; cases h1
        refine ⟨_, .dct b g kvs ho k a.ok.sub rfl h2 h3 k1 ra rfl, fin _ ?_⟩
        cases hz : dGet kvs k with
        | none => rw [hz] at p; exact p
        | some z => rw [hz] at p; exact p
    | none => simp only [hn] at p; exact other p
  | p w =>
    cases w with
    | list ys =>
      cases h1 : peek DEEP st d with
      | none => simp only [h1] at p; exact p.elim
      | some z => simp only [h1] at p; exact lists ys z h1 (dp_mono a.ok.sub _ _ rb) p
    | tuple ys =>
      cases h1 : peek DEEP st d with
      | none => simp only [h1] at p; exact p.elim
      | some z =>
        simp only [h1] at p
        obtain ⟨k1, p⟩ := chk_post p
        obtain ⟨k2, p⟩ := chk_post p
        exact ⟨isIn z ys, .tup z ys (peek_ok a.ok _ ra h1) (dp_mono a.ok.sub _ _ rb) (shaped_of k1) (shaped_of k2) (isIn_any z ys), fin _ p⟩
    | _ => exact p.elim
theorem s_in (hu : X.A.units + 65 < cLine) : OpR X (compareOp .In) (fun x y => rO cl bs (opS .inn) [x, y]) := by
  intro pins s σ H x y v u Q I rx ry hh
  obtain ⟨g, st, ds, W, a, r, p⟩ := hh
  obtain ⟨d, e, rfl, ra, rb⟩ := of_reps2 r
  obtain ⟨c, hc, q⟩ := in_inv (neg := false) p a ra rb
  cases hc with
  | dct b g1 kvs ho k e1 e2 e3 e4 e5 e6 e7 =>
    subst e2; subst e7
    cases (show u = Value.ref b from ry)
    exact dic_in (by omega) I e1 e3 e4 e5 e6 rx fun s' I' => ⟨.bl _, H, I', rfl, q⟩
  | lst z zs h1 h2 h3 h4 e =>
    subst e
    exact op_inD hu pins s σ H _ _ v u Q I rx ry ⟨z, zs, dp_k _ _ h1, dp_k _ _ h2, h3, h4, q⟩
  | tup z zs h1 h2 h3 h4 e =>
    subst e
    exact op_inT hu pins s σ H _ _ v u Q I rx ry ⟨z, zs, dp_k _ _ h1, dp_k _ _ h2, h3, h4, q⟩
theorem s_notIn (hu : X.A.units + 65 < cLine) : OpR X (compareOp .NotIn) (fun x y => rO cl bs (opS .notIn) [x, y]) := by
  intro pins s σ H x y v u Q I rx ry hh
  obtain ⟨g, st, ds, W, a, r, p⟩ := hh
  obtain ⟨d, e, rfl, ra, rb⟩ := of_reps2 r
  obtain ⟨c, hc, q⟩ := in_inv (neg := true) p a ra rb
  cases hc with
  | dct b g1 kvs ho k e1 e2 e3 e4 e5 e6 e7 =>
    subst e2; subst e7
    cases (show u = Value.ref b from ry)
    exact dic_notIn (by omega) I e1 e3 e4 e5 e6 rx fun s' I' => ⟨.bl _, H, I', rfl, q⟩
  | lst z zs h1 h2 h3 h4 e =>
    subst e
    exact op_notInD hu pins s σ H _ _ v u Q I rx ry ⟨z, zs, dp_k _ _ h1, dp_k _ _ h2, h3, h4, q⟩
  | tup z zs h1 h2 h3 h4 e =>
    subst e
    exact op_notInT hu pins s σ H _ _ v u Q I rx ry ⟨z, zs, dp_k _ _ h1, dp_k _ _ h2, h3, h4, q⟩

/-! ### subscripts -/
theorem ixN_eq (n : Nat) (i : Int) : Ev.ixN n i = L2.ixN n i := by
  cases i with
  | ofNat k =>
    show (match Nat.blt k n with | true => some k | false => none) = if (0 : Int) ≤ (k : Int) then (if (k : Int) < n then some (k : Int).toNat else none) else _
    rw [if_pos (by omega)]
    by_cases h : k < n
    · rw [if_pos (by omega), show Nat.blt k n = true from Nat.ble_eq_true_of_le h, Int.toNat_natCast]
    · rw [if_neg (by omega)]
      have : Nat.blt k n = false := by
        cases q : Nat.blt k n with
        | false => rfl
        | true => exact absurd (Nat.le_of_ble_eq_true q) h
      rw [this]
  | negSucc k =>
    have e : Int.negSucc k = -((k : Int) + 1) := by omega
    show (match Nat.blt k n with | true => some (n - (k + 1)) | false => none) = if (0 : Int) ≤ Int.negSucc k then _ else (if -(n : Int) ≤ Int.negSucc k then some (Int.negSucc k + n).toNat else none)
    rw [if_neg (by omega)]
    by_cases h : k < n
    · rw [if_pos (by omega), show Nat.blt k n = true from Nat.ble_eq_true_of_le h]
      have t : (Int.negSucc k + (n : Int)).toNat = n - (k + 1) := by rw [e]; omega
      rw [t]
    · rw [if_neg (by omega)]
      have : Nat.blt k n = false := by
        cases q : Nat.blt k n with
        | false => rfl
        | true => exact absurd (Nat.le_of_ble_eq_true q) h
      rw [this]
theorem atI_eq {α : Type} (xs : List α) (i : Int) : Ev.atI xs i = L2.atI xs i := by
  unfold Ev.atI L2.atI
  rw [ixN_eq]
theorem atI_rel {α β : Type} {Rr : α → β → Prop} {xs : List α} {ys : List β} (hl : xs.length = ys.length) (get : ∀ (j : Nat) x, xs[j]? = some x → ∃ y, ys[j]? = some y ∧ Rr x y) {i : Int} {x : α} (h : Ev.atI xs i = some x) : ∃ y, L2.atI ys i = some y ∧ Rr x y := by
  rw [atI_eq] at h
  unfold L2.atI at h ⊢
  rw [← hl]
  cases e : L2.ixN xs.length i with
  | none => rw [e] at h; cases h
  | some j =>
    rw [e] at h
    obtain ⟨y, hy, r⟩ := get j x h
    exact ⟨y, hy, r⟩
theorem s_idx (hu : X.A.units + 9 < cLine) : IxR X (fun x y => rO cl bs (opS .idx) [x, y]) := by
  intro value slice pins s σ H x y v u Q I rx ry hh hs
  obtain ⟨g, st, ds, W, a, r, p⟩ := hh
  obtain ⟨d, e, rfl, ra, rb⟩ := of_reps2 r
  have p0 : PostD cl bs g H st (opIdx st d e) Q W := p
  clear p
  -- a list
  have lists : ∀ (b : Addr) (vs : List V) (xs : List D) (i : Int) (z : D), x = .ref b → SqL N0 H b vs → RepDs N0 g xs vs → e = .p (.int i) → Ev.atI xs i = some z → PostD cl bs g H st (.ok z st) Q W →
      wpAny (model X.prog X.w) X.A (subscriptTail value slice v u) (EP X pins σ Q) X.xe s := fun b vs xs i z e1 hs' hr e2 hz p => by
    subst e1; subst e2
    have e3 := dp_int rb
    subst e3
    obtain ⟨w, hw, rw'⟩ := atI_rel (Rr := RepD N0 g) hr.len (fun j x h => hr.get h) hz
    exact ix_list value slice pins s σ H _ _ v u Q I rx ry ⟨b, vs, i, w, rfl, rfl, sql_k hs', hw, Post.fin p a rw'⟩ hs
  -- a dict
  have dicts : ∀ (n : Nat) (k : PyData), d = .ref n → e = .p k → PostD cl bs g H st (dicIdx st (getS st n) k) Q W →
      wpAny (model X.prog X.w) X.A (subscriptTail value slice v u) (EP X pins σ Q) X.xe s := fun n k e1 e2 p => by
    subst e1; subst e2
    unfold dicIdx at p
    cases hn : dicOf (getS st n) with
    | none => rw [hn] at p; exact p.elim
    | some kvs =>
      rw [hn] at p
      obtain ⟨hk, p⟩ := chk_post p
      cases hz : dGet kvs k with
      | none => rw [hz] at p; exact p.elim
      | some z =>
        rw [hz] at p
        obtain ⟨b, ho, h1, h2, h3⟩ := a.ok.dicAt hn
        obtain ⟨b', hb, rfl⟩ := ra
        rw [hb] at h1; cases h1
        cases (show v = Value.ref b from rx)
        exact tail_any (dic_type I h2 h3).1 PySem.F.slot_dict_getitem.lookup (dic_get hu I a.ok.sub h2 h3 hk rb ry hz fun w w' s3 I3 rw3 rd => ⟨w, H, I3, rw3, Post.fin p a rd⟩) hs
  unfold opIdx at p0
  split at p0
  · rename_i i
    split at p0
    · rename_i xs
      cases hz : Ev.atI xs i with
      | none => rw [hz] at p0; exact p0.elim
      | some z =>
        rw [hz] at p0
        obtain ⟨b, vs, rfl, h1, d1⟩ := dp_tup ra
        have e3 := dp_int rb
        subst e3
        obtain ⟨w, hw, rw'⟩ := atI_rel (Rr := fun x v => Dp N0 g.G v x) (dpl_len d1).symm (fun j x h => dpl_get d1 h) hz
        exact ix_tup value slice pins s σ H _ _ v u Q I rx ry ⟨b, vs, i, w, rfl, rfl, sqt_k (sqt_mono a.ok.sub h1), hw, Post.fin p0 a (show Dp N0 _ _ _ from rw')⟩ hs
    · rename_i xs
      cases hz : Ev.atI xs i with
      | none => rw [hz] at p0; exact p0.elim
      | some z =>
        rw [hz] at p0
        obtain ⟨b, vs, rfl, h1, d1⟩ := dp_lst ra
        have hz' : Ev.atI (xs.map D.p) i = some (.p z) := by
          unfold Ev.atI at hz ⊢
          rw [List.length_map]
          cases q : Ev.ixN xs.length i with
          | none => rw [q] at hz; cases hz
          | some j =>
            rw [q] at hz
            show (xs.map D.p)[j]? = some (.p z)
            rw [List.getElem?_map]
            have hz : xs[j]? = some z := hz
            rw [hz]; rfl
        exact lists b vs _ i (.p z) rfl (sql_mono a.ok.sub h1) (reps_of_all d1) rfl hz' p0
    · rename_i z
      obtain ⟨hl, p0⟩ := chk_post p0
      cases hc : Ev.atI z.cps.toList i with
      | none => rw [hc] at p0; exact p0.elim
      | some c =>
        rw [hc] at p0
        have e1 := dp_str ra
        have e2 := dp_int rb
        subst e1; subst e2
        rw [atI_eq] at hc
        exact ix_str value slice pins s σ H _ _ v u Q I rx ry ⟨z, i, c, rfl, rfl, by rw [line_eq]; exact Nat.le_of_ble_eq_true hl, hc, Post.fin p0 a (show Dp N0 _ _ _ from .str _)⟩ hs
    · rename_i n
      cases hn : getS st n with
      | lst xs =>
        rw [hn] at p0
        dsimp only at p0
        cases hz : Ev.atI xs i with
        | none => rw [hz] at p0; exact p0.elim
        | some z =>
          rw [hz] at p0
          obtain ⟨b, vs, h1, h2, h3, h4⟩ := a.ok.lstAt hn
          obtain ⟨b', hb, e'⟩ := ra
          rw [hb] at h1; cases h1
          exact lists b vs xs i z e' (.inl (.inl h3)) h4 rfl hz p0
      | fz w =>
        rw [hn] at p0
        cases w with
        | list xs =>
          dsimp only at p0
          cases hz : Ev.atI xs i with
          | none => rw [hz] at p0; exact p0.elim
          | some z =>
            rw [hz] at p0
            obtain ⟨b, h1, h2⟩ := a.ok.fzAt hn
            obtain ⟨b', hb, e'⟩ := ra
            rw [hb] at h1; cases h1
            obtain ⟨b2, vs, q, h3, d1⟩ := dp_lst h2
            cases q
            have hz' : Ev.atI (xs.map D.p) i = some (.p z) := by
              unfold Ev.atI at hz ⊢
              rw [List.length_map]
              cases q : Ev.ixN xs.length i with
              | none => rw [q] at hz; cases hz
              | some j =>
                rw [q] at hz
                show (xs.map D.p)[j]? = some (.p z)
                rw [List.getElem?_map]
                have hz : xs[j]? = some z := hz
                rw [hz]; rfl
            exact lists b vs _ i (.p z) e' (sql_mono a.ok.sub h3) (reps_of_all d1) rfl hz' p0
        | _ => exact p0.elim
      | tpl xs =>
        rw [hn] at p0
        dsimp only at p0
        cases hz : Ev.atI xs i with
        | none => rw [hz] at p0; exact p0.elim
        | some z =>
          rw [hz] at p0
          obtain ⟨b, vs, h1, h2, h3⟩ := a.ok.tplAt hn
          obtain ⟨b', hb, rfl⟩ := ra
          rw [hb] at h1; cases h1
          have e3 := dp_int rb
          subst e3
          obtain ⟨w, hw, rw'⟩ := atI_rel (Rr := RepD N0 g) h3.len (fun j x h => h3.get h) hz
          exact ix_tup value slice pins s σ H _ _ v u Q I rx ry ⟨b, vs, i, w, rfl, rfl, .inl (.inl (a.ok.sub _ _ h2)), hw, Post.fin p0 a rw'⟩ hs
      | dct kvs => rw [hn] at p0; exact dicts n (.int i) rfl rfl (by rw [hn]; exact p0)
      | dtn kvs => rw [hn] at p0; exact dicts n (.int i) rfl rfl (by rw [hn]; exact p0)
      | fzd kvs => rw [hn] at p0; exact dicts n (.int i) rfl rfl (by rw [hn]; exact p0)
      | fnc f => rw [hn] at p0; exact p0.elim
      | dead => rw [hn] at p0; exact p0.elim
    · exact p0.elim
  · rename_i k _
    split at p0
    · rename_i n
      exact dicts n k rfl rfl p0
    · exact p0.elim
  · exact p0.elim
end
end Ev

/-! Ev5: * of tuples and lists, slices, built-ins, methods. -/
namespace Ev
variable [FnTab]
open PySem PySem.Spec PyProof.Rows L2

/-! ### tuple * int, any int that is not negative -/
theorem tuple_mul_same (l : Addr) (items : Array Value) (n : Nat) (sl : Array (Option Value)) (dd : Option Addr) (x : Int) (u : Tok) (c0 : (decide (x < -(2 ^ 63)) || decide (x ≥ 2 ^ 63)) = false) (c1 : (items.isEmpty || x == 1) = true) :
    Meets (Builtin.«tuple.__mul__» ⟨[.ref l, .int x u], []⟩) (fun _ R s => s.heap.get? l = some { cls := .type "tuple", dict := dd, data := .seq items n, slots := sl } ∧ R (.ok (.ret (Value.ref l))) s) :=
  .of_wp fun prog w A R s h => by
    obtain ⟨hp, g, d, tk, os⟩ := s
    obtain ⟨hl, h⟩ := h
    have f1 := AutoSeq1.idx_int
    wp_walk using wpAny_loadPart' hl
    repeat (first
      | (refine wpAny_ite_false (decide_eq_false (by rw [c0]; exact Bool.false_ne_true)) ?_; wp_walk using wpAny_loadPart' hl)
      | (refine wpAny_ite_true (decide_eq_true c1) ?_; wp_walk using wpAny_loadPart' hl))
    exact ⟨_, rfl, h⟩
theorem tuple_mul_zero (l : Addr) (items : Array Value) (n : Nat) (sl : Array (Option Value)) (dd : Option Addr) (x : Int) (u : Tok) (c0 : (decide (x < -(2 ^ 63)) || decide (x ≥ 2 ^ 63)) = false) (c1 : (items.isEmpty || x == 1) = false) (c2 : (decide (x ≤ 0) || items.isEmpty) = true) :
    Meets (Builtin.«tuple.__mul__» ⟨[.ref l, .int x u], []⟩) (fun _ R s => s.heap.get? l = some { cls := .type "tuple", dict := dd, data := .seq items n, slots := sl } ∧
      R (.ok (.ret (Value.ref s.heap.objs.size))) { s with heap := s.heap.push { cls := Value.type "tuple", data := Data.seq #[] }, toks := s.toks }) :=
  .of_wp fun prog w A R s h => by
    obtain ⟨hp, g, d, tk, os⟩ := s
    obtain ⟨hl, h⟩ := h
    have f1 := AutoSeq1.idx_int
    wp_walk using wpAny_loadPart' hl
    repeat (first
      | (refine wpAny_ite_false (decide_eq_false (by rw [c0]; exact Bool.false_ne_true)) ?_; wp_walk using wpAny_loadPart' hl)
      | (refine wpAny_ite_false (decide_eq_false (by rw [c1]; exact Bool.false_ne_true)) ?_; wp_walk using wpAny_loadPart' hl)
      | (refine wpAny_ite_true (decide_eq_true c2) ?_; wp_walk using wpAny_loadPart' hl))
    exact ⟨_, rfl, h⟩
section
variable {X : Cx} {cl : List (Addr × Option Str)} {bs : List Nat}
theorem op_mulT : OpR X (binaryOp .Mult) (fun x y H Q => ∃ (l : Addr) (k : Nat) (xs : List V), x = .ref l ∧ y = .int (k : Int) ∧ SqT X.K H l xs ∧ k ≤ LINE ∧ xs.length * k ≤ LINE ∧
    ((xs = [] ∨ k = 1) → Q (.ref l) H) ∧ (¬ (xs = [] ∨ k = 1) → ∀ p, H p = none → Q (.ref p) (upd H p (.tup (List.replicate k xs).flatten)))) := by
  intro pins s σ H x y v u Q I rx ry h
  obtain ⟨l, k, xs, rfl, rfl, hT, h1, h2, q1, q2⟩ := h
  have h1' : k ≤ 16777216 := h1
  cases rx
  obtain ⟨t, rfl⟩ := ry
  obtain ⟨its, r, ⟨⟨cls, dd, data, sl⟩, ho, hc, n, hd⟩, hs⟩ := I.tuple hT
  simp only at hc hd
  subst hc hd
  have hle : its.length = xs.length := r.length.symm
  have c0 : (decide ((k : Int) < -(2 ^ 63)) || decide ((k : Int) ≥ 2 ^ 63)) = false := by
    rw [decide_eq_false (by omega), decide_eq_false (by omega)] <;> rfl
  have emp : its.toArray.isEmpty = decide (xs = []) := by
    cases its with
    | nil => have : xs = [] := List.eq_nil_of_length_eq_zero hle.symm
             rw [decide_eq_true this]; rfl
    | cons a b => have : xs ≠ [] := fun e => by subst e; cases hle
                  rw [decide_eq_false this]; rfl
  by_cases c : xs = [] ∨ k = 1
  · have c1 : (its.toArray.isEmpty || (k : Int) == 1) = true := by
      rcases c with c | c
      · rw [emp, decide_eq_true c]; rfl
      · subst c; simp
    exact wpAny_binaryOp_repeat_ref (T := "tuple") (U := "int") (by decide) ⟨_, ho, rfl⟩ (fun s' => typeIs_int s' k t) noFill_tuple_mul F.fills_int_mul F.slot_int_rmul repeat_tuple F.slot_int_index.lookup
      (call_meets F.slot_int_rmul (typeIs_int s k t) F.entry_int_rmul (F.args_int_rmul_2 _ _) (int_rmul_tuple k t l its.toArray n dd sl)
        ⟨ho, rfl, ⟨_, ho, rfl⟩, call_meets F.slot_tuple_mul ⟨_, ho, rfl⟩ F.entry_tuple_mul (F.args_tuple_mul_2 _ _) (tuple_mul_same l its.toArray n sl dd k t c0 c1) ⟨ho, ⟨.ref l, H, I, rfl, q1 c⟩⟩⟩)
  · have hne : xs ≠ [] := fun e => c (.inl e)
    have hk1 : k ≠ 1 := fun e => c (.inr e)
    have hi : its.toArray.isEmpty = false := by rw [emp, decide_eq_false hne]
    have c1 : (its.toArray.isEmpty || (k : Int) == 1) = false := by
      rw [hi, Bool.false_or]
      exact beq_eq_false_iff_ne.mpr (by omega)
    by_cases hk0 : k = 0
    · subst hk0
      have c2 : (decide (((0 : Nat) : Int) ≤ 0) || its.toArray.isEmpty) = true := by simp
      refine wpAny_binaryOp_repeat_ref (T := "tuple") (U := "int") (by decide) ⟨_, ho, rfl⟩ (fun s' => typeIs_int s' _ t) noFill_tuple_mul F.fills_int_mul F.slot_int_rmul repeat_tuple F.slot_int_index.lookup
        (call_meets F.slot_int_rmul (typeIs_int s _ t) F.entry_int_rmul (F.args_int_rmul_2 _ _) (int_rmul_tuple _ t l its.toArray n dd sl)
          ⟨ho, rfl, ⟨_, ho, rfl⟩, call_meets F.slot_tuple_mul ⟨_, ho, rfl⟩ F.entry_tuple_mul (F.args_tuple_mul_2 _ _) (tuple_mul_zero l its.toArray n sl dd _ t c0 c1 c2) ⟨ho, ?_⟩⟩)
      refine ⟨.ref s.heap.objs.size, _, I.laid (t' := s.toks) (o := .tup []) (fun b ob q => Heap.get?_push_of_some _ q) (Nat.le_refl _) ?_, rfl, q2 c _ (I.hok.fresh (Nat.le_refl _))⟩
      exact ⟨Nat.zero_le _, [], .nil, IsTup.new _ _⟩
    · have hsz0 : its.toArray.size = xs.length := by rw [List.size_toArray, hle]
      have hm : ((its.toArray.size : Nat) : Int) * (k : Int) ≤ (LINE : Int) := by
        rw [hsz0, ← Int.natCast_mul]
        exact Int.ofNat_le.mpr h2
      have flen : (List.replicate k its).flatten.length ≤ sizeLine := by
        rw [PyProof.Rows.lm_len_rep_flat, hle, line_eq, Nat.mul_comm]
        exact h2
      have c2 : (decide ((k : Int) ≤ 0) || its.toArray.isEmpty) = false := by
        rw [hi, Bool.or_false]
        exact decide_eq_false (by omega)
      have c4 : Builtin.Tuple.tupleTooMany (((its.toArray.size : Nat) : Int) * (k : Int)) = false := by
        unfold Builtin.Tuple.tupleTooMany
        rw [line_eq]
        exact decide_eq_false (by omega)
      refine wpAny_binaryOp_repeat_ref (T := "tuple") (U := "int") (by decide) ⟨_, ho, rfl⟩ (fun s' => typeIs_int s' _ t) noFill_tuple_mul F.fills_int_mul F.slot_int_rmul repeat_tuple F.slot_int_index.lookup
        (call_meets F.slot_int_rmul (typeIs_int s _ t) F.entry_int_rmul (F.args_int_rmul_2 _ _) (int_rmul_tuple _ t l its.toArray n dd sl)
          ⟨ho, rfl, ⟨_, ho, rfl⟩, call_meets F.slot_tuple_mul ⟨_, ho, rfl⟩ F.entry_tuple_mul (F.args_tuple_mul_2 _ _) (tuple_mulW l its.toArray n dd sl k t c0 c1 c2 (by have : (LINE : Int) = 16777216 := rfl; omega) c4 (by rw [size_rep, List.size_toArray]; exact flen)) ⟨ho, ?_⟩⟩)
      rw [size_rep]
      refine ⟨.ref s.heap.objs.size, _, I.laid (t' := s.toks) (o := .tup (List.replicate k xs).flatten) (fun b ob q => Heap.get?_push_of_some _ q) (Nat.le_refl _) ?_, rfl, q2 c _ (I.hok.fresh (Nat.le_refl _))⟩
      exact ⟨by rw [PyProof.Rows.lm_len_rep_flat, line_eq, Nat.mul_comm]; exact h2, _, r.rep k, IsTup.new _ _⟩
theorem op_repR : OpR X (binaryOp .Mult) (fun x y H Q => ∃ (l : Addr) (k : Int) (xs : List V), x = .ref l ∧ y = .int k ∧ Rd H l (.lst xs) ∧ 0 ≤ k ∧ k < 2 ^ 63 ∧ xs.length * k.toNat ≤ sizeLine ∧ ∀ p, H p = none → Q (.ref p) (upd H p (.lst (List.replicate k.toNat xs).flatten))) := by
  intro pins s σ H x y v u Q I rx ry h
  obtain ⟨l, k, xs, rfl, rfl, hH, h1, h2, hz, q⟩ := h
  cases rx
  obtain ⟨t, rfl⟩ := ry
  obtain ⟨z, its, n, r, hl, e⟩ := lst_raw I hH
  have hlen : its.toArray.size * k.toNat ≤ sizeLine := by rw [List.size_toArray, ← hl]; exact hz
  have hcap : ¬ its.toArray.size * k.toNat > (2 ^ 63 - 1) / 8 := by
    have : (sizeLine : Nat) ≤ (2 ^ 63 - 1) / 8 := by decide
    omega
  have hfit : ¬ (!Builtin.List.listFitsIndex k) = true := by
    rw [fitsIndex_both (by omega) h2]
    exact Bool.false_ne_true
  have hlong : ¬ Builtin.List.listTooLong (its.toArray.size * k.toNat) = true := by
    rw [notLongL hlen]
    exact Bool.false_ne_true
  have hnew : List.foldl (fun x1 x2 => x1 ++ x2) #[] (List.replicate (if its.toArray.isEmpty = true then 0 else k.toNat) its.toArray) = (List.replicate k.toNat its).flatten.toArray := by
    have f0 : ∀ m : Nat, List.foldl (fun x1 x2 => x1 ++ x2) #[] (List.replicate m its.toArray) = (List.replicate m its).flatten.toArray := fun m => by
      have := foldl_rep its m []
      rw [List.nil_append] at this
      exact this
    rw [f0]
    cases its with
    | nil => simp
    | cons a r' => rw [if_neg (by simp)]
  refine wpAny_binaryOp_repeat_ref (T := "list") (U := "int") (by decide) ⟨_, e, rfl⟩ (fun s' => typeIs_int s' k t) noFill_list_mul F.fills_int_mul F.slot_int_rmul repeat_list F.slot_int_index.lookup
    (call_meets F.slot_int_rmul (typeIs_int s k t) F.entry_int_rmul (F.args_int_rmul_2 _ _) (int___rmul___int_list k t l its.toArray n)
      ⟨e, rfl, ⟨_, e, rfl⟩, call_meets F.slot_list_mul ⟨_, e, rfl⟩ F.entry_list_mul (F.args_list_mul_2 _ _) (AutoListH.list___mul___list_int_3 l its.toArray n k t hfit hcap hlong) ⟨e, ?_⟩⟩)
  rw [hnew]
  exact ⟨.ref _, _, I.lnew (t' := s.toks) (r.rep k.toNat) (by rw [PyProof.Rows.lm_len_rep_flat, Nat.mul_comm]; exact hz), rfl, q _ I.fresh⟩
theorem rep_flat {α : Type} (xs : List α) : ∀ k : Nat, rep xs k = (List.replicate k xs).flatten
  | 0 => rfl
  | k + 1 => by
    show xs ++ rep xs k = _
    rw [rep_flat xs k, List.replicate_succ, List.flatten_cons]
theorem dpl_rep {K : PySem.W.Frag} {G : Hp} {vs : List V} {xs : List PyData} (h : DpAll K G vs xs) : ∀ k : Nat, DpAll K G (List.replicate k vs).flatten (rep xs k)
  | 0 => .nil
  | k + 1 => by rw [List.replicate_succ, List.flatten_cons]; exact dpl_app h (dpl_rep h k)
theorem reps_rep {K : PySem.W.Frag} {g : Gh} {vs : List V} {xs : List D} (h : RepDs K g xs vs) : ∀ k : Nat, RepDs K g (rep xs k) (List.replicate k vs).flatten
  | 0 => .nil
  | k + 1 => by rw [List.replicate_succ, List.flatten_cons]; exact RepDs.app h (reps_rep h k)
theorem rep_one {α : Type} (xs : List α) : rep xs 1 = xs := by show xs ++ [] = xs; simp
theorem rep_nil {α : Type} : ∀ k : Nat, rep ([] : List α) k = []
  | 0 => rfl
  | k + 1 => by show [] ++ rep [] k = []; rw [rep_nil k]; rfl
theorem mulx_log {i j : Int} (h : Nat.blt (i.natAbs.log2 + j.natAbs.log2) 134217726 = true) : CMulX i j := by
  have h1 : i.natAbs.log2 + j.natAbs.log2 < 134217726 := Nat.le_of_ble_eq_true h
  have b : ∀ x : Int, Builtin.Int.intBits x ≤ x.natAbs.log2 + 1 := fun x => by
    unfold Builtin.Int.intBits
    split <;> omega
  have h2 := b i
  have h3 := b j
  unfold CMulX
  omega
theorem s_mul {al : Bool} : OpR X (binaryOp .Mult) (fun x y => rO cl bs (opS (.mul al)) [x, y]) := by
  intro pins s σ H x y v u Q I rx ry hh
  obtain ⟨g, st, ds, W, a, r, p⟩ := hh
  obtain ⟨d, e, rfl, ra, rb⟩ := of_reps2 r
  have p0 : PostD cl bs g H st (opMul al st d e) Q W := p
  clear p
  have p := p0
  clear p0
  unfold opMul at p
  split at p
  · rename_i i j
    obtain ⟨hl, p⟩ := chk_post p
    have e1 := dp_int ra
    have e2 := dp_int rb
    subst e1; subst e2
    exact op_mulX pins s σ H _ _ v u Q I rx ry ⟨_, _, rfl, rfl, mulx_log hl, Post.fin p a (show Dp N0 _ _ _ from .int _)⟩
  · rename_i xs k
    obtain ⟨h1, p⟩ := chk_post p
    obtain ⟨h2, p⟩ := chk_post p
    have h1 := Nat.le_of_ble_eq_true h1
    have h2 := Nat.le_of_ble_eq_true h2
    obtain ⟨b, vs, rfl, k1, d1⟩ := dp_tup ra
    have e2 := dp_int rb
    subst e2
    have l1 := dpl_len d1
    refine op_mulT pins s σ H _ _ v u Q I rx ry ⟨b, k, vs, rfl, rfl, sqt_k (sqt_mono a.ok.sub k1), h1, by rw [l1]; exact h2, fun c => ?_, fun c => newT_post p a (dpl_rep d1 k)⟩
    have hx : rep xs k = xs := by
      rcases c with c | c
      · subst c
        have : xs = [] := List.eq_nil_of_length_eq_zero l1.symm
        rw [this, rep_nil]
      · rw [c, rep_one]
    rw [hx] at p
    exact Post.fin p a ra
  · rename_i k _ _
    cases h1 : listItems st d with
    | none => rw [h1] at p; exact p.elim
    | some xs =>
      rw [h1] at p
      dsimp only at p
      obtain ⟨k1, p⟩ := chk_post p
      obtain ⟨k2, p⟩ := chk_post p
      have k1 := Nat.le_of_ble_eq_true k1
      have k2 := Nat.le_of_ble_eq_true k2
      obtain ⟨b, vs, rfl, hs, hr⟩ := a.ok.list h1 ra
      have e2 := dp_int rb
      subst e2
      obtain ⟨_, q⟩ := mkL_post p a (reps_rep hr k)
      have k1' : k ≤ 16777216 := k1
      exact op_repR pins s σ H _ _ v u Q I rx ry ⟨b, (k : Int), vs, rfl, rfl, rd_of_sql hs, by omega, by omega, by rw [Int.toNat_natCast, line_eq, ← hr.len]; exact k2, by rw [Int.toNat_natCast]; exact q⟩
  · exact p.elim

/-! ### slices -/
theorem sIx_eq (n d : Nat) (o : Option Int) : Ev.sIx n d o = HT.sIx n d o := by
  cases o with
  | none => rfl
  | some i =>
    cases i with
    | ofNat k =>
      have e : HT.sIx n d (some (Int.ofNat k)) = min k n := HT.sIx_nat n d k
      rw [e]
      show (match Nat.ble k n with | true => k | false => n) = min k n
      by_cases h : k ≤ n
      · rw [show Nat.ble k n = true from Nat.ble_eq_true_of_le h]; exact (Nat.min_eq_left h).symm
      · have : Nat.ble k n = false := by
          cases q : Nat.ble k n with
          | false => rfl
          | true => exact absurd (Nat.le_of_ble_eq_true q) h
        show (match Nat.ble k n with | true => k | false => n) = min k n
        rw [this]
        have : n ≤ k := by omega
        exact (Nat.min_eq_right this).symm
    | negSucc k =>
      have e : Int.negSucc k = -((k : Int) + 1) := by omega
      unfold HT.sIx
      dsimp only
      rw [if_pos (by omega), e]
      show n - (k + 1) = _
      omega
theorem cut_cutV {xs : List V} {lo hi : Option Int} : cut xs lo hi = cutV xs lo hi := by
  unfold cut cutV
  rw [sIx_eq, sIx_eq]
theorem dpl_cut {K : PySem.W.Frag} {G : Hp} {vs : List V} {xs : List PyData} (h : DpAll K G vs xs) (lo hi : Option Int) : DpAll K G (cutV vs lo hi) (cut xs lo hi) := by
  rw [← cut_cutV]
  unfold cut
  rw [dpl_len h]
  exact dpl_take (dpl_drop h _) _
theorem reps_cut {K : PySem.W.Frag} {g : Gh} {vs : List V} {xs : List D} (h : RepDs K g xs vs) (lo hi : Option Int) : RepDs K g (cut xs lo hi) (cutV vs lo hi) := by
  rw [← cut_cutV]
  unfold cut
  rw [h.len]
  exact RepDs.take (RepDs.drop h _) _
def rSlc (cl : List (Addr × Option Str)) (bs : List Nat) (al : Bool) : V → Option Int → Option Int → Hp → VK → Prop := fun x lo hi H Q => ∃ g st d W, At N0 bs g H st ∧ RepD N0 g d x ∧ PostD cl bs g H st (opSlc al st d lo hi) Q W
theorem s_slc {al : Bool} : SlR X (rSlc cl bs al) := by
  intro pins s σ H x v vl vu lo hi sl Q I rx hs pl pu hh
  obtain ⟨g, st, d, W, a, ra, p⟩ := hh
  unfold opSlc at p
  split at p
  · rename_i xs
    obtain ⟨b, vs, rfl, k1, d1⟩ := dp_tup ra
    refine sl_tupA pins s σ H _ v vl vu lo hi sl Q I rx hs pl pu ⟨b, vs, rfl, sqt_k (sqt_mono a.ok.sub k1), fun c => ?_, fun _ => newT_post p a (dpl_cut d1 lo hi)⟩
    have hx : cut xs lo hi = xs := by
      unfold cut
      rw [sIx_eq, sIx_eq, ← dpl_len d1, c.1, c.2]
      simp [dpl_len d1]
    rw [hx] at p
    exact Post.fin p a ra
  · rename_i z
    obtain ⟨hl, p⟩ := chk_post p
    have e1 := dp_str ra
    subst e1
    have hc : (⟨(cut z.cps.toList lo hi).toArray⟩ : Str) = cutS z lo hi := by
      unfold cut cutS
      have e : z.cps.toList.length = z.length := by simp [Str.length]
      rw [sIx_eq, sIx_eq, e]
    rw [hc] at p
    exact sl_str pins s σ H _ v vl vu lo hi sl Q I rx hs pl pu ⟨z, rfl, by rw [line_eq]; exact Nat.le_of_ble_eq_true hl, Post.fin p a (show Dp N0 _ _ _ from .str _)⟩
  · cases h1 : listItems st d with
    | none => rw [h1] at p; exact p.elim
    | some xs =>
      rw [h1] at p
      obtain ⟨b, vs, rfl, k1, hr⟩ := a.ok.list h1 ra
      obtain ⟨_, q⟩ := mkL_post p a (reps_cut hr lo hi)
      exact sl_list pins s σ H _ v vl vu lo hi sl Q I rx hs pl pu ⟨b, vs, rfl, sql_k k1, q⟩
end
end Ev

/-! Ev6: built-ins, methods, displays, truth. -/
namespace Ev
variable [FnTab]
open PySem PySem.Spec PyProof.Rows L2
section
variable {X : Cx} {cl : List (Addr × Option Str)} {bs : List Nat}
abbrev rB (cl : List (Addr × Option Str)) (bs : List Nat) (o : Op) : List V → Hp → VK → Prop := fun vs => rO cl bs (opS o) vs

/-! ### built-ins of one value -/
theorem on1 {f : D → R D} {g : Gh} {H : Hp} {st : Sto} {ds : List D} {vs : List V} {Q : VK} {W : XW} (p : PostD cl bs g H st (match ds with | [d] => f d | _ => .stuck) Q W) (r : RepDs N0 g ds vs) :
    ∃ d v, ds = [d] ∧ vs = [v] ∧ RepD N0 g d v ∧ PostD cl bs g H st (f d) Q W := by
  match ds, p with
  | [d], p =>
    obtain ⟨v, rfl, rd⟩ := reps1 r
    exact ⟨d, v, rfl, rfl, rd, p⟩
  | [], p => exact p.elim
  | _ :: _ :: _, p => exact p.elim
theorem s_len : CallR X (.builtin "len") (rB cl bs .len) := by
  intro pins s σ H xs us Q I r hh
  obtain ⟨g, st, ds, W, a, rr, p⟩ := hh
  obtain ⟨d, v, rfl, rfl, rd, p0⟩ := on1 p rr
  clear p
  have p : PostD cl bs g H st (opLen st d) Q W := p0
  clear p0 rr
  have other : PostD cl bs g H st (match items st d with
    | some xs => .ok (D.int xs.length) st
    | none => dctLen st d) Q W → wpAny (model X.prog X.w) X.A (call (.builtin "len") us) (EP X pins σ Q) X.xe s := fun p => by
    cases h1 : items st d with
    | some ys =>
      rw [h1] at p
      obtain ⟨b, vs, rfl, hs, hr⟩ := a.ok.items h1 rd
      have e := hr.len
      refine call_len_seq pins s σ H _ us Q I r ⟨b, vs, rfl, hs.imp sql_k sqt_k, ?_⟩
      rw [← e]
      exact Post.fin p a (show Dp N0 _ _ _ from .int _)
    | none =>
      rw [h1] at p
      have p : PostD cl bs g H st (dctLen st d) Q W := p
      unfold dctLen at p
      cases d with
      | p x => exact p.elim
      | ref n =>
        dsimp only at p
        cases hn : dicOf (getS st n) with
        | some kvs =>
          rw [hn] at p
          obtain ⟨b, ho, k1, k2, k3⟩ := a.ok.dicAt hn
          obtain ⟨b', hb, rfl⟩ := rd
          rw [hb] at k1; cases k1
          obtain ⟨u, rfl, ru⟩ := vals1 r
          cases (show u = Value.ref b from ru)
          exact dic_len I a.ok.sub k2 k3 fun t s' I' => ⟨.int kvs.length, H, I', ⟨t, rfl⟩, Post.fin p a (show Dp N0 _ _ _ from .int _)⟩
        | none => rw [hn] at p; exact p.elim
  unfold opLen at p
  split at p
  · rename_i z
    obtain ⟨hl, p⟩ := chk_post p
    have e1 := dp_str rd
    subst e1
    exact call_len_str pins s σ H _ us Q I r ⟨z, rfl, by rw [line_eq]; exact Nat.le_of_ble_eq_true hl, Post.fin p a (show Dp N0 _ _ _ from .int _)⟩
  · exact other p
theorem s_tupleOf : CallR X (.type "tuple") (rB cl bs .tupleOf) := by
  intro pins s σ H xs us Q I r hh
  obtain ⟨g, st, ds, W, a, rr, p⟩ := hh
  obtain ⟨d, v, rfl, rfl, rd, p⟩ := on1 p rr
  unfold opTupleOf at p
  split at p
  · rename_i ys
    obtain ⟨b, vs, e, k1, d1⟩ := dp_tup rd
    subst e
    exact call_tuple_of pins s σ H _ us Q I r ⟨b, vs, rfl, .inr ⟨sqt_k (sqt_mono a.ok.sub k1), Post.fin p a rd⟩⟩
  · cases h1 : listItems st d with
    | none => rw [h1] at p; exact p.elim
    | some ys =>
      rw [h1] at p
      obtain ⟨b, vs, rfl, hs, hr⟩ := a.ok.list h1 rd
      obtain ⟨_, q⟩ := mkT_post p a hr
      exact call_tuple_of pins s σ H _ us Q I r ⟨b, vs, rfl, .inl ⟨sql_k hs, q⟩⟩
theorem s_listOf {al : Bool} : CallR X (.type "list") (rB cl bs (.listOf al)) := by
  intro pins s σ H xs us Q I r hh
  obtain ⟨g, st, ds, W, a, rr, p⟩ := hh
  obtain ⟨d, v, rfl, rfl, rd, p⟩ := on1 p rr
  unfold opListOf at p
  cases h1 : items st d with
  | none => rw [h1] at p; exact p.elim
  | some ys =>
    rw [h1] at p
    obtain ⟨b, vs, rfl, hs, hr⟩ := a.ok.items h1 rd
    obtain ⟨_, q⟩ := mkL_post p a hr
    exact call_list_of pins s σ H _ us Q I r ⟨b, vs, rfl, hs.imp sql_k sqt_k, q⟩
theorem s_abs : CallR X (.builtin "abs") (rB cl bs .abs) := by
  intro pins s σ H xs us Q I r hh
  obtain ⟨g, st, ds, W, a, rr, p⟩ := hh
  match ds, rr, p with
  | [.p (.int i)], rr, p =>
    obtain ⟨v, rfl, rd⟩ := reps1 rr
    have e1 := dp_int rd
    subst e1
    refine call_abs pins s σ H _ us Q I r ⟨i, rfl, ?_⟩
    have e : (if i < 0 then -i else i) = Int.ofNat i.natAbs := by
      show _ = ((i.natAbs : Nat) : Int)
      split <;> omega
    rw [e]
    exact Post.fin p a (show Dp N0 _ _ _ from .int _)
theorem s_intOf : CallR X (.type "int") (rB cl bs .intOf) := by
  intro pins s σ H xs us Q I r hh
  obtain ⟨g, st, ds, W, a, rr, p⟩ := hh
  match ds, rr, p with
  | [.p (.int i)], rr, p =>
    obtain ⟨v, rfl, rd⟩ := reps1 rr
    have e1 := dp_int rd
    subst e1
    exact call_int1 pins s σ H _ us Q I r (.inl ⟨i, rfl, Post.fin p a (show Dp N0 _ _ _ from .int _)⟩)
  | [.p (.bool true)], rr, p =>
    obtain ⟨v, rfl, rd⟩ := reps1 rr
    have e1 := dp_bl rd
    subst e1
    exact call_int1 pins s σ H _ us Q I r (.inr ⟨true, rfl, Post.fin p a (show Dp N0 _ (.int 1) _ from .int _)⟩)
  | [.p (.bool false)], rr, p =>
    obtain ⟨v, rfl, rd⟩ := reps1 rr
    have e1 := dp_bl rd
    subst e1
    exact call_int1 pins s σ H _ us Q I r (.inr ⟨false, rfl, Post.fin p a (show Dp N0 _ (.int 0) _ from .int _)⟩)
theorem boolsD_ok {g : Gh} : ∀ {ds : List D} {vs : List V} {is : List Bool}, boolsD ds = some is → RepDs N0 g ds vs → vs = is.map V.bl
  | [], vs, is, h, r => by cases h; cases r; rfl
  | .p (.bool b) :: ds, vs, is, h, r => by
    cases r with
    | cons r1 r2 =>
      have h1 : (boolsD ds).map (b :: ·) = some is := h
      cases q : boolsD ds with
      | none => rw [q] at h1; cases h1
      | some js =>
        rw [q] at h1
        cases h1
        rw [boolsD_ok q r2, dp_bl r1]; rfl
theorem intsD_ok {g : Gh} : ∀ {ds : List D} {vs : List V} {is : List Int}, intsD ds = some is → RepDs N0 g ds vs → vs = is.map V.int
  | [], vs, is, h, r => by cases h; cases r; rfl
  | .p (.int b) :: ds, vs, is, h, r => by
    cases r with
    | cons r1 r2 =>
      have h1 : (intsD ds).map (b :: ·) = some is := h
      cases q : intsD ds with
      | none => rw [q] at h1; cases h1
      | some js =>
        rw [q] at h1
        cases h1
        rw [intsD_ok q r2, dp_int r1]; rfl
theorem opBools_inv {g : Gh} {H : Hp} {st : Sto} {Q : VK} {W : XW} {f : List Bool → Bool} {d : D} {v : V} (p : PostD cl bs g H st (opBools st f d) Q W) (a : At N0 bs g H st) (rd : RepD N0 g d v) :
    ∃ b is, v = .ref b ∧ SqL N0 H b (is.map V.bl) ∧ Q (.bl (f is)) H := by
  unfold opBools at p
  cases h1 : listItems st d with
  | none => rw [h1] at p; exact p.elim
  | some ys =>
    rw [h1] at p
    dsimp only at p
    obtain ⟨b, vs, rfl, hs, hr⟩ := a.ok.list h1 rd
    cases h2 : boolsD ys with
    | none => rw [h2] at p; exact p.elim
    | some is =>
      rw [h2] at p
      have e := boolsD_ok h2 hr
      subst e
      exact ⟨b, is, rfl, hs, Post.fin p a (show Dp N0 _ _ _ from .bl _)⟩
theorem opInts_inv {g : Gh} {H : Hp} {st : Sto} {Q : VK} {W : XW} {f : List Int → Option Int} {d : D} {v : V} (p : PostD cl bs g H st (opInts st f d) Q W) (a : At N0 bs g H st) (rd : RepD N0 g d v) :
    ∃ b is i, v = .ref b ∧ SqL N0 H b (is.map V.int) ∧ f is = some i ∧ Q (.int i) H := by
  unfold opInts at p
  cases h1 : listItems st d with
  | none => rw [h1] at p; exact p.elim
  | some ys =>
    rw [h1] at p
    dsimp only at p
    obtain ⟨b, vs, rfl, hs, hr⟩ := a.ok.list h1 rd
    cases h2 : intsD ys with
    | none => rw [h2] at p; exact p.elim
    | some is =>
      rw [h2] at p
      dsimp only at p
      have e := intsD_ok h2 hr
      subst e
      cases h3 : f is with
      | none => rw [h3] at p; exact p.elim
      | some i =>
        rw [h3] at p
        exact ⟨b, is, i, rfl, hs, h3, Post.fin p a (show Dp N0 _ _ _ from .int _)⟩
theorem allB_eq : ∀ is : List Bool, allB is = is.all id
  | [] => rfl
  | b :: r => by unfold allB; rw [List.all_cons, allB_eq r]; cases b <;> rfl
theorem anyB_eq : ∀ is : List Bool, anyB is = is.any id
  | [] => rfl
  | b :: r => by unfold anyB; rw [List.any_cons, anyB_eq r]; cases b <;> rfl
theorem sumI_eq : ∀ is : List Int, sumI is = is.sum
  | [] => rfl
  | b :: r => by unfold sumI; rw [List.sum_cons, sumI_eq r]
theorem s_all (hc : X.calm = true) : CallR X (.builtin "all") (rB cl bs .all) := by
  intro pins s σ H xs us Q I r hh
  obtain ⟨g, st, ds, W, a, rr, p⟩ := hh
  obtain ⟨d, v, rfl, rfl, rd, p⟩ := on1 p rr
  obtain ⟨b, is, rfl, hs, q⟩ := opBools_inv p a rd
  rw [allB_eq] at q
  exact cr_all hc pins s σ H _ us Q I r ⟨b, is, rfl, sql_k hs, q⟩
theorem s_any (hc : X.calm = true) : CallR X (.builtin "any") (rB cl bs .any) := by
  intro pins s σ H xs us Q I r hh
  obtain ⟨g, st, ds, W, a, rr, p⟩ := hh
  obtain ⟨d, v, rfl, rfl, rd, p⟩ := on1 p rr
  obtain ⟨b, is, rfl, hs, q⟩ := opBools_inv p a rd
  rw [anyB_eq] at q
  exact cr_any hc pins s σ H _ us Q I r ⟨b, is, rfl, sql_k hs, q⟩
theorem s_sum (hc : X.calm = true) : CallR X (.builtin "sum") (rB cl bs .sum) := by
  intro pins s σ H xs us Q I r hh
  obtain ⟨g, st, ds, W, a, rr, p⟩ := hh
  obtain ⟨d, v, rfl, rfl, rd, p⟩ := on1 p rr
  obtain ⟨b, is, i, rfl, hs, e, q⟩ := opInts_inv p a rd
  cases e
  rw [sumI_eq] at q
  exact cr_sum hc pins s σ H _ us Q I r ⟨b, is, rfl, sql_k hs, q⟩
theorem maxI_ok : ∀ (is : List Int) (m : Int), (maxI m is = m ∨ maxI m is ∈ is) ∧ m ≤ maxI m is ∧ ∀ y ∈ is, y ≤ maxI m is
  | [], m => ⟨.inl rfl, Int.le_refl _, fun _ h => nomatch h⟩
  | i :: r, m => by
    unfold maxI
    obtain ⟨h1, h2, h3⟩ := maxI_ok r (match ltI m i with | true => i | false => m)
    cases q : ltI m i with
    | true =>
      rw [q] at h1 h2 h3
      dsimp only at h1 h2 h3 ⊢
      have := of_decide_eq_true q
      refine ⟨.inr ?_, by omega, fun y hy => ?_⟩
      · rcases h1 with h | h
        · rw [h]; exact List.mem_cons_self
        · exact List.mem_cons_of_mem _ h
      · rcases List.mem_cons.mp hy with e | hy
        · rw [e]; exact h2
        · exact h3 y hy
    | false =>
      rw [q] at h1 h2 h3
      dsimp only at h1 h2 h3 ⊢
      have := of_decide_eq_false q
      refine ⟨h1.imp id fun h => List.mem_cons_of_mem _ h, h2, fun y hy => ?_⟩
      rcases List.mem_cons.mp hy with e | hy
      · rw [e]; omega
      · exact h3 y hy
theorem minI_ok : ∀ (is : List Int) (m : Int), (minI m is = m ∨ minI m is ∈ is) ∧ minI m is ≤ m ∧ ∀ y ∈ is, minI m is ≤ y
  | [], m => ⟨.inl rfl, Int.le_refl _, fun _ h => nomatch h⟩
  | i :: r, m => by
    unfold minI
    obtain ⟨h1, h2, h3⟩ := minI_ok r (match ltI i m with | true => i | false => m)
    cases q : ltI i m with
    | true =>
      rw [q] at h1 h2 h3
      dsimp only at h1 h2 h3 ⊢
      have := of_decide_eq_true q
      refine ⟨.inr ?_, by omega, fun y hy => ?_⟩
      · rcases h1 with h | h
        · rw [h]; exact List.mem_cons_self
        · exact List.mem_cons_of_mem _ h
      · rcases List.mem_cons.mp hy with e | hy
        · rw [e]; exact h2
        · exact h3 y hy
    | false =>
      rw [q] at h1 h2 h3
      dsimp only at h1 h2 h3 ⊢
      have := of_decide_eq_false q
      refine ⟨h1.imp id fun h => List.mem_cons_of_mem _ h, h2, fun y hy => ?_⟩
      rcases List.mem_cons.mp hy with e | hy
      · rw [e]; omega
      · exact h3 y hy
theorem s_maxL (hc : X.calm = true) : CallR X (.builtin "max") (rB cl bs .maxL) := by
  intro pins s σ H xs us Q I r hh
  obtain ⟨g, st, ds, W, a, rr, p⟩ := hh
  obtain ⟨d, v, rfl, rfl, rd, p⟩ := on1 p rr
  obtain ⟨b, is, i, rfl, hs, e, q⟩ := opInts_inv p a rd
  cases is with
  | nil => cases e
  | cons j js =>
    cases e
    obtain ⟨h1, h2, h3⟩ := maxI_ok js j
    refine cr_max hc pins s σ H _ us Q I r ⟨b, j :: js, rfl, sql_k hs, Nat.succ_pos _, fun m hm hl => ?_⟩
    have hm2 : maxI j js ∈ j :: js := by
      rcases h1 with h | h
      · rw [h]; exact List.mem_cons_self
      · exact List.mem_cons_of_mem _ h
    have e1 := hl _ hm2
    have e2 : m ≤ maxI j js := by
      rcases List.mem_cons.mp hm with e | hm
      · rw [e]; exact h2
      · exact h3 m hm
    have e3 : m = maxI j js := Int.le_antisymm e2 e1
    rw [e3]; exact q
theorem s_minL (hc : X.calm = true) : CallR X (.builtin "min") (rB cl bs .minL) := by
  intro pins s σ H xs us Q I r hh
  obtain ⟨g, st, ds, W, a, rr, p⟩ := hh
  obtain ⟨d, v, rfl, rfl, rd, p⟩ := on1 p rr
  obtain ⟨b, is, i, rfl, hs, e, q⟩ := opInts_inv p a rd
  cases is with
  | nil => cases e
  | cons j js =>
    cases e
    obtain ⟨h1, h2, h3⟩ := minI_ok js j
    refine cr_min hc pins s σ H _ us Q I r ⟨b, j :: js, rfl, sql_k hs, Nat.succ_pos _, fun m hm hl => ?_⟩
    have hm2 : minI j js ∈ j :: js := by
      rcases h1 with h | h
      · rw [h]; exact List.mem_cons_self
      · exact List.mem_cons_of_mem _ h
    have e1 := hl _ hm2
    have e2 : minI j js ≤ m := by
      rcases List.mem_cons.mp hm with e | hm
      · rw [e]; exact h2
      · exact h3 m hm
    have e3 : m = minI j js := Int.le_antisymm e1 e2
    rw [e3]; exact q
theorem s_max2 (hc : X.calm = true) : CallR X (.builtin "max") (rB cl bs .max2) := by
  intro pins s σ H xs us Q I r hh
  obtain ⟨g, st, ds, W, a, rr, p⟩ := hh
  have p0 : PostD cl bs g H st (opInt2 st (fun i j => some (.int (pickI (ltI i j) j i))) ds) Q W := p
  clear p
  obtain ⟨i, j, d, rfl, e, p⟩ := opInt2_inv p0
  obtain ⟨v, w, rfl, r1, r2⟩ := reps2 rr
  have e1 := dp_int r1
  have e2 := dp_int r2
  subst e1; subst e2
  cases e
  refine call_max2 hc pins s σ H _ us Q I r ⟨i, j, rfl, ?_⟩
  have e : (if j > i then j else i) = pickI (ltI i j) j i := by
    unfold ltI pickI
    by_cases h : i < j
    · rw [if_pos h, decide_eq_true h]
    · rw [if_neg h, decide_eq_false h]
  rw [e]
  exact Post.fin p a (show Dp N0 _ _ _ from .int _)
theorem s_min2 (hc : X.calm = true) : CallR X (.builtin "min") (rB cl bs .min2) := by
  intro pins s σ H xs us Q I r hh
  obtain ⟨g, st, ds, W, a, rr, p⟩ := hh
  have p0 : PostD cl bs g H st (opInt2 st (fun i j => some (.int (pickI (ltI j i) j i))) ds) Q W := p
  clear p
  obtain ⟨i, j, d, rfl, e, p⟩ := opInt2_inv p0
  obtain ⟨v, w, rfl, r1, r2⟩ := reps2 rr
  have e1 := dp_int r1
  have e2 := dp_int r2
  subst e1; subst e2
  cases e
  refine call_min2 hc pins s σ H _ us Q I r ⟨i, j, rfl, ?_⟩
  have e : (if j < i then j else i) = pickI (ltI j i) j i := by
    unfold ltI pickI
    by_cases h : j < i
    · rw [if_pos h, decide_eq_true h]
    · rw [if_neg h, decide_eq_false h]
  rw [e]
  exact Post.fin p a (show Dp N0 _ _ _ from .int _)

/-! ### isinstance -/
def tyName : Nat → String
  | 0 => "NoneType"
  | 1 => "bool"
  | 2 => "int"
  | 3 => "str"
  | 4 => "list"
  | 5 => "tuple"
  | _ => "dict"
theorem kit_sub (K : PySem.W.Frag) : ∀ a b : Nat, a ≤ 6 → b ≤ 6 → PySem.W.kitOne K (.type (tyName a)) (.type (tyName b)) = some (sub a b)
  | 0, 0, _, _ => rfl
  | 0, 1, _, _ => rfl
  | 0, 2, _, _ => rfl
  | 0, 3, _, _ => rfl
  | 0, 4, _, _ => rfl
  | 0, 5, _, _ => rfl
  | 0, 6, _, _ => rfl
  | 1, 0, _, _ => rfl
  | 1, 1, _, _ => rfl
  | 1, 2, _, _ => rfl
  | 1, 3, _, _ => rfl
  | 1, 4, _, _ => rfl
  | 1, 5, _, _ => rfl
  | 1, 6, _, _ => rfl
  | 2, 0, _, _ => rfl
  | 2, 1, _, _ => rfl
  | 2, 2, _, _ => rfl
  | 2, 3, _, _ => rfl
  | 2, 4, _, _ => rfl
  | 2, 5, _, _ => rfl
  | 2, 6, _, _ => rfl
  | 3, 0, _, _ => rfl
  | 3, 1, _, _ => rfl
  | 3, 2, _, _ => rfl
  | 3, 3, _, _ => rfl
  | 3, 4, _, _ => rfl
  | 3, 5, _, _ => rfl
  | 3, 6, _, _ => rfl
  | 4, 0, _, _ => rfl
  | 4, 1, _, _ => rfl
  | 4, 2, _, _ => rfl
  | 4, 3, _, _ => rfl
  | 4, 4, _, _ => rfl
  | 4, 5, _, _ => rfl
  | 4, 6, _, _ => rfl
  | 5, 0, _, _ => rfl
  | 5, 1, _, _ => rfl
  | 5, 2, _, _ => rfl
  | 5, 3, _, _ => rfl
  | 5, 4, _, _ => rfl
  | 5, 5, _, _ => rfl
  | 5, 6, _, _ => rfl
  | 6, 0, _, _ => rfl
  | 6, 1, _, _ => rfl
  | 6, 2, _, _ => rfl
  | 6, 3, _, _ => rfl
  | 6, 4, _, _ => rfl
  | 6, 5, _, _ => rfl
  | 6, 6, _, _ => rfl
theorem kit_any (K : PySem.W.Frag) (a : Nat) (ha : a ≤ 6) : ∀ ts : List Nat, (∀ t ∈ ts, t ≤ 6) → PySem.W.kitAny K (.type (tyName a)) (ts.map fun t => Value.type (tyName t)) = some (isSub a ts)
  | [], _ => rfl
  | t :: r, h => by
    rw [List.map_cons]
    unfold PySem.W.kitAny isSub
    rw [kit_sub K a t ha (h t List.mem_cons_self)]
    cases sub a t with
    | true => rfl
    | false => exact kit_any K a ha r fun z hz => h z (List.mem_cons_of_mem _ hz)
theorem tyx_kind {K : PySem.W.Frag} {g : Gh} {H : Hp} {st : Sto} (o : Ok N0 g H st) {d : D} {v : V} (r : RepD N0 g d v) {k : Nat} (h : kind st d = some k) : k ≤ 6 ∧ TyX K H v (.type (tyName k)) := by
  have lists : ∀ {b : Addr} {vs : List V}, SqL N0 H b vs → TyX K H (.ref b) (.type "list") := fun {b vs} h => by
    rcases rd_of_sql h with e | ⟨ob, e⟩
    · exact .base (.lst e)
    · exact .base (.frz e)
  cases d with
  | p x =>
    cases x with
    | none => cases h; cases dp_non r; exact ⟨by decide, .base .non⟩
    | bool b => cases h; cases dp_bl r; exact ⟨by decide, .base (.bl _)⟩
    | int i => cases h; cases dp_int r; exact ⟨by decide, .base (.int _)⟩
    | str z => cases h; cases dp_str r; exact ⟨by decide, .base (.str _)⟩
    | list xs =>
      cases h
      obtain ⟨b, vs, rfl, h1, _⟩ := dp_lst r
      exact ⟨by decide, lists (sql_mono o.sub h1)⟩
    | tuple xs =>
      cases h
      obtain ⟨b, vs, rfl, h1, _⟩ := dp_tup r
      rcases rd_of_sqt (sqt_mono o.sub h1) with e | ⟨ob, e⟩
      · exact ⟨by decide, .base (.tup e)⟩
      · exact ⟨by decide, .fTuple e⟩
    | dict _ => cases h
  | ref n =>
    obtain ⟨b, hb, rfl⟩ := r
    have h0 : (match getS st n with
      | .lst _ => some 4
      | .fz (.list xs) => some 4
      | .dct _ => some 6
      | .tpl _ => some 5
      | _ => none) = some k := h
    cases hn : getS st n with
    | lst xs =>
      rw [hn] at h0
      cases h0
      obtain ⟨b', vs, h1, _, h3, _⟩ := o.lstAt hn
      rw [hb] at h1; cases h1
      exact ⟨by decide, .base (.lst h3)⟩
    | dct kvs =>
      rw [hn] at h0
      cases h0
      obtain ⟨b', vs, h1, _, h3, _⟩ := o.dctAt hn
      rw [hb] at h1; cases h1
      exact ⟨by decide, .base (.dK h3)⟩
    | tpl ds =>
      rw [hn] at h0
      cases h0
      obtain ⟨b', vs, h1, h2, _⟩ := o.tplAt hn
      rw [hb] at h1; cases h1
      exact ⟨by decide, .base (.tup (o.sub _ _ h2))⟩
    | fz w =>
      rw [hn] at h0
      cases w with
      | list xs =>
        cases h0
        obtain ⟨b', h1, h2⟩ := o.fzAt hn
        rw [hb] at h1; cases h1
        obtain ⟨b2, vs, q, h3, _⟩ := dp_lst h2
        cases q
        exact ⟨by decide, lists (sql_mono o.sub h3)⟩
      | _ => cases h0
    | _ => rw [hn] at h0; cases h0

/-! ### truth -/
theorem tru_val {K : PySem.W.Frag} {g : Gh} {H : Hp} {st : Sto} (o : Ok N0 g H st) {d : D} {v : V} (r : RepD N0 g d v) {b : Bool} (h : tru st d = some b) : TruV K v H b := by
  have emp : ∀ {α β : Type} {xs : List α} {ys : List β}, xs.length = ys.length → nonE xs = !ys.isEmpty := fun {α β xs ys} e => by
    cases xs with
    | nil => cases ys with
      | nil => rfl
      | cons _ _ => cases e
    | cons _ _ => cases ys with
      | nil => cases e
      | cons _ _ => rfl
  cases d with
  | p x =>
    cases x with
    | none => cases h; cases dp_non r; exact rfl
    | bool b => cases h; cases dp_bl r; exact rfl
    | int i =>
      cases dp_int r
      have h0 : some (nzI i) = some b := h
      cases h0
      show _ = (i != 0)
      cases i with
      | ofNat n => cases n <;> rfl
      | negSucc n => rfl
    | str z =>
      cases dp_str r
      have h0 : (match Nat.ble z.cps.size LINE with | true => some (nzN z.cps.size) | false => none) = some b := h
      cases q : Nat.ble z.cps.size LINE with
      | false => rw [q] at h0; cases h0
      | true =>
        rw [q] at h0
        have h1 : some (nzN z.cps.size) = some b := h0
        refine ⟨by rw [line_eq]; exact Nat.le_of_ble_eq_true q, ?_⟩
        show b = (((z.cps.size : Nat) : Int) != 0)
        generalize z.cps.size = n at h1
        cases h1
        cases n <;> rfl
    | list xs =>
      obtain ⟨a, vs, rfl, h1, d1⟩ := dp_lst r
      have h0 : some (nonE xs) = some b := h
      cases h0
      exact .inl ⟨vs, sql_k (sql_mono o.sub h1), emp (dpl_len d1).symm⟩
    | tuple xs =>
      obtain ⟨a, vs, rfl, h1, d1⟩ := dp_tup r
      have h0 : some (nonE xs) = some b := h
      cases h0
      exact .inr (.inl ⟨vs, sqt_k (sqt_mono o.sub h1), emp (dpl_len d1).symm⟩)
    | dict _ => cases h
  | ref n =>
    obtain ⟨a, ha, rfl⟩ := r
    have h0 : (match getS st n with
      | .lst xs => some (nonE xs)
      | .fz (.list xs) => some (nonE xs)
      | .dct kvs => some (nonE kvs)
      | .tpl xs => some (nonE xs)
      | _ => none) = some b := h
    cases hn : getS st n with
    | lst xs =>
      rw [hn] at h0
      have h0 : some (nonE xs) = some b := h0
      cases h0
      obtain ⟨b', vs, h1, _, h3, h4⟩ := o.lstAt hn
      rw [ha] at h1; cases h1
      exact .inl ⟨vs, .inl (.inl h3), emp h4.len⟩
    | dct kvs =>
      rw [hn] at h0
      have h0 : some (nonE kvs) = some b := h0
      cases h0
      obtain ⟨b', vs, h1, _, h3, h4⟩ := o.dctAt hn
      rw [ha] at h1; cases h1
      exact .inr (.inr ⟨vs, h3, emp (Paired.length h4)⟩)
    | tpl xs =>
      rw [hn] at h0
      have h0 : some (nonE xs) = some b := h0
      cases h0
      obtain ⟨b', vs, h1, h2, h3⟩ := o.tplAt hn
      rw [ha] at h1; cases h1
      exact .inr (.inl ⟨vs, .inl (.inl (o.sub _ _ h2)), emp h3.len⟩)
    | fz w =>
      rw [hn] at h0
      cases w with
      | list xs =>
        have h0 : some (nonE xs) = some b := h0
        cases h0
        obtain ⟨b', h1, h2⟩ := o.fzAt hn
        rw [ha] at h1; cases h1
        obtain ⟨b2, vs, q, h3, d1⟩ := dp_lst h2
        cases q
        exact .inl ⟨vs, sql_k (sql_mono o.sub h3), emp (dpl_len d1).symm⟩
      | _ => cases h0
    | _ => rw [hn] at h0; cases h0
end
end Ev

set_option maxHeartbeats 4000000
/-! EvS: sorted over lists and tuples of alike data, empty tuples among them. -/
namespace EvS
open PySem PySem.W PySem.Calls PyProof.Rows SeqAt
abbrev RdD (h : Heap) : Value → PyData → Prop := fun v d => ∃ as, Reads h v d as
section
variable {prog : Program} {w : World} {A : Around} {E : Value → Shared → Prop} {s : Shared}
/-- tuple's own <, called by the sort -/
theorem tup_lt_call {Q : Value → Shared → Prop} {l b : Addr} {items items2 : Array Value} {e r : Nat → Bool} (hl : s.heap.IsTuple l items) (hb : s.heap.IsTuple b items2)
    (he : ∀ j (h1 : j < items.size) (h2 : j < items2.size), EqAt A.in1 s items[j] items2[j] (e j)) (hr : ∀ j (h1 : j < items.size) (h2 : j < items2.size), e j = false → RcLt A.in1 s items[j] items2[j] (r j))
    (hq : Q (.bool (firstLt e r (decide (items.size < items2.size)) (List.range (min items.size items2.size)))) s) : wpAny (model prog w) A (call (.builtin "tuple.__lt__") [.ref l, .ref b]) Q E s := by
  obtain ⟨⟨c1, d1, x1, s1⟩, g1, k1, n1, y1⟩ := id hl
  obtain ⟨⟨c2, d2, x2, s2⟩, g2, k2, n2, y2⟩ := id hb
  dsimp only at k1 y1 k2 y2
  subst k1 y1 k2 y2
  exact call_meets F.slot_tuple_lt ⟨_, g1, rfl⟩ F.entry_tuple_lt (F.args_tuple_lt_2 _ _) (tuple_ltAt l b items items2 n1 n2 d1 d2 s1 s2 e r) ⟨g1, g2, he, hr, hq⟩
/-- two tuples, both keys being of one type -/
theorem one_tup {xs ys : List PyData} {a b : Value} {as bs : List Addr} {Q : Bool → Shared → Prop} (ra : Reads s.heap a (.tuple xs) as) (rb : Reads s.heap b (.tuple ys) bs) (hal : alike (.tuple xs) (.tuple ys) = true)
    (hu : A.units + min (PyData.tuple xs).depth (PyData.tuple ys).depth < cLine) (hq : Q (dataLt (.tuple xs) (.tuple ys)) s) : wpAny (model prog w) A (oneLt' true a b) Q E s := by
  have hal2 : alikeAll xs ys = true := by simpa [alike] using hal
  cases ra with
  | @tuple l o vs n _ _ h1 h2 h3 h4 =>
    cases rb with
    | @tuple l' o' vs' n' _ _ k1 k2 k3 k4 =>
      have z1 : vs.size = xs.length := by simpa using ReadsAll.length _ _ _ h4
      have z2 : vs'.size = ys.length := by simpa using ReadsAll.length _ _ _ k4
      rw [dataLt_tuple, ← firstLt_toks xs ys hal2, ← z1, ← z2] at hq
      rw [oneLt'_eq]
      simp only [if_true]
      refine wpAny_bind (wpAny_cRoomFor (room_here hu) ?_)
      refine wpAny_bind (wpAny_callSpecialIfBound?_slot (T := "tuple") ⟨_, h1, h2⟩ F.slot_tuple_lt (tup_lt_call (e := pairEq xs ys) (r := fun j => dataLt (xs.getD j .none) (ys.getD j .none)) ⟨_, h1, h2, _, h3⟩ ⟨_, k1, k2, _, k3⟩ (fun j j1 j2 => ?_) (fun j j1 j2 hj => ?_) ?_))
      · have := eqAt_alikeAll xs ys A.in1 s vs.toList vs'.toList _ _ h4 k4 hal2 (room_in hu) j (by simpa using j1) (by simpa using j2)
        simpa using this
      · have := rcLt_alikeAll xs ys A.in1 s vs.toList vs'.toList _ _ h4 k4 hal2 (room_in hu) j (by simpa using j1) (by simpa using j2) hj
        simpa using this
      · exact wpAny_truthy_bool hq
/-- the first item of a tuple, if there is one -/
theorem first_at {v : Value} {xs : List PyData} {as : List Addr} {Q : Option Value → Shared → Prop} (r : Reads s.heap v (.tuple xs) as) (hq : ∀ o : Option Value, o.isSome = !xs.isEmpty → Q o s) : wpAny (model prog w) A (firstOfTuple' v) Q E s := by
  cases r with
  | @tuple l o vs n _ _ h1 h2 h3 h4 =>
    rw [kas_first_eq]
    refine wpAny_bind (Looks.here (show Looks (model prog w) s.heap (typeOf (.ref l)) o.cls from (Looks.ld h1).andThen .now) ?_)
    rw [h2, if_neg (by first | decide | simp)]
    refine wpAny_bind (listItems_at h1 h3 (wpAny_pure (hq _ ?_)))
    have z1 : vs.size = xs.length := by simpa using ReadsAll.length _ _ _ h4
    cases xs with
    | nil =>
      have : vs[0]? = none := by simp [z1]
      rw [this]; rfl
    | cons x xs =>
      have hlt : 0 < vs.size := by rw [z1]; simp
      rw [Array.getElem?_eq_getElem hlt]; rfl
def tupNe : PyData → Bool
  | .tuple (_ :: _) => true
  | _ => false
theorem firsts_at : ∀ {vs : List Value} {ds : List PyData} {Q : List (Option Value) → Shared → Prop}, EachIs (RdD s.heap) vs ds → (∀ d ∈ ds, ∃ xs, d = .tuple xs) →
    (∀ fs : List (Option Value), fs.map Option.isSome = ds.map tupNe → Q fs s) → wpAny (model prog w) A (vs.mapM firstOfTuple') Q E s
  | _, _, Q, .nil, _, h => by rw [List.mapM_nil]; exact wpAny_pure (h [] rfl)
  | _, _, Q, .cons (b := d) (as := vs) (bs := ds) ⟨as, r⟩ t, ht, h => by
    obtain ⟨xs, rfl⟩ := ht d (List.mem_cons_self ..)
    rw [List.mapM_cons]
    refine wpAny_bind (first_at r fun o ho => ?_)
    refine wpAny_bind (firsts_at t (fun d hd => ht d (List.mem_cons_of_mem _ hd)) fun fs hf => wpAny_pure (h (o :: fs) ?_))
    rw [List.map_cons, List.map_cons, ho, hf]
    cases xs <;> rfl
/-- the kind of keys that are tuples, some of them empty -/
theorem kind_mix {vs : List Value} {ds : List PyData} (e : EachIs (RdD s.heap) vs ds) (ht : ∀ d ∈ ds, ∃ xs, d = .tuple xs) (hz : ∃ d ∈ ds, tupNe d = false) (h2 : 2 ≤ vs.length) {Q : SortKind → Shared → Prop}
    (hq : Q (if (ds.head?.map tupNe) = some true then general' else oneType') s) : wpAny (model prog w) A (keyKind' vs.toArray) Q E s := by
  rw [kat_kind_eq, List.mapM_toArray, map_eq_pure_bind]
  refine wpAny_bind (wpAny_bind (firsts_at e ht fun fs hf => wpAny_pure ?_))
  have hl : fs.length = ds.length := by have := congrArg List.length hf; simpa using this
  have hall : (fs.toArray.all fun x => x.isSome) = false := by
    rw [List.all_toArray]
    obtain ⟨d, hd, hn⟩ := hz
    have : false ∈ fs.map Option.isSome := by rw [hf]; exact List.mem_map.mpr ⟨d, hd, hn⟩
    obtain ⟨o, ho, hs⟩ := List.mem_map.mp this
    cases q : fs.all fun x => x.isSome with
    | false => rfl
    | true => have := List.all_eq_true.mp q o ho; rw [hs] at this; cases this
  rw [if_neg (by rw [hall]; decide)]
  have hd0 : (fs.toArray[0]?.bind id).isSome = (match ds with | d :: _ => tupNe d | [] => false) := by
    cases ds with
    | nil => cases fs with
      | nil => rfl
      | cons f fs => simp at hl
    | cons d ds => cases fs with
      | nil => simp at hl
      | cons f fs =>
        have : f.isSome = tupNe d := by simpa using (List.cons.inj hf).1
        simpa using this
  rw [hd0]
  cases ds with
  | nil => cases e; exact absurd h2 (by simp)
  | cons d ds =>
    cases hn : tupNe d with
    | true =>
      rw [if_pos (by simp [hn])] at hq
      rw [if_pos (by simpa using hn)]
      exact wpAny_pure hq
    | false =>
      rw [if_neg (by simp [hn])] at hq
      rw [if_neg (by simp [hn])]
      rw [oneTypeOnly'_eq, List.mapM_toArray, map_eq_pure_bind]
      have hT : ∀ v ∈ vs, Looks (model prog w) s.heap (typeOf v) (.type "tuple") := fun v hv => by
        obtain ⟨d', hd', as, r⟩ := e.left v hv
        obtain ⟨xs, rfl⟩ := ht d' hd'
        exact looks_reads r
      refine wpAny_bind (wpAny_bind (wpAny_bind (kas_mapM (r := Value.type "tuple") _ (fun v hv Q' hq => (hT v hv).here hq) (wpAny_pure ?_))))
      obtain ⟨v1, vr, rfl⟩ : ∃ v1 vr, vs = v1 :: vr := by
        match vs, h2 with
        | v1 :: vr, _ => exact ⟨v1, vr, rfl⟩
      have hall2 : ((List.map (fun _ => Value.type "tuple") (v1 :: vr)).toArray.all fun x => x == Value.type "tuple") = true := by
        simp only [List.all_toArray, List.all_map, List.all_eq_true]
        intro _ _
        rfl
      have h0 : (List.map (fun _ => Value.type "tuple") (v1 :: vr)).toArray[0]? = some (Value.type "tuple") := by simp
      rw [h0]
      simp only [hall2, if_true]
      exact wpAny_pure (wpAny_pure hq)
/-- any alike data (None aside) can be sorted -/
theorem sorts_any {vs : List Value} {ds : List PyData} (e : EachIs (RdD s.heap) vs ds) (hal : AllAlike ds) (hn : ∀ d ∈ ds, d ≠ .none) (hu : ∀ d, d ∈ ds → A.units + d.depth < cLine) : SortsAt prog w A s (dataKind s.heap ds) vs := by
  by_cases hk : Sortable ds
  · exact SortsAt.data e hal hk hu
  · have ht : ∀ d ∈ ds, ∃ xs, d = .tuple xs := by
      have : ∃ d ∈ ds, ∃ xs, d = .tuple xs := Classical.byContradiction fun h => hk (.inr fun d hd => ⟨hn d hd, fun xs ex => h ⟨d, hd, xs, ex⟩⟩)
      obtain ⟨d0, h0, xs0, rfl⟩ := this
      intro d hd
      have q := dataType_alike (hal d hd _ h0)
      cases d with
      | tuple xs => exact ⟨xs, rfl⟩
      | _ => exact absurd q (by simp [dataType])
    have hz : ∃ d ∈ ds, tupNe d = false := Classical.byContradiction fun h => hk (.inl fun d hd => by
      obtain ⟨xs, rfl⟩ := ht d hd
      cases xs with
      | nil => exact absurd ⟨_, hd, rfl⟩ h
      | cons x r => exact ⟨x, r, rfl⟩)
    have room : ∀ {d d' : PyData}, d ∈ ds → A.units + min d.depth d'.depth < cLine := fun {d d'} hd => Nat.lt_of_le_of_lt (Nat.add_le_add_left (Nat.min_le_left _ _) _) (hu d hd)
    refine ⟨fun v hv => ?_, (if (ds.head?.map tupNe) = some true then general' else oneType'), ?_, fun h2 E Q hq => kind_mix e ht hz h2 hq⟩
    · obtain ⟨d, hd, as, r⟩ := e.left v hv
      exact ⟨_, dataKind_some hal hd r⟩
    · intro E x y a b Q ha hb hq
      obtain ⟨d, as, hd, ra, rfl⟩ := dataKind_inv ha
      obtain ⟨d', as', hd', rb, rfl⟩ := dataKind_inv hb
      split
      · show wpAny _ _ (oneLt' false x y) _ _ _
        exact oneLt_alike (fun h => nomatch h) ra rb (hal d hd d' hd') (hn d hd) (room hd) hq
      · show wpAny _ _ (oneLt' true x y) _ _ _
        obtain ⟨xs, rfl⟩ := ht d hd
        obtain ⟨ys, rfl⟩ := ht d' hd'
        exact one_tup ra rb (hal _ hd _ hd') (room hd) hq
/-! ### what a list or a tuple collects -/
theorem collect_seq {l : Addr} {vs : List Value} {Q : List Value → Shared → Prop} (hl : s.heap.IsList l vs.toArray ∨ s.heap.IsTuple l vs.toArray) (hsz : vs.length ≤ sizeLine)
    (h : Q vs { s with heap := (s.heap.push (seqObj "list" #[] 0)).update s.heap.objs.size (Obj.mapSeq (· ++ vs.toArray)) }) :
    wpAny (model prog w) A (collect (.ref l)) Q E s := by
  rcases hl with hl | hl
  · exact collect_list hl h hsz
  · obtain ⟨o, ho, hc, n, hd⟩ := id hl
    have e1 : (s.heap.push (seqObj "list" #[] 0)).get? l = some o := Heap.get?_push_of_some _ ho
    have e0 : (s.heap.push (seqObj "list" #[] 0)).get? s.heap.objs.size = some (seqObj "list" #[] 0) := Heap.get?_push_size _ rfl
    unfold collect
    refine wpAny_bind (wpAny_runValue (codeAny_builtin entry_proto_collect' ?_))
    show wpAny _ _ (do again (.builtin "list.__iadd__" ⟨[← newList [], .ref l], []⟩)) _ _ s
    refine wpAny_bind (wpAny_newList (wpAny_pure ⟨Code.quiet_builtin _ (by decide +kernel), codeAny_builtin entry_list_iadd' ?_⟩))
    show wpAny _ _ (Builtin.List.listExtendWith (.ref s.heap.objs.size) (.ref l) (.ref s.heap.objs.size)) _ _ { s with heap := s.heap.push (seqObj "list" #[] 0) }
    unfold Builtin.List.listExtendWith
    refine wpAny_bind (wpAny_typeOf (T := "tuple") ⟨o, e1, hc⟩ ?_)
    rw [if_pos (by rw [show (Value.type "tuple" == Value.type "tuple") = true from rfl]; simp)]
    refine wpAny_bind (listItems_at e1 hd ?_)
    refine wpAny_bind (listItems_at (xs := #[]) (n := 0) e0 rfl ?_)
    rw [if_neg (by simp)]
    refine wpAny_bind (listUpdate_at (xs := #[]) (n := 0) e0 rfl ?_ (Nat.zero_le _) (by show (#[] ++ vs.toArray).size ≤ sizeLine + 1; simp only [Array.size_append, List.size_toArray, List.length_nil]; omega))
    refine wpAny_pure ?_
    show wpAny (model prog w) A (do
        let o ← load s.heap.objs.size
        match o.data with
        | .seq xs _ => pure xs.toList
        | _ => unsupported "internal:collect") Q E { s with heap := (s.heap.push (seqObj "list" #[] 0)).update s.heap.objs.size (Obj.mapSeq (· ++ vs.toArray)) }
    refine wpAny_bind (wpAny_load (get?_update_seq e0 _) ?_)
    show wpAny _ _ (pure ((#[] : Array Value) ++ vs.toArray).toList) Q E _
    rw [show ((#[] : Array Value) ++ vs.toArray).toList = vs by simp]
    exact wpAny_pure h
/-- sorted(xs) over whatever xs collects: a new list that reads as the sorted data -/
theorem sorted_any {x : Value} {vs : List Value} {ds : List PyData} {R : Value → PyData → Prop} {Q : Value → Shared → Prop} (hc : ∀ {Q' : List Value → Shared → Prop}, (∀ (h' : Heap) (tk : Nat), (∀ b o, s.heap.get? b = some o → h'.get? b = some o) → Q' vs { s with heap := h', toks := tk }) → wpAny (model prog w) A.in1 (collect x) Q' E s)
    (ha : argsOk "sorted" ⟨[x], []⟩) (hR : EachIs R vs ds) (hr : EachIs (RdD s.heap) vs ds) (hal : AllAlike ds) (hn : ∀ d ∈ ds, d ≠ .none) (hL : ds.length ≤ sizeLine) (hu : ∀ d, d ∈ ds → A.units + 2 + d.depth < cLine)
    (h : ∀ (h1 : Heap) (tk : Nat) (s2 : Shared) (D : Addr) (out : List Value) (c : Nat), (∀ b o, s.heap.get? b = some o → h1.get? b = some o) → (∀ b o, h1.get? b = some o → s2.heap.get? b = some o) → h1.objs.size ≤ D → s2.gens = s.gens → s2.os = s.os → s2.heap.get? D = some (seqObj "list" out.toArray c) → out.length = ds.length → EachIs R out (ds.mergeSort (dataLe false id)) → Q (.ref D) s2) :
    wpAny (model prog w) A (call (.builtin "sorted") [x]) Q E s := by
  refine Calls.call_function_entry kind_sorted plain_sorted entry_sorted ha ?_
  unfold Builtin.«sorted»
  refine wpAny_bind (m := checkCount "sorted" 1 1 _) (wpAny_pure ?_)
  refine wpAny_bind (hc fun h1 tk k1 => ?_)
  generalize es1 : ({ s with heap := h1, toks := tk } : Shared) = s1
  have z1 : h1 = s1.heap := by rw [← es1]
  have g1 : s1.gens = s.gens := by rw [← es1]
  have o1 : s1.os = s.os := by rw [← es1]
  subst z1
  have hvl : vs.length = ds.length := hR.length
  refine wpAny_bind (wpAny_newList ?_ (by rw [hvl]; exact hL))
  have hoL : (s1.heap.push (seqObj "list" vs.toArray 0)).get? s1.heap.objs.size = some (seqObj "list" vs.toArray 0) := Heap.get?_push_size _ rfl
  have hk2 : ∀ b o, s.heap.get? b = some o → (sortingHeap (s1.heap.push (seqObj "list" vs.toArray 0)) s1.heap.objs.size vs).get? b = some o := fun b o e => by
    have q := k1 b o e
    exact sortingHeap_old (Nat.ne_of_lt (Heap.lt_size q)) (Heap.get?_push_of_some _ q)
  have er2 : EachIs (RdD (sortingHeap (s1.heap.push (seqObj "list" vs.toArray 0)) s1.heap.objs.size vs)) vs ds := hr.mono fun _ _ ⟨as, r⟩ => ⟨as, PyProof.Rows.Reads.keeps hk2 r⟩
  have S := sorts_any (prog := prog) (w := w) (A := A.in1.in1) (s := { s1 with heap := sortingHeap (s1.heap.push (seqObj "list" vs.toArray 0)) s1.heap.objs.size vs }) er2 hal hn fun d hd => by
    have := hu d hd
    show A.in1.in1.units + d.depth < cLine
    exact this
  refine wpAny_bind (wpAny_holding (wpAny_call_entry (w := w) slot_list_sort ⟨_, hoL, rfl⟩ entry_list_sort ?_ (args_list_sort _)))
  show wpAny (model prog w) A.in1.in1 (Builtin.«list.sort» ⟨[.ref s1.heap.objs.size], []⟩) _ _ _
  refine list_sort_vals (s := { s1 with heap := s1.heap.push (seqObj "list" vs.toArray 0) }) hoL S (by rw [hvl]; exact hL) ?_
  obtain ⟨c, hc'⟩ := sortedHeap_at (vs := vs) (out := (sortVals (dataKind (sortingHeap (s1.heap.push (seqObj "list" vs.toArray 0)) s1.heap.objs.size vs) ds) false vs vs).toArray) hoL
  have hsv := sortVals_data (enc := id) (R := R) (vs := vs) (bs := ds) (h' := sortingHeap (s1.heap.push (seqObj "list" vs.toArray 0)) s1.heap.objs.size vs) false hR er2 (by rw [List.map_id]; exact hal)
  rw [List.map_id] at hsv
  refine ⟨_, rfl, wpAny_pure ⟨_, rfl, h s1.heap tk _ s1.heap.objs.size _ c k1 (fun b o e => ?_) (Nat.le_refl _) g1 o1 hc' (by rw [sortVals_length false rfl, hvl]) hsv⟩⟩
  have q := e
  have hlt := Heap.lt_size q
  show (sortedHeap (s1.heap.push (seqObj "list" vs.toArray 0)) s1.heap.objs.size vs _).get? b = some o
  rw [sortedHeap_old (Nat.ne_of_lt hlt) (by rw [size_push']; exact Nat.lt_succ_of_lt hlt)]
  exact Heap.get?_push_of_some _ q
end
/-! ### the order, reckoned -/
theorem ltNs_eq : ∀ x y : List Nat, Ev.ltNs x y = decide (x < y)
  | [], [] => by simp [Ev.ltNs]
  | [], _ :: _ => by simp [Ev.ltNs]
  | _ :: _, [] => by simp [Ev.ltNs]
  | a :: r, b :: s => by
    have ih := ltNs_eq r s
    unfold Ev.ltNs
    dsimp only
    cases h1 : Nat.blt a b with
    | true =>
      have : a < b := Nat.le_of_ble_eq_true h1
      have q : a :: r < b :: s := List.cons_lt_cons_iff.mpr (.inl this)
      simp [q]
    | false =>
      have n1 : ¬ a < b := fun z => by rw [show Nat.blt a b = true from Nat.ble_eq_true_of_le z] at h1; cases h1
      dsimp only
      cases h2 : Nat.beq a b with
      | true =>
        have e : a = b := Nat.eq_of_beq_eq_true h2
        subst e
        dsimp only
        rw [ih]
        by_cases q : r < s
        · have : a :: r < a :: s := List.cons_lt_cons_iff.mpr (.inr ⟨rfl, q⟩)
          simp [q]
        · simp [q]
      | false =>
        have n2 : a ≠ b := fun z => by rw [z, Nat.beq_refl] at h2; cases h2
        dsimp only
        have : ¬ a :: r < b :: s := fun z => by
          rcases List.cons_lt_cons_iff.mp z with z | ⟨z, _⟩
          · exact n1 z
          · exact n2 z
        simp [this]
mutual
theorem alk_ok : ∀ x y : PyData, Ev.alk x y = true → alike x y = true
  | .none, _, h => by unfold Ev.alk at h; cases h
  | .bool _, d, h => by cases d <;> first | (simp [alike]; done) | (unfold Ev.alk at h; cases h)
  | .int _, d, h => by cases d <;> first | (simp [alike]; done) | (unfold Ev.alk at h; cases h)
  | .str _, d, h => by cases d <;> first | (simp [alike]; done) | (unfold Ev.alk at h; cases h)
  | .list xs, d, h => by
    cases d with
    | list ys =>
      unfold Ev.alk at h
      rw [alike]
      exact alkL_ok xs ys h
    | _ => unfold Ev.alk at h; cases h
  | .tuple xs, d, h => by
    cases d with
    | tuple ys =>
      unfold Ev.alk at h
      rw [alike]
      exact alkL_ok xs ys h
    | _ => unfold Ev.alk at h; cases h
  | .dict _, _, h => by unfold Ev.alk at h; cases h
theorem alkL_ok : ∀ xs ys : List PyData, Ev.alkL xs ys = true → alikeAll xs ys = true
  | [], _, _ => by simp [alikeAll]
  | _ :: _, [], _ => by simp [alikeAll]
  | x :: xs, y :: ys, h => by
    unfold Ev.alkL at h
    dsimp only at h
    cases q : Ev.alk x y with
    | false => rw [q] at h; cases h
    | true =>
      rw [q] at h
      rw [alikeAll, alk_ok x y q, alkL_ok xs ys h]; rfl
end
mutual
theorem ltP_eq : ∀ x y : PyData, alike x y = true → Ev.ltP x y = dataLt x y
  | .none, .none, _ => by unfold Ev.ltP; rfl
  | .bool a, .bool b, _ => by
    rw [dataLt_bool]
    unfold Ev.ltP
    cases a <;> cases b <;> rfl
  | .int i, .int j, _ => by rw [dataLt_int]; unfold Ev.ltP; rfl
  | .str x, .str y, _ => by rw [dataLt_str]; unfold Ev.ltP; exact ltNs_eq _ _
  | .list xs, .list ys, h => by
    rw [dataLt_list]
    unfold Ev.ltP
    exact ltPs_eq xs ys (by simpa [alike] using h)
  | .tuple xs, .tuple ys, h => by
    rw [dataLt_tuple]
    unfold Ev.ltP
    exact ltPs_eq xs ys (by simpa [alike] using h)
  | .dict _, d, h => absurd h (by cases d <;> simp [alike])
  | .none, .bool _, h | .none, .int _, h | .none, .str _, h | .none, .list _, h | .none, .tuple _, h | .none, .dict _, h => absurd h (by simp [alike])
  | .bool _, .none, h | .bool _, .int _, h | .bool _, .str _, h | .bool _, .list _, h | .bool _, .tuple _, h | .bool _, .dict _, h => absurd h (by simp [alike])
  | .int _, .none, h | .int _, .bool _, h | .int _, .str _, h | .int _, .list _, h | .int _, .tuple _, h | .int _, .dict _, h => absurd h (by simp [alike])
  | .str _, .none, h | .str _, .bool _, h | .str _, .int _, h | .str _, .list _, h | .str _, .tuple _, h | .str _, .dict _, h => absurd h (by simp [alike])
  | .list _, .none, h | .list _, .bool _, h | .list _, .int _, h | .list _, .str _, h | .list _, .tuple _, h | .list _, .dict _, h => absurd h (by simp [alike])
  | .tuple _, .none, h | .tuple _, .bool _, h | .tuple _, .int _, h | .tuple _, .str _, h | .tuple _, .list _, h | .tuple _, .dict _, h => absurd h (by simp [alike])
theorem ltPs_eq : ∀ xs ys : List PyData, alikeAll xs ys = true → Ev.ltPs xs ys = PyProof.Rows.lexLt itemOrd (keyToksAll xs) (keyToksAll ys)
  | [], [], _ => by
    unfold Ev.ltPs
    exact (lex_irrefl (O := itemOrd) _).symm
  | [], y :: ys, _ => by
    unfold Ev.ltPs
    rw [toks_all_cons, show keyToksAll [] = [Sum.inl 0] from by rw [keyToksAll], lex_atom (by intro h; cases h), lex_one]
    rfl
  | x :: xs, [], _ => by
    unfold Ev.ltPs
    rw [toks_all_cons, show keyToksAll [] = [Sum.inl 0] from by rw [keyToksAll], lex_atom (by intro h; cases h), lex_one]
    rfl
  | x :: xs, y :: ys, h => by
    obtain ⟨h1, h2⟩ := alike_all_cons h
    unfold Ev.ltPs
    dsimp only
    cases q : PyData.eqv x y with
    | true =>
      rw [dataLt_all_yes h1 q]
      exact ltPs_eq xs ys h2
    | false =>
      rw [dataLt_all_no h1 q]
      exact ltP_eq x y h1
end
theorem le_of_lt {x y : PyData} (h : dataLt y x = true) : dataLe false id y x = true := by
  show (!dataLt (id x) (id y)) = true
  rw [show dataLt (id x) (id y) = false from KeyOrd.klt_asymm (O := listOrd itemOrd) (a := keyToks y) (b := keyToks x) h]
  rfl
theorem le_of_nlt {x y : PyData} (h : dataLt y x = false) : dataLe false id x y = true := by
  show (!dataLt (id y) (id x)) = true
  rw [show dataLt (id y) (id x) = false from h]
  rfl
abbrev leT := sortLe_total (listOrd itemOrd) false (fun d : PyData => keyToks (id d))
theorem ins_mem {x z : PyData} : ∀ {l : List PyData}, z ∈ Ev.insP x l → z = x ∨ z ∈ l
  | [], h => .inl (List.mem_singleton.mp h)
  | y :: r, h => by
    unfold Ev.insP at h
    split at h
    · rcases List.mem_cons.mp h with e | h
      · exact .inr (by rw [e]; exact List.mem_cons_self ..)
      · rcases ins_mem h with e | h
        · exact .inl e
        · exact .inr (List.mem_cons_of_mem _ h)
    · exact List.mem_cons.mp h
theorem ins_ok (x : PyData) : ∀ l : List PyData, (∀ y ∈ l, alike y x = true) → l.Pairwise (fun a b => dataLe false id a b = true) →
    (Ev.insP x l).Pairwise (fun a b => dataLe false id a b = true) ∧ ∀ c, (Ev.insP x l).filter (sameRank (dataLe false id) c) = (x :: l).filter (sameRank (dataLe false id) c)
  | [], _, _ => ⟨List.pairwise_singleton _ _, fun _ => rfl⟩
  | y :: r, ha, hp => by
    obtain ⟨hy, hr⟩ := List.pairwise_cons.mp hp
    have e := ltP_eq y x (ha y (List.mem_cons_self ..))
    unfold Ev.insP
    rw [e]
    cases q : dataLt y x with
    | true =>
      obtain ⟨i1, i2⟩ := ins_ok x r (fun z hz => ha z (List.mem_cons_of_mem _ hz)) hr
      have yx := le_of_lt q
      refine ⟨List.pairwise_cons.mpr ⟨fun z hz => ?_, i1⟩, fun c => ?_⟩
      · rcases ins_mem hz with e | hz
        · rw [e]; exact yx
        · exact hy z hz
      · have nr : sameRank (dataLe false id) c x = true → sameRank (dataLe false id) c y = true → False := fun h1 h2 => by
          unfold sameRank at h1 h2
          obtain ⟨a1, a2⟩ := Bool.and_eq_true_iff.mp h1
          obtain ⟨b1, b2⟩ := Bool.and_eq_true_iff.mp h2
          have xy : dataLe false id x y = true := leT.trans _ _ _ a2 b1
          have : (!dataLt (id y) (id x)) = true := xy
          rw [show dataLt (id y) (id x) = true from q] at this
          cases this
        dsimp only
        cases hx : sameRank (dataLe false id) c x with
        | true =>
          cases hyc : sameRank (dataLe false id) c y with
          | true => exact (nr hx hyc).elim
          | false =>
            rw [List.filter_cons_of_neg (by rw [hyc]; decide), i2, List.filter_cons_of_pos hx, List.filter_cons_of_pos hx, List.filter_cons_of_neg (by rw [hyc]; decide)]
        | false =>
          cases hyc : sameRank (dataLe false id) c y with
          | true => rw [List.filter_cons_of_pos hyc, i2, List.filter_cons_of_neg (by rw [hx]; decide), List.filter_cons_of_neg (by rw [hx]; decide), List.filter_cons_of_pos hyc]
          | false => rw [List.filter_cons_of_neg (by rw [hyc]; decide), i2, List.filter_cons_of_neg (by rw [hx]; decide), List.filter_cons_of_neg (by rw [hx]; decide), List.filter_cons_of_neg (by rw [hyc]; decide)]
    | false =>
      have xy := le_of_nlt q
      refine ⟨List.pairwise_cons.mpr ⟨fun z hz => ?_, hp⟩, fun _ => rfl⟩
      rcases List.mem_cons.mp hz with e | hz
      · rw [e]; exact xy
      · exact leT.trans _ _ _ xy (hy z hz)
theorem sort_mem {z : PyData} : ∀ {l : List PyData}, z ∈ Ev.sortP l → z ∈ l
  | [], h => h
  | x :: r, h => by
    rcases ins_mem (show z ∈ Ev.insP x (Ev.sortP r) from h) with e | h
    · rw [e]; exact List.mem_cons_self ..
    · exact List.mem_cons_of_mem _ (sort_mem h)
theorem sort_ok : ∀ l : List PyData, AllAlike l → (Ev.sortP l).Pairwise (fun a b => dataLe false id a b = true) ∧ ∀ c, (Ev.sortP l).filter (sameRank (dataLe false id) c) = l.filter (sameRank (dataLe false id) c)
  | [], _ => ⟨List.Pairwise.nil, fun _ => rfl⟩
  | x :: r, h => by
    obtain ⟨i1, i2⟩ := sort_ok r fun a ha b hb => h a (List.mem_cons_of_mem _ ha) b (List.mem_cons_of_mem _ hb)
    obtain ⟨j1, j2⟩ := ins_ok x (Ev.sortP r) (fun y hy => h y (List.mem_cons_of_mem _ (sort_mem hy)) x (List.mem_cons_self ..)) i1
    refine ⟨j1, fun c => ?_⟩
    rw [show Ev.sortP (x :: r) = Ev.insP x (Ev.sortP r) from rfl, j2 c]
    cases hx : sameRank (dataLe false id) c x with
    | true => rw [List.filter_cons_of_pos hx, List.filter_cons_of_pos hx, i2 c]
    | false => rw [List.filter_cons_of_neg (by rw [hx]; decide), List.filter_cons_of_neg (by rw [hx]; decide), i2 c]
/-- sorted, by the reckoner -/
theorem sortP_eq {l : List PyData} (h : AllAlike l) : Ev.sortP l = l.mergeSort (dataLe false id) := sort_unique leT (sort_ok l h).1 (sort_ok l h).2
theorem alk1_ok {x : PyData} : ∀ {l : List PyData}, Ev.alk1 x l = true → ∀ y ∈ l, alike x y = true
  | [], _, _, h => nomatch h
  | z :: r, h, y, hy => by
    unfold Ev.alk1 at h
    cases q : Ev.alk x z with
    | false => rw [q] at h; cases h
    | true =>
      rw [q] at h
      rcases List.mem_cons.mp hy with e | hy
      · rw [e]; exact alk_ok x z q
      · exact alk1_ok h y hy
theorem alkAll_ok {ys : List PyData} : ∀ {l : List PyData}, Ev.alkAll ys l = true → ∀ x ∈ l, ∀ y ∈ ys, alike x y = true
  | [], _, _, h => nomatch h
  | z :: r, h, x, hx => by
    unfold Ev.alkAll at h
    cases q : Ev.alk1 z ys with
    | false => rw [q] at h; cases h
    | true =>
      rw [q] at h
      rcases List.mem_cons.mp hx with e | hx
      · rw [e]; exact alk1_ok q
      · exact alkAll_ok h x hx
theorem alk_none : ∀ {ys l : List PyData}, Ev.alkAll ys l = true → ys ≠ [] → ∀ x ∈ l, x ≠ .none
  | _, [], _, _, _, h => nomatch h
  | ys, z :: r, h, hn, x, hx => by
    unfold Ev.alkAll at h
    cases q : Ev.alk1 z ys with
    | false => rw [q] at h; cases h
    | true =>
      rw [q] at h
      rcases List.mem_cons.mp hx with e | hx
      · rintro rfl
        subst e
        cases ys with
        | nil => exact hn rfl
        | cons y ys =>
          unfold Ev.alk1 Ev.alk at q
          cases q
      · exact alk_none h hn x hx
end EvS
namespace Ev
variable [FnTab]
open PySem PySem.Spec PyProof.Rows L2
open PySem.W (EachIs)
theorem each_vd {G : Hp} : ∀ {vs : List V} {us : List Value} {ds : List PyData}, Vals vs us → DpAll N0 G vs ds → EachIs (fun u d => ∃ v, RelV v u ∧ Dp N0 G v d) us ds
  | _, _, _, .nil, .nil => .nil
  | _, _, _, .cons r rs, .cons d ds => .cons ⟨_, r, d⟩ (each_vd rs ds)
theorem vd_each {G : Hp} : ∀ {us : List Value} {ds : List PyData}, EachIs (fun u d => ∃ v, RelV v u ∧ Dp N0 G v d) us ds → ∃ vs, Vals vs us ∧ DpAll N0 G vs ds
  | _, _, .nil => ⟨[], .nil, .nil⟩
  | _, _, .cons ⟨v, r, d⟩ t => by
    obtain ⟨vs, rs, ds⟩ := vd_each t
    exact ⟨v :: vs, .cons r rs, .cons d ds⟩
section
variable {X : Cx} {cl : List (Addr × Option Str)} {bs : List Nat}
/-- a sorted list is made: what follows -/
theorem sorted_end {pins : List (Addr × Obj)} {σ : L2.St} {H : Hp} {s : Shared} (I : Inv X pins σ H s) {s1 : Shared} {D : Addr} {out : List Value} {c : Nat} {vs : List V} (hk : ∀ b o, s.heap.get? b = some o → s1.heap.get? b = some o) (hD : s.heap.objs.size ≤ D) (hg : s1.gens = s.gens) (ho : s1.os = s.os)
    (hn : s1.heap.get? D = some (seqObj "list" out.toArray c)) (hv : Vals vs out) (hl : vs.length ≤ sizeLine) : H D = none ∧ Inv X pins σ (upd H D (.lst vs)) s1 := by
  have h0 : H D = none := I.hok.fresh hD
  have J : Inv X pins σ (upd H D (.lst vs)) { s with heap := s1.heap, gens := s1.gens, drawn := s1.drawn, toks := s1.toks } :=
    I.call (ch := []) (Un.laid hk hD h0) (I.hok.laid hk hD ⟨hl, out, c, hv, hn⟩) (by rw [hg]; exact I.bare) (fun _ z => nomatch z)
  have e : s1 = { s with heap := s1.heap, gens := s1.gens, drawn := s1.drawn, toks := s1.toks } := by
    cases s1
    cases s
    cases ho
    rfl
  rw [e]
  exact ⟨h0, J⟩
theorem reads_each {pins : List (Addr × Obj)} {σ : L2.St} {H : Hp} {s : Shared} (I : Inv X pins σ H s) : ∀ {vs : List V} {us : List Value} {ds : List PyData}, Vals vs us → DpAll X.K H vs ds → EachIs (EvS.RdD s.heap) us ds
  | _, _, _, .nil, .nil => .nil
  | _, _, _, .cons r rs, .cons d ds => .cons (Dp.reads I _ _ _ d r) (reads_each I rs ds)
theorem s_sorted {al : Bool} (hu : X.A.units + 64 < cLine) : CallR X (.builtin "sorted") (rB cl bs (.sorted al)) := by
  intro pins s σ H xs us Q I r hh
  obtain ⟨g, st, ds, W, a, rr, p⟩ := hh
  obtain ⟨d, v, rfl, rfl, rd, p⟩ := on1 p rr
  unfold opSorted at p
  cases h1 : items st d with
  | none => rw [h1] at p; exact p.elim
  | some ys =>
    rw [h1] at p
    dsimp only at p
    cases h2 : frzL DEEP ys st with
    | none => rw [h2] at p; exact p.elim
    | some z =>
      obtain ⟨ps, st1⟩ := z
      rw [h2] at p
      dsimp only at p
      obtain ⟨k1, p⟩ := chk_post p
      obtain ⟨k2, p⟩ := chk_post p
      obtain ⟨k3, p⟩ := chk_post p
      obtain ⟨b, vs, rfl, hs, hr⟩ := a.ok.items h1 rd
      obtain ⟨g1, a1, s1, d1⟩ := mapF_ok (fun o r e => frz_ok DEEP o r e) ys a hr h2
      have hal : PySem.W.AllAlike ps := fun x hx y hy => EvS.alkAll_ok k2 x hx y hy
      have hnn : ∀ x ∈ ps, x ≠ .none := fun x hx => EvS.alk_none k2 (List.ne_nil_of_mem hx) x hx
      have hlen : ps.length ≤ sizeLine := by rw [line_eq]; exact Nat.le_of_ble_eq_true k1
      have hdep : ∀ x ∈ ps, x.depth ≤ 60 := by
        have q := (layL_ok ps 60 k3).2
        intro x hx
        have : ∀ (l : List PyData), x ∈ l → x.depth ≤ PyData.depthAll l := by
          intro l
          induction l with
          | nil => intro h; cases h
          | cons y l ih =>
            intro h
            rw [PyData.depthAll]
            rcases List.mem_cons.mp h with e | h
            · rw [e]; omega
            · have := ih h; omega
        exact Nat.le_trans (this ps hx) q
      have dX : DpAll X.K H vs ps := dpAll_mono a1.ok.sub _ _ (dpAll_k ps vs d1)
      rw [Vals.ref1 r]
      have fin : ∀ (its : List Value), Vals vs its → (s.heap.IsList b its.toArray ∨ s.heap.IsTuple b its.toArray) → wpAny (model X.prog X.w) X.A (call (.builtin "sorted") [.ref b]) (EP X pins σ Q) X.xe s := by
        intro its rv hsrc
        refine EvS.sorted_any (vs := its) (ds := ps) (R := fun u d => ∃ v, RelV v u ∧ Dp N0 g1.G v d) (fun {Q'} k => EvS.collect_seq hsrc (by rw [← rv.length, dpl_len d1]; exact hlen) (k _ s.toks (fun b o e => ?_))) (args_sorted1 _) (each_vd rv d1) (reads_each I rv dX) hal hnn hlen (fun x hx => by have := hdep x hx; omega) ?_
        · exact (Heap.get?_update_ne _ _ _ _ (Nat.ne_of_lt (Heap.lt_size e))).trans (Heap.get?_push_of_some _ e)
        · intro h1 tk s2 D out c hk1 hk hD hg ho hn hol hout
          rw [← EvS.sortP_eq hal] at hout
          obtain ⟨ws, rw', dw⟩ := vd_each hout
          have I1 : Inv X pins σ H { s with heap := h1, toks := tk } := I.kept hk1
          obtain ⟨h0, J⟩ := sorted_end (vs := ws) I1 hk hD hg ho hn rw' (by rw [rw'.length, hol]; exact hlen)
          obtain ⟨_, q⟩ := mkL_post (Post.later p s1) a1 (reps_of_all dw)
          exact ⟨.ref D, _, J, rfl, q D h0⟩
      rcases hs with hs | hs
      · obtain ⟨its, rv, pl, hz⟩ := I.list (sql_k hs)
        exact fin its rv (.inl pl.isList)
      · obtain ⟨its, rv, pl, hz⟩ := I.tuple (sqt_k hs)
        exact fin its rv (.inr pl)
end
end Ev

/-! Ev7: readings of expressions by the reckoner; one rule for each form. -/
namespace Ev
variable [FnTab]
open PySem PySem.Spec PyProof.Rows L2

/-! ### the names' values -/
structure EnvR (g : Gh) (env : Env) (σ : L2.St) : Prop where
  len : env.length = σ.length
  val : ∀ i d, getE env i = some d → ∃ v, σ[i]? = some (some v) ∧ RepD N0 g d v
theorem getE_lt : ∀ {env : Env} {i : Nat} {d : D}, getE env i = some d → i < env.length
  | [], _, _, h => by cases h
  | x :: r, 0, _, _ => Nat.succ_pos _
  | x :: r, i + 1, _, h => Nat.succ_lt_succ (getE_lt (env := r) h)
theorem len_setE : ∀ {env : Env} {i : Nat} {d : Option D}, (setE env i d).length = env.length
  | [], _, _ => rfl
  | x :: r, 0, _ => rfl
  | x :: r, i + 1, _ => congrArg Nat.succ (len_setE (env := r))
theorem getE_set : ∀ {env : Env} {i : Nat} {d : Option D}, i < env.length → getE (setE env i d) i = d
  | [], _, _, h => absurd h (Nat.not_lt_zero _)
  | x :: r, 0, _, _ => rfl
  | x :: r, i + 1, _, h => getE_set (env := r) (Nat.lt_of_succ_lt_succ h)
theorem getE_ne : ∀ {env : Env} {i j : Nat} {d : Option D}, i ≠ j → getE (setE env i d) j = getE env j
  | [], _, _, _, _ => rfl
  | x :: r, 0, 0, _, h => absurd rfl h
  | x :: r, 0, j + 1, _, _ => rfl
  | x :: r, i + 1, 0, _, _ => rfl
  | x :: r, i + 1, j + 1, _, h => getE_ne (env := r) fun e => h (congrArg Nat.succ e)
section
variable {g g1 : Gh} {H H1 : Hp} {st st1 : Sto} {env : Env} {σ : L2.St}
theorem EnvR.step (r : EnvR g env σ) (s : Step g H st g1 H1 st1) : EnvR g1 env σ := ⟨r.len, fun i d h => by
  obtain ⟨v, e, q⟩ := r.val i d h
  exact ⟨v, e, s.rep q⟩⟩
theorem EnvR.set (r : EnvR g env σ) (i : Nat) {d : D} {v : V} (rd : RepD N0 g d v) : EnvR g (setE env i (some d)) (σ.set i (some v)) := by
  refine ⟨by rw [len_setE, List.length_set]; exact r.len, fun j e h => ?_⟩
  by_cases hj : i = j
  · subst hj
    have hl := getE_lt h
    rw [len_setE] at hl
    rw [getE_set hl] at h
    cases h
    exact ⟨v, List.getElem?_set_self (by rw [← r.len]; exact hl), rd⟩
  · rw [getE_ne hj] at h
    obtain ⟨w, q, rw'⟩ := r.val j e h
    exact ⟨w, by rw [List.getElem?_set_ne hj]; exact q, rw'⟩
theorem EnvR.drop (r : EnvR g env σ) (i : Nat) {o : Option V} : EnvR g (setE env i none) (σ.set i o) := by
  refine ⟨by rw [len_setE, List.length_set]; exact r.len, fun j e h => ?_⟩
  by_cases hj : i = j
  · subst hj
    have hl := getE_lt h
    rw [len_setE] at hl
    rw [getE_set hl] at h
    cases h
  · rw [getE_ne hj] at h
    obtain ⟨w, q, rw'⟩ := r.val j e h
    exact ⟨w, by rw [List.getElem?_set_ne hj]; exact q, rw'⟩
theorem EnvR.wipe (r : EnvR g env σ) : ∀ vs : List Nat, EnvR g (wipeE env vs) (L2.wipe σ vs)
  | [] => r
  | v :: vs => (EnvR.wipe r vs).drop v
end

/-! ### readings -/
section
variable (cl : List (Addr × Option Str)) (bs : List Nat) (W : WX)
def rdC (c : Env → Sto → R D) : TE := fun σ H Q => ∃ g st env, At N0 bs g H st ∧ EnvR g env σ ∧ PostD cl bs g H st (c env st) Q (fun a b H' => W a b σ H')
def rdT (c : Env → Sto → R D) : TT := fun σ H Q => ∃ g st env, At N0 bs g H st ∧ EnvR g env σ ∧ PostD cl bs g H st (c env st) (fun v H' => ∃ b, v = .bl b ∧ Q b H') (fun a b H' => W a b σ H')
def rdA (c : Env → Sto → R (List D)) : TA := fun σ H Q => ∃ g st env, At N0 bs g H st ∧ EnvR g env σ ∧ PostL cl bs g H st (c env st) Q (fun a b H' => W a b σ H')
structure SE (X : Cx) (pe : Expr) (c : Bool → Env → Sto → R D) : Prop where
  v : PE X pe (rdC cl bs W (c false))
  t : PT X pe (rdT cl bs W (c true))
end
theorem _root_.L2.PE.imp {X : Cx} {e : Expr} {t t' : TE} (h : PE X e t) (k : ∀ σ H Q, t' σ H Q → t σ H Q) : PE X e t' := ⟨fun pins s σ H Q I q => h.run pins s σ H Q I (k σ H Q q)⟩
theorem _root_.L2.PT.imp {X : Cx} {e : Expr} {t t' : TT} (h : PT X e t) (k : ∀ σ H Q, t' σ H Q → t σ H Q) : PT X e t' := ⟨fun pins s σ H Q I q => h.run pins s σ H Q I (k σ H Q q)⟩
theorem _root_.L2.PA.imp {X : Cx} {e : List Expr} {t t' : TA} (h : PA X e t) (k : ∀ σ H Q, t' σ H Q → t σ H Q) : PA X e t' := ⟨fun pos pins s σ H Q I q => h.run pos pins s σ H Q I (k σ H Q q)⟩
theorem _root_.L2.PI.imp {X : Cx} {tg e : Expr} {t t' : TI} (h : PI X tg e t) (k : ∀ σ H Q, t' σ H Q → t σ H Q) : PI X tg e t' := ⟨fun pins s σ H Q I q => h.run pins s σ H Q I (k σ H Q q)⟩
section
variable {α β : Type} {cl : List (Addr × Option Str)} {bs : List Nat} {Rep : Gh → α → β → Prop} {g : Gh} {H : Hp} {st : Sto} {W : XW}
theorem ask_post {r : R D} {f : Bool → Sto → R α} {Q' : β → Hp → Prop} {Qb : Bool → Hp → Prop} (h : Post cl bs Rep g H st (r.ask f) Q' W)
    (k : ∀ b st1 g1 H1, At N0 bs g1 H1 st1 → Step g H st g1 H1 st1 → Post cl bs Rep g1 H1 st1 (f b st1) Q' W → Qb b H1) : PostD cl bs g H st r (fun v H => ∃ b, v = .bl b ∧ Qb b H) W := by
  match r, h with
  | .ok (.p (.bool b)) st', h => exact fun v g' H' a s rep => ⟨b, dp_bl rep, k b st' g' H' a s (Post.later h s)⟩
  | .exn c x st', h => exact h
  | .stuck, h => exact h.elim
  | .ok (.p .none) st', h => exact h.elim
  | .ok (.p (.int _)) st', h => exact h.elim
  | .ok (.p (.str _)) st', h => exact h.elim
  | .ok (.p (.list _)) st', h => exact h.elim
  | .ok (.p (.tuple _)) st', h => exact h.elim
  | .ok (.p (.dict _)) st', h => exact h.elim
  | .ok (.ref _) st', h => exact h.elim
end

/-- an operation whose answer is a bool -/
def isCmp : Op → Bool
  | .eq | .ne | .lt | .le | .gt | .ge | .inn | .notIn => true
  | _ => false
theorem fin_bool {cl : List (Addr × Option Str)} {bs : List Nat} {g : Gh} {H : Hp} {st : Sto} {W : XW} {r : R D} {Q : VK} (hb : ∀ d st1, r = .ok d st1 → ∃ b, d = D.bool b) (p : PostD cl bs g H st (fin true r) Q W) : PostD cl bs g H st r Q W := by
  cases r with
  | ok d st1 =>
    obtain ⟨b, rfl⟩ := hb d st1 rfl
    exact p
  | exn c x st1 => exact p
  | stuck => exact p
section
variable {X : Cx} {cl : List (Addr × Option Str)} {bs : List Nat} {W : WX} {C : Cl}
theorem se_fin {pe : Expr} {c : Env → Sto → R D} (h : PE X pe (rdC cl bs W c)) (he : ∀ whole, isTrue pe X.env whole = (do let v ← whole; standAt pe.pos; holding [v] (truthy v))) : SE cl bs W X pe (fun m env st => fin m (c env st)) := by
  refine ⟨h.imp fun _ _ _ q => q, (pt_truth h he).imp fun σ H Q q => ?_⟩
  obtain ⟨g, st, env, a, er, p⟩ := q
  refine ⟨g, st, env, a, er, Post.bind (Rep' := RepD N0) p fun d st1 v g1 H1 a1 s1 r1 p1 => ?_⟩
  cases q : tru st1 d with
  | none => rw [q] at p1; exact p1.elim
  | some b =>
    rw [q] at p1
    obtain ⟨b', e, q'⟩ := Post.fin (Rep := RepD N0) p1 a1 (show Dp N0 g1.G (.bl b) _ from .bl _)
    cases e
    have tv := tru_val (K := X.K) a1.ok r1 q
    exact ⟨b, tv, q'⟩

/-! ### argument lists -/
def noStar : Expr → Bool
  | .Starred _ _ => false
  | _ => true
theorem star_cons {e : Expr} (h : noStar e = true) (es : List Expr) (env : PySem.Env) : starEach (e :: es) env = (false, eval e env) :: starEach es env := by
  cases e <;> first | rfl | cases h
theorem pa_nil' : PA X [] (rdA cl bs W (fun env st => evs C bs env [] st)) := pa_nil.imp fun σ H Q q => by
  obtain ⟨g, st, env, a, er, p⟩ := q
  exact Post.fin (Rep := RepDs N0) p a .nil
theorem pa_cons' {e : E} {es : List E} {pe : Expr} {pes : List Expr} (h : PE X pe (rdC cl bs W (fun env st => ev C bs env e false st))) (hr : PA X pes (rdA cl bs W (fun env st => evs C bs env es st))) (hs : noStar pe = true) :
    PA X (pe :: pes) (rdA cl bs W (fun env st => evs C bs env (e :: es) st)) := (pa_cons h hr (star_cons hs pes X.env)).imp fun σ H Q q => by
  obtain ⟨g, st, env, a, er, p⟩ := q
  refine ⟨g, st, env, a, er, Post.bind (Rep' := RepDs N0) p fun d st1 v g1 H1 a1 s1 r1 p1 => ?_⟩
  refine ⟨g1, st1, env, a1, er.step s1, Post.bind (Rep' := RepDs N0) p1 fun ds st2 vs g2 H2 a2 s2 r2 p2 => ?_⟩
  exact Post.fin (Rep := RepDs N0) p2 a2 (.cons (s2.rep r1) r2)
/-- the arguments, then the operation -/
theorem args_op {es : List E} {f : List D → Sto → R D} {σ : L2.St} {H : Hp} {Q : VK} (q : rdC cl bs W (fun env st => (evs C bs env es st).bind fun ds st1 => f ds st1) σ H Q) :
    rdA cl bs W (fun env st => evs C bs env es st) σ H (fun vs H1 => rO cl bs f vs H1 Q) := by
  obtain ⟨g, st, env, a, er, p⟩ := q
  exact ⟨g, st, env, a, er, Post.bind (Rep' := RepD N0) p fun ds st1 vs g1 H1 a1 s1 r1 p1 => ⟨g1, st1, ds, _, a1, r1, p1⟩⟩
theorem args1 {e : E} {σ : L2.St} {H : Hp} {Q : List V → Hp → Prop} (q : rdA cl bs W (fun env st => evs C bs env [e] st) σ H Q) : rdC cl bs W (fun env st => ev C bs env e false st) σ H (fun x H1 => Q [x] H1) := by
  obtain ⟨g, st, env, a, er, p⟩ := q
  exact ⟨g, st, env, a, er, Post.bind (Rep' := RepDs N0) p fun d st1 v g1 H1 a1 s1 r1 p1 => Post.fin (Rep := RepDs N0) p1 a1 (.cons r1 .nil)⟩
theorem args2 {e f : E} {σ : L2.St} {H : Hp} {Q : List V → Hp → Prop} (q : rdA cl bs W (fun env st => evs C bs env [e, f] st) σ H Q) :
    rdC cl bs W (fun env st => ev C bs env e false st) σ H (fun x H1 => rdC cl bs W (fun env st => ev C bs env f false st) σ H1 (fun y H2 => Q [x, y] H2)) := by
  obtain ⟨g, st, env, a, er, p⟩ := q
  refine ⟨g, st, env, a, er, Post.bind (Rep' := RepDs N0) p fun d st1 v g1 H1 a1 s1 r1 p1 => ?_⟩
  refine ⟨g1, st1, env, a1, er.step s1, ?_⟩
  have p2 := Post.bind (Rep' := RepDs N0) (Q := fun ws H2 => Q (v :: ws) H2) p1 fun ds st2 vs g2 H2 a2 s2 r2 p2 => Post.fin (Rep := RepDs N0) p2 a2 (.cons (s2.rep r1) r2)
  exact Post.bind (Rep' := RepDs N0) p2 fun d2 st3 v3 g3 H3 a3 s3 r3 p3 => Post.fin (Rep := RepDs N0) (d := [d2]) (v := [v3]) (Q := fun ws H2 => Q (v :: ws) H2) p3 a3 (.cons r3 .nil)

/-! ### operations -/
abbrev cOp (C : Cl) (bs : List Nat) (o : Op) (es : List E) : Env → Sto → R D := fun env st => (evs C bs env es st).bind fun ds st1 => opS o ds st1
abbrev sE (cl : List (Addr × Option Str)) (bs : List Nat) (W : WX) (C : Cl) (X : Cx) (pe : Expr) (e : E) : Prop := SE cl bs W X pe (fun m env st => ev C bs env e m st)
theorem e_bin {a b : E} {pa pb : Expr} {op : Operator} {pos : Pos} {o : Op} (ho : OpR X (binaryOp op) (fun x y => rO cl bs (opS o) [x, y])) (ha : sE cl bs W C X pa a) (hb : sE cl bs W C X pb b) : sE cl bs W C X (.BinOp pa op pb pos) (.op o [a, b]) :=
  se_fin (c := cOp C bs o [a, b]) ((pe_op ho ha.v hb.v).imp fun σ H Q q => args2 (args_op q)) (fun _ => rfl)
theorem e_un {a : E} {pa : Expr} {pos : Pos} (ha : sE cl bs W C X pa a) : sE cl bs W C X (.UnaryOp .USub pa pos) (.op .neg [a]) :=
  se_fin (c := cOp C bs .neg [a]) ((pe_un s_neg ha.v).imp fun σ H Q q => args1 (args_op q)) (fun _ => rfl)
theorem cmp_se {pa pb : Expr} {op : CmpOp} {pos : Pos} {c : Env → Sto → R D} {r : R2} {ta tb : TE} (ho : OpR X (compareOp op) r) (ha : PE X pa ta) (hb : PE X pb tb) (hm : behindInMarks op pb = false)
    (hbool : ∀ env st d st1, c env st = .ok d st1 → ∃ b, d = D.bool b) (k : ∀ σ H Q, rdC cl bs W c σ H Q → tOp r ta tb σ H Q) : SE cl bs W X (.Compare pa [op] [pb] pos) (fun m env st => fin m (c env st)) := by
  refine ⟨(pe_cmpR ho ha hb hm).imp k, (pt_cmpR ho ha hb hm).imp fun σ H Q q => ?_⟩
  obtain ⟨g, st, env, a, er, p⟩ := q
  exact k σ H _ ⟨g, st, env, a, er, fin_bool (hbool env st) p⟩
theorem two_bools (f : Int → Int → Bool) {ds : List D} {st : Sto} {d : D} {st1 : Sto} (e : opInt2 st (fun i j => some (.bool (f i j))) ds = .ok d st1) : ∃ b, d = D.bool b := by
  unfold opInt2 at e
  split at e
  · cases e; exact ⟨_, rfl⟩
  · cases e
theorem eq_bools {a b : D} {neg : Bool} {st : Sto} {d : D} {st1 : Sto} (e : opEq st a b neg = .ok d st1) : ∃ b, d = D.bool b := by
  unfold opEq eqD chk at e
  repeat' split at e
  all_goals first
    | (cases e; exact ⟨_, rfl⟩)
    | cases e
theorem in_bools {a b : D} {neg : Bool} {st : Sto} {d : D} {st1 : Sto} (e : opIn st a b neg = .ok d st1) : ∃ b, d = D.bool b := by
  unfold opIn chk at e
  repeat' split at e
  all_goals first
    | (cases e; exact ⟨_, rfl⟩)
    | cases e
theorem on2_bools {f : D → D → R D} (hf : ∀ a b d st1, f a b = .ok d st1 → ∃ b, d = D.bool b) : ∀ {ds : List D} {d : D} {st1 : Sto}, (match ds with | [a, b] => f a b | _ => .stuck) = .ok d st1 → ∃ b, d = D.bool b
  | [], _, _, e => nomatch e
  | [_], _, _, e => nomatch e
  | [a, b], _, _, e => hf a b _ _ e
  | _ :: _ :: _ :: _, _, _, e => nomatch e
theorem op_bools : ∀ {o : Op} (h : isCmp o = true) {ds : List D} {st : Sto} {d : D} {st1 : Sto} (e : opS o ds st = .ok d st1), ∃ b, d = D.bool b
  | .lt, _, _, _, _, _, e => two_bools _ e
  | .le, _, _, _, _, _, e => two_bools _ e
  | .gt, _, _, _, _, _, e => two_bools (fun i j => ltI j i) e
  | .ge, _, _, _, _, _, e => two_bools (fun i j => leI j i) e
  | .eq, _, _, st, _, _, e => on2_bools (f := fun a b => opEq st a b false) (fun _ _ _ _ e => eq_bools e) e
  | .ne, _, _, st, _, _, e => on2_bools (f := fun a b => opEq st a b true) (fun _ _ _ _ e => eq_bools e) e
  | .inn, _, _, st, _, _, e => on2_bools (f := fun a b => opIn st a b false) (fun _ _ _ _ e => in_bools e) e
  | .notIn, _, _, st, _, _, e => on2_bools (f := fun a b => opIn st a b true) (fun _ _ _ _ e => in_bools e) e
theorem cop_bools {o : Op} (h : isCmp o = true) {es : List E} {env : Env} {st : Sto} {d : D} {st1 : Sto} (e : cOp C bs o es env st = .ok d st1) : ∃ b, d = D.bool b := by
  unfold cOp R.bind at e
  split at e
  · exact op_bools h e
  · cases e
  · cases e
theorem e_cmp {a b : E} {pa pb : Expr} {op : CmpOp} {pos : Pos} {o : Op} (ho : OpR X (compareOp op) (fun x y => rO cl bs (opS o) [x, y])) (hb' : isCmp o = true) (ha : sE cl bs W C X pa a) (hb : sE cl bs W C X pb b) (hm : behindInMarks op pb = false) :
    sE cl bs W C X (.Compare pa [op] [pb] pos) (.op o [a, b]) :=
  cmp_se (c := cOp C bs o [a, b]) ho ha.v hb.v hm (fun env st d st1 e => cop_bools hb' e) fun σ H Q q => args2 (args_op q)
theorem isN_bools {es : List E} {env : Env} {st : Sto} {d : D} {st1 : Sto} {o : Op} (ho : o = .isN ∨ o = .notN) (e : cOp C bs o es env st = .ok d st1) : ∃ b, d = D.bool b := by
  unfold cOp R.bind at e
  split at e
  · rename_i ds st2 _
    rcases ho with rfl | rfl
    · match ds, e with
      | [.p .none], e => cases e; exact ⟨_, rfl⟩
      | [.p (.bool _)], e => cases e; exact ⟨_, rfl⟩
      | [.p (.int _)], e => cases e; exact ⟨_, rfl⟩
      | [.p (.str _)], e => cases e; exact ⟨_, rfl⟩
      | [.p (.list _)], e => cases e; exact ⟨_, rfl⟩
      | [.p (.tuple _)], e => cases e; exact ⟨_, rfl⟩
      | [.p (.dict _)], e => cases e; exact ⟨_, rfl⟩
      | [.ref _], e => cases e; exact ⟨_, rfl⟩
      | [], e => cases e
      | a :: b :: r, e =>
        cases a with
        | p x => cases x <;> cases e
        | ref n => cases e
    · match ds, e with
      | [.p .none], e => cases e; exact ⟨_, rfl⟩
      | [.p (.bool _)], e => cases e; exact ⟨_, rfl⟩
      | [.p (.int _)], e => cases e; exact ⟨_, rfl⟩
      | [.p (.str _)], e => cases e; exact ⟨_, rfl⟩
      | [.p (.list _)], e => cases e; exact ⟨_, rfl⟩
      | [.p (.tuple _)], e => cases e; exact ⟨_, rfl⟩
      | [.p (.dict _)], e => cases e; exact ⟨_, rfl⟩
      | [.ref _], e => cases e; exact ⟨_, rfl⟩
      | [], e => cases e
      | a :: b :: r, e =>
        cases a with
        | p x => cases x <;> cases e
        | ref n => cases e
  · cases e
  · cases e
theorem e_isN {a : E} {pa : Expr} {k : Nat} {pos pos' : Pos} (ha : sE cl bs W C X pa a) : sE cl bs W C X (.Compare pa [.Is] [.Constant .none k pos'] pos) (.op .isN [a]) :=
  cmp_se (c := cOp C bs .isN [a]) s_isN ha.v pe_non (nomark _) (fun env st d st1 e => isN_bools (.inl rfl) e) fun σ H Q q => by
    have q1 := args1 (args_op q)
    obtain ⟨g, st, env, a, er, p⟩ := q1
    exact ⟨g, st, env, a, er, p.mono fun v H h => ⟨rfl, h⟩⟩
theorem e_notN {a : E} {pa : Expr} {k : Nat} {pos pos' : Pos} (ha : sE cl bs W C X pa a) : sE cl bs W C X (.Compare pa [.IsNot] [.Constant .none k pos'] pos) (.op .notN [a]) :=
  cmp_se (c := cOp C bs .notN [a]) s_notN ha.v pe_non (nomark _) (fun env st d st1 e => isN_bools (.inr rfl) e) fun σ H Q q => by
    have q1 := args1 (args_op q)
    obtain ⟨g, st, env, a, er, p⟩ := q1
    exact ⟨g, st, env, a, er, p.mono fun v H h => ⟨rfl, h⟩⟩
theorem e_idx (hu : X.A.units + 9 < cLine) {a b : E} {pa pb : Expr} {pos : Pos} (ha : sE cl bs W C X pa a) (hb : sE cl bs W C X pb b) (hs : PlainIx pb) : sE cl bs W C X (.Subscript pa pb pos) (.op .idx [a, b]) :=
  se_fin (c := cOp C bs .idx [a, b]) ((pe_ix (s_idx hu) ha.v hb.v hs).imp fun σ H Q q => args2 (args_op q)) (fun _ => rfl)
theorem e_tup {es : List E} {pes : List Expr} {k : Nat} {pos : Pos} (ha : PA X pes (rdA cl bs W (fun env st => evs C bs env es st))) : sE cl bs W C X (.Tuple pes k pos) (.op .tup es) :=
  se_fin (c := cOp C bs .tup es) ((pe_tup ha).imp fun σ H Q q => by
    obtain ⟨g, st, env, a, er, p⟩ := args_op q
    refine ⟨g, st, env, a, er, p.mono fun v H h => ?_⟩
    obtain ⟨g, st, ds, W, a, r, p⟩ := h
    exact mkT_post p a r) (fun _ => rfl)
theorem e_lst {al : Bool} {es : List E} {pes : List Expr} {pos : Pos} (ha : PA X pes (rdA cl bs W (fun env st => evs C bs env es st))) : sE cl bs W C X (.List pes pos) (.op (.lst al) es) :=
  se_fin (c := cOp C bs (.lst al) es) ((pe_lst ha).imp fun σ H Q q => by
    obtain ⟨g, st, env, a, er, p⟩ := args_op q
    refine ⟨g, st, env, a, er, p.mono fun v H h => ?_⟩
    obtain ⟨g, st, ds, W, a, r, p⟩ := h
    exact mkL_post p a r) (fun _ => rfl)
/-- slices -/
abbrev RepI : Gh → Option Int → Option Int → Prop := fun _ i j => i = j
def rdP (cl : List (Addr × Option Str)) (bs : List Nat) (W : WX) (c : Env → Sto → R (Option Int)) : TO := fun σ H Q => ∃ g st env, At N0 bs g H st ∧ EnvR g env σ ∧ Post cl bs RepI g H st (c env st) Q (fun a b H' => W a b σ H')
theorem po_no : PO X none (rdP cl bs W (fun env st => evPart C bs env [] st)) := ⟨fun pins s σ H Q I q => po_none.run pins s σ H Q I (by
  obtain ⟨g, st, env, a, er, p⟩ := q
  exact Post.fin (Rep := RepI) p a rfl)⟩
theorem po_one {pe : Expr} {e : E} (h : sE cl bs W C X pe e) : PO X (some pe) (rdP cl bs W (fun env st => evPart C bs env [e] st)) := ⟨fun pins s σ H Q I q => (po_some h.v).run pins s σ H Q I (by
  obtain ⟨g, st, env, a, er, p⟩ := q
  refine ⟨g, st, env, a, er, Post.bind (Rep' := RepI) p fun d st1 v g1 H1 a1 s1 r1 p1 => ?_⟩
  unfold part1 at p1
  split at p1
  · have e := dp_int r1
    exact ⟨_, e, Post.fin (Rep := RepI) p1 a1 rfl⟩
  · exact p1.elim)⟩
theorem e_slc {al : Bool} {a : E} {lo hi : List E} {pa : Expr} {plo phi : Option Expr} {p2 pos : Pos} (ha : sE cl bs W C X pa a) (hl : PO X plo (rdP cl bs W (fun env st => evPart C bs env lo st))) (hh : PO X phi (rdP cl bs W (fun env st => evPart C bs env hi st))) :
    sE cl bs W C X (.Subscript pa (.Slice plo phi none p2) pos) (.slc al a lo hi) :=
  se_fin (c := fun env st => (ev C bs env a false st).bind fun d st1 => (evPart C bs env lo st1).bind fun i st2 => (evPart C bs env hi st2).bind fun j st3 => opSlc al st3 d i j) ((pe_slice (s_slc (cl := cl) (bs := bs) (al := al)) ha.v hl hh).imp fun σ H Q q => by
    obtain ⟨g, st, env, a, er, p⟩ := q
    refine ⟨g, st, env, a, er, Post.bind (Rep' := RepD N0) p fun d st1 v g1 H1 a1 s1 r1 p1 => ?_⟩
    refine ⟨g1, st1, env, a1, er.step s1, Post.bind (Rep' := RepD N0) p1 fun i st2 i' g2 H2 a2 s2 r2 p2 => ?_⟩
    cases (show i = i' from r2)
    refine ⟨g2, st2, env, a2, (er.step s1).step s2, Post.bind (Rep' := RepD N0) p2 fun j st3 j' g3 H3 a3 s3 r3 p3 => ?_⟩
    cases (show j = j' from r3)
    exact ⟨g3, st3, d, _, a3, s3.rep (s2.rep r1), p3⟩) (fun _ => rfl)
end
end Ev

/-! Ev8: built-ins, methods, calls, boolean forms. -/
namespace Ev
variable [FnTab]
open PySem PySem.Spec PyProof.Rows L2
section
variable {X : Cx} {cl : List (Addr × Option Str)} {bs : List Nat} {W : WX} {C : Cl}

/-! ### no stars among the arguments -/
def noStars : List Expr → Bool
  | [] => true
  | e :: es => noStar e && noStars es
theorem stars_any {pos : Pos} {env : PySem.Env} : ∀ {es : List Expr}, noStars es = true → (backTo pos (starEach es env)).any (·.1) = false
  | [], _ => rfl
  | e :: es, h => by
    obtain ⟨h1, h2⟩ := Bool.and_eq_true_iff.mp h
    rw [star_cons h1]
    show ((backTo pos ((false, eval e env) :: starEach es env)).any (·.1)) = false
    unfold backTo
    rw [List.map_cons, List.any_cons]
    exact stars_any (pos := pos) (env := env) h2

/-! ### built-ins -/
def bltNames : List Str := ["len", "tuple", "list", "abs", "int", "all", "any", "sum", "max", "min", "isinstance", "bool", "str", "dict", "range", "enumerate", "zip", "reversed", "sorted", "set", "ValueError", "LookupError"]
def bltV : Op → Option (Str × Value)
  | .len => some ("len", .builtin "len")
  | .tupleOf => some ("tuple", .type "tuple")
  | .listOf _ => some ("list", .type "list")
  | .abs => some ("abs", .builtin "abs")
  | .intOf => some ("int", .type "int")
  | .all => some ("all", .builtin "all")
  | .any => some ("any", .builtin "any")
  | .sum => some ("sum", .builtin "sum")
  | .maxL => some ("max", .builtin "max")
  | .minL => some ("min", .builtin "min")
  | .max2 => some ("max", .builtin "max")
  | .min2 => some ("min", .builtin "min")
  | .sorted _ => some ("sorted", .builtin "sorted")
  | _ => none
theorem bltV_name {o : Op} {x : Str} {v : Value} (h : bltV o = some (x, v)) : bootBuiltins x = some v ∧ x ≠ "__name__" ∧ (x == ("__debug__" : Str)) = false ∧ x ∈ bltNames := by
  cases o <;> first
    | (have h' : Option.none = some (x, v) := h; cases h')
    | (have h' := Option.some.inj h
       cases h'
       exact ⟨by first | exact boot_len | exact PyProof.Rows.boot_tuple | exact PyProof.Rows.boot_list | exact PyProof.Rows.boot_abs | exact PyProof.Rows.boot_int | exact PyProof.Rows.boot_all | exact PyProof.Rows.boot_any | exact PyProof.Rows.boot_sum | exact PyProof.Rows.boot_max | exact PyProof.Rows.boot_min | exact PyProof.Rows.boot_sorted, by decide, by decide, by decide⟩)
theorem bltV_ok (hc : X.calm = true) (hu : X.A.units + 64 < cLine) {o : Op} {x : Str} {v : Value} (h : bltV o = some (x, v)) : CallR X v (rB cl bs o) := by
  cases o <;> first
    | (have h' : Option.none = some (x, v) := h; cases h')
    | (have h' := Option.some.inj h
       cases h'
       first | exact s_len | exact s_tupleOf | exact s_listOf | exact s_abs | exact s_intOf | exact s_all hc | exact s_any hc | exact s_sum hc | exact s_maxL hc | exact s_minL hc | exact s_max2 hc | exact s_min2 hc | exact s_sorted hu)
theorem bltV_kind {o : Op} {x : Str} {v : Value} (h : bltV o = some (x, v)) : (∃ id, v = .builtin id) ∨ ∃ T, v = .type T := by
  cases o <;> first
    | (have h' : Option.none = some (x, v) := h; cases h')
    | (have h' := Option.some.inj h
       cases h'
       first | exact .inl ⟨_, rfl⟩ | exact .inr ⟨_, rfl⟩)
theorem e_blt (hc : X.calm = true) (hu : X.A.units + 64 < cLine) {o : Op} {x : Str} {v : Value} (h : bltV o = some (x, v)) (hg : Gl X x) (hm : X.mg x = none) {es : List E} {pe : Expr} {pes : List Expr} {p pos : Pos}
    (ha : PA X (pe :: pes) (rdA cl bs W (fun env st => evs C bs env es st))) (hs : noStars (pe :: pes) = true) : sE cl bs W C X (.Call (.Name x p) (pe :: pes) [] pos) (.op o es) := by
  obtain ⟨h1, h2, h3, h4⟩ := bltV_name h
  obtain ⟨s1, s2⟩ := Bool.and_eq_true_iff.mp hs
  have ok := bltV_ok (X := X) (cl := cl) (bs := bs) hc hu h
  refine se_fin (c := cOp C bs o es) ?_ (fun _ => rfl)
  rcases bltV_kind h with ⟨id, rfl⟩ | ⟨T, rfl⟩
  · exact (pe_callB ok hg hm h1 ha h2 h3 (star_cons s1 pes X.env) (stars_any s2)).imp fun σ H Q q => args_op q
  · exact (pe_callTy ok hg hm h1 ha h2 h3 (star_cons s1 pes X.env) (stars_any s2)).imp fun σ H Q q => args_op q

/-! ### isinstance -/
def tyStr : Nat → Str
  | 1 => "bool"
  | 2 => "int"
  | 3 => "str"
  | 4 => "list"
  | 5 => "tuple"
  | _ => "dict"
theorem tyStr_boot : ∀ t : Nat, 1 ≤ t → t ≤ 6 → bootBuiltins (tyStr t) = some (.type (tyName t)) ∧ tyStr t ≠ "__name__" ∧ (tyStr t == ("__debug__" : Str)) = false ∧ tyStr t ∈ bltNames
  | 1, _, _ => ⟨PyProof.Rows.boot_bool, by decide, by decide, by decide⟩
  | 2, _, _ => ⟨PyProof.Rows.boot_int, by decide, by decide, by decide⟩
  | 3, _, _ => ⟨PyProof.Rows.boot_str, by decide, by decide, by decide⟩
  | 4, _, _ => ⟨PyProof.Rows.boot_list, by decide, by decide, by decide⟩
  | 5, _, _ => ⟨PyProof.Rows.boot_tuple, by decide, by decide, by decide⟩
  | 6, _, _ => ⟨PyProof.Rows.boot_dict, by decide, by decide, by decide⟩
theorem pe_tyN {t : Nat} {pos : Pos} (h1 : 1 ≤ t) (h6 : t ≤ 6) (hg : Gl X (tyStr t)) (hm : X.mg (tyStr t) = none) : PE X (.Name (tyStr t) pos) (tC (.ty (tyName t))) := by
  obtain ⟨b1, b2, b3, _⟩ := tyStr_boot t h1 h6
  exact pe_bltn hg hm b1 rfl b2 b3
theorem isi_one {σ : L2.St} {H : Hp} {Q : VK} {a : E} {t : Nat} (h6 : t ≤ 6) (q : rdC cl bs W (cOp C bs (.isi [t]) [a]) σ H Q) :
    rdC cl bs W (fun env st => ev C bs env a false st) σ H (fun x H1 => rIsi X.K [x, .ty (tyName t)] H1 Q) := by
  obtain ⟨g, st, env, a, er, p⟩ := args1 (args_op q)
  refine ⟨g, st, env, a, er, p.mono fun v H h => ?_⟩
  obtain ⟨g, st, ds, W, a, r, p⟩ := h
  obtain ⟨d, v', rfl, e, rd, p⟩ := on1 p r
  cases e
  cases hk : kind st d with
  | none => rw [hk] at p; exact p.elim
  | some k =>
    rw [hk] at p
    obtain ⟨k6, ty⟩ := tyx_kind (K := X.K) a.ok rd hk
    refine ⟨v, _, _, _, sub k t, rfl, .ty _, ty, kit_sub X.K k t k6 h6, ?_⟩
    have e : isSub k [t] = sub k t := by
      unfold isSub
      cases sub k t <;> rfl
    rw [← e]
    exact Post.fin (Rep := RepD N0) p a (show Dp N0 _ _ _ from .bl _)
theorem e_isi {a : E} {pa : Expr} {t : Nat} {p p2 pos : Pos} (h1 : 1 ≤ t) (h6 : t ≤ 6) (ha : sE cl bs W C X pa a) (hs : noStar pa = true) (hg : Gl X "isinstance") (hm : X.mg "isinstance" = none) (hg2 : Gl X (tyStr t)) (hm2 : X.mg (tyStr t) = none) :
    sE cl bs W C X (.Call (.Name "isinstance" p) [pa, .Name (tyStr t) p2] [] pos) (.op (.isi [t]) [a]) :=
  se_fin (c := cOp C bs (.isi [t]) [a]) ((pe_callB call_isi hg hm PyProof.Rows.boot_isinstance (pa_cons ha.v (pa_cons (pe_tyN h1 h6 hg2 hm2) pa_nil) (star_cons hs _ _)) (by decide) (by decide) (star_cons hs _ _)).imp fun σ H Q q => isi_one h6 q) (fun _ => rfl)
/-- a tuple of types -/
def glB (sc : Scope) (x : Str) : Bool := match sc.names.lookup x with | some .globalImplicit => true | _ => false
theorem glB_ok {sc : Scope} {x : Str} (hs : X.env.scope = sc) (h : glB sc x = true) : Gl X x := by
  unfold glB at h
  split at h
  · rename_i e
    show X.env.scope.names.lookup x = _
    rw [hs]; exact e
  · cases h
def tyNames (sc : Scope) : List Nat → List Expr → Bool
  | [], [] => true
  | t :: ts, .Name x _ :: es => decide (1 ≤ t) && (decide (t ≤ 6) && (x == tyStr t)) && (glB sc x && tyNames sc ts es)
  | _, _ => false
theorem tyNames_all {sc : Scope} : ∀ {ts : List Nat} {es : List Expr}, tyNames sc ts es = true → ∀ t ∈ ts, t ≤ 6
  | [], _, _, _, h => nomatch h
  | t :: ts, .Name x _ :: es, h, z, hz => by
    have h' : (decide (1 ≤ t) && (decide (t ≤ 6) && (x == tyStr t)) && (glB sc x && tyNames sc ts es)) = true := h
    simp only [Bool.and_eq_true, decide_eq_true_eq] at h'
    rcases List.mem_cons.mp hz with e | hz
    · rw [e]; exact h'.1.2.1
    · exact tyNames_all h'.2.2 z hz
theorem pa_tyNames {sc : Scope} (hsc : X.env.scope = sc) (hm : ∀ x ∈ bltNames, X.mg x = none) : ∀ {ts : List Nat} {es : List Expr}, tyNames sc ts es = true → PA X es (fun _ H Q => Q (ts.map fun t => V.ty (tyName t)) H) ∧ noStars es = true
  | [], [], _ => ⟨pa_nil, rfl⟩
  | t :: ts, .Name x p :: es, h => by
    have h' : (decide (1 ≤ t) && (decide (t ≤ 6) && (x == tyStr t)) && (glB sc x && tyNames sc ts es)) = true := h
    simp only [Bool.and_eq_true, decide_eq_true_eq] at h'
    obtain ⟨⟨h1, h2, h3⟩, h5, h4⟩ := h'
    have e : x = tyStr t := eq_of_beq h3
    subst e
    obtain ⟨k1, k2⟩ := pa_tyNames hsc hm h4
    exact ⟨(pa_cons (pe_tyN h1 h2 (glB_ok hsc h5) (hm _ (tyStr_boot t h1 h2).2.2.2)) k1).imp fun σ H Q q => q, k2⟩
theorem tys_paired : ∀ ts : List Nat, Paired ClsV (ts.map fun t => V.ty (tyName t)) (ts.map fun t => Value.type (tyName t))
  | [] => .nil
  | t :: ts => .cons (.ty _) (tys_paired ts)
theorem isi_many {σ : L2.St} {H : Hp} {Q : VK} {a : E} {ts : List Nat} (h6 : ∀ t ∈ ts, t ≤ 6) (hl : ts.length ≤ sizeLine) (q : rdC cl bs W (cOp C bs (.isi ts) [a]) σ H Q) :
    rdC cl bs W (fun env st => ev C bs env a false st) σ H (fun x H1 => (ts.map fun t => V.ty (tyName t)).length ≤ sizeLine ∧ ∀ p, H1 p = none → rIsiT X.K [x, .ref p] (upd H1 p (.tup (ts.map fun t => V.ty (tyName t)))) Q) := by
  obtain ⟨g, st, env, a, er, p⟩ := args1 (args_op q)
  refine ⟨g, st, env, a, er, p.mono fun v H h => ⟨by rw [List.length_map]; exact hl, fun t ht => ?_⟩⟩
  obtain ⟨g, st, ds, W, a, r, p⟩ := h
  obtain ⟨d, v', rfl, e, rd, p⟩ := on1 p r
  cases e
  cases hk : kind st d with
  | none => rw [hk] at p; exact p.elim
  | some k =>
    rw [hk] at p
    obtain ⟨a1, s1⟩ := at_laid (ho := .tup (ts.map fun t => V.ty (tyName t))) a ht
    obtain ⟨k6, ty⟩ := tyx_kind (K := X.K) a1.ok rd hk
    exact ⟨v, t, _, _, _, _, rfl, upd_same, tys_paired ts, ty, kit_any X.K k k6 ts h6, Post.fin' (Rep := RepD N0) p a1 s1 (show Dp N0 _ _ _ from .bl _)⟩
theorem e_isiT {a : E} {pa : Expr} {ts : List Nat} {es : List Expr} {k : Nat} {p p2 pos : Pos} {sc : Scope} (hsc : X.env.scope = sc) (hm : ∀ x ∈ bltNames, X.mg x = none) (hl : ts.length ≤ sizeLine) (ht : tyNames sc ts es = true) (ha : sE cl bs W C X pa a) (hs : noStar pa = true)
    (hg : Gl X "isinstance") : sE cl bs W C X (.Call (.Name "isinstance" p) [pa, .Tuple es k p2] [] pos) (.op (.isi ts) [a]) :=
  se_fin (c := cOp C bs (.isi ts) [a]) ((pe_callB call_isiT hg (hm _ (by decide)) PyProof.Rows.boot_isinstance (pa_cons ha.v (pa_cons (pe_tup (pa_tyNames hsc hm ht).1) pa_nil) (star_cons hs _ _)) (by decide) (by decide) (star_cons hs _ _)).imp
    fun σ H Q q => isi_many (tyNames_all ht) hl q) (fun _ => rfl)

/-! ### methods -/
def isBase : Expr → Bool
  | .Name _ _ => true
  | .Subscript _ _ _ => true
  | _ => false
theorem base_ok {o : Expr} (h : isBase o = true) (m : Str) (env : PySem.Env) (w : Sem Value) : attributeBase o m env w = w := by
  cases o <;> first | rfl | cases h
theorem okW_ok {n : Nat} {d : D} (h : okW bs n d = true) : ∀ b ∈ bs, n < b → refLt b d := by
  cases d with
  | p x => exact fun _ _ _ => True.intro
  | ref r =>
    intro b hb hn
    have h1 := List.all_eq_true.mp (show (bs.all fun b => Nat.ble b n || Nat.blt r b) = true from h) b hb
    rcases (Bool.or_eq_true _ _).mp h1 with k | k
    · have := Nat.le_of_ble_eq_true k; omega
    · exact Nat.le_of_ble_eq_true k
abbrev cMeth (C : Cl) (bs : List Nat) (m : Mt) (o : E) (es : List E) : Env → Sto → R D := fun env st => (ev C bs env o false st).bind fun d st1 => chk (mtOk st1 m d) ((evs C bs env es st1).bind fun ds st2 => mtS bs m d ds st2)
theorem list_tyV {g : Gh} {H : Hp} {st : Sto} (o : Ok N0 g H st) {d : D} {v : V} (r : RepD N0 g d v) {n : Nat} (e : d = .ref n) {xs : List D} (h : getS st n = .lst xs) : tyV X.K "list" v H := by
  subst e
  obtain ⟨b, vs, h1, _, h3, _⟩ := o.lstAt h
  obtain ⟨b', hb, rfl⟩ := r
  rw [hb] at h1; cases h1
  exact .inl ⟨rfl, vs, .inl (.inl h3)⟩
theorem s_append {g : Gh} {H : Hp} {st : Sto} {Q : VK} {W : XW} {d : D} {ds : List D} {v : V} {vs : List V} (a : At N0 bs g H st) (rd : RepD N0 g d v) (rs : RepDs N0 g ds vs) (p : PostD cl bs g H st (mtAppend bs d ds st) Q W) : rAppend v vs H Q := by
  unfold mtAppend at p
  split at p
  · rename_i n x
    obtain ⟨w, rfl, rw'⟩ := reps1 rs
    cases hn : getS st n with
    | lst xs =>
      rw [hn] at p
      dsimp only at p
      obtain ⟨k1, p⟩ := chk_post p
      obtain ⟨k2, p⟩ := chk_post p
      obtain ⟨b, ws, h1, h2, h3, h4⟩ := a.ok.lstAt hn
      obtain ⟨b', hb, rfl⟩ := rd
      have eb := Option.some.inj (hb.symm.trans h1)
      subst eb
      have hmu : mutable (getS st n) = true := by rw [hn]; rfl
      have low : ∀ q ∈ bs, n < q → soLt q (.lst (xs ++ [x])) := fun q hq hnq z hz => by
        rcases List.mem_append.mp hz with hz | hz
        · have := (a.w q hq).2 n hnq
          rw [hn] at this
          exact this z hz
        · cases List.mem_singleton.mp hz
          exact okW_ok k1 q hq hnq
      obtain ⟨a1, s1⟩ := at_write (so := .lst (xs ++ [x])) (ho := .lst (ws ++ [w])) a hmu hb rfl ⟨_, rfl, RepDs.app h4 (.cons rw' .nil)⟩ low
      have hl : ws.length < sizeLine := by rw [line_eq, ← h4.len]; exact Nat.le_of_ble_eq_true k2
      exact ⟨b', ws, w, rfl, rfl, h3, hl, Post.fin' (Rep := RepD N0) p a1 s1 (show Dp N0 _ _ _ from .non)⟩
    | _ => rw [hn] at p; exact p.elim
  · exact p.elim
theorem e_append {o e : E} {po pe : Expr} {apos cpos : Pos} (ho : sE cl bs W C X po o) (he : sE cl bs W C X pe e) (hb : isBase po = true) (hs : noStar pe = true) (hl : (apos.endLine == cpos.line) = true) :
    sE cl bs W C X (.Call (.Attribute po "append" apos) [pe] [] cpos) (.meth .append o [e]) := by
  refine se_fin (c := cMeth C bs .append o [e]) ((pe_bm PySem.F.plainAttrs_list PySem.F.slot_list_append PySem.F.type_list_append mt_append ho.v (pa_cons' he.v pa_nil' hs) (base_ok hb _ _ _) (by rw [star_cons hs]; rfl) hl (star_cons hs _ _)).imp fun σ H Q q => ?_) (fun _ => rfl)
  obtain ⟨g, st, env, a, er, p⟩ := q
  refine ⟨g, st, env, a, er, Post.bind (Rep' := RepD N0) p fun d st1 v g1 H1 a1 s1 r1 p1 => ?_⟩
  obtain ⟨k, p1⟩ := chk_post p1
  refine ⟨?_, g1, st1, env, a1, er.step s1, Post.bind (Rep' := RepD N0) p1 fun ds st2 vs g2 H2 a2 s2 r2 p2 => s_append a2 (s2.rep r1) r2 p2⟩
  cases d with
  | p x => cases k
  | ref n =>
    have k : (match getS st1 n with | .lst _ => true | _ => false) = true := k
    cases hn : getS st1 n with
    | lst xs => exact list_tyV a1.ok r1 rfl hn
    | _ => rw [hn] at k; cases k
/-! ### calls of defs -/
/-- what the reckoner promises of the def f -/
def spF (C : Cl) (cl : List (Addr × Option Str)) (f : Nat) : Sp := fun vs H Q E => ∃ bs g st ds, At N0 bs g H st ∧ RepDs N0 g ds vs ∧ PostD cl bs g H st (C bs f ds st) Q E
theorem call_sp {f : Nat} {es : List E} {σ : L2.St} {H : Hp} {Q : VK} (q : rdC cl bs W (fun env st => (evs C bs env es st).bind fun ds st1 => C bs f ds st1) σ H Q) :
    tCallS (spF C cl f) (WE W) (rdA cl bs W (fun env st => evs C bs env es st)) σ H Q := by
  obtain ⟨g, st, env, a, er, p⟩ := q
  exact ⟨g, st, env, a, er, Post.bind (Rep' := RepD N0) p fun ds st1 vs g1 H1 a1 s1 r1 p1 => ⟨bs, g1, st1, ds, a1, r1, p1⟩⟩
theorem pe_callS0 {CX : CXT} {k : Nat} {f : Addr} {fd : FuncData} {ps : List Str} {sp : Sp} {E : L2.St → XK} {x : Str} {p pos : Pos} (F : FnOk X.prog X.w X.K X.mg X.base CX k f fd ps sp) (hr : Room k X.A) (hg : Gl X x) (hm : X.mg x = some (.ref f)) (hk : PySem.W.keepIn X.K (.ref f) = true) (hb : Binds X.K fd ps []) (hx : ∀ σ, PassesAt CX X σ (E σ))
    (hdb : (x == ("__debug__" : Str)) = false) : PE X (.Call (.Name x p) [] [] pos) (tCallS sp E tNil) := by
  refine ⟨fun pins s σ H Q I h => ?_⟩
  refine wpAny_Call_Name_kw (ld_glob I hg hm ?_ hdb)
  exact PySem.W.callWith_K0 I.kIn hk (run_fnS (us := []) F hr hb (hx σ) I .nil h)
theorem e_call0 {k : Nat} {f : Nat} {fa : Addr} {fd : FuncData} {ps : List Str} {x : Str} {p pos : Pos} (F : FnOk X.prog X.w X.K X.mg X.base (L2.CX X.prog X.w) k fa fd ps (spF C cl f)) (hr : Room k X.A) (hg : Gl X x) (hm : X.mg x = some (.ref fa)) (hk : PySem.W.keepIn X.K (.ref fa) = true)
    (hb : Binds X.K fd ps []) (tk : Takes X W) (hdb : (x == ("__debug__" : Str)) = false) : sE cl bs W C X (.Call (.Name x p) [] [] pos) (.call f []) :=
  se_fin (c := fun env st => (evs C bs env [] st).bind fun ds st1 => C bs f ds st1) ((pe_callS0 F hr hg hm hk hb (passAt tk) hdb).imp fun σ H Q q => by
    obtain ⟨g, st, env, a, er, p⟩ := q
    exact ⟨bs, g, st, [], a, .nil, p⟩) (fun _ => rfl)
theorem e_call {k : Nat} {f : Nat} {fa : Addr} {fd : FuncData} {ps : List Str} {x : Str} {p pos : Pos} (F : FnOk X.prog X.w X.K X.mg X.base (L2.CX X.prog X.w) k fa fd ps (spF C cl f)) (hr : Room k X.A) (hg : Gl X x) (hm : X.mg x = some (.ref fa)) (hk : PySem.W.keepIn X.K (.ref fa) = true)
    (hb : Binds X.K fd ps []) (tk : Takes X W) (hdb : (x == ("__debug__" : Str)) = false) {es : List E} {pe : Expr} {pes : List Expr} (ha : PA X (pe :: pes) (rdA cl bs W (fun env st => evs C bs env es st))) (hs : noStars (pe :: pes) = true) :
    sE cl bs W C X (.Call (.Name x p) (pe :: pes) [] pos) (.call f es) := by
  obtain ⟨s1, s2⟩ := Bool.and_eq_true_iff.mp hs
  exact se_fin (c := fun env st => (evs C bs env es st).bind fun ds st1 => C bs f ds st1) ((pe_callS F hr hg hm hk hb (passAt tk) ha hdb (star_cons s1 pes X.env) (stars_any s2)).imp fun σ H Q q => call_sp q) (fun _ => rfl)

/-! ### and, or, not, a if c else b, chains -/
theorem e_ife {c a b : E} {pc pa pb : Expr} {pos : Pos} (hc : sE cl bs W C X pc c) (ha : sE cl bs W C X pa a) (hb : sE cl bs W C X pb b) : sE cl bs W C X (.IfExp pc pa pb pos) (.ife c a b) := by
  refine ⟨(pe_ifExp hc.t ha.v hb.v).imp fun σ H Q q => ?_, ⟨fun pins s σ H Q I q => ?_⟩⟩
  · obtain ⟨g, st, env, a0, er, p⟩ := q
    refine ⟨g, st, env, a0, er, ask_post (Rep := RepD N0) p fun t st1 g1 H1 a1 s1 p1 => ?_⟩
    cases t with
    | true => exact ⟨g1, st1, env, a1, er.step s1, p1⟩
    | false => exact ⟨g1, st1, env, a1, er.step s1, p1⟩
  · obtain ⟨g, st, env, a0, er, p⟩ := q
    show wpAny (model X.prog X.w) X.A (do if ← isTrue pc X.env (eval pc X.env) then isTrue pa X.env (eval pa X.env) else isTrue pb X.env (eval pb X.env)) _ _ _
    refine wpAny_bind (thn (hc.t.run pins s σ H (fun t H1 => if t = true then rdT cl bs W (fun env st => ev C bs env a true st) σ H1 Q else rdT cl bs W (fun env st => ev C bs env b true st) σ H1 Q) I ⟨g, st, env, a0, er, ask_post (Rep := RepD N0) p fun t st1 g1 H1 a1 s1 p1 => ?_⟩) fun t s1 ⟨H1, I1, q1⟩ => ?_)
    · cases t with
      | true => exact ⟨g1, st1, env, a1, er.step s1, p1⟩
      | false => exact ⟨g1, st1, env, a1, er.step s1, p1⟩
    · cases t with
      | true => exact ha.t.run pins s1 σ H1 Q I1 q1
      | false => exact hb.t.run pins s1 σ H1 Q I1 q1
theorem e_not {a : E} {pa : Expr} {pos : Pos} (ha : sE cl bs W C X pa a) : sE cl bs W C X (.UnaryOp .Not pa pos) (.not a) := by
  refine ⟨(pe_notT ha.v).imp fun σ H Q q => ?_, (pt_not ha.t).imp fun σ H Q q => ?_⟩
  · obtain ⟨g, st, env, a0, er, p⟩ := q
    refine ⟨g, st, env, a0, er, Post.bind (Rep' := RepD N0) p fun d st1 v g1 H1 a1 s1 r1 p1 => ?_⟩
    cases q : tru st1 d with
    | none => rw [q] at p1; exact p1.elim
    | some b =>
      rw [q] at p1
      exact ⟨b, tru_val a1.ok r1 q, Post.fin (Rep := RepD N0) p1 a1 (show Dp N0 _ _ _ from .bl _)⟩
  · obtain ⟨g, st, env, a0, er, p⟩ := q
    refine ⟨g, st, env, a0, er, ask_post (Rep := RepD N0) p fun t st1 g1 H1 a1 s1 p1 => ?_⟩
    obtain ⟨b, e, q⟩ := Post.fin (Rep := RepD N0) (v := .bl (!t)) p1 a1 (show Dp N0 _ _ _ from .bl _)
    cases e
    exact q
/-- the last part of and, or: with the same parts -/
theorem bool_one {op : BoolOp} {a : E} {pa : Expr} {pos : Pos} (ha : sE cl bs W C X pa a) : PE X (.BoolOp op [pa] pos) (rdC cl bs W (fun env st => ev C bs env a false st)) := pe_one ha.v
theorem pw_all {op : BoolOp} {ps : List Expr} {pos : Pos} {t : TT} (h : PT X (.BoolOp op ps pos) t) : PW X (.BoolOp op ps pos) t := ⟨fun wh pins s σ H Q I q => h.run pins s σ H Q I q⟩
theorem e_and {a b : E} {pa pb : Expr} {rest : List Expr} {pos : Pos} (ha : sE cl bs W C X pa a) (hv : PE X (.BoolOp .And (pb :: rest) pos) (rdC cl bs W (fun env st => ev C bs env b false st))) (ht : PW X (.BoolOp .And (pb :: rest) pos) (rdT cl bs W (fun env st => ev C bs env b true st))) :
    sE cl bs W C X (.BoolOp .And (pa :: pb :: rest) pos) (.and a b) := by
  refine ⟨(pe_andT ha.v hv).imp fun σ H Q q => ?_, (pw_and ha.t ht).pt.imp fun σ H Q q => ?_⟩
  · obtain ⟨g, st, env, a0, er, p⟩ := q
    refine ⟨g, st, env, a0, er, Post.bind (Rep' := RepD N0) p fun d st1 v g1 H1 a1 s1 r1 p1 => ?_⟩
    cases q : tru st1 d with
    | none => rw [q] at p1; exact p1.elim
    | some t =>
      rw [q] at p1
      refine ⟨t, tru_val a1.ok r1 q, ?_⟩
      cases t with
      | true => exact ⟨g1, st1, env, a1, er.step s1, p1⟩
      | false => exact Post.fin (Rep := RepD N0) p1 a1 r1
  · obtain ⟨g, st, env, a0, er, p⟩ := q
    refine ⟨g, st, env, a0, er, ask_post (Rep := RepD N0) p fun t st1 g1 H1 a1 s1 p1 => ?_⟩
    cases t with
    | true => exact ⟨g1, st1, env, a1, er.step s1, p1⟩
    | false =>
      obtain ⟨b, e, q⟩ := Post.fin (Rep := RepD N0) (v := .bl false) p1 a1 (show Dp N0 _ _ _ from .bl _)
      cases e
      exact q
theorem e_or {a b : E} {pa pb : Expr} {rest : List Expr} {pos : Pos} (ha : sE cl bs W C X pa a) (hv : PE X (.BoolOp .Or (pb :: rest) pos) (rdC cl bs W (fun env st => ev C bs env b false st))) (ht : PW X (.BoolOp .Or (pb :: rest) pos) (rdT cl bs W (fun env st => ev C bs env b true st))) :
    sE cl bs W C X (.BoolOp .Or (pa :: pb :: rest) pos) (.or a b) := by
  refine ⟨(pe_orT ha.v hv).imp fun σ H Q q => ?_, (pw_or ha.t ht).pt.imp fun σ H Q q => ?_⟩
  · obtain ⟨g, st, env, a0, er, p⟩ := q
    refine ⟨g, st, env, a0, er, Post.bind (Rep' := RepD N0) p fun d st1 v g1 H1 a1 s1 r1 p1 => ?_⟩
    cases q : tru st1 d with
    | none => rw [q] at p1; exact p1.elim
    | some t =>
      rw [q] at p1
      refine ⟨t, tru_val a1.ok r1 q, ?_⟩
      cases t with
      | false => exact ⟨g1, st1, env, a1, er.step s1, p1⟩
      | true => exact Post.fin (Rep := RepD N0) p1 a1 r1
  · obtain ⟨g, st, env, a0, er, p⟩ := q
    refine ⟨g, st, env, a0, er, ask_post (Rep := RepD N0) p fun t st1 g1 H1 a1 s1 p1 => ?_⟩
    cases t with
    | false => exact ⟨g1, st1, env, a1, er.step s1, p1⟩
    | true =>
      obtain ⟨b, e, q⟩ := Post.fin (Rep := RepD N0) (v := .bl true) p1 a1 (show Dp N0 _ _ _ from .bl _)
      cases e
      exact q
/-- a op b op' c -/
theorem e_chain {o1 o2 : Op} {op op' : CmpOp} {a b c : E} {pa pb pc : Expr} {pos : Pos} (h1 : OpR X (compareOp op) (fun x y => rO cl bs (opS o1) [x, y])) (h2 : OpR X (compareOp op') (fun x y => rO cl bs (opS o2) [x, y])) (b1 : isCmp o1 = true) (b2 : isCmp o2 = true)
    (ha : sE cl bs W C X pa a) (hb : sE cl bs W C X pb b) (hc : sE cl bs W C X pc c) (hm : lastMarks [op, op'] [pb, pc] = false) : sE cl bs W C X (.Compare pa [op, op'] [pb, pc] pos) (.chain o1 o2 a b c) := by
  have go : ∀ m σ H Q, rdC cl bs W (fun env st => ev C bs env (.chain o1 o2 a b c) m st) σ H Q → tChain (fun x y => rO cl bs (opS o1) [x, y]) (fun x y => rO cl bs (opS o2) [x, y]) (rdC cl bs W (fun env st => ev C bs env a false st)) (rdC cl bs W (fun env st => ev C bs env b false st)) (rdC cl bs W (fun env st => ev C bs env c false st)) σ H Q := fun m σ H Q q => by
    obtain ⟨g, st, env, a0, er, p⟩ := q
    refine ⟨g, st, env, a0, er, Post.bind (Rep' := RepD N0) p fun d st1 v g1 H1 a1 s1 r1 p1 => ?_⟩
    refine ⟨g1, st1, env, a1, er.step s1, Post.bind (Rep' := RepD N0) p1 fun e st2 w g2 H2 a2 s2 r2 p2 => ?_⟩
    refine ⟨g2, st2, [d, e], _, a2, .cons (s2.rep r1) (.cons r2 .nil), ask_post (Rep := RepD N0) p2 fun t st3 g3 H3 a3 s3 p3 => ?_⟩
    cases t with
    | true =>
      have p3' : PostD cl bs g3 H3 st3 ((ev C bs env c false st3).bind fun z st4 => opS o2 [e, z] st4) Q (fun a b H' => W a b σ H') := by
        cases m with
        | false => exact p3
        | true =>
          refine fin_bool (fun d' st' ee => ?_) p3
          unfold R.bind at ee
          split at ee
          · exact op_bools b2 ee
          · cases ee
          · cases ee
      refine ⟨g3, st3, env, a3, ((er.step s1).step s2).step s3, Post.bind (Rep' := RepD N0) p3' fun f st4 z g4 H4 a4 s4 r4 p4 => ?_⟩
      exact ⟨g4, st4, [e, f], _, a4, .cons (s4.rep (s3.rep r2)) (.cons r4 .nil), p4⟩
    | false => exact Post.fin (Rep := RepD N0) (v := .bl false) p3 a3 (show Dp N0 _ _ _ from .bl _)
  refine ⟨(pe_chain h1 h2 ha.v hb.v hc.v hm).imp (go false), (pt_chain h1 h2 ha.v hb.v hc.v hm).imp fun σ H Q q => ?_⟩
  obtain ⟨g, st, env, a0, er, p⟩ := q
  exact go true σ H _ ⟨g, st, env, a0, er, p⟩
end
end Ev

set_option maxHeartbeats 2000000
/-! EvM: methods that change lists: extend, pop, insert, remove. -/
namespace Ev
variable [FnTab]
open PySem PySem.Spec PyProof.Rows L2
section
variable {X : Cx} {cl : List (Addr × Option Str)} {bs : List Nat} {W : WX} {C : Cl}
/-- a method of lists, by what it does -/
theorem e_lm {m : Mt} {name : Str} {r : V → List V → Hp → VK → Prop} {o : E} {es : List E} {po : Expr} {pe : Expr} {pes : List Expr} {apos cpos : Pos}
    (hok : ∀ st d, mtOk st m d = true → ∃ n xs, d = .ref n ∧ getS st n = .lst xs)
    (hpe : ∀ {te : TE} {ta : TA}, PE X po te → PA X (pe :: pes) ta → ∃ t : TE, PE X (.Call (.Attribute po name apos) (pe :: pes) [] cpos) t ∧ ∀ σ H Q, te σ H (fun x H1 => tyV X.K "list" x H1 ∧ ta σ H1 fun xs H2 => r x xs H2 Q) → t σ H Q)
    (hs : ∀ {g : Gh} {H : Hp} {st : Sto} {Q : VK} {W : XW} {d : D} {ds : List D} {v : V} {vs : List V}, At N0 bs g H st → RepD N0 g d v → RepDs N0 g ds vs → PostD cl bs g H st (mtS bs m d ds st) Q W → r v vs H Q)
    (ho : sE cl bs W C X po o) (ha : PA X (pe :: pes) (rdA cl bs W (fun env st => evs C bs env es st))) :
    sE cl bs W C X (.Call (.Attribute po name apos) (pe :: pes) [] cpos) (.meth m o es) := by
  obtain ⟨t, k1, k2⟩ := hpe ho.v ha
  refine se_fin (c := cMeth C bs m o es) (k1.imp fun σ H Q q => k2 σ H Q ?_) (fun _ => rfl)
  obtain ⟨g, st, env, a, er, p⟩ := q
  refine ⟨g, st, env, a, er, Post.bind (Rep' := RepD N0) p fun d st1 v g1 H1 a1 s1 r1 p1 => ?_⟩
  obtain ⟨k, p1⟩ := chk_post p1
  refine ⟨?_, g1, st1, env, a1, er.step s1, Post.bind (Rep' := RepD N0) p1 fun ds st2 vs g2 H2 a2 s2 r2 p2 => hs a2 (s2.rep r1) r2 p2⟩
  obtain ⟨n, xs, rfl, hn⟩ := hok st1 d k
  exact list_tyV a1.ok r1 rfl hn
theorem lst_ok {st : Sto} {d : D} (k : (match d with | .ref n => (match getS st n with | .lst _ => true | _ => false) | _ => false) = true) : ∃ n xs, d = .ref n ∧ getS st n = .lst xs := by
  cases d with
  | p x => cases k
  | ref n =>
    have k : (match getS st n with | .lst _ => true | _ => false) = true := k
    cases hn : getS st n with
    | lst xs => exact ⟨n, xs, rfl, hn⟩
    | _ => rw [hn] at k; cases k
theorem okWs_ok {n : Nat} : ∀ {ds : List D}, okWs bs n ds = true → ∀ d ∈ ds, ∀ b ∈ bs, n < b → refLt b d
  | [], _, _, h => nomatch h
  | z :: r, h, d, hd => by
    unfold okWs at h
    cases q : okW bs n z with
    | false => rw [q] at h; cases h
    | true =>
      rw [q] at h
      rcases List.mem_cons.mp hd with e | hd
      · rw [e]; exact okW_ok q
      · exact okWs_ok h d hd
/-- a list of the store gets other items -/
theorem lst_put {g : Gh} {H : Hp} {st : Sto} {n : Nat} {xs ys : List D} {vs : List V} {b : Addr} (a : At N0 bs g H st) (hn : getS st n = .lst xs) (hb : g.mu[n]? = some b) (r : RepDs N0 g ys vs) (hw : ∀ d ∈ ys, ∀ q ∈ bs, n < q → refLt q d) :
    At N0 bs g (upd H b (.lst vs)) (st.set n (.lst ys)) ∧ Step g H st g (upd H b (.lst vs)) (st.set n (.lst ys)) := by
  have hmu : mutable (getS st n) = true := by rw [hn]; rfl
  exact at_write (so := .lst ys) (ho := .lst vs) a hmu hb rfl ⟨_, rfl, r⟩ fun q hq hnq z hz => hw z hz q hq hnq
theorem old_low {g : Gh} {H : Hp} {st : Sto} {n : Nat} {xs : List D} (a : At N0 bs g H st) (hn : getS st n = .lst xs) : ∀ d ∈ xs, ∀ q ∈ bs, n < q → refLt q d := fun d hd q hq hnq => by
  have := (a.w q hq).2 n hnq
  rw [hn] at this
  exact this d hd

/-! ### extend -/
def rExt (K : PySem.W.Frag) : V → List V → Hp → VK → Prop := fun x vs H Q => ∃ l b xs zs, x = .ref l ∧ vs = [.ref b] ∧ H l = some (.lst xs) ∧ (SqL K H b zs ∨ SqT K H b zs) ∧ xs.length + zs.length ≤ sizeLine ∧ Q .non (upd H l (.lst (xs ++ zs)))
theorem mt_ext : MtM X "list.extend" (rExt X.K) := by
  intro pins s σ H x vs v us Q I rx rv h
  obtain ⟨l, b, xs, zs, rfl, rfl, hH, hB, hz, q⟩ := h
  cases rx
  obtain ⟨u, rfl, ru⟩ := rv.one
  cases ru
  obtain ⟨z, its, n, r, hl, e⟩ := I.lstM hH
  have fin : ∀ its2 : List Value, Vals zs its2 → (Heap.IsList s.heap b its2.toArray ∨ Heap.IsTuple s.heap b its2.toArray) → wpAny (model X.prog X.w) X.A (call (.builtin "list.extend") [.ref l, .ref b]) (EP X pins σ Q) X.xe s := by
    intro its2 r2 hsrc
    have hl2 := r2.length
    have hsz : its.toArray.size + its2.toArray.size ≤ sizeLine := by rw [List.size_toArray, List.size_toArray]; omega
    have hlong : ¬ (!its.toArray.isEmpty && Builtin.List.listTooLong (its.toArray.size + its2.toArray.size)) = true := by
      rw [notLongL hsz, Bool.and_false]
      exact Bool.false_ne_true
    have done : EP X pins σ Q .none { s with heap := s.heap.update l (Obj.mapSeq (· ++ its2.toArray)) } := ⟨.non, _, I.lset (its' := its ++ its2) hH e (by simp) (r.append r2) (by rw [List.length_append]; omega), rfl, q⟩
    refine wpAny_call_entry PySem.F.slot_list_extend ⟨_, e, rfl⟩ PySem.F.entry_list_extend ?_ (PySem.F.args_list_extend_2 _ _)
    show wpAny _ _ (Builtin.List.listExtendWith (.ref l) (.ref b) .none) _ _ s
    unfold Builtin.List.listExtendWith
    rcases hsrc with ⟨o2, g2, c2, n2, d2⟩ | ⟨o2, g2, c2, n2, d2⟩
    · refine wpAny_bind (wpAny_typeOf (T := "list") ⟨o2, g2, c2⟩ ?_)
      rw [if_pos (by rw [show (Value.type "list" == Value.type "list") = true from rfl]; simp)]
      refine wpAny_bind (listItems_at g2 d2 ?_)
      refine wpAny_bind (listItems_at e rfl ?_)
      rw [if_neg hlong]
      refine wpAny_bind (listUpdate_at e rfl ?_ (by rw [List.size_toArray]; omega) (by rw [Array.size_append]; omega))
      exact wpAny_pure ⟨_, rfl, done⟩
    · refine wpAny_bind (wpAny_typeOf (T := "tuple") ⟨o2, g2, c2⟩ ?_)
      rw [if_pos (by rw [show (Value.type "tuple" == Value.type "tuple") = true from rfl]; simp)]
      refine wpAny_bind (listItems_at g2 d2 ?_)
      refine wpAny_bind (listItems_at e rfl ?_)
      rw [if_neg hlong]
      refine wpAny_bind (listUpdate_at e rfl ?_ (by rw [List.size_toArray]; omega) (by rw [Array.size_append]; omega))
      exact wpAny_pure ⟨_, rfl, done⟩
  rcases hB with hs | hs
  · obtain ⟨its2, rv, pl, _⟩ := I.list hs
    exact fin its2 rv (.inl pl.isList)
  · obtain ⟨its2, rv, pl, _⟩ := I.tuple hs
    exact fin its2 rv (.inr pl)
theorem e_lm1 {m : Mt} {name : Str} {id : String} {r : V → List V → Hp → VK → Prop} (sl : Slot "list" name id) (ty : typeOf (.builtin id) = pure (.type "method_descriptor")) (hm : MtR X id r) {o : E} {es : List E} {po : Expr} {pe : Expr} {pes : List Expr} {apos cpos : Pos}
    (hok : ∀ st d, mtOk st m d = true → ∃ n xs, d = .ref n ∧ getS st n = .lst xs)
    (hs : ∀ {g : Gh} {H : Hp} {st : Sto} {Q : VK} {W : XW} {d : D} {ds : List D} {v : V} {vs : List V}, At N0 bs g H st → RepD N0 g d v → RepDs N0 g ds vs → PostD cl bs g H st (mtS bs m d ds st) Q W → r v vs H Q)
    (ho : sE cl bs W C X po o) (ha : PA X (pe :: pes) (rdA cl bs W (fun env st => evs C bs env es st))) (hb : isBase po = true) (hl : (apos.endLine == cpos.line) = true) (hns : noStars (pe :: pes) = true) (h30 : Nat.blt pes.length 20 = true) :
    sE cl bs W C X (.Call (.Attribute po name apos) (pe :: pes) [] cpos) (.meth m o es) := by
  obtain ⟨n1, n2⟩ := Bool.and_eq_true_iff.mp hns
  have few : ((backTo cpos (starEach (pe :: pes) X.env)).all (fun x => !x.1) && (backToKw cpos (keywordEach [] X.env)).all (fun x => x.1.isSome) && decide ((pe :: pes).length + ([] : List Keyword).length + (if ([] : List Keyword).isEmpty then 0 else 1) < 30)) = true := by
    have a1 : (backTo cpos (starEach (pe :: pes) X.env)).any (·.1) = false := stars_any hns
    have a2 : (backTo cpos (starEach (pe :: pes) X.env)).all (fun x => !x.1) = true := by
      rw [List.all_eq_not_any_not]
      simpa using a1
    rw [a2]
    show (true && true && decide ((pe :: pes).length + 0 + 0 < 30)) = true
    have : pes.length < 20 := Nat.le_of_ble_eq_true h30
    rw [List.length_cons, decide_eq_true (by omega)]
    rfl
  exact e_lm hok (fun hpo hpa => ⟨_, pe_bm PySem.F.plainAttrs_list sl ty hm hpo hpa (base_ok hb _ _ _) few hl (star_cons n1 _ _) (stars_any n2), fun σ H Q q => q⟩) hs ho ha
theorem e_lm0 {m : Mt} {name : Str} {id : String} {r : V → List V → Hp → VK → Prop} (sl : Slot "list" name id) (ty : typeOf (.builtin id) = pure (.type "method_descriptor")) (hm : MtR X id r) {o : E} {po : Expr} {apos cpos : Pos}
    (hok : ∀ st d, mtOk st m d = true → ∃ n xs, d = .ref n ∧ getS st n = .lst xs)
    (hs : ∀ {g : Gh} {H : Hp} {st : Sto} {Q : VK} {W : XW} {d : D} {v : V}, At N0 bs g H st → RepD N0 g d v → PostD cl bs g H st (mtS bs m d [] st) Q W → r v [] H Q)
    (ho : sE cl bs W C X po o) (hb : isBase po = true) (hl : (apos.endLine == cpos.line) = true) : sE cl bs W C X (.Call (.Attribute po name apos) [] [] cpos) (.meth m o []) := by
  refine se_fin (c := cMeth C bs m o []) ((pe_bm0 PySem.F.plainAttrs_list sl ty hm ho.v (base_ok hb _ _ _) hl).imp fun σ H Q q => ?_) (fun _ => rfl)
  obtain ⟨g, st, env, a, er, p⟩ := q
  refine ⟨g, st, env, a, er, Post.bind (Rep' := RepD N0) p fun d st1 v g1 H1 a1 s1 r1 p1 => ?_⟩
  obtain ⟨k, p1⟩ := chk_post p1
  obtain ⟨n, xs, rfl, hn⟩ := hok st1 d k
  exact ⟨list_tyV a1.ok r1 rfl hn, hs a1 r1 p1⟩
theorem s_extend {g : Gh} {H : Hp} {st : Sto} {Q : VK} {W : XW} {d : D} {ds : List D} {v : V} {vs : List V} (a : At N0 bs g H st) (rd : RepD N0 g d v) (rs : RepDs N0 g ds vs) (p : PostD cl bs g H st (mtS bs .extend d ds st) Q W) : rExt X.K v vs H Q := by
  have p : PostD cl bs g H st (mtExtend bs d ds st) Q W := p
  unfold mtExtend at p
  split at p
  · rename_i n x
    obtain ⟨w, rfl, rw'⟩ := reps1 rs
    split at p
    · rename_i xs hn
      split at p
      · rename_i ys hy
        obtain ⟨k1, p⟩ := chk_post p
        obtain ⟨k2, p⟩ := chk_post p
        obtain ⟨b, ws, h1, h2, h3, h4⟩ := a.ok.lstAt hn
        obtain ⟨b', hb, rfl⟩ := rd
        have eb := Option.some.inj (hb.symm.trans h1)
        subst eb
        obtain ⟨c, zs, rfl, hs, hr⟩ := a.ok.items hy rw'
        obtain ⟨a1, s1⟩ := lst_put a hn hb (RepDs.app h4 hr) fun d hd q hq hnq => by
          rcases List.mem_append.mp hd with hd | hd
          · exact old_low a hn d hd q hq hnq
          · exact okWs_ok k1 d hd q hq hnq
        refine ⟨b', c, ws, zs, rfl, rfl, h3, ?_, by rw [line_eq, ← h4.len, ← hr.len]; exact Nat.le_of_ble_eq_true k2, Post.fin' (Rep := RepD N0) p a1 s1 (show Dp N0 _ _ _ from .non)⟩
        rcases hs with hs | hs
        · exact .inl (sql_k hs)
        · exact .inr (sqt_k hs)
      · exact p.elim
    · exact p.elim
  · exact p.elim
theorem cutLast_eq {α : Type} : ∀ (r : List α) (x : α), (cutLast x r).1 = (x :: r).dropLast ∧ (x :: r)[r.length]? = some (cutLast x r).2
  | [], x => ⟨rfl, rfl⟩
  | y :: r, x => by
    obtain ⟨h1, h2⟩ := cutLast_eq r y
    refine ⟨?_, ?_⟩
    · show x :: (cutLast y r).1 = x :: (y :: r).dropLast
      rw [h1]
    · show (x :: y :: r)[r.length + 1]? = some (cutLast y r).2
      rw [List.getElem?_cons_succ]; exact h2
theorem reps_dropLast {g : Gh} {ds : List D} {vs : List V} (r : RepDs N0 g ds vs) : RepDs N0 g ds.dropLast vs.dropLast := by
  rw [List.dropLast_eq_take, List.dropLast_eq_take, r.len]
  exact r.take _
theorem s_pop {g : Gh} {H : Hp} {st : Sto} {Q : VK} {W : XW} {d : D} {v : V} (a : At N0 bs g H st) (rd : RepD N0 g d v) (p : PostD cl bs g H st (mtS bs .pop d [] st) Q W) : rPop v [] H Q := by
  have p : PostD cl bs g H st (mtPop d [] st) Q W := p
  unfold mtPop at p
  split at p
  · rename_i n _
    split at p
    · rename_i x r hn
      obtain ⟨b, ws, h1, h2, h3, h4⟩ := a.ok.lstAt hn
      obtain ⟨b', hb, rfl⟩ := rd
      have eb := Option.some.inj (hb.symm.trans h1)
      subst eb
      obtain ⟨e1, e2⟩ := cutLast_eq r x
      obtain ⟨y, hy, ry⟩ := h4.get e2
      have rl := reps_dropLast h4
      rw [← e1] at rl
      obtain ⟨a1, s1⟩ := lst_put a hn hb rl fun d hd q hq hnq => by
        rw [e1] at hd
        exact old_low a hn d (List.dropLast_subset _ hd) q hq hnq
      have hl : ws.length - 1 = r.length := by rw [← h4.len]; rfl
      exact ⟨b', ws, y, rfl, rfl, h3, by rw [hl]; exact hy, Post.fin' (Rep := RepD N0) p a1 s1 (s1.rep ry)⟩
    · exact p.elim
  · exact p.elim
theorem eraseN_eq {α : Type} : ∀ (l : List α) (k : Nat), eraseN l k = l.eraseIdx k
  | [], _ => rfl
  | _ :: _, 0 => rfl
  | x :: r, n + 1 => congrArg (x :: ·) (eraseN_eq r n)
theorem reps_erase {g : Gh} {ds : List D} {vs : List V} (r : RepDs N0 g ds vs) (k : Nat) : RepDs N0 g (ds.eraseIdx k) (vs.eraseIdx k) := by
  induction r generalizing k with
  | nil => exact .nil
  | cons a b ih => cases k with
    | zero => exact b
    | succ k => exact .cons a (ih k)
theorem seqIx {n k : Nat} {i : Int} (h : ixN n i = some k) : seqIndex? i n = some k := by
  have q : L2.ixN n i = some k := by rw [← ixN_eq]; exact h
  exact (ixN_seq q).1
theorem s_popAt {g : Gh} {H : Hp} {st : Sto} {Q : VK} {W : XW} {d : D} {ds : List D} {v : V} {vs : List V} (a : At N0 bs g H st) (rd : RepD N0 g d v) (rs : RepDs N0 g ds vs) (p : PostD cl bs g H st (mtS bs .popAt d ds st) Q W) : rPopAt v vs H Q := by
  have p : PostD cl bs g H st (mtPopAt d ds st) Q W := p
  unfold mtPopAt at p
  split at p
  · rename_i n i _
    obtain ⟨w, rfl, rw'⟩ := reps1 rs
    have ew := dp_int rw'
    subst ew
    split at p
    · rename_i xs hn
      split at p
      · rename_i k hk
        split at p
        · rename_i x hx
          obtain ⟨k1, p⟩ := chk_post p
          obtain ⟨b, ws, h1, h2, h3, h4⟩ := a.ok.lstAt hn
          obtain ⟨b', hb, rfl⟩ := rd
          have eb := Option.some.inj (hb.symm.trans h1)
          subst eb
          obtain ⟨y, hy, ry⟩ := h4.get hx
          have rl := reps_erase h4 k
          rw [← eraseN_eq] at rl
          obtain ⟨a1, s1⟩ := lst_put a hn hb rl fun d hd q hq hnq => by
            rw [eraseN_eq] at hd
            exact old_low a hn d (List.mem_of_mem_eraseIdx hd) q hq hnq
          have e62 : -(2 ^ 62) ≤ i ∧ i < 2 ^ 62 := by
            unfold small62 at k1
            obtain ⟨q1, q2⟩ := Bool.and_eq_true_iff.mp k1
            exact ⟨of_decide_eq_true q1, of_decide_eq_true q2⟩
          exact ⟨b', ws, i, k, y, rfl, rfl, h3, by omega, by omega, by rw [← h4.len]; exact seqIx hk, hy, Post.fin' (Rep := RepD N0) p a1 s1 (s1.rep ry)⟩
        · exact p.elim
      · exact p.elim
    · exact p.elim
  · exact p.elim
def rIns : V → List V → Hp → VK → Prop := fun x vs H Q => ∃ (l : Addr) (xs : List V) (i : Int) (y : V), x = .ref l ∧ vs = [.int i, y] ∧ H l = some (.lst xs) ∧ xs.length < sizeLine ∧ 0 ≤ i ∧ i < 2 ^ 63 ∧
    Q .non (upd H l (.lst (xs.take i.toNat ++ [y] ++ xs.drop i.toNat)))
theorem s_insert {g : Gh} {H : Hp} {st : Sto} {Q : VK} {W : XW} {d : D} {ds : List D} {v : V} {vs : List V} (a : At N0 bs g H st) (rd : RepD N0 g d v) (rs : RepDs N0 g ds vs) (p : PostD cl bs g H st (mtS bs .insert d ds st) Q W) : rIns v vs H Q := by
  have p : PostD cl bs g H st (mtInsert bs d ds st) Q W := p
  unfold mtInsert at p
  split at p
  · rename_i n i x _
    obtain ⟨w, y, rfl, rw', ry⟩ := reps2 rs
    have ew := dp_int rw'
    subst ew
    split at p
    · rename_i xs hn
      obtain ⟨k1, p⟩ := chk_post p
      obtain ⟨k2, p⟩ := chk_post p
      obtain ⟨k3, p⟩ := chk_post p
      obtain ⟨b, ws, h1, h2, h3, h4⟩ := a.ok.lstAt hn
      obtain ⟨b', hb, rfl⟩ := rd
      have eb := Option.some.inj (hb.symm.trans h1)
      subst eb
      have k3' : i ≤ LINE := Nat.le_of_ble_eq_true k3
      have LN : LINE = 16777216 := rfl
      have rl : RepDs N0 g (xs.take i ++ x :: xs.drop i) (ws.take i ++ [y] ++ ws.drop i) := by
        rw [List.append_assoc]
        exact RepDs.app (h4.take i) (.cons ry (h4.drop i))
      obtain ⟨a1, s1⟩ := lst_put a hn hb rl fun d hd q hq hnq => by
        rcases List.mem_append.mp hd with hd | hd
        · exact old_low a hn d (List.mem_of_mem_take hd) q hq hnq
        · rcases List.mem_cons.mp hd with e | hd
          · rw [e]; exact okW_ok k1 q hq hnq
          · exact old_low a hn d (List.mem_of_mem_drop hd) q hq hnq
      have hl : ws.length < sizeLine := by rw [line_eq, ← h4.len]; exact Nat.le_of_ble_eq_true k2
      exact ⟨b', ws, (i : Int), y, rfl, rfl, h3, hl, by omega, by omega, Post.fin' (Rep := RepD N0) p a1 s1 (show Dp N0 _ _ _ from .non)⟩
    · exact p.elim
  · exact p.elim
/-! ### remove -/
theorem vals_erase : ∀ {xs : List V} {us : List Value} (k : Nat), Vals xs us → Vals (xs.eraseIdx k) (us.eraseIdx k)
  | [], _, _, r => by cases r; exact .nil
  | _ :: _, _, 0, r => by cases r with | cons a b => exact b
  | _ :: _, _, k + 1, r => by cases r with | cons a b => exact .cons a (vals_erase k b)
def rRem (K : PySem.W.Frag) : V → List V → Hp → VK → Prop := fun x vs H Q => ∃ (l : Addr) (xs : List V) (y : V) (ds : List PyData) (d : PyData) (j : Nat), x = .ref l ∧ vs = [y] ∧ H l = some (.lst xs) ∧ Dp K H (.ref l) (.list ds) ∧ Dp K H y d ∧ SeqAt.shaped (.list ds) = true ∧ SeqAt.shaped d = true ∧
  findP d ds = some j ∧ Q .non (upd H l (.lst (xs.eraseIdx j)))
theorem findP_ok {d : PyData} : ∀ {ds : List PyData} {j : Nat}, findP d ds = some j → ∃ z, ds[j]? = some z ∧ PyData.eqv z d = true ∧ ∀ m z', m < j → ds[m]? = some z' → PyData.eqv z' d = false
  | [], _, h => by cases h
  | x :: r, j, h => by
    unfold findP at h
    cases q : PyData.eqv x d with
    | true =>
      rw [q] at h
      cases h
      exact ⟨x, rfl, q, fun m _ hm => absurd hm (Nat.not_lt_zero _)⟩
    | false =>
      rw [q] at h
      have h : (findP d r).map (· + 1) = some j := h
      cases e : findP d r with
      | none => rw [e] at h; cases h
      | some i =>
        rw [e] at h
        cases h
        obtain ⟨z, h1, h2, h3⟩ := findP_ok e
        refine ⟨z, by rw [List.getElem?_cons_succ]; exact h1, h2, fun m z' hm hz => ?_⟩
        cases m with
        | zero =>
          rw [List.getElem?_cons_zero] at hz
          cases hz
          exact q
        | succ m => exact h3 m z' (Nat.lt_of_succ_lt_succ hm) (by rw [List.getElem?_cons_succ] at hz; exact hz)
theorem mt_rem (hu : X.A.units + 65 < cLine) : MtM X "list.remove" (rRem X.K) := by
  intro pins s σ H x vs v us Q I rx rv h
  obtain ⟨l, xs, y, ds, d, j, rfl, rfl, hH, hL, hy, sl, sd, hf, q⟩ := h
  obtain ⟨l', xs', el, hs, ha⟩ := dp_lst hL
  cases el
  have ex := I.list_inj hs (SqL.of hH)
  subst ex
  obtain ⟨z, hz, hzj, hno⟩ := findP_ok hf
  cases rx
  obtain ⟨u, rfl, ru⟩ := rv.one
  obtain ⟨bs, r1⟩ := Dp.reads I d y u hy ru
  have hxs : PyData.canLayAll0 ds = true := SeqAt.canLay_of_shaped sl
  have hroom : X.A.units + 1 + min (PyData.depthAll ds) d.depth < cLine := room_in_shaped sd hu
  obtain ⟨z0, its, n, r, hl, e⟩ := I.lstM hH
  obtain ⟨as, h4⟩ := Dp.readsAll I ds _ its ha r
  have hn : its.length = ds.length := SeqAt.ReadsAll.length ds its as h4
  have hmap : its.map (SeqAt.readOf s.heap) = ds := SeqAt.readsAll_map ds its as hxs h4
  have hvl := r.length
  have hsl := sizeLine_eq
  obtain ⟨hjd, _⟩ := List.getElem?_eq_some_iff.mp hz
  have hjl : j < its.length := by omega
  have hj : j < its.toArray.size := by simpa using hjl
  have at_ : ∀ (m : Nat) (hm : m < its.toArray.size) (z' : PyData), ds[m]? = some z' → SeqAt.readOf s.heap its.toArray[m] = z' := by
    intro m hm z' hz'
    have hml : m < its.length := by simpa using hm
    rw [← hmap, List.getElem?_map, List.getElem?_eq_getElem hml] at hz'
    have e1 : SeqAt.readOf s.heap its[m] = z' := Option.some.inj (show some (SeqAt.readOf s.heap its[m]) = some z' from hz')
    simpa using e1
  have hsz : its.toArray.size ≤ sizeLine := by rw [List.size_toArray]; omega
  refine call_meets PySem.F.slot_list_remove ⟨_, e, rfl⟩ PySem.F.entry_list_remove (PySem.F.args_list_remove_2 _ _)
    (SeqAt.list_removeAt l its.toArray n _ _ u (fun u => PyData.eqv (SeqAt.readOf s.heap u) d) j hj ?_ ?_ hsz) ⟨e, SeqAt.items_eqAt (vs := its.toArray) (show ReadsAll s.heap its.toArray.toList ds as from h4) r1 hxs (SeqAt.canLay_of_shaped sd) hroom, ?_⟩
  · show PyData.eqv (SeqAt.readOf s.heap its.toArray[j]) d = true
    rw [at_ j hj z hz]
    exact hzj
  · intro m hm hmj
    have hmd : m < ds.length := by omega
    have hz' : ds[m]? = some ds[m] := List.getElem?_eq_getElem hmd
    show PyData.eqv (SeqAt.readOf s.heap its.toArray[m]) d = false
    rw [at_ m hm _ hz']
    exact hno m _ hmj hz'
  · exact ⟨.non, _, I.lset (its' := its.eraseIdx j) hH e (by simp [Array.eraseIdxIfInBounds, hjl]) (vals_erase j r) (by have := List.length_eraseIdx_le xs' j; omega), rfl, q⟩
theorem s_remove {g : Gh} {H : Hp} {st : Sto} {Q : VK} {W : XW} {d : D} {ds : List D} {v : V} {vs : List V} (a : At N0 bs g H st) (rd : RepD N0 g d v) (rs : RepDs N0 g ds vs) (p : PostD cl bs g H st (mtS bs .remove d ds st) Q W) : rRem X.K v vs H Q := by
  have p : PostD cl bs g H st (mtRemove d ds st) Q W := p
  unfold mtRemove at p
  split at p
  · rename_i n x
    obtain ⟨w, rfl, rw'⟩ := reps1 rs
    split at p
    · rename_i xs hn
      split at p
      · rename_i ps y hp hy
        split at p
        · rename_i k hk
          obtain ⟨k1, p⟩ := chk_post p
          obtain ⟨k2, p⟩ := chk_post p
          obtain ⟨b, ws, h1, h2, h3, h4⟩ := a.ok.lstAt hn
          have dl : Dp N0 H v (.list ps) := peek_ok a.ok _ rd hp
          have dy : Dp N0 H w y := peek_ok a.ok _ rw' hy
          obtain ⟨b', hb, rfl⟩ := rd
          have eb := Option.some.inj (hb.symm.trans h1)
          subst eb
          have rl := reps_erase h4 k
          rw [← eraseN_eq] at rl
          obtain ⟨a1, s1⟩ := lst_put a hn hb rl fun d hd q hq hnq => by
            rw [eraseN_eq] at hd
            exact old_low a hn d (List.mem_of_mem_eraseIdx hd) q hq hnq
          exact ⟨b', ws, w, ps, y, k, rfl, rfl, h3, dp_k _ _ dl, dp_k _ _ dy, shaped_of k1, shaped_of k2, hk, Post.fin' (Rep := RepD N0) p a1 s1 (show Dp N0 _ _ _ from .non)⟩
        · exact p.elim
      · exact p.elim
    · exact p.elim
  · exact p.elim
/-! ### the methods -/
theorem lst_okR {st : Sto} {n : Nat} (k : (match getS st n with | .lst _ => true | _ => false) = true) : ∃ m xs, D.ref n = .ref m ∧ getS st m = .lst xs := by
  cases hn : getS st n with
  | lst xs => exact ⟨n, xs, rfl, hn⟩
  | _ => rw [hn] at k; cases k
theorem mtOk_ext {st : Sto} {d : D} (k : mtOk st .extend d = true) : ∃ n xs, d = .ref n ∧ getS st n = .lst xs := by
  cases d with
  | p x => cases k
  | ref n => exact lst_okR k
theorem mtOk_pop {st : Sto} {d : D} (k : mtOk st .pop d = true) : ∃ n xs, d = .ref n ∧ getS st n = .lst xs := by
  cases d with
  | p x => cases k
  | ref n => exact lst_okR k
theorem mtOk_popAt {st : Sto} {d : D} (k : mtOk st .popAt d = true) : ∃ n xs, d = .ref n ∧ getS st n = .lst xs := by
  cases d with
  | p x => cases k
  | ref n => exact lst_okR k
theorem mtOk_ins {st : Sto} {d : D} (k : mtOk st .insert d = true) : ∃ n xs, d = .ref n ∧ getS st n = .lst xs := by
  cases d with
  | p x => cases k
  | ref n => exact lst_okR k
theorem mtOk_rem {st : Sto} {d : D} (k : mtOk st .remove d = true) : ∃ n xs, d = .ref n ∧ getS st n = .lst xs := by
  cases d with
  | p x => cases k
  | ref n => exact lst_okR k
theorem e_extend {o : E} {es : List E} {po pe : Expr} {pes : List Expr} {apos cpos : Pos} (ho : sE cl bs W C X po o) (ha : PA X (pe :: pes) (rdA cl bs W (fun env st => evs C bs env es st))) (hb : isBase po = true) (hl : (apos.endLine == cpos.line) = true) (hns : noStars (pe :: pes) = true) (h30 : Nat.blt pes.length 20 = true) :
    sE cl bs W C X (.Call (.Attribute po "extend" apos) (pe :: pes) [] cpos) (.meth .extend o es) := e_lm1 PySem.F.slot_list_extend PySem.F.type_list_extend mt_ext (fun _ _ => mtOk_ext) s_extend ho ha hb hl hns h30
theorem e_popAt {o : E} {es : List E} {po pe : Expr} {pes : List Expr} {apos cpos : Pos} (ho : sE cl bs W C X po o) (ha : PA X (pe :: pes) (rdA cl bs W (fun env st => evs C bs env es st))) (hb : isBase po = true) (hl : (apos.endLine == cpos.line) = true) (hns : noStars (pe :: pes) = true) (h30 : Nat.blt pes.length 20 = true) :
    sE cl bs W C X (.Call (.Attribute po "pop" apos) (pe :: pes) [] cpos) (.meth .popAt o es) := e_lm1 PySem.F.slot_list_pop PySem.F.type_list_pop mt_popAt (fun _ _ => mtOk_popAt) s_popAt ho ha hb hl hns h30
theorem e_insert {o : E} {es : List E} {po pe : Expr} {pes : List Expr} {apos cpos : Pos} (ho : sE cl bs W C X po o) (ha : PA X (pe :: pes) (rdA cl bs W (fun env st => evs C bs env es st))) (hb : isBase po = true) (hl : (apos.endLine == cpos.line) = true) (hns : noStars (pe :: pes) = true) (h30 : Nat.blt pes.length 20 = true) :
    sE cl bs W C X (.Call (.Attribute po "insert" apos) (pe :: pes) [] cpos) (.meth .insert o es) := e_lm1 PySem.F.slot_list_insert PySem.F.type_list_insert mt_insert (fun _ _ => mtOk_ins) s_insert ho ha hb hl hns h30
theorem e_remove (hu : X.A.units + 65 < cLine) {o : E} {es : List E} {po pe : Expr} {pes : List Expr} {apos cpos : Pos} (ho : sE cl bs W C X po o) (ha : PA X (pe :: pes) (rdA cl bs W (fun env st => evs C bs env es st))) (hb : isBase po = true) (hl : (apos.endLine == cpos.line) = true) (hns : noStars (pe :: pes) = true) (h30 : Nat.blt pes.length 20 = true) :
    sE cl bs W C X (.Call (.Attribute po "remove" apos) (pe :: pes) [] cpos) (.meth .remove o es) := e_lm1 PySem.F.slot_list_remove PySem.F.type_list_remove (mt_rem hu) (fun _ _ => mtOk_rem) s_remove ho ha hb hl hns h30
theorem e_pop {o : E} {po : Expr} {apos cpos : Pos} (ho : sE cl bs W C X po o) (hb : isBase po = true) (hl : (apos.endLine == cpos.line) = true) :
    sE cl bs W C X (.Call (.Attribute po "pop" apos) [] [] cpos) (.meth .pop o []) := e_lm0 PySem.F.slot_list_pop PySem.F.type_list_pop mt_pop (fun _ _ => mtOk_pop) s_pop ho hb hl
end
end Ev

/-! EvD: dicts are changed; methods of dicts. -/
namespace Ev
variable [FnTab]
open PySem PySem.Spec PyProof.Rows L2
section
variable {X : Cx} {cl : List (Addr × Option Str)} {bs : List Nat} {W : WX} {C : Cl}
theorem dPut_low {q : Nat} {kk : PyData} {d : Ev.D} : ∀ {kvs : List (PyData × Ev.D)}, (∀ z ∈ kvs, refLt q z.2) → refLt q d → ∀ z ∈ dPut kvs kk d, refLt q z.2
  | [], _, hd, z, hz => by
    cases List.mem_singleton.mp hz
    exact hd
  | (a, e) :: r, h, hd, z, hz => by
    unfold dPut at hz
    split at hz
    · rcases List.mem_cons.mp hz with e | hz
      · rw [e]; exact hd
      · exact h z (List.mem_cons_of_mem _ hz)
    · rcases List.mem_cons.mp hz with e | hz
      · rw [e]; exact h _ List.mem_cons_self
      · exact dPut_low (fun z hz => h z (List.mem_cons_of_mem _ hz)) hd z hz
theorem dPut_ne {k : PyData} {d : D} : ∀ {kvs : List (PyData × D)}, dPut kvs k d ≠ []
  | [], h => nomatch h
  | (a, e) :: r, h => by
    unfold dPut at h
    split at h <;> cases h
theorem dic_low {g : Gh} {H : Hp} {st : Sto} {n : Nat} {kvs : List (PyData × D)} (a : At N0 bs g H st) (hn : dicOf (getS st n) = some kvs) : ∀ q ∈ bs, n < q → ∀ z ∈ kvs, refLt q z.2 := fun q hq hnq => by
  have z := (a.w q hq).2 n hnq
  cases e : getS st n with
  | dct ks => rw [e] at z hn; cases hn; exact z
  | dtn ks => rw [e] at z hn; cases hn; exact z
  | fzd ks => rw [e] at z hn; cases hn; exact z
  | _ => rw [e] at hn; cases hn
section
variable {pins : List (Addr × Obj)} {σ : L2.St} {H : Hp} {s : Shared} {g : Gh} {st : Sto} {n : Nat} {b kb : Addr} {kvs : List (PyData × D)} {xs : List (NestedKey × Addr × Value)} {k : PyData} {d : D} {y v : V} {u r : Value}
/-- a dict with tuple keys has got an entry -/
theorem putN (I : Inv X pins σ H s) (a : At N0 bs g H st) (hb : g.mu[n]? = some b) (hmu : mutable (getS st n) = true) (hM : Mut (H b)) (hw : okW bs n d = true) (hkv : dicOf (getS st n) = some kvs) (hx : RepKn N0 g kvs xs) (hk : keyT k = true) (hkb : Dp N0 g.G (.ref kb) k)
    (rd : RepD N0 g d v) (rr : RelV v r) (hl : xs.length < sizeLine) (z : (b == sysModules) = false) {h' : Heap} {tk : Nat} (nd : (xs.map (·.1)).Nodup) (dd : h'.DictOfH (nestedKind X.prog X.w) b (storedH xs (EvK.kOf k) kb r)) (hs : Heap.SameBut b s.heap h') :
    ∃ ho, Inv X pins σ (upd H b ho) { s with heap := h', toks := tk } ∧ At N0 bs g (upd H b ho) (st.set n (.dtn (dPut kvs k d))) ∧ Step g H st g (upd H b ho) (st.set n (.dtn (dPut kvs k d))) := by
  have hl' : (storedH xs (EvK.kOf k) kb r).length ≤ sizeLine := by have := stored_len xs (EvK.kOf k) kb r; omega
  have raw := raw_of (X := X) z hl' dd
  have low : ∀ q' ∈ bs, n < q' → soLt q' (.dtn (dPut kvs k d)) := fun q' hq' hnq => dPut_low (dic_low a hkv q' hq' hnq) (okW_ok hw q' hq' hnq)
  obtain ⟨a1, s1⟩ := at_write (so := .dtn (dPut kvs k d)) (ho := .ext (RAW X.w b (storedH xs (EvK.kOf k) kb r))) a hmu hb rfl ⟨X.w, _, rfl, dPutN_ok hk hkb rr rd nd hx, dPut_ne⟩ low
  refine ⟨_, d_write I hM hs ?_ (ext_raw raw), a1, s1⟩
  obtain ⟨o, _, _, e, _⟩ := dd
  exact ⟨o, e⟩
/-- what putD asks of the dict, if the key is a tuple -/
theorem putD_T (a : At N0 bs g H st) (hb : g.mu[n]? = some b) {o' : SO} (hp : putD bs n (getS st n) k d = some o') (hk : keyT k = true) :
    ∃ kvs ho, dicOf (getS st n) = some kvs ∧ mutable (getS st n) = true ∧ okW bs n d = true ∧ keyFit kvs k = true ∧ kvs.length < LINE ∧ o' = .dtn (dPut kvs k d) ∧ H b = some ho ∧ Mut (some ho) ∧ DicH N0 g b kvs ho := by
  have hko : keyOk k = false := by
    obtain ⟨xs, e, _⟩ := EvK.keyT_tup hk
    subst e; rfl
  unfold putD at hp
  cases hw : okW bs n d with
  | false => rw [hw] at hp; cases hp
  | true =>
    rw [hw] at hp
    cases hn : getS st n with
    | dct kvs =>
      rw [hn] at hp
      dsimp only at hp
      rw [hko] at hp
      dsimp only at hp
      rw [hk] at hp
      cases kvs with
      | cons p q => cases hp
      | nil =>
        cases hp
        obtain ⟨b', ks, h1, h2, h3, h4⟩ := a.ok.dctAt hn
        rw [hb] at h1; cases h1
        refine ⟨[], _, rfl, rfl, rfl, ?_, by decide, rfl, h3, True.intro, .inl ⟨ks, rfl, h4⟩⟩
        show (match keyOk k with | true => true | false => keyT k) = true
        rw [hko]; exact hk
    | dtn kvs =>
      rw [hn] at hp
      dsimp only at hp
      rw [hk] at hp
      cases hl : Nat.blt kvs.length LINE with
      | false => rw [hl] at hp; cases hp
      | true =>
        rw [hl] at hp
        cases hp
        obtain ⟨b', w, xs, h1, h2, h3, h4, h5⟩ := a.ok.dtnAt hn
        rw [hb] at h1; cases h1
        refine ⟨kvs, _, rfl, rfl, rfl, ?_, Nat.le_of_ble_eq_true hl, rfl, h3, True.intro, .inr ⟨w, xs, rfl, h4, h5⟩⟩
        cases h4 with
        | nil => exact absurd rfl h5
        | @cons p q ps qs k1 k2 =>
          obtain ⟨a', d'⟩ := p
          obtain ⟨_, e, _⟩ := EvK.keyT_tup k1.1
          have e : a' = _ := e
          show (match keyOk a' with | true => keyOk k | false => keyT k) = true
          rw [e]; exact hk
    | _ => rw [hn] at hp; cases hp
/-- .. if it is a number or a text -/
theorem putD_K (a : At N0 bs g H st) (hb : g.mu[n]? = some b) {o' : SO} (hp : putD bs n (getS st n) k d = some o') (hk : keyT k = false) :
    ∃ kvs ks, getS st n = .dct kvs ∧ okW bs n d = true ∧ keyOk k = true ∧ kvs.length < LINE ∧ o' = .dct (dPut kvs k d) ∧ H b = some (.dK ks) ∧ RepKv N0 g kvs ks := by
  unfold putD at hp
  cases hw : okW bs n d with
  | false => rw [hw] at hp; cases hp
  | true =>
    rw [hw] at hp
    cases hn : getS st n with
    | dct kvs =>
      rw [hn] at hp
      dsimp only at hp
      cases hko : keyOk k with
      | false =>
        rw [hko] at hp
        dsimp only at hp
        rw [hk] at hp
        cases hp
      | true =>
        rw [hko] at hp
        dsimp only at hp
        cases hl : Nat.blt kvs.length LINE with
        | false => rw [hl] at hp; cases hp
        | true =>
          rw [hl] at hp
          cases hp
          obtain ⟨b', ks, h1, h2, h3, h4⟩ := a.ok.dctAt hn
          rw [hb] at h1; cases h1
          exact ⟨kvs, ks, rfl, rfl, rfl, Nat.le_of_ble_eq_true hl, rfl, h3, h4⟩
    | dtn kvs =>
      rw [hn] at hp
      dsimp only at hp
      rw [hk] at hp
      cases hp
    | _ => rw [hn] at hp; cases hp
/-- a dict with numbers and texts as keys has got an entry -/
theorem putK_ (I : Inv X pins σ H s) (a : At N0 bs g H st) (hb : g.mu[n]? = some b) {ks : List (Key × V)} (hn : getS st n = .dct kvs) (hw : okW bs n d = true) (hk : keyOk k = true) (hl : kvs.length < LINE) (hH : H b = some (.dK ks)) (rk : RepKv N0 g kvs ks) (ry : Dp N0 g.G y k) (rd : RepD N0 g d v) :
    ∃ q, y = kV q ∧ ks.length < sizeLine ∧ At N0 bs g (upd H b (.dK (putK ks q v))) (st.set n (.dct (dPut kvs k d))) ∧ Step g H st g (upd H b (.dK (putK ks q v))) (st.set n (.dct (dPut kvs k d))) := by
  obtain ⟨q, hq⟩ := keyOk_some hk
  have nd : (ks.map (·.1)).Nodup := by
    obtain ⟨z, hd, vs, rel, dd⟩ := dk_of I.hok hH
    obtain ⟨o, es, ep, _, _, _, _, _, hnd⟩ := dd
    rw [KV.keys rel]
    exact hnd
  have hkv : dicOf (getS st n) = some kvs := by rw [hn]; rfl
  have low : ∀ q' ∈ bs, n < q' → soLt q' (.dct (dPut kvs k d)) := fun q' hq' hnq => dPut_low (dic_low a hkv q' hq' hnq) (okW_ok hw q' hq' hnq)
  obtain ⟨a1, s1⟩ := at_write (so := .dct (dPut kvs k d)) (ho := .dK (putK ks q v)) a (by rw [hn]; rfl) hb rfl ⟨_, rfl, dPut_ok hq rd nd rk⟩ low
  have hlen : kvs.length = ks.length := Paired.length rk
  exact ⟨q, keyP_rel hq ry, by rw [line_eq, ← hlen]; exact hl, a1, s1⟩
/-- d[k] = v -/
theorem s_putD {Q : Unit → Shared → Prop} {E : Value → Shared → Prop} {A : Around} (hu : A.units + 9 < cLine) (I : Inv X pins σ H s) (a : At N0 bs g H st) (hb : g.mu[n]? = some b) {o' : SO} (hp : putD bs n (getS st n) k d = some o') (hy : Dp N0 g.G y k) (rd : RepD N0 g d v) (ru : RelV y u) (rr : RelV v r)
    (h : ∀ H' s', Inv X pins σ H' s' → At N0 bs g H' (st.set n o') → Step g H st g H' (st.set n o') → Q () s') : wpAny (model X.prog X.w) A (PySem.setItem (.ref b) u r) Q E s := by
  cases hk : keyT k with
  | true =>
    obtain ⟨kvs, ho, h1, h2, h3, h4, h5, rfl, h7, h8, h9⟩ := putD_T a hb hp hk
    obtain ⟨kb, rfl⟩ := refN hk hy
    cases (show u = Value.ref kb from ru)
    rcases dic_at I a.ok.sub (.inl h7) h9 h4 with ⟨ks, q, k1, k2, k3⟩ | ⟨_, xs, k2, k3, k4, k5⟩
    · obtain ⟨zs, e, _⟩ := EvK.keyT_tup hk
      subst e; cases k3
    · have e : kvs.length = xs.length := Paired.length k3
      refine wpAny_setItem_heap (hsz := k5) (room8 hu) (key_is I a.ok.sub hk hy) k2 fun h' dd hs => ?_
      obtain ⟨ho', I', a', s'⟩ := putN I a hb h2 (by rw [h7]; exact h8) h3 h1 k3 hk hy rd rr (by rw [line_eq, ← e]; exact h5) k4 k2.nodup dd hs
      exact h _ _ I' a' s'
  | false =>
    obtain ⟨kvs, ks, h1, h2, h3, h4, rfl, h6, h7⟩ := putD_K a hb hp hk
    obtain ⟨q, rfl, k2, a1, s1⟩ := putK_ I a hb h1 h2 h3 h4 h6 h7 hy rd
    exact d_setItem (by omega) I (.inl ⟨ks, q, h6, rfl, k2, rfl⟩) ru rr fun s' I' => h _ _ I' a1 s1
/-- .. by a comprehension -/
theorem s_dictSet {Q : Unit → Shared → Prop} {E : Value → Shared → Prop} (hu : X.A.units + 9 < cLine) (I : Inv X pins σ H s) (a : At N0 bs g H st) (hb : g.mu[n]? = some b) {o' : SO} (hp : putD bs n (getS st n) k d = some o') (hy : Dp N0 g.G y k) (rd : RepD N0 g d v) (ru : RelV y u) (rr : RelV v r)
    (h : ∀ H' s', Inv X pins σ H' s' → At N0 bs g H' (st.set n o') → Step g H st g H' (st.set n o') → Q () s') : wpAny (model X.prog X.w) X.A (dictSet b u r) Q E s := by
  cases hk : keyT k with
  | true =>
    obtain ⟨kvs, ho, h1, h2, h3, h4, h5, rfl, h7, h8, h9⟩ := putD_T a hb hp hk
    obtain ⟨kb, rfl⟩ := refN hk hy
    cases (show u = Value.ref kb from ru)
    rcases dic_at I a.ok.sub (.inl h7) h9 h4 with ⟨ks, q, k1, k2, k3⟩ | ⟨_, xs, k2, k3, k4, k5⟩
    · obtain ⟨zs, e, _⟩ := EvK.keyT_tup hk
      subst e; cases k3
    · have e : kvs.length = xs.length := Paired.length k3
      refine wpAny_dictSet_heap (hsz := k5) (show X.A.units + 8 < cLine by omega) (key_is I a.ok.sub hk hy) k2 fun h' dd hs => ?_
      obtain ⟨ho', I', a', s'⟩ := putN I a hb h2 (by rw [h7]; exact h8) h3 h1 k3 hk hy rd rr (by rw [line_eq, ← e]; exact h5) k4 k2.nodup dd hs
      exact h _ _ I' a' s'
  | false =>
    obtain ⟨kvs, ks, h1, h2, h3, h4, rfl, h6, h7⟩ := putD_K a hb hp hk
    obtain ⟨q, rfl, k2, a1, s1⟩ := putK_ I a hb h1 h2 h3 h4 h6 h7 hy rd
    exact d_dictSet I h6 k2 ru rr fun s' I' => h _ _ I' a1 s1
end

/-! ### methods of dicts -/
def dTy (X : Cx) (x : V) (H : Hp) : Prop := ∀ pins σ s v, Inv X pins σ H s → RelV x v → s.TypeIs v "dict" ∧ ∀ a, v = .ref a → ∃ ob, s.heap.get? a = some ob ∧ ob.dict = none
theorem pe_dm {r : V → List V → Hp → VK → Prop} {name : Str} {id : String} {o e : Expr} {es : List Expr} {apos cpos : Pos} {to : TE} {t : TA} (slot : Slot "dict" name id) (hty : typeOf (.builtin id) = pure (.type "method_descriptor")) (hm : MtR X id r) (ho : PE X o to) (ha : PA X (e :: es) t)
    (hbase : attributeBase o name X.env (eval o X.env) = eval o X.env)
    (hfew : ((backTo cpos (starEach (e :: es) X.env)).all (fun x => !x.1) && (backToKw cpos (keywordEach [] X.env)).all (fun x => x.1.isSome)
      && decide ((e :: es).length + ([] : List Keyword).length + (if ([] : List Keyword).isEmpty then 0 else 1) < 30)) = true)
    (hline : (apos.endLine == cpos.line) = true) (hs : starEach (e :: es) X.env = (false, eval e X.env) :: starEach es X.env) (hplain : (backTo cpos (starEach es X.env)).any (·.1) = false) :
    PE X (.Call (.Attribute o name apos) (e :: es) [] cpos) (fun σ H Q => to σ H fun x H1 => dTy X x H1 ∧ t σ H1 fun vs H2 => r x vs H2 Q) := by
  refine ⟨fun pins s σ H Q I h => ?_⟩
  refine wpAny_Call_method_late hbase hfew hline rfl (thn (ho.run pins s σ H _ I h) fun v s1 ⟨x, H1, I1, r1, ty, q1⟩ => ?_)
  obtain ⟨h1, h2⟩ := ty pins σ s1 v I1 r1
  refine ⟨"dict", id, PySem.F.plainAttrs_dict, slot, hty, h1, h2, ?_⟩
  have hA := ha.run cpos pins s1 σ H1 _ I1 q1
  rw [hs] at hA ⊢
  refine Calls.callWith_builtin (by show (false || (backTo cpos (starEach es X.env)).any (·.1)) = false; rw [hplain] <;> rfl) (Calls.evalArgs_plain ?_)
  exact thn hA fun us s2 ⟨vs, H2, I2, r2, q2⟩ => hm pins s2 σ H2 x vs v us Q I2 r1 r2 q2
def rM (cl : List (Addr × Option Str)) (bs : List Nat) (m : Mt) : V → List V → Hp → VK → Prop := fun x vs H Q => ∃ g st d ds W, At N0 bs g H st ∧ RepD N0 g d x ∧ RepDs N0 g ds vs ∧ PostD cl bs g H st (mtS bs m d ds st) Q W
theorem e_dm1 {m : Mt} {name : Str} {id : String} (sl : Slot "dict" name id) (ty : typeOf (.builtin id) = pure (.type "method_descriptor")) (hm : MtR X id (rM cl bs m)) {o : E} {es : List E} {po : Expr} {pe : Expr} {pes : List Expr} {apos cpos : Pos}
    (hok : ∀ st d, mtOk st m d = true → ∃ n kvs, d = .ref n ∧ dicOf (getS st n) = some kvs)
    (ho : sE cl bs W C X po o) (ha : PA X (pe :: pes) (rdA cl bs W (fun env st => evs C bs env es st))) (hb : isBase po = true) (hl : (apos.endLine == cpos.line) = true) (hns : noStars (pe :: pes) = true) (h30 : Nat.blt pes.length 20 = true) :
    sE cl bs W C X (.Call (.Attribute po name apos) (pe :: pes) [] cpos) (.meth m o es) := by
  obtain ⟨n1, n2⟩ := Bool.and_eq_true_iff.mp hns
  have few : ((backTo cpos (starEach (pe :: pes) X.env)).all (fun x => !x.1) && (backToKw cpos (keywordEach [] X.env)).all (fun x => x.1.isSome) && decide ((pe :: pes).length + ([] : List Keyword).length + (if ([] : List Keyword).isEmpty then 0 else 1) < 30)) = true := by
    have a1 : (backTo cpos (starEach (pe :: pes) X.env)).any (·.1) = false := stars_any hns
    have a2 : (backTo cpos (starEach (pe :: pes) X.env)).all (fun x => !x.1) = true := by
      rw [List.all_eq_not_any_not]
      simpa using a1
    rw [a2]
    show (true && true && decide ((pe :: pes).length + 0 + 0 < 30)) = true
    have : pes.length < 20 := Nat.le_of_ble_eq_true h30
    rw [List.length_cons, decide_eq_true (by omega)]
    rfl
  refine se_fin (c := cMeth C bs m o es) ((pe_dm sl ty hm ho.v ha (base_ok hb _ _ _) few hl (star_cons n1 _ _) (stars_any n2)).imp fun σ H Q q => ?_) (fun _ => rfl)
  obtain ⟨g, st, env, a, er, p⟩ := q
  refine ⟨g, st, env, a, er, Post.bind (Rep' := RepD N0) p fun d st1 v g1 H1 a1 s1 r1 p1 => ?_⟩
  obtain ⟨k, p1⟩ := chk_post p1
  obtain ⟨n, kvs, rfl, hn⟩ := hok st1 d k
  refine ⟨fun pins σ s v' I rv => ?_, g1, st1, env, a1, er.step s1, Post.bind (Rep' := RepD N0) p1 fun ds st2 vs g2 H2 a2 s2 r2 p2 => ⟨g2, st2, .ref n, ds, _, a2, s2.rep r1, r2, p2⟩⟩
  obtain ⟨b, ho, h1, h2, h3⟩ := a1.ok.dicAt hn
  obtain ⟨b', hb', rfl⟩ := r1
  have eb := Option.some.inj (hb'.symm.trans h1)
  subst eb
  cases rv
  obtain ⟨t1, t2, _⟩ := dic_type I h2 h3
  exact ⟨t1, t2⟩
theorem dicB {st : Sto} {n : Nat} (k : (match dicOf (getS st n) with | some _ => true | none => false) = true) : ∃ m kvs, D.ref n = .ref m ∧ dicOf (getS st m) = some kvs := by
  cases hn : dicOf (getS st n) with
  | some kvs => exact ⟨n, kvs, rfl, hn⟩
  | none => rw [hn] at k; cases k
theorem m_get1 (hu : X.A.units + 9 < cLine) : MtR X "dict.get" (rM cl bs .get1) := by
  intro pins s σ H x vs v us Q I rx rv h
  obtain ⟨g, st, d, ds, W, a, r1, r2, p⟩ := h
  have p : PostD cl bs g H st (mtGet1 d ds st) Q W := p
  unfold mtGet1 at p
  split at p
  · rename_i n k _
    unfold mtGet at p
    cases hn : dicOf (getS st n) with
    | none => rw [hn] at p; exact p.elim
    | some kvs =>
      rw [hn] at p
      obtain ⟨hk, p⟩ := chk_post p
      obtain ⟨y, rfl, ry⟩ := reps1 r2
      obtain ⟨b, ho, h1, h2, h3⟩ := a.ok.dicAt hn
      obtain ⟨b', hb', rfl⟩ := r1
      have eb := Option.some.inj (hb'.symm.trans h1)
      subst eb
      cases rx
      obtain ⟨u, rfl, ru⟩ := vals1 rv
      exact dic_get1 hu I a.ok.sub h2 h3 hk ry ru fun v w' s' I' r' rd => ⟨v, H, I', r', Post.fin p a rd⟩
  · exact p.elim
theorem m_get2 (hu : X.A.units + 9 < cLine) : MtR X "dict.get" (rM cl bs .get2) := by
  intro pins s σ H x vs v us Q I rx rv h
  obtain ⟨g, st, d, ds, W, a, r1, r2, p⟩ := h
  have p : PostD cl bs g H st (mtGet2 d ds st) Q W := p
  unfold mtGet2 at p
  split at p
  · rename_i n k z _
    unfold mtGet at p
    cases hn : dicOf (getS st n) with
    | none => rw [hn] at p; exact p.elim
    | some kvs =>
      rw [hn] at p
      obtain ⟨hk, p⟩ := chk_post p
      obtain ⟨y, w, rfl, ry, rw'⟩ := reps2 r2
      obtain ⟨b, ho, h1, h2, h3⟩ := a.ok.dicAt hn
      obtain ⟨b', hb', rfl⟩ := r1
      have eb := Option.some.inj (hb'.symm.trans h1)
      subst eb
      cases rx
      cases rv with
      | cons ru rv2 => cases rv2 with
        | cons ru2 rv3 =>
          cases rv3
          exact dic_get2 hu I a.ok.sub h2 h3 hk ry ru ru2 rw' fun v w' s' I' r' rd => ⟨v, H, I', r', Post.fin p a rd⟩
  · exact p.elim
theorem m_setdef (hu : X.A.units + 9 < cLine) : MtR X "dict.setdefault" (rM cl bs .setdef) := by
  intro pins s σ H x vs v us Q I rx rv h
  obtain ⟨g, st, d, ds, W, a, r1, r2, p⟩ := h
  have p : PostD cl bs g H st (mtSetDef bs d ds st) Q W := p
  unfold mtSetDef at p
  split at p
  · rename_i n k z _
    cases hn : dicOf (getS st n) with
    | none => rw [hn] at p; exact p.elim
    | some kvs =>
      rw [hn] at p
      obtain ⟨hT, p⟩ := chk_post p
      obtain ⟨hk, p⟩ := chk_post p
      obtain ⟨y, w, rfl, ry, rw'⟩ := reps2 r2
      obtain ⟨b, ho, h1, h2, h3⟩ := a.ok.dicAt hn
      obtain ⟨b', hb', rfl⟩ := r1
      have eb := Option.some.inj (hb'.symm.trans h1)
      subst eb
      cases rx
      cases rv with
      | cons ru rv2 => cases rv2 with
        | cons ru2 rv3 =>
          cases rv3
          obtain ⟨kb, rfl⟩ := refN hT ry
          cases ru
          rcases dic_at I a.ok.sub h2 h3 hk with ⟨ks, q, k1, k2, k3⟩ | ⟨_, xs, k2, k3, k4, k5⟩
          · obtain ⟨zs, e, _⟩ := EvK.keyT_tup hT
            subst e; cases k3
          · have gk := dGetN_ok hT k3
            refine call_setdefault_heap (hsz := k5) (room8 hu) (key_is I a.ok.sub hT ry) k4 k2 (fun pp hpp => ?_) fun hnone h' dd hs => ?_
            · cases hz : dGet kvs k with
              | none => rw [hz] at gk; rw [gk] at hpp; cases hpp
              | some zz =>
                rw [hz] at gk p
                obtain ⟨p', v', e1, e2, e3⟩ := gk
                rw [hpp] at e1; cases e1
                exact ⟨v', H, I.tok _, e2, Post.fin p a e3⟩
            · cases hz : dGet kvs k with
              | some zz =>
                rw [hz] at gk
                obtain ⟨p', v', e1, e2, e3⟩ := gk
                rw [hnone] at e1; cases e1
              | none =>
                rw [hz] at p
                dsimp only at p
                cases hp : putD bs n (getS st n) k z with
                | none => rw [hp] at p; exact p.elim
                | some o' =>
                  rw [hp] at p
                  dsimp only at p
                  obtain ⟨kvs', ho', e1, e2, e3, e4, e5, rfl, e7, e8, e9⟩ := putD_T a hb' hp hT
                  rw [hn] at e1; cases e1
                  have el : kvs.length = xs.length := Paired.length k3
                  obtain ⟨ho2, I', a', s'⟩ := putN I a hb' e2 (by rw [e7]; exact e8) e3 hn k3 hT ry rw' ru2 (by rw [line_eq, ← el]; exact e5) k4 k2.nodup dd hs
                  exact ⟨w, _, I', ru2, Post.fin' (Rep := RepD N0) p a' s' (s'.rep rw')⟩
  · exact p.elim
theorem e_get1 (hu : X.A.units + 9 < cLine) {o : E} {es : List E} {po pe : Expr} {pes : List Expr} {apos cpos : Pos} (ho : sE cl bs W C X po o) (ha : PA X (pe :: pes) (rdA cl bs W (fun env st => evs C bs env es st))) (hb : isBase po = true) (hl : (apos.endLine == cpos.line) = true) (hns : noStars (pe :: pes) = true) (h30 : Nat.blt pes.length 20 = true) :
    sE cl bs W C X (.Call (.Attribute po "get" apos) (pe :: pes) [] cpos) (.meth .get1 o es) :=
  e_dm1 PySem.F.slot_dict_get PySem.F.type_dict_get (m_get1 hu) (fun st d k => by
    cases d with
    | p x => cases k
    | ref n => exact dicB k) ho ha hb hl hns h30
theorem e_get2 (hu : X.A.units + 9 < cLine) {o : E} {es : List E} {po pe : Expr} {pes : List Expr} {apos cpos : Pos} (ho : sE cl bs W C X po o) (ha : PA X (pe :: pes) (rdA cl bs W (fun env st => evs C bs env es st))) (hb : isBase po = true) (hl : (apos.endLine == cpos.line) = true) (hns : noStars (pe :: pes) = true) (h30 : Nat.blt pes.length 20 = true) :
    sE cl bs W C X (.Call (.Attribute po "get" apos) (pe :: pes) [] cpos) (.meth .get2 o es) :=
  e_dm1 PySem.F.slot_dict_get PySem.F.type_dict_get (m_get2 hu) (fun st d k => by
    cases d with
    | p x => cases k
    | ref n => exact dicB k) ho ha hb hl hns h30
theorem e_setdef (hu : X.A.units + 9 < cLine) {o : E} {es : List E} {po pe : Expr} {pes : List Expr} {apos cpos : Pos} (ho : sE cl bs W C X po o) (ha : PA X (pe :: pes) (rdA cl bs W (fun env st => evs C bs env es st))) (hb : isBase po = true) (hl : (apos.endLine == cpos.line) = true) (hns : noStars (pe :: pes) = true) (h30 : Nat.blt pes.length 20 = true) :
    sE cl bs W C X (.Call (.Attribute po "setdefault" apos) (pe :: pes) [] cpos) (.meth .setdef o es) :=
  e_dm1 PySem.F.slot_dict_setdefault PySem.F.type_dict_setdefault (m_setdef hu) (fun st d k => by
    cases d with
    | p x => cases k
    | ref n => exact dicB k) ho ha hb hl hns h30
end
end Ev

set_option maxHeartbeats 2000000
/-! EvK: sets of tuples of any make (keys nested), fewer than 64, made to be sorted or counted at once. -/
namespace EvK
open PySem PySem.Spec PyProof.Rows L2
section
variable {P : Program} {w : World} {A : Around} {E : Value → Shared → Prop} {s : Shared}
/-! ### small questions -/
mutual
def byV : NestedKey → Bool
  | .none => true
  | .num _ => true
  | .text _ => false
  | .tup ks => byVs ks
def byVs : List NestedKey → Bool
  | [] => true
  | k :: ks => byV k && byVs ks
end
/-- a question of a value that has an answer, at any place -/
def Ans (P : Program) (w : World) (s : Shared) (m : Sem Bool) (b : Bool) : Prop := ∀ (A : Around) (E : Value → Shared → Prop) (Q : Bool → Shared → Prop), Q b s → wpAny (model P w) A m Q E s
theorem cls_tup {n : Nat} {a : Addr} {o : Obj} {vs : Array Value} {m : Nat} (ho : s.heap.get? a = some o) (hc : o.cls = .type "tuple") (hd : o.data = .seq vs m) (hall : ∀ v ∈ vs.toList, Ans P w s (ofAClassStatement n v) false) :
    Ans P w s (ofAClassStatement (n + 1) (.ref a)) false := by
  intro A E Q hQ
  unfold ofAClassStatement
  refine wpAny_bind (wpAny_typeOf (T := "tuple") ⟨o, ho, hc⟩ ?_)
  simp only [show (("tuple" : String) == "tuple") = true by decide, if_true, Bool.not_true, Bool.false_eq_true, if_false]
  try refine wpAny_bind (wpAny_pure ?_)
  try simp only [Bool.not_true, Bool.false_eq_true, if_false]
  refine wpAny_bind (wpAny_seqItems (a := a) ho hd ?_)
  refine wpAny_bind ?_
  show wpAny _ _ (forIn vs _ _) _ _ s
  rw [← Array.forIn_toList]
  refine wpAny_forIn_list _ (fun l r u => (u = s ∧ r.1 = none) ∧ ∀ v ∈ l, Ans P w s (ofAClassStatement n v) false) _ (fun v l r u h => ?_) (fun r u h => ?_) _ _ ⟨⟨rfl, rfl⟩, hall⟩
  · obtain ⟨⟨e, _⟩, hl⟩ := h
    subst e
    refine wpAny_bind (hl v (List.mem_cons_self ..) _ _ _ ?_)
    exact wpAny_pure ⟨⟨rfl, rfl⟩, fun u hu => hl u (List.mem_cons_of_mem _ hu)⟩
  · obtain ⟨r1, r2⟩ := r
    obtain ⟨⟨e, e2⟩, _⟩ := h
    subst e
    have e2 : r1 = none := e2
    subst e2
    exact wpAny_pure hQ
mutual
theorem cls_key : ∀ (k : NestedKey) (v : Value) (n : Nat), NestedIs s.heap k v → k.depth ≤ n → Ans P w s (ofAClassStatement n v) false
  | .none, _, n, x, _ => by cases x; cases n <;> exact fun A E Q q => wpAny_pure q
  | .num _, _, n, x, _ => by cases x <;> cases n <;> exact fun A E Q q => wpAny_pure q
  | .text _, _, n, x, _ => by cases x; cases n <;> exact fun A E Q q => wpAny_pure q
  | .tup ks, _, n, x, hn => by
    cases x with
    | tup h1 h2 h3 h4 =>
      unfold NestedKey.depth at hn
      obtain ⟨m, rfl⟩ : ∃ m, n = m + 1 := ⟨n - 1, by omega⟩
      exact cls_tup h1 h2 h3 (cls_keys ks _ m h4 (by omega))
theorem cls_keys : ∀ (ks : List NestedKey) (vs : List Value) (n : Nat), NestedAll s.heap ks vs → NestedKey.depthAll ks ≤ n → ∀ v ∈ vs, Ans P w s (ofAClassStatement n v) false
  | [], _, _, x, _, v, hv => by cases x; cases hv
  | k :: ks, _, n, x, hn, v, hv => by
    cases x with
    | cons x1 x2 =>
      unfold NestedKey.depthAll at hn
      rcases List.mem_cons.mp hv with e | hv
      · rw [e]; exact cls_key k _ n x1 (by omega)
      · exact cls_keys ks _ n x2 (by omega) v hv
end
/-- the questions asked of items, one behind another -/
inductive AllAns (P : Program) (w : World) (s : Shared) (f : Value → Sem Bool) : List Value → Bool → Prop
  | nil : AllAns P w s f [] true
  | cons {v : Value} {vs : List Value} {b c : Bool} : Ans P w s (f v) b → AllAns P w s f vs c → AllAns P w s f (v :: vs) (b && c)
theorem hash_tup {n : Nat} {a : Addr} {o : Obj} {vs : Array Value} {m : Nat} {b : Bool} (ho : s.heap.get? a = some o) (hc : o.cls = .type "tuple") (hd : o.data = .seq vs m) (hall : AllAns P w s (hashByValue n) vs.toList b) :
    Ans P w s (hashByValue (n + 1) (.ref a)) b := by
  intro A E Q hQ
  unfold hashByValue
  refine wpAny_bind (wpAny_specialOf (T := "tuple") ⟨o, ho, hc⟩ F.slot_tuple_hash.lookup ?_)
  refine wpAny_bind (wpAny_seqItems (a := a) ho hd ?_)
  refine wpAny_bind ?_
  show wpAny _ _ (forIn vs _ _) _ _ s
  rw [← Array.forIn_toList]
  refine wpAny_forIn_list _ (fun l r u => (u = s ∧ r.1 = none) ∧ AllAns P w s (hashByValue n) l b) _ (fun v l r u h => ?_) (fun r u h => ?_) _ _ ⟨⟨rfl, rfl⟩, hall⟩
  · obtain ⟨⟨e, _⟩, hl⟩ := h
    subst e
    generalize hq : v :: l = vl at hl
    cases hl with
    | nil => cases hq
    | @cons _ _ c d h1 h2 =>
      cases hq
      refine wpAny_bind (h1 _ _ _ ?_)
      cases c with
      | true => exact wpAny_pure ⟨⟨rfl, rfl⟩, by simpa using h2⟩
      | false => exact wpAny_pure (wpAny_pure hQ)
  · obtain ⟨r1, r2⟩ := r
    obtain ⟨⟨e, e2⟩, h2⟩ := h
    subst e
    have e2 : r1 = none := e2
    subst e2
    cases h2
    exact wpAny_pure hQ
mutual
theorem hash_key : ∀ (k : NestedKey) (v : Value) (n : Nat), NestedIs s.heap k v → k.depth ≤ n → Ans P w s (hashByValue n v) (byV k)
  | .none, _, n, x, _ => by cases x; cases n <;> exact fun A E Q q => wpAny_pure q
  | .num _, _, n, x, _ => by cases x <;> cases n <;> exact fun A E Q q => wpAny_pure q
  | .text _, _, n, x, _ => by cases x; cases n <;> exact fun A E Q q => wpAny_pure q
  | .tup ks, _, n, x, hn => by
    cases x with
    | tup h1 h2 h3 h4 =>
      unfold NestedKey.depth at hn
      obtain ⟨m, rfl⟩ : ∃ m, n = m + 1 := ⟨n - 1, by omega⟩
      exact hash_tup h1 h2 h3 (hash_keys ks _ m h4 (by omega))
theorem hash_keys : ∀ (ks : List NestedKey) (vs : List Value) (n : Nat), NestedAll s.heap ks vs → NestedKey.depthAll ks ≤ n → AllAns P w s (hashByValue n) vs (byVs ks)
  | [], _, _, x, _ => by cases x; exact .nil
  | k :: ks, _, n, x, hn => by
    cases x with
    | cons x1 x2 =>
      unfold NestedKey.depthAll at hn
      exact .cons (hash_key k _ n x1 (by omega)) (hash_keys ks _ n x2 (by omega))
end
/-- an element: a tuple at a place, no deeper than eight -/
structure El (h : Heap) (k : NestedKey) (v : Value) : Prop where
  ref : ∃ b, v = .ref b
  is : NestedIs h k v
  dp : k.depth ≤ 8
/-- looking for one element among others shows nothing -/
theorem seen_none {k : NestedKey} {v : Value} {ys : List Value} (hx : El s.heap k v) (hy : ∀ y ∈ ys, ∃ l, El s.heap l y) : Ans P w s (searchCouldBeSeen v ys) false := by
  intro A E Q hQ
  obtain ⟨b, rfl⟩ := hx.ref
  unfold searchCouldBeSeen
  refine wpAny_bind ?_
  refine wpAny_forIn_list _ (fun l r u => (u = s ∧ r.1 = none) ∧ ∀ y ∈ l, ∃ l, El s.heap l y) _ (fun y l r u h => ?_) (fun r u h => ?_) _ _ ⟨⟨rfl, rfl⟩, hy⟩
  · obtain ⟨⟨e, _⟩, hl⟩ := h
    subst e
    have more : ∀ y ∈ l, ∃ l, El u.heap l y := fun z hz => hl z (List.mem_cons_of_mem _ hz)
    obtain ⟨l0, h0⟩ := hl y (List.mem_cons_self ..)
    obtain ⟨c, rfl⟩ := h0.ref
    dsimp only
    by_cases hv : (b == c || (carriedByValue (.ref b) && carriedByValue (.ref c))) = true
    · exact wp_if_pos hv (wpAny_pure ⟨⟨rfl, rfl⟩, more⟩)
    · refine wp_if_neg hv (wpAny_bind (quiet_key _ _ 8 _ hx.is hx.dp _ _ _ ?_))
      refine wpAny_bind (quiet_key _ _ 8 _ h0.is h0.dp _ _ _ ?_)
      refine wpAny_bind (cls_key _ _ 8 hx.is hx.dp _ _ _ ?_)
      refine wpAny_bind (cls_key _ _ 8 h0.is h0.dp _ _ _ ?_)
      exact wpAny_pure ⟨⟨rfl, rfl⟩, more⟩
  · obtain ⟨r1, r2⟩ := r
    obtain ⟨⟨e, e2⟩, _⟩ := h
    subst e
    have e2 : r1 = none := e2
    subst e2
    exact wpAny_pure hQ
/-! ### the table -/
abbrev KV := NestedKey × Value
def row (w : World) (p : KV) : Int × Value := (p.1.hash w, p.2)
/-- the set at a holds these, in this order of slots -/
structure Hold (w : World) (h : Heap) (a : Addr) (L : List KV) (es : Array (Int × Value)) (ep : Nat) (t : SetTable) : Prop where
  ob : ∃ o, h.get? a = some o ∧ o.ExactSet ∧ o.data = .set es ep t
  rows : es.toList = L.map (row w)
  tab : TabOk t (L.map fun p => p.1.hash w)
  one : (L.map Prod.fst).Nodup
  led : w.params.followText "set-order" = true ∨ t.led = true
  room : L.length * 5 < t.mask * 3
  few : L.length < 64
def Els (h : Heap) (L : List KV) : Prop := ∀ p ∈ L, El h p.1 p.2
theorem rows_size {w : World} {L : List KV} {es : Array (Int × Value)} (h : es.toList = L.map (row w)) : es.size = L.length := by
  have := congrArg List.length h
  simpa using this
theorem rows_get {w : World} {L : List KV} {es : Array (Int × Value)} (h : es.toList = L.map (row w)) (i : Nat) : es[i]? = (L[i]?).map (row w) := by
  rw [← Array.getElem?_toList, h, List.getElem?_map]
theorem fits_of {t : SetTable} {n : Nat} (h1 : t.place.size = n) (h2 : t.dummies = #[]) (h3 : n ≤ t.mask) : t.fits n = true := by
  unfold SetTable.fits SetTable.fill
  simp [h1, h2, h3]
theorem Hold.fits {a : Addr} {h : Heap} {L : List KV} {es : Array (Int × Value)} {ep : Nat} {t : SetTable} (R : Hold w h a L es ep t) : t.fits es.size = true := by
  have h1 := R.tab.sz
  rw [List.length_map] at h1
  have h2 := R.room
  exact fits_of (by rw [h1, rows_size R.rows]) R.tab.dm (by rw [rows_size R.rows]; omega)
theorem Hold.odd {a : Addr} {h : Heap} {L : List KV} {es : Array (Int × Value)} {ep : Nat} {t : SetTable} (R : Hold w h a L es ep t) : ¬ t.gaveWay = true := by
  rcases R.tab.mok with e | e | e <;> (unfold SetTable.gaveWay; rw [e]; decide)
/-- the steps of a search -/
abbrev pos (m : Nat) (h : Int) (c : Nat) : SetTable.Probe := nth m (runAt m (SetTable.bits h % (m + 1)) (SetTable.bits h)) c
theorem pos_plain (m : Nat) (h : Int) (c : Nat) : (pos m h c).dummy = none := by
  have key : ∀ (n : Nat) (p : SetTable.Probe), p.dummy = none → (nth m p n).dummy = none := by
    intro n
    induction n with
    | zero => exact fun p e => e
    | succ n ih =>
      intro p e
      refine ih _ ?_
      unfold adv
      split
      · exact e
      · exact e
  exact key c _ rfl
theorem pos_add (m : Nat) (h : Int) (c q : Nat) : nth m (pos m h c) q = pos m h (c + q) := (nth_add m c _ q).symm
section
variable {a : Addr} {L : List KV} {es : Array (Int × Value)} {ep : Nat} {t : SetTable}
/-- the search for k, from its c-th step on: ahead of it k has not been met -/
theorem find_from (R : Hold w s.heap a L es ep t) (El' : Els s.heap L) {k : NestedKey} {v : Value} (hx : El s.heap k v) (hu : A.units + 8 < cLine) {K : Nat} (hf : K < 10 * SetTable.turns t.mask)
    (hK : way t.mask (k.hash w) K ∉ t.place.toList) (hb : ∀ c, c < K → way t.mask (k.hash w) c ∈ t.place.toList) {Q : SetFound → Shared → Prop}
    (yes : k ∈ L.map Prod.fst → Q (.there none) s) (no : k ∉ L.map Prod.fst → Q (.free (way t.mask (k.hash w) K) false) s) :
    ∀ (f c : Nat) (stand : Option SetTable.Probe), stand.getD (t.probeStart (k.hash w)) = pos t.mask (k.hash w) c → c ≤ K → K - c < f →
      (∀ c', c' < c → ∀ (i : Nat) (p : KV), t.place.toList[i]? = some (way t.mask (k.hash w) c') → L[i]? = some p → p.1 ≠ k) → wpAny (model P w) A (setSearchFrom a v (k.hash w) true f stand) Q E s := by
  intro f
  induction f with
  | zero => intro c stand _ _ h; exact absurd h (Nat.not_lt_zero _)
  | succ f ih =>
    intro c stand hst hc hn hne
    obtain ⟨b, rfl⟩ := hx.ref
    obtain ⟨o, ho, _, hd⟩ := R.ob
    have hs : t.place.toList.length = L.length := by
      have := R.tab.sz
      rw [Array.length_toList]
      simpa using this
    rw [setSearchFrom_succ]
    refine wpAny_bind (wpAny_setState_of ho hd R.fits (wp_if_neg R.odd ?_))
    try refine wpAny_bind (wpAny_pure ?_)
    have hash_at : ∀ (i : Nat) (p : KV), L[i]? = some p → ((es[i]?).map (fun x : Int × Value => x.1)).getD 0 = p.1.hash w := fun i p hp => by
      rw [rows_get R.rows, hp]
      rfl
    have at_way : ∀ q, (nth t.mask (pos t.mask (k.hash w) c) q).j = way t.mask (k.hash w) (c + q) := fun q => congrArg SetTable.Probe.j (pos_add t.mask (k.hash w) c q)
    have spec := go_spec t R.tab.ris R.tab.dm (fun i => ((es[i]?).map (fun x : Int × Value => x.1)).getD 0) (k.hash w) (10 * SetTable.turns t.mask) (K - c) (pos t.mask (k.hash w) c) (pos_plain _ _ _) (by omega)
      (fun q hq => by rw [at_way]; exact hb _ (by omega)) (by rw [at_way, Nat.add_sub_of_le hc]; exact hK)
    have pr : t.probe (fun i => ((es[i]?).map (fun x : Int × Value => x.1)).getD 0) (k.hash w) (stand.getD (t.probeStart (k.hash w))) = SetTable.probe.go t (fun i => ((es[i]?).map (fun x : Int × Value => x.1)).getD 0) (k.hash w) (10 * SetTable.turns t.mask) (pos t.mask (k.hash w) c) := by
      rw [hst]
      rfl
    rcases spec with ⟨q, i, hq, hi, hh, hno, hgo⟩ | ⟨hno, hgo⟩
    · rw [at_way] at hi hgo
      rw [pos_add] at hgo
      rw [pr, hgo]
      dsimp only
      have hil : i < L.length := by
        rw [← hs]
        exact (List.getElem?_eq_some_iff.mp hi).1
      obtain ⟨p, hp⟩ : ∃ p, L[i]? = some p := ⟨_, List.getElem?_eq_getElem hil⟩
      have hm := List.mem_of_getElem? hp
      obtain ⟨c2, e2⟩ := (El' p hm).ref
      have after : wpAny (model P w) A (searchRest a (.ref b) (k.hash w) true f es t (way t.mask (k.hash w) (c + q)) i (pos t.mask (k.hash w) (c + (q + 1)))) Q E s := by
        unfold searchRest
        rw [rows_get R.rows, hp]
        dsimp only [Option.map, row]
        refine wpAny_bind (wpAny_holding (eqAt_key p.1 k A s _ _ (El' p hm).is hx.is (by have := hx.dp; omega) _ _ _ _ ?_))
        refine wpAny_bind (wpAny_setState_of ho hd R.fits ?_)
        dsimp only
        cases he : NestedKey.beq p.1 k with
        | true => exact wp_if_pos rfl (wpAny_pure (yes (List.mem_map.mpr ⟨p, hm, NestedKey.eq_of_beq _ _ he⟩)))
        | false =>
          refine wp_if_neg (by decide) ?_
          try refine wpAny_bind (wpAny_pure ?_)
          rw [sameMem]
          dsimp only
          rw [if_pos rfl, slot_live R.tab.ris hi]
          dsimp only
          rw [rows_get R.rows, hp]
          dsimp only [Option.map, row]
          rw [e2]
          refine wpAny_bind (wpAny_isSame_ref_self (wpAny_bind (wpAny_pure ?_)))
          simp only [if_true]
          refine wp_if_neg (by decide) ?_
          refine ih (c + (q + 1)) _ rfl (by omega) (by omega) fun c' hc' i' p' hi' hp' e => ?_
          rcases Nat.lt_or_ge c' c with z | z
          · exact hne c' z i' p' hi' hp' e
          · rcases Nat.lt_or_ge c' (c + q) with y | y
            · refine hno (c' - c) i' (by omega) (by rw [at_way, Nat.add_sub_of_le z]; exact hi') ?_
              show ((es[i']?).map (fun x : Int × Value => x.1)).getD 0 = _
              rw [hash_at i' p' hp', e]
            · have ec : c' = c + q := by omega
              rw [ec] at hi'
              have s1 := slot_live R.tab.ris hi
              rw [slot_live R.tab.ris hi'] at s1
              cases s1
              rw [hp] at hp'
              cases hp'
              rw [e, NestedKey.beq_self] at he
              cases he
      cases hl : t.led with
      | true =>
        refine wp_if_neg (by decide) ?_
        try refine wpAny_bind (wpAny_pure ?_)
        exact after
      | false =>
        refine wp_if_pos rfl (wpAny_bind (seen_none hx (fun y hy => ?_) _ _ _ ?_))
        · obtain ⟨e, he, rfl⟩ := List.mem_map.mp hy
          have he1 : e ∈ es.toList := by
            have : e ∈ es ∧ e.1 = k.hash w := by simpa using he
            simpa using this.1
          rw [R.rows] at he1
          obtain ⟨p2, hp2, rfl⟩ := List.mem_map.mp he1
          exact ⟨_, El' p2 hp2⟩
        · refine wp_if_neg (by decide) ?_
          try refine wpAny_bind (wpAny_pure ?_)
          exact after
    · rw [at_way, Nat.add_sub_of_le hc] at hgo
      rw [pr, hgo]
      dsimp only
      refine wpAny_pure (no fun hm => ?_)
      obtain ⟨p, hp, e⟩ := List.mem_map.mp hm
      obtain ⟨i, hil, ei⟩ := List.getElem_of_mem hp
      have hp' : L[i]? = some p := by rw [List.getElem?_eq_getElem hil, ei]
      have hi : (L.map fun p => p.1.hash w)[i]? = some (k.hash w) := by rw [List.getElem?_map, hp', ← e]; rfl
      obtain ⟨j, hj⟩ : ∃ j, t.place.toList[i]? = some j := ⟨_, List.getElem?_eq_getElem (by rw [hs]; exact hil)⟩
      obtain ⟨c', hc', ew⟩ := R.tab.before hK hi hj
      rw [← ew] at hj
      rcases Nat.lt_or_ge c' c with z | z
      · exact hne c' z i p hj hp' e
      · refine hno (c' - c) i (by omega) (by rw [at_way, Nat.add_sub_of_le z]; exact hj) ?_
        show ((es[i]?).map (fun x : Int × Value => x.1)).getD 0 = _
        rw [hash_at i p hp', e]
theorem find_at (R : Hold w s.heap a L es ep t) (El' : Els s.heap L) {k : NestedKey} {v : Value} (hx : El s.heap k v) (hu : A.units + 8 < cLine) {Q : SetFound → Shared → Prop}
    (yes : k ∈ L.map Prod.fst → Q (.there none) s)
    (no : ∀ K, k ∉ L.map Prod.fst → way t.mask (k.hash w) K ∉ t.place.toList → (∀ c, c < K → way t.mask (k.hash w) c ∈ t.place.toList) → Q (.free (way t.mask (k.hash w) K) false) s) :
    wpAny (model P w) A (setSearch a v (k.hash w) true) Q E s := by
  have hr := R.room
  obtain ⟨K, h1, h2, h3⟩ := R.tab.first (by rw [List.length_map]; omega) (k.hash w)
  have hK : K < 100000 := by
    refine Nat.lt_trans h1 ?_
    unfold SetTable.turns
    rcases R.tab.mok with e | e | e <;> (rw [e]; decide)
  exact find_from R El' hx hu h1 h2 h3 yes (fun h => no K h h2 h3) 100000 0 none rfl (Nat.zero_le _) (by omega) fun c' h => absurd h (Nat.not_lt_zero _)
end
/-! ### another set of slots -/
theorem els_same {h h' : Heap} {L : List KV} {a : Addr} {o : Obj} {es : Array (Int × Value)} {ep : Nat} {t : SetTable} (x : Els h L) (ho : h.get? a = some o) (hd : o.data = .set es ep t) (hs : Heap.SameBut a h h') : Els h' L := fun p hp => by
  obtain ⟨r, i, d⟩ := x p hp
  refine ⟨r, NestedIs.at (fun b ob vs n hb hc => (hs.2 b fun e => ?_).trans hb) _ _ i, d⟩
  rw [e, ho] at hb
  cases hb
  rw [hd] at hc
  cases hc
theorem els_keep {h h' : Heap} {L : List KV} (x : Els h L) (hk : ∀ b o, h.get? b = some o → h'.get? b = some o) : Els h' L := fun p hp => by
  obtain ⟨r, i, d⟩ := x p hp
  exact ⟨r, NestedIs.at (fun b ob vs n hb _ => hk b ob hb) _ _ i, d⟩
/-- what is picked by an order of places -/
theorem pick_map {α β : Type} (f : α → β) (L : List α) : ∀ l : List Nat, l.filterMap (fun i => (L.map f)[i]?) = (l.filterMap fun i => L[i]?).map f
  | [] => rfl
  | i :: l => by
    have ih := pick_map f L l
    cases h : L[i]? with
    | none => rw [List.filterMap_cons_none (by rw [List.getElem?_map, h]; rfl), List.filterMap_cons_none h, ih]
    | some x => rw [List.filterMap_cons_some (b := f x) (by rw [List.getElem?_map, h]; rfl), List.filterMap_cons_some h, ih]; rfl
theorem pick_get {α : Type} (L : List α) (d : α) : ∀ l : List Nat, (∀ i ∈ l, i < L.length) → l.filterMap (fun i => L[i]?) = l.map fun i => L.getD i d
  | [], _ => rfl
  | i :: l, h => by
    have hi := h i (List.mem_cons_self ..)
    rw [List.filterMap_cons_some (List.getElem?_eq_getElem hi), pick_get L d l fun j hj => h j (List.mem_cons_of_mem _ hj), List.map_cons, List.getD_eq_getElem?_getD, List.getElem?_eq_getElem hi]
    rfl
theorem pick_all {α : Type} (L : List α) : (List.range L.length).filterMap (fun i => L[i]?) = L := by
  have key : ∀ (M N : List α), (List.range' M.length N.length).filterMap (fun i => (M ++ N)[i]?) = N := by
    intro M N
    induction N generalizing M with
    | nil => rfl
    | cons x N ih =>
      rw [List.length_cons, List.range'_succ, List.filterMap_cons_some (b := x) (by rw [List.getElem?_append_right (Nat.le_refl _), Nat.sub_self]; rfl)]
      have := ih (M ++ [x])
      rw [List.length_append, List.append_assoc] at this
      exact congrArg (x :: ·) this
  have := key [] L
  rw [List.range_eq_range']
  exact this
theorem pick_perm' {α : Type} {L : List α} {l : List Nat} (h : l.Perm (List.range L.length)) : (l.filterMap fun i => L[i]?).Perm L := by
  have := h.filterMap fun i => L[i]?
  rw [pick_all] at this
  exact this
section
variable {a : Addr} {L : List KV} {es : Array (Int × Value)} {ep : Nat} {t : SetTable}
/-- the table laid anew -/
theorem lay_at {o : Obj} (ho : s.heap.get? a = some o) (hex : o.ExactSet) (hd : o.data = .set es ep t) (hr : es.toList = L.map (row w)) (T : TabOk t (L.map fun p => p.1.hash w)) (hfl : L.length ≤ t.mask)
    (nd : (L.map Prod.fst).Nodup) (ld : w.params.followText "set-order" = true ∨ t.led = true) (few : L.length < 64) {wanted M : Nat} (hw : SetTable.sizeAbove wanted = M + 1) (hM : MaskOk M) (hn : L.length * 5 < M * 3) {Q : Unit → Shared → Prop}
    (hQ : ∀ h' L' es' ep' t', Heap.SameBut a s.heap h' → Hold w h' a L' es' ep' t' → L'.Perm L → Q () { s with heap := h' }) : wpAny (model P w) A (setRelay a wanted) Q E s := by
  have hsz := rows_size hr
  have hf : t.fits es.size = true := by
    have := T.sz
    rw [List.length_map] at this
    exact fits_of (by rw [this, hsz]) T.dm (by rw [hsz]; exact hfl)
  have hM2 : M ≤ 127 := by rcases hM with e | e | e <;> omega
  obtain ⟨t', order, e, hp, T', em, el, _, _⟩ := relaid_ok t (hs := es.map (·.1)) (wanted := wanted) (by rw [hw]; rfl) hM (by rw [Array.size_map, hsz]; omega)
  rw [Array.size_map, hsz] at hp
  have r1 : (order.filterMap (es[·]?)).toList = (order.toList.filterMap fun i => L[i]?).map (row w) := by
    rw [← pick_map, ← hr, Array.toList_filterMap]
    simp only [Array.getElem?_toList]
  have pm := pick_perm' hp
  have r3 : ((order.toList.filterMap fun i => L[i]?).map fun p => p.1.hash w) = order.toList.map fun i => (es.map (·.1)).getD i 0 := by
    rw [← pick_map, pick_get _ 0 _ fun i hi => by rw [List.length_map]; exact List.mem_range.mp (hp.mem_iff.mp hi)]
    refine List.map_congr_left fun i hi => ?_
    have hil : i < L.length := List.mem_range.mp (hp.mem_iff.mp hi)
    rw [List.getD_eq_getElem?_getD, List.getElem?_map, Array.getD_eq_getD_getElem?, Array.getElem?_map, rows_get hr, List.getElem?_eq_getElem hil]
    rfl
  rw [← r3] at T'
  generalize order.toList.filterMap (fun i => L[i]?) = L2 at r1 pm T'
  have hs2 := rows_size r1
  have hl2 := pm.length_eq
  rw [setRelay_eq]
  refine wpAny_bind (wpAny_setState_of ho hd hf (wp_if_neg (by rw [hw, sizeLine_eq]; omega) ?_))
  try refine wpAny_bind (wpAny_pure ?_)
  rw [e]
  refine wpAny_bind (wp_if_neg (by rw [hs2, hl2, hsz]; simp) ?_)
  try refine wpAny_bind (wpAny_pure ?_)
  refine wpAny_pure (wpAny_storeSet_of ho hd ?_ (by rw [hs2, hl2, sizeLine_eq]; omega))
  exact hQ _ L2 _ (ep + 1) t' (Heap.SameBut.update ..) ⟨⟨_, store_at ho hd, ⟨hex.1, hex.2.1, hex.2.2⟩, rfl⟩, r1, T', (pm.map _).nodup_iff.mpr nd, by rw [el]; exact ld, by rw [hl2, em]; exact hn, by rw [hl2]; exact few⟩ pm
/-- one is put in -/
theorem put_at (R : Hold w s.heap a L es ep t) (El' : Els s.heap L) {k : NestedKey} {v : Value} (hx : El s.heap k v) (hu : A.units + 8 < cLine) (few : L.length + 1 < 64) {Q : Bool → Shared → Prop}
    (hQ : ∀ b h' L' es' ep' t', Heap.SameBut a s.heap h' → Hold w h' a L' es' ep' t' → (k ∈ L.map Prod.fst → L' = L) → (k ∉ L.map Prod.fst → L'.Perm ((k, v) :: L)) → Q b { s with heap := h' }) :
    wpAny (model P w) A (setAddHashed a v (k.hash w)) Q E s := by
  obtain ⟨o, ho, hex, hd⟩ := R.ob
  have hsz := rows_size R.rows
  have hroom := R.room
  unfold setAddHashed
  refine wpAny_holding ?_
  obtain ⟨n, hn⟩ : ∃ n, n = 99999 := ⟨_, rfl⟩
  rw [show (100000 : Nat) = n + 1 by rw [hn], setAddHashedIn_succ]
  have hsc : ¬ byScan v es = true := by
    obtain ⟨b, rfl⟩ := hx.ref
    exact fun h => nomatch h
  refine wpAny_bind (wpAny_setState_of ho hd R.fits (wp_if_neg hsc ?_))
  try refine wpAny_bind (wpAny_pure ?_)
  refine wpAny_bind (find_at R El' hx hu (fun hm => ?_) fun K hm hK hb => ?_)
  · exact wpAny_pure (hQ false s.heap L es ep t (Heap.SameBut.refl a s.heap) R (fun _ => rfl) fun z => absurd hm z)
  · refine wpAny_bind (wpAny_setState_of ho hd R.fits ?_)
    obtain ⟨q1, q2, q3, q4, q5, q6, q7, q8, q9⟩ := R.tab.put hK hb
    dsimp only
    generalize t.put (way t.mask (k.hash w) K) = pt at q1 q3 q4 q5 q6 q7 q8 q9 ⊢
    obtain ⟨t1, p⟩ := pt
    dsimp only at q1 q3 q4 q5 q6 q7 q8 q9 ⊢
    rw [← q1] at q2 q3
    clear q1
    have ins : (SetTable.insertAt es p (k.hash w, v)).toList = (L.take p ++ (k, v) :: L.drop p).map (row w) := by
      rw [SetTable.toList_insertAt, R.rows, List.map_append, List.map_cons, List.map_take, List.map_drop]
      rfl
    have q3 : TabOk t1 ((L.take p ++ (k, v) :: L.drop p).map fun p => p.1.hash w) := by
      rw [List.map_append, List.map_cons, List.map_take, List.map_drop]
      exact q3
    have pm : (L.take p ++ (k, v) :: L.drop p).Perm ((k, v) :: L) := by
      have h : (L.take p ++ (k, v) :: L.drop p).Perm ((k, v) :: (L.take p ++ L.drop p)) := List.perm_middle
      rw [List.take_append_drop] at h
      exact h
    have nd : ((L.take p ++ (k, v) :: L.drop p).map Prod.fst).Nodup := (pm.map _).nodup_iff.mpr (List.nodup_cons.mpr ⟨hm, R.one⟩)
    generalize SetTable.insertAt es p (k.hash w, v) = es1 at ins ⊢
    generalize L.take p ++ (k, v) :: L.drop p = L1 at ins q3 pm nd
    have hl1 : L1.length = L.length + 1 := pm.length_eq
    have hs1 : es1.size = L.length + 1 := by rw [rows_size ins, hl1]
    have hfill : t1.fill = L.length + 1 := by rw [q9, List.length_map]
    -- whether the table stays as plain as it was
    have goOn : ∀ t2 : SetTable, TabOk t2 (L1.map fun p => p.1.hash w) → t2.mask = t.mask → t2.fill = L.length + 1 → t2.led = t.led →
        wpAny (model P w) A (do
          storeSet a es1 t2
          if !false && t2.tooFull then setRelay a (SetTable.grown (es.size + 1))
          return true) Q E s := fun t2 T2 m2 f2 l2 => by
      have sb : Heap.SameBut a s.heap (s.heap.update a (Obj.putSet es1 t2)) := Heap.SameBut.update ..
      have ho1 := store_at (es' := es1) (t' := t2) ho hd
      refine wpAny_bind (wpAny_storeSet_of ho hd ?_ (by rw [hs1, sizeLine_eq]; omega))
      generalize s.heap.update a (Obj.putSet es1 t2) = h1 at sb ho1 ⊢
      have ld : w.params.followText "set-order" = true ∨ t2.led = true := by rw [l2]; exact R.led
      by_cases hf : t2.tooFull = true
      · have big : (L.length + 1) * 5 ≥ t.mask * 3 := by
          have h := hf
          unfold SetTable.tooFull at h
          rw [f2, m2] at h
          exact of_decide_eq_true h
        rw [hsz]
        refine wp_if_pos (by simp [hf]) ?_
        have go : ∀ M, SetTable.sizeAbove (SetTable.grown (L.length + 1)) = M + 1 → MaskOk M → (L.length + 1) * 5 < M * 3 → L.length + 1 ≤ t.mask →
            wpAny (model P w) A (setRelay a (SetTable.grown (L.length + 1))) (fun _ u => wpAny (model P w) A (pure true) Q E u) E { s with heap := h1 } := fun M e1 e2 e3 e4 => by
          refine lay_at (s := { s with heap := h1 }) ho1 ⟨hex.1, hex.2.1, hex.2.2⟩ rfl ins T2 (by rw [hl1, m2]; exact e4) nd ld (by rw [hl1]; exact few) e1 e2 (by rw [hl1]; exact e3) fun h2 L2 es2 ep2 t3 sb2 R2 pm2 => ?_
          exact wpAny_pure (hQ true h2 L2 es2 ep2 t3 (sb.trans sb2) R2 (fun z => absurd z hm) fun _ => pm2.trans pm)
        refine wpAny_bind ?_
        rcases R.tab.mok with e | e | e
        · rw [e] at big hroom
          have : L.length = 4 := by omega
          rw [this]
          rw [this] at go
          exact go 31 size_20 (.inr (.inl rfl)) (by decide) (by rw [e]; decide)
        · rw [e] at big hroom
          have : L.length = 18 := by omega
          rw [this]
          rw [this] at go
          exact go 127 size_76 (.inr (.inr rfl)) (by decide) (by rw [e]; decide)
        · rw [e] at big
          omega
      · refine wp_if_neg (by simp [hf]) ?_
        refine wpAny_pure (hQ true h1 L1 es1 (ep + 1) t2 sb ⟨⟨_, ho1, ⟨hex.1, hex.2.1, hex.2.2⟩, rfl⟩, ins, T2, nd, ld, ?_, by rw [hl1]; exact few⟩ (fun z => absurd z hm) fun _ => pm)
        have h := hf
        unfold SetTable.tooFull at h
        rw [decide_eq_true_eq, f2, m2] at h
        rw [hl1, m2]
        omega
    cases hp : t1.plain with
    | false =>
      refine wp_if_neg Bool.false_ne_true (wpAny_bind (wpAny_pure ?_))
      exact goOn t1 q3 q4 hfill q5
    | true =>
      refine wp_if_pos rfl (wpAny_bind (hash_key _ _ 8 hx.is hx.dp _ _ _ ?_))
      cases byV k with
      | true => exact goOn t1 q3 q4 hfill q5
      | false => exact goOn { t1 with plain := false } ⟨q3.ris, q3.dm, q3.sz, q3.mok, q3.bd, q3.reach⟩ q4 hfill q5
end
/-! ### set(xs), whatever xs holds -/
/-- a set just made -/
abbrev bare (w : World) : Obj := { cls := .type "set", dict := none, data := .set #[] 0 (.fresh 0 0 (!w.params.followText "set-order")) }
/-- a loop that fills the set at S from an iterator -/
def Fills (P : Program) (w : World) (s : Shared) (S : Addr) (items : Array Value) (d : Nat) (Fin : Heap → Prop) : Prop :=
  ∀ (B : Around) (I : Addr) (fp wr : List Addr) (St : Nat → Shared → Prop) (u : Shared) (R : Result → Shared → Prop), B.in1.units ≤ d → WalksS P w B.in1 I fp wr (fun x y => y = x) items.size (fun i v => items[i]? = some v) St →
    S ∉ fp → (∀ b ∈ wr, s.heap.get? b = none) → St 0 u → (∀ b o, s.heap.get? b = some o → u.heap.get? b = some o) → u.heap.get? S = some (bare w) →
    (∀ u', Moved (S :: wr) (fun x y => y = x) u u' → Fin u'.heap → (∀ b o, s.heap.get? b = some o → u'.heap.get? b = some o) → R (.ok (.ret .none)) u') → codeAny (model P w) B (.builtin "set.update.loop" ⟨[.ref S, .ref I], []⟩) R u
theorem gone {h : Heap} {b : Addr} (hb : h.objs.size ≤ b) : h.get? b = none := by
  cases q : h.get? b with
  | none => rfl
  | some o => exact absurd (Heap.lt_size q) (Nat.not_lt.mpr hb)
theorem set_call {l : Addr} {items : Array Value} (src : s.heap.IsList l items ∨ s.heap.IsTuple l items) (hh : A.handled = none) {Fin : Heap → Prop} (loop : Fills P w s s.heap.objs.size items (A.units + 3) Fin) {Q : Value → Shared → Prop}
    (h : ∀ (h' : Heap) (tk : Nat), Fin h' → (∀ b o, s.heap.get? b = some o → h'.get? b = some o) → Q (.ref s.heap.objs.size) { s with heap := h', toks := tk }) : wpAny (model P w) A (call (.type "set") [.ref l]) Q E s := by
  obtain ⟨cA, cB, hmro⟩ := F.called_set.mro
  have x1 := F.called_set.made
  have x2 := F.called_set.sub
  have x3 := F.called_set.notType
  have x4 := F.called_set.canCreate
  have x5 := F.typeCall_set_1 (.ref l)
  have hlS : l < s.heap.objs.size := by
    rcases src with ⟨o, ho, _⟩ | ⟨o, ho, _⟩ <;> exact Heap.lt_size ho
  have hS : (s.heap.push (bare w)).get? s.heap.objs.size = some (bare w) := Heap.get?_push_size _ rfl
  have hz : (s.heap.push (bare w)).objs.size = s.heap.objs.size + 1 := Heap.size_push ..
  have hSf : s.heap.objs.size ∉ [s.heap.objs.size + 1, l] := fun z => (List.mem_cons.mp z).elim (Nat.ne_of_lt (Nat.lt_succ_self _)) fun z => Nat.ne_of_gt hlS (List.mem_singleton.mp z)
  have hne : l ≠ s.heap.objs.size + 1 := Nat.ne_of_lt (Nat.lt_succ_of_lt hlS)
  refine wpAny_call (codeAny_of_tree (show wpAny _ _ (callAny (.type "set") _) _ _ _ from wpAny_pure ⟨Code.quiet_builtin _ (by decide +kernel), codeAny_builtin F.entry_type_call ?_⟩))
  rw [Around.under_plain (weight_type_call_type "set" [.ref l] []) rfl]
  repeat (any_goals (first | assumption | wp_step))
  refine codeAny_mono (code_set_led1 (.ref l) (E := E) (Q₁ := fun x u => x = .ref s.heap.objs.size ∧ u = { s with heap := s.heap.push (bare w) }) ⟨rfl, rfl⟩) fun r u hr => ?_
  rcases r with e | fl
  · exact hr
  rcases fl with x | x | x <;> first | exact hr.elim | skip
  obtain ⟨rfl, rfl⟩ := hr
  have hT : Shared.TypeIs { s with heap := s.heap.push (bare w) } (.ref s.heap.objs.size) "set" := ⟨_, hS, rfl⟩
  have x6 := F.called_set.init.lookup
  have x7 := F.called_set.init.bind (.ref s.heap.objs.size)
  repeat (any_goals (first | assumption | wp_step))
  refine codeAny_mono (codeAny_call_builtin (R := wants (fun r u => r = .none ∧ ∃ h' tk, u = { s with heap := h', toks := tk } ∧ Fin h' ∧ ∀ b o, s.heap.get? b = some o → h'.get? b = some o) E) F.called_set.init.plain F.entry_set_init (check_set_init_1 hT ?_)) fun r u hr => ?_
  · have fin : ∀ (B : Around) (St : Nat → Shared → Prop) (it : Obj), B.in1.units ≤ A.units + 3 → WalksS P w B.in1 (s.heap.objs.size + 1) [s.heap.objs.size + 1, l] [s.heap.objs.size + 1] (fun x y => y = x) items.size (fun i v => items[i]? = some v) St →
        St 0 { s with heap := (s.heap.push (bare w)).push it } → ∀ R : Result → Shared → Prop, (∀ h' tk, Fin h' → (∀ b o, s.heap.get? b = some o → h'.get? b = some o) → R (.ok (.ret .none)) { s with heap := h', toks := tk }) →
        codeAny (model P w) B (.builtin "set.update.loop" ⟨[.ref s.heap.objs.size, .ref (s.heap.objs.size + 1)], []⟩) R { s with heap := (s.heap.push (bare w)).push it } := fun B St it hB W st R hR => by
      refine loop B _ _ _ St _ _ hB W hSf (fun b hb => gone (by rw [List.mem_singleton.mp hb]; omega)) st (fun b o e => Heap.get?_push_of_some _ (Heap.get?_push_of_some _ e)) (Heap.get?_push_of_some _ hS) fun u' m f k => ?_
      obtain ⟨h', g', d', tk', os'⟩ := u'
      obtain rfl : g' = s.gens := m.gens
      obtain rfl : d' = s.drawn := m.drawn
      obtain rfl : os' = s.os := m.os
      exact hR h' tk' f k
    have at1 : ∀ (it : Obj), it.isFreed = false → ((s.heap.push (bare w)).push it).get? (s.heap.objs.size + 1) = some it := fun it hf => by
      rw [← hz]
      exact Heap.get?_push_size _ hf
    rcases src with ⟨ol, hol, hcl, nl, hdl⟩ | ⟨ol, hol, hcl, nl, hdl⟩
    · obtain ⟨ocls, odict, odata, oslots⟩ := ol
      cases hcl
      cases hdl
      have hol' : (s.heap.push (bare w)).get? l = some { cls := .type "list", dict := odict, data := .seq items nl, slots := oslots } := Heap.get?_push_of_some _ hol
      have y1 := F.sub_list_set
      have y2 := F.sub_list_frozenset
      have y3 : (Value.type "list" == Value.type "dict") = false := by decide
      have hl1 : (s.heap.push (bare w)).IsList l items := ⟨_, hol', rfl, nl, rfl⟩
      unfold Builtin.«set.__init__» noKeywords Builtin.Frozenset.updateFrom
      generalize hPI : pyIter = PI
      wp_walk
      subst hPI
      refine wpAny_pyIter_list hl1 (wpAny_bind (wpAny_runValue ?_))
      rw [hz]
      refine fin _ (fun i u => u.heap.IsListIter (s.heap.objs.size + 1) l i ∧ u.heap.IsList l items) { cls := .type "list_iterator", data := .fields #[.ref l, .int 0 0] } (Nat.le_refl _) (Walks.list (by simp [hh]) _ l hne items).toS ⟨⟨_, at1 _ rfl, rfl, rfl⟩, hl1.push _⟩ _ fun h' tk f k => ?_
      exact wpAny_pure (wpAny_pure ⟨rfl, h', tk, rfl, f, k⟩)
    · obtain ⟨ocls, odict, odata, oslots⟩ := ol
      cases hcl
      cases hdl
      have hol' : (s.heap.push (bare w)).get? l = some { cls := .type "tuple", dict := odict, data := .seq items nl, slots := oslots } := Heap.get?_push_of_some _ hol
      have y1 := F.sub_tuple_set
      have y2 := F.sub_tuple_frozenset
      have y3 : (Value.type "tuple" == Value.type "dict") = false := by decide
      have hl1 : (s.heap.push (bare w)).IsTuple l items := ⟨_, hol', rfl, nl, rfl⟩
      unfold Builtin.«set.__init__» noKeywords Builtin.Frozenset.updateFrom
      generalize hPI : pyIter = PI
      wp_walk
      subst hPI
      refine wpAny_pyIter_tuple hl1 (wpAny_bind (wpAny_runValue ?_))
      rw [hz]
      refine fin _ (fun i u => u.heap.IsTupleIter (s.heap.objs.size + 1) l i ∧ u.heap.IsTuple l items) { cls := .type "tuple_iterator", data := .fields #[.ref l, .int 0 0] } (Nat.le_refl _) (Walks.tuple (by simp [hh]) _ l hne items).toS ⟨⟨_, at1 _ rfl, rfl, rfl⟩, hl1.push _⟩ _ fun h' tk f k => ?_
      exact wpAny_pure (wpAny_pure ⟨rfl, h', tk, rfl, f, k⟩)
  · rcases r with e | fl
    · exact hr
    rcases fl with x | x | x <;> first | exact hr.elim | skip
    obtain ⟨rfl, h', tk, rfl, hF, k⟩ := hr
    repeat (any_goals (first | assumption | wp_step))
    exact h _ _ hF k
/-- what lies stays: the set and its iterator aside -/
theorem moved_keep {S : Addr} {wr : List Addr} {s u u' : Shared} (hS : s.heap.get? S = none) (hwr : ∀ b ∈ wr, s.heap.get? b = none) (m : Moved (S :: wr) (fun x y => y = x) u u') (hk : ∀ b o, s.heap.get? b = some o → u.heap.get? b = some o) :
    ∀ b o, s.heap.get? b = some o → u'.heap.get? b = some o := fun b o e => m.heap b o (fun z => by
  rcases List.mem_cons.mp z with z | z
  · rw [z, hS] at e; cases e
  · rw [hwr b z] at e; cases e) (hk b o e)
/-- what has been met of ps ahead of the i-th -/
structure Met (ps : List KV) (i : Nat) (L : List KV) : Prop where
  sub : ∀ p ∈ L, p ∈ ps
  all : ∀ j p, j < i → ps[j]? = some p → p.1 ∈ L.map Prod.fst
  len : L.length ≤ i
theorem Met.next {ps L L' : List KV} {i : Nat} {p : KV} (g : Met ps i L) (hp : ps[i]? = some p) (c1 : p.1 ∈ L.map Prod.fst → L' = L) (c2 : p.1 ∉ L.map Prod.fst → L'.Perm (p :: L)) : Met ps (i + 1) L' := by
  have split : ∀ j q, j < i + 1 → ps[j]? = some q → j < i ∨ q = p := fun j q hj hq => by
    rcases Nat.lt_or_ge j i with z | z
    · exact .inl z
    · have : j = i := by omega
      rw [this, hp] at hq
      cases hq
      exact .inr rfl
  by_cases c : p.1 ∈ L.map Prod.fst
  · rw [c1 c]
    exact ⟨g.sub, fun j q hj hq => (split j q hj hq).elim (fun z => g.all j q z hq) fun z => by rw [z]; exact c, Nat.le_succ_of_le g.len⟩
  · have pm := c2 c
    refine ⟨fun q hq => ?_, fun j q hj hq => ?_, by rw [pm.length_eq]; exact Nat.succ_le_succ g.len⟩
    · rcases List.mem_cons.mp (pm.mem_iff.mp hq) with z | z
      · rw [z]; exact List.mem_of_getElem? hp
      · exact g.sub q z
    · rw [(pm.map Prod.fst).mem_iff, List.map_cons]
      rcases split j q hj hq with z | z
      · exact List.mem_cons_of_mem _ (g.all j q z hq)
      · rw [z]; exact List.mem_cons_self ..
theorem hold_bare {h : Heap} {a : Addr} (ho : h.get? a = some (bare w)) : Hold w h a [] #[] 0 (.fresh 0 0 (!w.params.followText "set-order")) :=
  ⟨⟨_, ho, ⟨rfl, rfl, rfl⟩, rfl⟩, rfl, ⟨List.Pairwise.nil, rfl, rfl, .inl rfl, (fun _ h => nomatch h), fun _ _ _ h => nomatch h⟩, List.nodup_nil, by
    show _ ∨ (!w.params.followText "set-order") = true
    cases w.params.followText "set-order" <;> simp, by show 0 * 5 < 7 * 3; decide, by decide⟩
theorem Hold.keep {h h' : Heap} {a : Addr} {L : List KV} {es : Array (Int × Value)} {ep : Nat} {t : SetTable} (R : Hold w h a L es ep t) (ha : ∀ o, h.get? a = some o → h'.get? a = some o) : Hold w h' a L es ep t := by
  obtain ⟨o, ho, r⟩ := R.ob
  exact ⟨⟨o, ha o ho, r⟩, R.rows, R.tab, R.one, R.led, R.room, R.few⟩
theorem fills_tups {S : Addr} {ps : List KV} {items : Array Value} {d : Nat} (hi : items.toList = ps.map Prod.snd) (he : Els s.heap ps) (few : ps.length < 64) (hd : d + 8 < cLine) (hS : s.heap.get? S = none) :
    Fills P w s S items d (fun h => ∃ L es ep t, Hold w h S L es ep t ∧ Met ps ps.length L) := by
  intro B I fp wr St u R hB W hSf hwr st hk hb hR
  have hsz : items.size = ps.length := by
    have := congrArg List.length hi
    simpa using this
  have hSw : S ∉ wr := fun h => hSf (W.sub _ h)
  have core : ∀ (k i : Nat) (u : Shared), items.size - i = k → i ≤ items.size → St i u → (∀ b o, s.heap.get? b = some o → u.heap.get? b = some o) → (∃ L es ep t, Hold w u.heap S L es ep t ∧ Met ps i L) →
      (∀ u', Moved (S :: wr) (fun x y => y = x) u u' → (∃ L es ep t, Hold w u'.heap S L es ep t ∧ Met ps ps.length L) → (∀ b o, s.heap.get? b = some o → u'.heap.get? b = some o) → R (.ok (.ret .none)) u') →
      codeAny (model P w) B (.builtin "set.update.loop" ⟨[.ref S, .ref I], []⟩) R u := by
    intro k
    induction k with
    | zero =>
      intro i u h1 h2 st hk ⟨L, es, ep, t, H, g⟩ hR
      obtain rfl : i = items.size := by omega
      refine codeAny_builtin F.entry_set_update_loop ?_
      rw [Around.under_plainId F.plain_set_update_loop _]
      show wpAny _ B.in1 (pyNext (.ref I) >>= _) _ _ u
      refine wpAny_bind (W.done u _ _ st fun u' m => ?_)
      have m' := m.mono (wr' := S :: wr) fun b hb => List.mem_cons_of_mem _ hb
      rw [hsz] at g
      exact wpAny_pure (hR u' m' ⟨L, es, ep, t, H.keep fun o e => m.heap S o hSw e, g⟩ (moved_keep hS hwr m' hk))
    | succ k ih =>
      intro i u h1 h2 st hk ⟨L, es, ep, t, H, g⟩ hR
      have hlt : i < items.size := by omega
      refine codeAny_builtin F.entry_set_update_loop ?_
      rw [Around.under_plainId F.plain_set_update_loop _]
      show wpAny _ B.in1 (pyNext (.ref I) >>= _) _ _ u
      refine wpAny_bind (W.item i u _ _ hlt st fun v u' hv st' m => ?_)
      have m' := m.mono (wr' := S :: wr) fun b hb => List.mem_cons_of_mem _ hb
      have hk' := moved_keep hS hwr m' hk
      have he' := els_keep he hk'
      have H' : Hold w u'.heap S L es ep t := H.keep fun o e => m.heap S o hSw e
      obtain ⟨p, hp, rfl⟩ : ∃ p, ps[i]? = some p ∧ p.2 = v := by
        have q : items.toList[i]? = some v := by rw [Array.getElem?_toList]; exact hv
        rw [hi, List.getElem?_map] at q
        obtain ⟨p, h1, h2⟩ := Option.map_eq_some_iff.mp q
        exact ⟨p, h1, h2⟩
      have hx := he' p (List.mem_of_getElem? hp)
      show wpAny _ B.in1 (holding [p.2] (setAdd S p.2) >>= _) _ _ u'
      refine wpAny_bind (wpAny_holding ?_)
      unfold setAdd
      refine wpAny_holding (wpAny_bind (pyHash_key p.1 p.2 _ _ _ hx.is (by have := hx.dp; omega) ?_))
      refine put_at (s := { u' with toks := u'.toks + p.1.draws }) H' (fun q hq => he' q (g.sub q hq)) hx (by omega) (by have := g.len; omega) fun b h' L' es' ep' t' sb H2 c1 c2 => ?_
      have hk2 : ∀ b o, s.heap.get? b = some o → h'.get? b = some o := fun b o e => (sb.2 b (fun z => by rw [z, hS] at e; cases e)).trans (hk' b o e)
      refine wpAny_pure ⟨plainId_quiet F.plain_set_update_loop _, ih (i + 1) _ (by omega) hlt (W.frame _ u' _ _ st' (Nat.le_add_right _ _) fun b hb o e => ?_) hk2 ⟨L', es', ep', t', H2, g.next hp c1 c2⟩ fun u2 m2 f2 k2 => ?_⟩
      · rw [sb.2 b fun z => hSf (by rw [← z]; exact hb)]
        exact e
      · refine hR u2 (Moved.trans W.gtrans (m'.then_heap (Nat.le_add_right _ _) fun b o hb e => ?_) m2) f2 k2
        rw [sb.2 b fun z => hb (by rw [z]; exact List.mem_cons_self)]
        exact e
  exact core _ 0 u rfl (Nat.zero_le _) st hk ⟨[], #[], 0, _, hold_bare hb, ⟨(fun _ h => nomatch h), fun j _ h => absurd h (Nat.not_lt_zero _), Nat.le_refl 0⟩⟩ hR
theorem fills_ints {S : Addr} {ns : List Int} {items : Array Value} {d : Nat} (hi : IntsAre items.toList ns) (few : ns.length + 1 < scanBound) (hS : s.heap.get? S = none) :
    Fills P w s S items d (fun h => ∃ c, c ≤ ns.length ∧ SetR w h S (fun j => decide (j ∈ ns)) c) := by
  intro B I fp wr St u R hB W hSf hwr st hk hb hR
  have hsz : items.size = ns.length := by
    have := IntsAre.length hi
    rw [Array.length_toList] at this
    exact this
  refine set_update_ints W S hSf ns hsz few (fun i v hv => ?_) _ 0 u rfl (Nat.zero_le _) st ⟨0, Nat.le_refl 0, setR_new_at hb⟩ fun u' c m hc f => ?_
  · have hil : i < ns.length := by rw [← hsz]; exact (Array.getElem?_eq_some_iff.mp hv).1
    obtain ⟨t, e⟩ := PyProof.Rows.IntsAre.int_at hi i v (by rw [Array.getElem?_toList]; exact hv)
    refine ⟨ns[i], t, List.getElem?_eq_getElem hil, ?_⟩
    rw [e, List.getD_eq_getElem?_getD, List.getElem?_eq_getElem hil]
    rfl
  · exact hR u' m ⟨c, by rw [← hsz]; exact hc, f⟩ (moved_keep hS hwr m hk)
end
/-! ### plain: data that may stand in a set -/
open PySem.W (EachIs AllAlike alike alikeAll keyToks keyToksAll dataLt dataLe sameRank)
def KyAll (ps : List PyData) : Prop := ∀ x ∈ ps, Ev.kyP 8 x = true
theorem isIn_ky {x : PyData} (hx : Ev.kyP 8 x = true) : ∀ {r : List PyData}, KyAll r → (Ev.isIn x r = true ↔ x ∈ r)
  | [], _ => ⟨fun h => (nomatch h), fun h => (nomatch h)⟩
  | z :: r, hr => by
    have hz := hr z (List.mem_cons_self ..)
    have ih := isIn_ky hx (r := r) fun y hy => hr y (List.mem_cons_of_mem _ hy)
    unfold Ev.isIn
    cases q : PyData.eqv z x with
    | true =>
      rw [ky_eq z x _ _ hz hx q]
      exact ⟨fun _ => List.mem_cons_self .., fun _ => rfl⟩
    | false =>
      show Ev.isIn x r = true ↔ _
      rw [ih]
      refine ⟨fun h => List.mem_cons_of_mem _ h, fun h => ?_⟩
      rcases List.mem_cons.mp h with e | h
      · rw [e, ky_refl z _ hz] at q
        cases q
      · exact h
theorem dedP_mem : ∀ {ps : List PyData}, KyAll ps → ∀ x, x ∈ Ev.dedP ps ↔ x ∈ ps
  | [], _, _ => Iff.rfl
  | y :: r, h, x => by
    have hr : KyAll r := fun z hz => h z (List.mem_cons_of_mem _ hz)
    have ih := dedP_mem hr x
    have q := isIn_ky (h y (List.mem_cons_self ..)) hr
    unfold Ev.dedP
    cases c : Ev.isIn y r with
    | true =>
      show x ∈ Ev.dedP r ↔ _
      rw [ih, List.mem_cons]
      exact ⟨.inr, fun z => z.elim (fun e => by rw [e]; exact q.mp c) id⟩
    | false =>
      show x ∈ y :: Ev.dedP r ↔ _
      rw [List.mem_cons, List.mem_cons, ih]
theorem dedP_nodup : ∀ {ps : List PyData}, KyAll ps → (Ev.dedP ps).Nodup
  | [], _ => List.nodup_nil
  | y :: r, h => by
    have hr : KyAll r := fun z hz => h z (List.mem_cons_of_mem _ hz)
    have q := isIn_ky (h y (List.mem_cons_self ..)) hr
    unfold Ev.dedP
    cases c : Ev.isIn y r with
    | true => exact dedP_nodup hr
    | false =>
      refine List.nodup_cons.mpr ⟨fun m => ?_, dedP_nodup hr⟩
      rw [q.mpr ((dedP_mem hr y).mp m)] at c
      cases c
/-- of one rank: one -/
theorem rank_eq {x y : PyData} (hx : Ev.kyP 8 x = true) (hy : Ev.kyP 8 y = true) (ha : alike x y = true) (h : sameRank (dataLe false id) x y = true) : x = y := by
  unfold sameRank at h
  obtain ⟨h1, h2⟩ := Bool.and_eq_true_iff.mp h
  have h1 : (!dataLt y x) = true := h1
  have h2 : (!dataLt x y) = true := h2
  have e : keyToks x = keyToks y := (PyProof.Rows.listOrd itemOrd).total _ _ (by unfold dataLt at h2; simpa using h2) (by unfold dataLt at h1; simpa using h1)
  obtain ⟨_, t2⟩ := PySem.W.toks_eqv x y ha
  cases q : PyData.eqv x y with
  | true => exact ky_eq x y _ _ hx hy q
  | false =>
    have t := t2 q
    rw [e] at t
    have a1 := (PySem.W.lex_pre (keyToks y) [] [.inl 0]).symm.trans (t [] [.inl 0])
    have a2 := (PySem.W.lex_pre (keyToks y) [.inl 0] []).symm.trans (t [.inl 0] [])
    have b : PyProof.Rows.lexLt itemOrd [] [.inl 0] = PyProof.Rows.lexLt itemOrd [.inl 0] [] := a1.trans a2.symm
    exact absurd b (by decide)
theorem perm_one {α : Type} {l m : List α} (p : l.Perm m) (h : ∀ x ∈ l, ∀ y ∈ l, x = y) (nd : l.Nodup) : l = m := by
  cases l with
  | nil => exact (List.perm_nil.mp p.symm).symm
  | cons x r =>
    cases r with
    | nil => exact (List.perm_singleton.mp p.symm).symm
    | cons y r =>
      obtain ⟨n1, _⟩ := List.nodup_cons.mp nd
      exact absurd (List.mem_cons.mpr (.inl (h x (List.mem_cons_self ..) y (List.mem_cons_of_mem _ (List.mem_cons_self ..))))) n1
/-- the sorted list does not ask for the order that was -/
theorem sort_perm {l m : List PyData} (p : l.Perm m) (nd : l.Nodup) (hk : KyAll l) (hal : AllAlike l) : l.mergeSort (dataLe false id) = Ev.sortP m := by
  have hal2 : AllAlike m := fun x hx y hy => hal x (p.mem_iff.mpr hx) y (p.mem_iff.mpr hy)
  refine (PySem.W.sort_unique EvS.leT (EvS.sort_ok m hal2).1 fun c => ?_).symm
  refine ((EvS.sort_ok m hal2).2 c).trans ?_
  refine (perm_one (p.filter _) (fun x hx y hy => ?_) (nd.filter _)).symm
  obtain ⟨x1, x2⟩ := List.mem_filter.mp hx
  obtain ⟨y1, y2⟩ := List.mem_filter.mp hy
  refine rank_eq (hk x x1) (hk y y1) (hal x x1 y y1) ?_
  unfold sameRank at x2 y2 ⊢
  obtain ⟨a1, a2⟩ := Bool.and_eq_true_iff.mp x2
  obtain ⟨b1, b2⟩ := Bool.and_eq_true_iff.mp y2
  exact Bool.and_eq_true_iff.mpr ⟨EvS.leT.trans _ _ _ a2 b1, EvS.leT.trans _ _ _ b2 a1⟩
theorem each_perm {α β : Type} {R : α → β → Prop} {as as' : List α} (p : as'.Perm as) : ∀ {bs : List β}, EachIs R as bs → ∃ bs', EachIs R as' bs' ∧ bs'.Perm bs := by
  induction p with
  | nil => intro bs e; exact ⟨bs, e, List.Perm.refl _⟩
  | cons x _ ih =>
    intro bs e
    cases e with
    | cons h e =>
      obtain ⟨bs', h1, h2⟩ := ih e
      exact ⟨_, .cons h h1, h2.cons _⟩
  | swap x y l =>
    intro bs e
    cases e with
    | cons h e => cases e with
      | cons h2 e => exact ⟨_, .cons h2 (.cons h e), List.Perm.swap _ _ _⟩
  | trans _ _ ih1 ih2 =>
    intro bs e
    obtain ⟨b1, e1, p1⟩ := ih2 e
    obtain ⟨b2, e2, p2⟩ := ih1 e1
    exact ⟨b2, e2, p2.trans p1⟩
end EvK
namespace EvK
open PySem PySem.Spec PyProof.Rows L2
open PySem.W
open EvS (RdD sorts_any)
section
variable {prog : Program} {w : World} {A : Around} {E : Value → Shared → Prop} {s : Shared}
/-- sorted(xs) where what xs collects is known but for the order -/
theorem sorted_many {x : Value} {C : List Value → List PyData → Prop} {R : Value → PyData → Prop} {Q : Value → Shared → Prop}
    (hc : ∀ {Q' : List Value → Shared → Prop}, (∀ (s1 : Shared) (vs : List Value) (ds : List PyData), (∀ b o, s.heap.get? b = some o → s1.heap.get? b = some o) → s.heap.objs.size ≤ s1.heap.objs.size → s1.gens = s.gens → s1.os = s.os → C vs ds → Q' vs s1) → wpAny (model prog w) A.in1 (collect x) Q' E s)
    (ha : argsOk "sorted" ⟨[x], []⟩) (hC : ∀ vs ds, C vs ds → EachIs R vs ds ∧ EachIs (RdD s.heap) vs ds ∧ AllAlike ds ∧ (∀ d ∈ ds, d ≠ .none) ∧ ds.length ≤ sizeLine ∧ ∀ d, d ∈ ds → A.units + 2 + d.depth < cLine)
    (h : ∀ (s1 : Shared) (D : Addr) (out : List Value) (c : Nat) (vs : List Value) (ds : List PyData), C vs ds → (∀ b o, s.heap.get? b = some o → s1.heap.get? b = some o) → s.heap.objs.size ≤ D → s1.gens = s.gens → s1.os = s.os → s1.heap.get? D = some (seqObj "list" out.toArray c) →
      out.length = ds.length → EachIs R out (ds.mergeSort (dataLe false id)) → Q (.ref D) s1) : wpAny (model prog w) A (call (.builtin "sorted") [x]) Q E s := by
  refine Calls.call_function_entry kind_sorted plain_sorted entry_sorted ha ?_
  unfold Builtin.«sorted»
  refine wpAny_bind (m := checkCount "sorted" 1 1 _) (wpAny_pure ?_)
  refine wpAny_bind (hc fun s1 vs ds k1 z1 g1 o1 hcv => ?_)
  obtain ⟨hR, hr, hal, hn, hL, hu⟩ := hC vs ds hcv
  have hvl : vs.length = ds.length := hR.length
  refine wpAny_bind (wpAny_newList ?_ (by rw [hvl]; exact hL))
  have hoL : (s1.heap.push (seqObj "list" vs.toArray 0)).get? s1.heap.objs.size = some (seqObj "list" vs.toArray 0) := Heap.get?_push_size _ rfl
  have hk2 : ∀ b o, s.heap.get? b = some o → (sortingHeap (s1.heap.push (seqObj "list" vs.toArray 0)) s1.heap.objs.size vs).get? b = some o := fun b o e => by
    have q := k1 b o e
    exact sortingHeap_old (Nat.ne_of_lt (Heap.lt_size q)) (Heap.get?_push_of_some _ q)
  have er2 : EachIs (RdD (sortingHeap (s1.heap.push (seqObj "list" vs.toArray 0)) s1.heap.objs.size vs)) vs ds := hr.mono fun _ _ ⟨as, r⟩ => ⟨as, PyProof.Rows.Reads.keeps hk2 r⟩
  have S := sorts_any (prog := prog) (w := w) (A := A.in1.in1) (s := { s1 with heap := sortingHeap (s1.heap.push (seqObj "list" vs.toArray 0)) s1.heap.objs.size vs }) er2 hal hn fun d hd => hu d hd
  refine wpAny_bind (wpAny_holding (wpAny_call_entry (w := w) slot_list_sort ⟨_, hoL, rfl⟩ entry_list_sort ?_ (args_list_sort _)))
  show wpAny (model prog w) A.in1.in1 (Builtin.«list.sort» ⟨[.ref s1.heap.objs.size], []⟩) _ _ _
  refine list_sort_vals (s := { s1 with heap := s1.heap.push (seqObj "list" vs.toArray 0) }) hoL S (by rw [hvl]; exact hL) ?_
  obtain ⟨c, hc'⟩ := sortedHeap_at (vs := vs) (out := (sortVals (dataKind (sortingHeap (s1.heap.push (seqObj "list" vs.toArray 0)) s1.heap.objs.size vs) ds) false vs vs).toArray) hoL
  have hsv := sortVals_data (enc := id) (R := R) (vs := vs) (bs := ds) (h' := sortingHeap (s1.heap.push (seqObj "list" vs.toArray 0)) s1.heap.objs.size vs) false hR er2 (by rw [List.map_id]; exact hal)
  rw [List.map_id] at hsv
  refine ⟨_, rfl, wpAny_pure ⟨_, rfl, h _ s1.heap.objs.size _ c vs ds hcv (fun b o e => ?_) z1 g1 o1 hc' (by rw [sortVals_length false rfl, hvl]) hsv⟩⟩
  have q := k1 b o e
  have hlt := Heap.lt_size q
  show (sortedHeap (s1.heap.push (seqObj "list" vs.toArray 0)) s1.heap.objs.size vs _).get? b = some o
  rw [sortedHeap_old (Nat.ne_of_lt hlt) (by rw [size_push']; exact Nat.lt_succ_of_lt hlt)]
  exact Heap.get?_push_of_some _ q
end
/-! ### what the set holds when it is made -/
/-- the value u is the datum d, over the frozen heap G -/
def Is (G : Hp) (u : Value) (d : PyData) : Prop := ∃ v, RelV v u ∧ Dp Ev.N0 G v d
structure Ready (w : World) (G : Hp) (ps : List PyData) (S : Addr) (h : Heap) : Prop where
  ok : ∃ o es ep t ds, h.get? S = some o ∧ o.ExactSet ∧ o.data = .set es ep t ∧ t.fits es.size = true ∧ es.size < scanBound ∧ Ris t.place.toList ∧ (w.params.followText "set-order" = true ∨ t.led = true) ∧
    EachIs (Is G) (es.toList.map (·.2)) ds ∧ ds.Perm (Ev.dedP ps)
theorem each_map' {α β γ : Type} {R : β → γ → Prop} (f : α → β) (g : α → γ) : ∀ {l : List α}, (∀ x ∈ l, R (f x) (g x)) → EachIs R (l.map f) (l.map g)
  | [], _ => .nil
  | x :: l, h => .cons (h x (List.mem_cons_self ..)) (each_map' f g fun y hy => h y (List.mem_cons_of_mem _ hy))
theorem ready_ints {w : World} {G : Hp} {ns : List Int} {S : Addr} {h : Heap} {c : Nat} (R : SetR w h S (fun j => decide (j ∈ ns)) c) (hc : c < scanBound) : Ready w G (ns.map .int) S h := by
  obtain ⟨o, es, ep, t, ho, hex, hd, hg, hn, hm, hb, hf, hz, hr, hl⟩ := R
  refine ⟨o, es, ep, t, es.toList.map (fun e => .int (keyOf e)), ho, hex, hd, hf, hb, hr, hl, each_map' _ _ fun e he => ?_, ?_⟩
  · obtain ⟨k, tk, e2, _⟩ := hg e he
    refine ⟨.int k, ⟨tk, e2⟩, ?_⟩
    unfold keyOf
    rw [e2]
    exact .int k
  · have hk : KyAll (ns.map .int) := fun x hx => by
      obtain ⟨n, _, rfl⟩ := List.mem_map.mp hx
      unfold Ev.kyP
      rfl
    have e1 : es.toList.map (fun e => PyData.int (keyOf e)) = (es.toList.map keyOf).map PyData.int := by rw [List.map_map]; rfl
    rw [e1]
    have inj : ∀ a b : Int, PyData.int a = PyData.int b → a = b := fun a b e => by injection e
    refine (List.perm_ext_iff_of_nodup (List.pairwise_map.mpr (hn.imp fun {a b} hne e => hne (inj _ _ e))) (dedP_nodup hk)).mpr fun x => ?_
    rw [dedP_mem hk, List.mem_map, List.mem_map]
    constructor
    · rintro ⟨k, h1, rfl⟩
      exact ⟨k, of_decide_eq_true ((hm k).mpr h1), rfl⟩
    · rintro ⟨k, h1, rfl⟩
      exact ⟨k, (hm k).mp (decide_eq_true h1), rfl⟩
/-- the items with their keys -/
def kvs : List PyData → List Value → List KV
  | d :: ds, u :: us => (kOf d, u) :: kvs ds us
  | _, _ => []
theorem kvs_get {R : Value → PyData → Prop} : ∀ {ds : List PyData} {us : List Value}, EachIs R us ds → (∀ d u, (kOf d, u) ∈ kvs ds us → True) ∧ (kvs ds us).map Prod.snd = us ∧ (kvs ds us).map Prod.fst = ds.map kOf ∧ ∀ p ∈ kvs ds us, ∃ d ∈ ds, p.1 = kOf d ∧ R p.2 d
  | _, _, .nil => ⟨fun _ _ _ => True.intro, rfl, rfl, fun _ h => nomatch h⟩
  | _, _, .cons h e => by
    obtain ⟨_, h1, h2, h3⟩ := kvs_get e
    refine ⟨fun _ _ _ => True.intro, by unfold kvs; rw [List.map_cons, h1], by unfold kvs; rw [List.map_cons, h2, List.map_cons], fun p hp => ?_⟩
    unfold kvs at hp
    rcases List.mem_cons.mp hp with e2 | hp
    · rw [e2]
      exact ⟨_, List.mem_cons_self .., rfl, h⟩
    · obtain ⟨d, hd, q⟩ := h3 p hp
      exact ⟨d, List.mem_cons_of_mem _ hd, q⟩
theorem ready_tups {w : World} {G : Hp} {ps : List PyData} {its : List Value} (hk : KyAll ps) (he : EachIs (Is G) its ps) {S : Addr} {h : Heap} {L : List KV} {es : Array (Int × Value)} {ep : Nat} {t : SetTable}
    (R : Hold w h S L es ep t) (g : Met (kvs ps its) (kvs ps its).length L) : Ready w G ps S h := by
  obtain ⟨o, ho, hex, hd⟩ := R.ob
  obtain ⟨_, k1, k2, k3⟩ := kvs_get he
  have hsn : es.toList.map (·.2) = L.map Prod.snd := by rw [R.rows, List.map_map]; rfl
  have from_ : ∀ p ∈ L, ∃ d ∈ ps, p.1.data = d ∧ Is G p.2 d := fun p hp => by
    obtain ⟨d, h1, h2, h3⟩ := k3 p (g.sub p hp)
    exact ⟨d, h1, by rw [h2]; exact (data_kOf d 8 (hk d h1)).1, h3⟩
  have bnd : es.size < scanBound := by
    have h1 := R.few
    rw [rows_size R.rows]
    unfold scanBound
    omega
  refine ⟨o, es, ep, t, L.map (fun p => p.1.data), ho, hex, hd, R.fits, bnd, R.tab.ris, R.led, ?_, ?_⟩
  · rw [hsn]
    refine each_map' _ _ fun p hp => ?_
    obtain ⟨d, _, e, h⟩ := from_ p hp
    rw [e]
    exact h
  · have nd : (L.map fun p => p.1.data).Nodup := by
      refine List.pairwise_map.mpr (List.Pairwise.imp_of_mem (fun {p q} hp hq hne e => hne ?_) (List.pairwise_map.mp R.one))
      obtain ⟨d, d1, d2, _⟩ := k3 p (g.sub p hp)
      obtain ⟨d', d1', d2', _⟩ := k3 q (g.sub q hq)
      rw [d2, d2', (data_kOf d 8 (hk d d1)).1, (data_kOf d' 8 (hk d' d1')).1] at e
      rw [d2, d2', e]
    refine (List.perm_ext_iff_of_nodup nd (dedP_nodup hk)).mpr fun x => ?_
    rw [dedP_mem hk, List.mem_map]
    constructor
    · rintro ⟨p, hp, rfl⟩
      obtain ⟨d, h1, h2, _⟩ := from_ p hp
      rw [h2]
      exact h1
    · intro hx
      have m : kOf x ∈ (kvs ps its).map Prod.fst := by rw [k2]; exact List.mem_map.mpr ⟨x, hx, rfl⟩
      obtain ⟨p, hp, e⟩ := List.mem_map.mp m
      obtain ⟨j, hj, ej⟩ := List.getElem_of_mem hp
      obtain ⟨q, hq, e2⟩ := List.mem_map.mp (g.all j p hj (by rw [List.getElem?_eq_getElem hj, ej]))
      exact ⟨q, hq, by rw [e2, e]; exact (data_kOf x 8 (hk x hx)).1⟩
end EvK
namespace EvK
open PySem
mutual
theorem depth_ky : ∀ (x : PyData) (n : Nat), Ev.kyP n x = true → x.depth ≤ n
  | .int i, n, _ => by rw [PyData.depth]; exact Nat.zero_le _
  | .str i, n, _ => by rw [PyData.depth]; exact Nat.zero_le _
  | .tuple xs, n, hx => by
    cases n with
    | zero => unfold Ev.kyP at hx; cases hx
    | succ n =>
      unfold Ev.kyP at hx
      have := depths_ky xs n hx
      rw [PyData.depth]
      omega
  | .none, n, hx => by unfold Ev.kyP at hx; cases hx
  | .bool _, n, hx => by unfold Ev.kyP at hx; cases hx
  | .list _, n, hx => by unfold Ev.kyP at hx; cases hx
  | .dict _, n, hx => by unfold Ev.kyP at hx; cases hx
theorem depths_ky : ∀ (xs : List PyData) (n : Nat), Ev.kyL n xs = true → PyData.depthAll xs ≤ n
  | [], _, _ => by rw [PyData.depthAll]; exact Nat.zero_le _
  | x :: xs, n, hx => by
    unfold Ev.kyL at hx
    cases h1 : Ev.kyP n x with
    | false => rw [h1] at hx; cases hx
    | true =>
      rw [h1] at hx
      have a := depth_ky x n h1
      have b := depths_ky xs n hx
      rw [PyData.depthAll]
      exact Nat.max_le.mpr ⟨a, b⟩
end
end EvK
namespace Ev
variable [FnTab]
open PySem PySem.Spec PyProof.Rows L2
open PySem.W (EachIs AllAlike)
section
variable {X : Cx} {cl : List (Addr × Option Str)} {bs : List Nat} {W : WX} {C : Cl}
theorem allI_map : ∀ {ps : List PyData}, allI ps = true → ∃ ns : List Int, ps = ns.map .int
  | [], _ => ⟨[], rfl⟩
  | x :: r, h => by
    unfold allI at h
    cases x with
    | int i =>
      obtain ⟨ns, rfl⟩ := allI_map (ps := r) h
      exact ⟨i :: ns, rfl⟩
    | _ => cases h
theorem allT_tup : ∀ {ps : List PyData}, allT ps = true → ∀ d ∈ ps, ∃ ys, d = .tuple ys ∧ kyP 8 d = true
  | [], _, _, h => nomatch h
  | x :: r, h, d, hd => by
    unfold allT at h
    cases x with
    | tuple ys =>
      have h : (match kyL 7 ys with | true => allT r | false => false) = true := h
      cases q : kyL 7 ys with
      | false => rw [q] at h; cases h
      | true =>
        rw [q] at h
        rcases List.mem_cons.mp hd with e | hd
        · exact ⟨ys, e, by rw [e]; unfold kyP; exact q⟩
        · exact allT_tup h d hd
    | _ => cases h
theorem ints_vd {G : Hp} : ∀ {ns : List Int} {vs : List V} {us : List Value}, DpAll N0 G vs (ns.map .int) → Vals vs us → IntsAre us ns
  | [], _, _, .nil, .nil => .nil
  | n :: ns, _, _, .cons h hs, .cons r rs => by
    cases h
    obtain ⟨t, rfl⟩ := r
    exact .cons n t (ints_vd hs rs)
/-- what setOk lets through is made a set that is known but for its order -/
theorem set_made {pins : List (Addr × Obj)} {σ : L2.St} {H : Hp} {s : Shared} (hc : X.calm = true) (hu : X.A.units + 64 < cLine) (I : Inv X pins σ H s) {G : Hp} {b : Addr} {vs : List V} {ps : List PyData} (hs : SqL N0 H b vs ∨ SqT N0 H b vs) (d1 : DpAll N0 G vs ps) (dX : DpAll X.K H vs ps) (ok : setOk ps = true)
    {Q : Value → Shared → Prop} (h : ∀ (h' : Heap) (tk : Nat), EvK.Ready X.w G ps s.heap.objs.size h' → (∀ b o, s.heap.get? b = some o → h'.get? b = some o) → Q (.ref s.heap.objs.size) { s with heap := h', toks := tk }) :
    EvK.KyAll ps ∧ ps.length < 4096 ∧ wpAny (model X.prog X.w) X.A (call (.type "set") [.ref b]) Q X.xe s := by
  have src : ∃ its : List Value, Vals vs its ∧ (s.heap.IsList b its.toArray ∨ s.heap.IsTuple b its.toArray) := by
    rcases hs with hs | hs
    · obtain ⟨its, rv, pl, hz⟩ := I.list (sql_k hs)
      exact ⟨its, rv, .inl pl.isList⟩
    · obtain ⟨its, rv, pl, hz⟩ := I.tuple (sqt_k hs)
      exact ⟨its, rv, .inr pl⟩
  obtain ⟨its, rv, src⟩ := src
  have fresh : s.heap.get? s.heap.objs.size = none := EvK.gone (Nat.le_refl _)
  have hh := I.ok.hd hc
  unfold setOk at ok
  cases q : allI ps with
  | true =>
    rw [q] at ok
    have len : ps.length < 4000 := Nat.le_of_ble_eq_true ok
    obtain ⟨ns, rfl⟩ := allI_map q
    rw [List.length_map] at len
    have hi : IntsAre its.toArray.toList ns := by simpa using ints_vd d1 rv
    have hb : ns.length + 1 < scanBound := by unfold scanBound; omega
    refine ⟨fun x hx => ?_, by rw [List.length_map]; omega, EvK.set_call src hh (EvK.fills_ints hi hb fresh) fun h' tk ⟨c, hc', f⟩ k => h h' tk (EvK.ready_ints f (by omega)) k⟩
    obtain ⟨n, _, rfl⟩ := List.mem_map.mp hx
    unfold kyP
    rfl
  | false =>
    rw [q] at ok
    cases q2 : allT ps with
    | false => rw [q2] at ok; cases ok
    | true =>
      rw [q2] at ok
      have len : ps.length < 64 := Nat.le_of_ble_eq_true ok
      have hk : EvK.KyAll ps := fun d hd => by
        obtain ⟨_, _, z⟩ := allT_tup q2 d hd
        exact z
      have he : EachIs (EvK.Is G) its ps := each_vd rv d1
      have hn : EachIs (fun u d => NestedIs s.heap (EvK.kOf d) u ∧ ∃ b, u = .ref b ∨ ∀ ys, d ≠ .tuple ys) its ps := by
        have go : ∀ {vs : List V} {us : List Value} {ds : List PyData}, Vals vs us → DpAll X.K H vs ds → (∀ d ∈ ds, kyP 8 d = true) → EachIs (fun u d => NestedIs s.heap (EvK.kOf d) u ∧ ∃ b, u = .ref b ∨ ∀ ys, d ≠ .tuple ys) us ds := by
          intro vs us ds r e
          induction r generalizing ds with
          | nil => intro _; cases e; exact .nil
          | @cons v u vs us r rs ih =>
            intro hk
            cases e with
            | @cons _ _ d _ a c =>
              refine .cons ⟨EvK.nested_of I _ _ _ 8 (hk _ (List.mem_cons_self ..)) a r, ?_⟩ (ih c fun d hd => hk d (List.mem_cons_of_mem _ hd))
              cases d with
              | tuple ys =>
                cases a
                cases r
                exact ⟨_, .inl rfl⟩
              | _ => exact ⟨0, .inr fun ys e => nomatch e⟩
        exact go rv dX hk
      obtain ⟨_, k1, k2, k3⟩ := EvK.kvs_get hn
      have els : EvK.Els s.heap (EvK.kvs ps its) := fun p hp => by
        obtain ⟨d, hd, e1, e2, b, e3⟩ := k3 p hp
        rw [e1]
        refine ⟨?_, e2, (EvK.data_kOf d 8 (hk d hd)).2⟩
        rcases e3 with e3 | e3
        · exact ⟨b, e3⟩
        · obtain ⟨ys, e4, _⟩ := allT_tup q2 d hd
          exact absurd e4 (e3 ys)
      have hl : (EvK.kvs ps its).length = ps.length := by
        have := congrArg List.length k2
        simpa using this
      refine ⟨hk, by omega, EvK.set_call src hh (EvK.fills_tups (ps := EvK.kvs ps its) (by simpa using k1.symm) els (by rw [hl]; exact len) (by omega) fresh) fun h' tk ⟨L, es, ep, t, f, g⟩ k => h h' tk (EvK.ready_tups hk he f g) k⟩
/-- f(set(x)), f a built-in: what it is about -/
def SetThen (X : Cx) (cl : List (Addr × Option Str)) (bs : List Nat) (id : String) (o : Op) : Prop :=
  ∀ (pins : List (Addr × Obj)) (s : Shared) (σ : L2.St) (H : Hp) (x : V) (v : Value) (Q : VK), Inv X pins σ H s → RelV x v → rB cl bs o [x] H Q →
    wpAny (model X.prog X.w) X.A (call (.type "set") [v]) (fun u s1 => wpAny (model X.prog X.w) X.A (call (.builtin id) [u]) (EP X pins σ Q) X.xe s1) X.xe s
theorem s_lenSet (hc : X.calm = true) (hu : X.A.units + 64 < cLine) : SetThen X cl bs "len" .lenSet := by
  intro pins s σ H x v Q I r hh
  obtain ⟨g, st, ds, W, a, rr, p⟩ := hh
  obtain ⟨d, v', rfl, ex, rd, p⟩ := on1 p rr
  cases ex
  unfold opLenSet at p
  cases h1 : items st d with
  | none => rw [h1] at p; exact p.elim
  | some ys =>
    rw [h1] at p
    dsimp only at p
    cases h2 : frzL DEEP ys st with
    | none => rw [h2] at p; exact p.elim
    | some z =>
      obtain ⟨ps, st1⟩ := z
      rw [h2] at p
      dsimp only at p
      obtain ⟨k1, p⟩ := chk_post p
      obtain ⟨b, vs, rfl, hs, hr⟩ := a.ok.items h1 rd
      obtain ⟨g1, a1, s1, d1⟩ := mapF_ok (fun o r e => frz_ok DEEP o r e) ys a hr h2
      have dX : DpAll X.K H vs ps := dpAll_mono a1.ok.sub _ _ (dpAll_k ps vs d1)
      cases r
      refine (set_made hc hu I hs d1 dX k1 fun h' tk R k => ?_).2.2
      obtain ⟨o, es, ep, t, ds, ho, hex, hd, hf, hb, _, _, e, pm⟩ := R.ok
      have hsz : es.size = (dedP ps).length := by
        have := e.length
        rw [List.length_map, Array.length_toList] at this
        rw [this, pm.length_eq]
      have I1 : Inv X pins σ H { s with heap := h', toks := tk } := I.kept fun b o e => k b o e
      have fin : Q (.int ((dedP ps).length : Int)) H := Post.fin (Post.later p s1) a1 (show Dp N0 _ _ _ from .int _)
      refine call_len_set ho hex hd hf (by unfold scanBound at hb; omega) ⟨.int ((dedP ps).length : Int), H, I1.tok _, ⟨_, by rw [hsz]⟩, fin⟩
theorem s_sortSet (hc : X.calm = true) (hu : X.A.units + 64 < cLine) {al : Bool} : SetThen X cl bs "sorted" (.sortSet al) := by
  intro pins s σ H x v Q I r hh
  obtain ⟨g, st, ds, W, a, rr, p⟩ := hh
  obtain ⟨d, v', rfl, ex, rd, p⟩ := on1 p rr
  cases ex
  unfold opSortSet at p
  cases h1 : items st d with
  | none => rw [h1] at p; exact p.elim
  | some ys =>
    rw [h1] at p
    dsimp only at p
    cases h2 : frzL DEEP ys st with
    | none => rw [h2] at p; exact p.elim
    | some z =>
      obtain ⟨ps, st1⟩ := z
      rw [h2] at p
      dsimp only at p
      obtain ⟨k1, p⟩ := chk_post p
      obtain ⟨k2, p⟩ := chk_post p
      obtain ⟨b, vs, rfl, hs, hr⟩ := a.ok.items h1 rd
      obtain ⟨g1, a1, s1, d1⟩ := mapF_ok (fun o r e => frz_ok DEEP o r e) ys a hr h2
      have dX : DpAll X.K H vs ps := dpAll_mono a1.ok.sub _ _ (dpAll_k ps vs d1)
      have hal0 : AllAlike ps := fun x hx y hy => EvS.alkAll_ok k2 x hx y hy
      have hnn0 : ∀ x ∈ ps, x ≠ .none := fun x hx => EvS.alk_none k2 (List.ne_nil_of_mem hx) x hx
      cases r
      refine (set_made hc hu I hs d1 dX k1 fun h' tk R k => ?_).2.2
      obtain ⟨o, es, ep, t, ds0, ho, hex, hd, hf, hb, ris, led, e0, pm0⟩ := R.ok
      have I1 : Inv X pins σ H { s with heap := h', toks := tk } := I.kept fun b o e => k b o e
      have hk : EvK.KyAll ps := (set_made hc hu I hs d1 dX k1 (Q := fun _ _ => True) fun _ _ _ _ => True.intro).1
      have hlen : ps.length < 4096 := (set_made hc hu I hs d1 dX k1 (Q := fun _ _ => True) fun _ _ _ _ => True.intro).2.1
      have dlen : (dedP ps).length ≤ ps.length := by
        have : ∀ l : List PyData, (dedP l).length ≤ l.length := by
          intro l
          induction l with
          | nil => exact Nat.le_refl _
          | cons x r ih =>
            unfold dedP
            split
            · exact Nat.le_succ_of_le ih
            · exact Nat.succ_le_succ ih
        exact this ps
      have memP : ∀ {ds : List PyData}, ds.Perm (dedP ps) → ∀ d ∈ ds, d ∈ ps := fun pm d hd => (EvK.dedP_mem hk d).mp (pm.mem_iff.mp hd)
      have hdep : ∀ d ∈ ps, d.depth ≤ 9 := fun d hd => by
        have := EvK.depth_ky d 8 (hk d hd)
        omega
      refine EvK.sorted_many (s := { s with heap := h', toks := tk }) (C := fun vs ds => EachIs (EvK.Is g1.G) vs ds ∧ ds.Perm (dedP ps)) (R := EvK.Is g1.G) (fun {Q'} kk => ?_) (args_sorted1 _) (fun vs ds hC => ?_) fun s2 D out c vs2 ds hC hk2 hD hg ho2 hn hol hout => ?_
      · refine collect_set (A := X.A.in1) (s := { s with heap := h', toks := tk }) (by simpa using I.ok.hd hc) ⟨o, ho, hex.1, hd⟩ hf hb ris led fun s' out k1 z1 g1' o1 pm => ?_
        obtain ⟨ds1, e1, p1⟩ := EvK.each_perm pm e0
        exact kk s' out ds1 k1 z1 g1' o1 ⟨e1, p1.trans pm0⟩
      · obtain ⟨e1, p1⟩ := hC
        refine ⟨e1, e1.mono fun u d ⟨v, rv, dv⟩ => Dp.reads I1 d v u (dp_mono a1.ok.sub _ _ (dp_k _ _ dv)) rv, fun x hx y hy => hal0 x (memP p1 x hx) y (memP p1 y hy), fun x hx => hnn0 x (memP p1 x hx), by rw [p1.length_eq, sizeLine_eq]; omega, fun x hx => ?_⟩
        have := hdep x (memP p1 x hx)
        omega
      · obtain ⟨e1, p1⟩ := hC
        rw [EvK.sort_perm p1 (p1.nodup_iff.mpr (EvK.dedP_nodup hk)) (fun x hx => hk x (memP p1 x hx)) (fun x hx y hy => hal0 x (memP p1 x hx) y (memP p1 y hy))] at hout
        have ho' : s2.os = s.os := ho2
        obtain ⟨ws, rw', dw⟩ := vd_each hout
        obtain ⟨h0, J⟩ := sorted_end (vs := ws) I (fun b o e => hk2 b o (k b o e)) (Nat.le_trans (Nat.le_of_lt (Heap.lt_size ho)) hD) hg ho' hn rw' (by rw [rw'.length, hol, p1.length_eq, sizeLine_eq]; omega)
        obtain ⟨_, q⟩ := mkL_post (Post.later p s1) a1 (reps_of_all dw)
        exact ⟨.ref D, _, J, rfl, q D h0⟩
theorem e_setOf {f : Str} {id : String} {o : Op} (st : SetThen X cl bs id o) {p p2 q pos : Pos} (hg : Gl X f) (hm : X.mg f = none) (hf : bootBuiltins f = some (.builtin id)) (hn : f ≠ "__name__") (hd : (f == ("__debug__" : Str)) = false) (hg2 : Gl X "set") (hm2 : X.mg "set" = none)
    {e : E} {pa : Expr} (ha : sE cl bs W C X pa e) (hs : noStar pa = true) : sE cl bs W C X (.Call (.Name f p) [.Call (.Name "set" p2) [pa] [] q] [] pos) (.op o [e]) := by
  refine se_fin (c := cOp C bs o [e]) ⟨fun pins s σ H Q I h => ?_⟩ (fun _ => rfl)
  have h1 := args1 (args_op h)
  refine Call_ (ld_blt I hg hm hf ?_ hn hd)
  refine PyProof.Rows.callWith_builtin1 (PyProof.Rows.args_cons ?_ rfl) rfl rfl
  refine Call_ (ld_blt I hg2 hm2 PyProof.Rows.boot_set ?_)
  refine PyProof.Rows.callWith_type1 (PyProof.Rows.args_cons (thn (ha.v.run pins s σ H _ I h1) fun v s1 ⟨x, H1, I1, r1, q1⟩ => PyProof.Rows.args_nil ?_) (star_cons hs [] X.env)) (star_cons hs [] X.env) rfl
  exact thn (st pins s1 σ H1 x v Q I1 r1 q1) fun u s2 hu => PyProof.Rows.args_nil hu
end
end Ev

set_option maxHeartbeats 2000000
/-! EvZ: enumerate(zip(t, u)) of two tuples. -/
namespace EvZ
open PySem PySem.Spec PyProof.Rows L2 RZ
section
variable {P : Program} {w : World} {A : Around} {E : Value → Shared → Prop} {s : Shared} {z TI TO i1 i2 a b : Addr} {f0 : Value} {f1 lt : Bool}
/-- an iterator over a list, over a tuple -/
def ItI (lt : Bool) (h : Heap) (it l : Addr) (i : Nat) : Prop := match lt with | true => h.IsListIter it l i | false => h.IsTupleIter it l i
def SqI (lt : Bool) (h : Heap) (l : Addr) (xs : Array Value) : Prop := match lt with | true => h.IsList l xs | false => h.IsTuple l xs
theorem ItI.extBut {lt : Bool} {h h' : Heap} {it l c : Addr} {i : Nat} (x : ItI lt h it l i) (e : Heap.ExtBut c h h') (hne : it ≠ c) : ItI lt h' it l i := by
  cases lt with
  | true => exact Heap.IsListIter.extBut x e hne
  | false => exact Heap.IsTupleIter.extBut x e hne
theorem ItI.at {lt : Bool} {h h' : Heap} {it l : Addr} {i : Nat} (x : ItI lt h it l i) (k : ∀ o, h.get? it = some o → h'.get? it = some o) : ItI lt h' it l i := by
  cases lt with
  | true => exact Heap.IsListIter.at x k
  | false => exact Heap.IsTupleIter.at x k
theorem SqI.extBut {lt : Bool} {h h' : Heap} {l c : Addr} {xs : Array Value} (x : SqI lt h l xs) (e : Heap.ExtBut c h h') (hne : l ≠ c) : SqI lt h' l xs := by
  cases lt with
  | true => exact Heap.IsList.extBut x e hne
  | false => exact Heap.IsTuple.extBut x e hne
theorem ItI.ob {lt : Bool} {h : Heap} {it l : Addr} {i : Nat} (x : ItI lt h it l i) : ∃ o, h.get? it = some o ∧ ∀ v, o.data ≠ .cell v := by
  cases lt with
  | true =>
    obtain ⟨o, e, _, d⟩ := x
    exact ⟨o, e, fun v q => by rw [d] at q; cases q⟩
  | false =>
    obtain ⟨o, e, _, d⟩ := x
    exact ⟨o, e, fun v q => by rw [d] at q; cases q⟩
theorem next_item' {lt : Bool} {it l : Addr} {i : Nat} {xs : Array Value} {x : Value} {Q : Value → Shared → Prop} (hit : ItI lt s.heap it l i) (hl : SqI lt s.heap l xs) (hx : xs[i]? = some x)
    (hQ : ∀ h', ItI lt h' it l (i + 1) → Heap.SameBut it s.heap h' → Q x { s with heap := h' }) : wpAny (model P w) A (Builtin.SmallTypes.nextOf (.ref it)) Q E s := by
  cases lt with
  | true => exact wpAny_nextOf_list_item hit hl hx hQ
  | false => exact nextOf_tuple_item hit hl hx hQ
theorem next_end' {lt : Bool} {it l : Addr} {i : Nat} {xs : Array Value} {Q : Value → Shared → Prop} (hh : A.handled = none) (hit : ItI lt s.heap it l i) (hl : SqI lt s.heap l xs) (hx : xs[i]? = none)
    (hE : ∀ h' e, Heap.ExtBut it s.heap h' → (∃ o, h'.get? e = some o ∧ o.cls = .type "StopIteration") → E (.ref e) { s with heap := h' }) : wpAny (model P w) A (Builtin.SmallTypes.nextOf (.ref it)) Q E s := by
  cases lt with
  | true => exact wpAny_nextOf_list_end hh hit hl hx hE
  | false => exact nextOf_tuple_end hh hit hl hx hE
/-- a zip of two, in whatever state -/
abbrev zO (f0 : Value) (f1 : Bool) (TI TO : Addr) : Obj := { cls := .type "zip", dict := none, data := .fields #[f0, .bool f1, .bool false, .ref TI, .ref TO], slots := #[] }
def ZF (f : Value) : Prop := f = .none ∨ ∃ T : Nat, f = rawInt T
/-- whether an object is still there -/
theorem alive_at {x : Addr} {R : Option Obj → Shared → Prop} (h : R (s.heap.get? x) s) : wpAny (model P w) A (loadIfAlive x) R E s := fun _ _ _ => h
theorem z_free {Q : Bool → Shared → Prop} (hz : s.heap.get? z = some (zO f0 f1 TI TO)) (hf : ZF f0) (yes : Q true s) (no : ∀ h', h'.get? z = some (zO f0 true TI TO) → Heap.SameBut z s.heap h' → Q false { s with heap := h' }) :
    wpAny (model P w) A (Builtin.SmallTypes.ownedTupleIsFree (.ref z)) Q E s := by
  unfold Builtin.SmallTypes.ownedTupleIsFree
  rcases hf with rfl | ⟨T, rfl⟩
  · exact wpAny_bind (wpAny_field hz rfl (x := .none) rfl (wpAny_pure yes))
  · refine wpAny_bind (wpAny_field hz rfl (x := rawInt T) rfl ?_)
    show wpAny _ _ (loadIfAlive ((T : Int).toNat) >>= _) _ _ _
    refine wpAny_bind (alive_at ?_)
    cases s.heap.get? ((T : Int).toNat) with
    | none => exact wpAny_pure yes
    | some o =>
      refine wpAny_bind (wpAny_field hz rfl (x := .bool f1) rfl ?_)
      cases f1 with
      | true => exact wpAny_pure (no _ hz (Heap.SameBut.refl _ _))
      | false => exact wpAny_bind (wpAny_setField_rec hz (by simp) fun h₁ k1 k2 => wpAny_pure (no h₁ k1 k2))
/-- what a zip of two tuples rests on, at its i-th turn -/
structure ZS (lt : Bool) (h : Heap) (z TI TO i1 i2 a b : Addr) (i : Nat) : Prop where
  z : ∃ f0 f1, h.get? z = some (zO f0 f1 TI TO) ∧ ZF f0
  ti : IsPair h TI (.ref i1) (.ref i2)
  to : ∃ x y, IsPair h TO x y
  one : ItI lt h i1 a i
  two : ItI lt h i2 b i
theorem ZS.keep {h h' : Heap} {i : Nat} (S : ZS lt h z TI TO i1 i2 a b i) (k : ∀ c, c = z ∨ c = TI ∨ c = TO ∨ c = i1 ∨ c = i2 → ∀ o, h.get? c = some o → h'.get? c = some o) : ZS lt h' z TI TO i1 i2 a b i := by
  obtain ⟨⟨f0, f1, h1, h2⟩, h3, ⟨x, y, h4⟩, h5, h6⟩ := S
  exact ⟨⟨f0, f1, k z (by simp) _ h1, h2⟩, k TI (by simp) _ h3, ⟨x, y, k TO (by simp) _ h4⟩, h5.at fun o q => k i1 (by simp) o q, h6.at fun o q => k i2 (by simp) o q⟩
theorem z_item {xs ys : Array Value} {i : Nat} {x y : Value} {Q : Value → Shared → Prop} (D : ZipApart z TI TO i1 i2 a b) (S : ZS lt s.heap z TI TO i1 i2 a b i) (hl1 : SqI lt s.heap a xs) (hl2 : SqI lt s.heap b ys) (hx : xs[i]? = some x) (hy : ys[i]? = some y)
    (hQ : ∀ h', ZS lt h' z TI TO i1 i2 a b (i + 1) → IsPair h' s.heap.objs.size x y → h'.objs.size = s.heap.objs.size + 1 → (∀ c o, c ≠ z → c ≠ TO → c ≠ i1 → c ≠ i2 → s.heap.get? c = some o → h'.get? c = some o) → Q (.ref s.heap.objs.size) { s with heap := h' }) :
    wpAny (model P w) A (Builtin.SmallTypes.nextOf (.ref z)) Q E s := by
  obtain ⟨⟨f0, f1, hz, hf⟩, hTI, ⟨u, v, hTO⟩, h1, h2⟩ := S
  have hT : s.TypeIs (.ref z) "zip" := ⟨_, hz, rfl⟩
  unfold Builtin.SmallTypes.nextOf
  refine wpAny_bind (wpAny_callSpecial?_slot (name := Str.ofString "__next__") hT F.slot_zip_next (wpAny_call_entry F.slot_zip_next hT F.entry_zip_next ?_ (F.args_zip_next_1 _)))
  show wpAny _ _ (field (.ref z) 2 >>= _) _ _ _
  refine wpAny_bind (wpAny_field hz rfl (x := .bool false) rfl ?_)
  show wpAny _ _ (field (.ref z) 3 >>= _) _ _ _
  refine wpAny_bind (wpAny_field hz rfl (x := .ref TI) rfl (wpAny_bind (wpAny_seqItems hTI rfl ?_)))
  show wpAny _ _ (Builtin.SmallTypes.ownedTupleIsFree (.ref z) >>= _) _ _ _
  refine wpAny_bind (z_free hz hf ?_ fun h₁ z1 k1 => ?_)
  · -- its own tuple is filled again
    simp only [if_true]
    refine wpAny_bind (wpAny_rule (wpAny_bind (wpAny_field hz rfl (x := .ref TO) rfl ?_)))
    refine wpAny_bind (wpAny_setField_rec hz (by simp) fun h₁ z1 k1 => ?_)
    replace z1 : h₁.get? z = some (zO .ellipsis f1 TI TO) := z1
    refine wpAny_bind ?_
    simp only [List.zipIdx_cons, List.zipIdx_nil, List.forIn_cons, List.forIn_nil]
    refine wpAny_bind (wpAny_bind (wpAny_onRaise ?_))
    show wpAny _ _ (Builtin.SmallTypes.nextOf (.ref i1) >>= _) _ _ _
    refine wpAny_bind (next_item' (h1.extBut k1.extBut D.i1z) (hl1.extBut k1.extBut D.l1z) hx fun h₂ j1 k2 => wpAny_pure ?_)
    have t2 : IsPair h₂ TO u v := k2.extBut _ _ D.TOi1 (k1.extBut _ _ D.TOz hTO)
    refine wpAny_bind (wpAny_seqItems t2 rfl (wpAny_bind (wpAny_updateSeq_pair t2 fun h₃ t3 k3 => wpAny_bind (wpAny_letGo (wpAny_pure ?_)))))
    replace t3 : IsPair h₃ TO x v := t3
    refine wpAny_bind (wpAny_bind (wpAny_onRaise ?_))
    show wpAny _ _ (Builtin.SmallTypes.nextOf (.ref i2) >>= _) _ _ _
    refine wpAny_bind (next_item' (((h2.extBut k1.extBut D.i2z).extBut k2.extBut D.i12.symm).extBut k3.extBut D.TOi2.symm) (((hl2.extBut k1.extBut D.l2z).extBut k2.extBut D.l2i1).extBut k3.extBut D.l2TO) hy fun h₄ j2 k4 => wpAny_pure ?_)
    have t4 : IsPair h₄ TO x v := k4.extBut _ _ D.TOi2 t3
    refine wpAny_bind (wpAny_seqItems t4 rfl (wpAny_bind (wpAny_updateSeq_pair t4 fun h₅ t5 k5 => wpAny_bind (wpAny_letGo (wpAny_pure (wpAny_pure ?_))))))
    replace t5 : IsPair h₅ TO x y := t5
    refine wpAny_bind (wpAny_seqItems t5 rfl (wpAny_bind (wpAny_newTuple ?_)))
    have sz : h₅.objs.size = s.heap.objs.size := by rw [k5.1, k4.1, k3.1, k2.1, k1.1]
    have z5 : h₅.get? z = some (zO .ellipsis f1 TI TO) := k5.extBut _ _ D.TOz.symm (k4.extBut _ _ D.i2z.symm (k3.extBut _ _ D.TOz.symm (k2.extBut _ _ D.i1z.symm z1)))
    have keep5 : ∀ c o, c ≠ z → c ≠ TO → c ≠ i1 → c ≠ i2 → s.heap.get? c = some o → h₅.get? c = some o := fun c o c1 c2 c3 c4 e => k5.extBut _ _ c2 (k4.extBut _ _ c4 (k3.extBut _ _ c2 (k2.extBut _ _ c3 (k1.extBut _ _ c1 e))))
    have j15 : ItI lt h₅ i1 a (i + 1) := ((j1.extBut k3.extBut D.TOi1.symm).extBut k4.extBut D.i12).extBut k5.extBut D.TOi1.symm
    have j25 : ItI lt h₅ i2 b (i + 1) := j2.extBut k5.extBut D.TOi2.symm
    have zlt : z < h₅.objs.size := Heap.lt_size z5
    show wpAny _ _ (Builtin.SmallTypes.ownedTupleHandOut (.ref z) (.ref h₅.objs.size) >>= _) _ _ _
    refine wpAny_bind ?_
    unfold Builtin.SmallTypes.ownedTupleHandOut
    have z6 : (h₅.push { cls := .type "tuple", data := .seq #[x, y] }).get? z = some (zO .ellipsis f1 TI TO) := Heap.get?_push_of_some _ z5
    refine wpAny_bind (wpAny_setField_rec z6 (by simp) fun h₇ z7 k7 => ?_)
    replace z7 : h₇.get? z = some (zO (rawInt h₅.objs.size) f1 TI TO) := z7
    refine wpAny_setField_rec z7 (by simp) fun h₈ z8 k8 => ?_
    replace z8 : h₈.get? z = some (zO (rawInt h₅.objs.size) false TI TO) := z8
    have up : ∀ c o, c ≠ z → h₅.get? c = some o → h₈.get? c = some o := fun c o c1 e => k8.extBut _ _ c1 (k7.extBut _ _ c1 (Heap.get?_push_of_some _ e))
    have t8 : IsPair h₈ h₅.objs.size x y := k8.extBut _ _ (Nat.ne_of_gt zlt) (k7.extBut _ _ (Nat.ne_of_gt zlt) (Heap.get?_push_size _ rfl))
    have s8 : h₈.objs.size = h₅.objs.size + 1 := by rw [k8.1, k7.1, Heap.size_push]
    rw [sz] at z8 t8 s8
    refine wpAny_pure ⟨_, rfl, wpAny_pure ?_⟩
    show Q (.ref h₅.objs.size) _
    rw [sz]
    exact hQ h₈ ⟨⟨_, _, z8, .inr ⟨_, rfl⟩⟩, up _ _ D.TIz (keep5 _ _ D.TIz D.TITO D.TIi1 D.TIi2 hTI), ⟨x, y, up _ _ D.TOz t5⟩, j15.at fun o q => up _ o D.i1z q, j25.at fun o q => up _ o D.i2z q⟩ t8 s8 fun c o c1 c2 c3 c4 e => up c o c1 (keep5 c o c1 c2 c3 c4 e)
  · -- its tuple is still out
    replace z1 : h₁.get? z = some (zO f0 true TI TO) := z1
    simp only [Bool.false_eq_true, if_false]
    refine wpAny_bind ?_
    rw [← Array.forIn_toList]
    simp only [List.forIn_cons, List.forIn_nil]
    refine wpAny_bind (wpAny_bind (wpAny_holding ?_))
    show wpAny _ _ (Builtin.SmallTypes.nextOf (.ref i1) >>= _) _ _ _
    refine wpAny_bind (next_item' (s := { s with heap := h₁ }) (h1.extBut k1.extBut D.i1z) (hl1.extBut k1.extBut D.l1z) hx fun h₂ j1 k2 => wpAny_pure (wpAny_pure ?_))
    refine wpAny_bind (wpAny_bind (wpAny_holding ?_))
    show wpAny _ _ (Builtin.SmallTypes.nextOf (.ref i2) >>= _) _ _ _
    refine wpAny_bind (next_item' (s := { s with heap := h₂ }) ((h2.extBut k1.extBut D.i2z).extBut k2.extBut D.i12.symm) ((hl2.extBut k1.extBut D.l2z).extBut k2.extBut D.l2i1) hy fun h₃ j2 k3 => wpAny_pure (wpAny_pure (wpAny_pure ?_)))
    show wpAny _ _ (newTuple [x, y] >>= _) _ _ _
    refine wpAny_bind (wpAny_newTuple ?_)
    have sz : h₃.objs.size = s.heap.objs.size := by rw [k3.1, k2.1, k1.1]
    have z3 : h₃.get? z = some (zO f0 true TI TO) := k3.extBut _ _ D.i2z.symm (k2.extBut _ _ D.i1z.symm z1)
    have keep3 : ∀ c o, c ≠ z → c ≠ i1 → c ≠ i2 → s.heap.get? c = some o → h₃.get? c = some o := fun c o c1 c2 c3 e => k3.extBut _ _ c3 (k2.extBut _ _ c2 (k1.extBut _ _ c1 e))
    have j13 : ItI lt h₃ i1 a (i + 1) := j1.extBut k3.extBut D.i12
    have t4 : IsPair (h₃.push { cls := .type "tuple", data := .seq #[x, y] }) h₃.objs.size x y := Heap.get?_push_size _ rfl
    have s4 : (h₃.push { cls := .type "tuple", data := .seq #[x, y] }).objs.size = h₃.objs.size + 1 := Heap.size_push ..
    refine wpAny_pure ⟨_, rfl, wpAny_pure ?_⟩
    show Q (.ref h₃.objs.size) _
    rw [sz] at t4 s4 ⊢
    exact hQ _ ⟨⟨f0, true, Heap.get?_push_of_some _ z3, hf⟩, Heap.get?_push_of_some _ (keep3 _ _ D.TIz D.TIi1 D.TIi2 hTI), ⟨u, v, Heap.get?_push_of_some _ (keep3 _ _ D.TOz D.TOi1 D.TOi2 hTO)⟩, j13.at fun o q => Heap.get?_push_of_some _ q, j2.at fun o q => Heap.get?_push_of_some _ q⟩ t4 s4
      fun c o c1 _ c3 c4 e => Heap.get?_push_of_some _ (keep3 c o c1 c3 c4 e)
theorem z_end {xs ys : Array Value} {i : Nat} {Q : Value → Shared → Prop} (hh : A.in1.handled = none) (D : ZipApart z TI TO i1 i2 a b) (S : ZS lt s.heap z TI TO i1 i2 a b i) (hl1 : SqI lt s.heap a xs) (hl2 : SqI lt s.heap b ys) (hend : xs[i]? = none ∨ ys[i]? = none)
    (hE : ∀ h' e, (∀ c o, c ≠ z → c ≠ TO → c ≠ i1 → c ≠ i2 → s.heap.get? c = some o → h'.get? c = some o) → (∃ o, h'.get? e = some o ∧ o.cls = .type "StopIteration") → E (.ref e) { s with heap := h' }) :
    wpAny (model P w) A (Builtin.SmallTypes.nextOf (.ref z)) Q E s := by
  obtain ⟨⟨f0, f1, hz, hf⟩, hTI, ⟨u, v, hTO⟩, h1, h2⟩ := S
  have hT : s.TypeIs (.ref z) "zip" := ⟨_, hz, rfl⟩
  unfold Builtin.SmallTypes.nextOf
  refine wpAny_bind (wpAny_callSpecial?_slot (name := Str.ofString "__next__") hT F.slot_zip_next (wpAny_call_entry F.slot_zip_next hT F.entry_zip_next ?_ (F.args_zip_next_1 _)))
  show wpAny _ _ (field (.ref z) 2 >>= _) _ _ _
  refine wpAny_bind (wpAny_field hz rfl (x := .bool false) rfl ?_)
  show wpAny _ _ (field (.ref z) 3 >>= _) _ _ _
  refine wpAny_bind (wpAny_field hz rfl (x := .ref TI) rfl (wpAny_bind (wpAny_seqItems hTI rfl ?_)))
  show wpAny _ _ (Builtin.SmallTypes.ownedTupleIsFree (.ref z) >>= _) _ _ _
  refine wpAny_bind (z_free hz hf ?_ fun h₁ z1 k1 => ?_)
  · simp only [if_true]
    refine wpAny_bind (wpAny_rule (wpAny_bind (wpAny_field hz rfl (x := .ref TO) rfl ?_)))
    refine wpAny_bind (wpAny_setField_rec hz (by simp) fun h₁ z1 k1 => ?_)
    replace z1 : h₁.get? z = some (zO .ellipsis f1 TI TO) := z1
    refine wpAny_bind ?_
    simp only [List.zipIdx_cons, List.zipIdx_nil, List.forIn_cons, List.forIn_nil]
    refine wpAny_bind (wpAny_bind (wpAny_onRaise ?_))
    show wpAny _ _ (Builtin.SmallTypes.nextOf (.ref i1) >>= _) _ _ _
    cases hx : xs[i]? with
    | none =>
      refine wpAny_bind (next_end' hh (h1.extBut k1.extBut D.i1z) (hl1.extBut k1.extBut D.l1z) hx fun h₂ e k2 ⟨oe, e1, e2⟩ => ?_)
      have z2 : h₂.get? z = some (zO .ellipsis f1 TI TO) := k2 _ _ D.i1z.symm z1
      have ez : e ≠ z := fun q => by rw [q, z2] at e1; cases e1; exact absurd e2 (by simp)
      exact wpAny_setField_rec z2 (by simp) fun h₃ _ k3 => hE h₃ e (fun c o c1 _ c3 _ q => k3.extBut _ _ c1 (k2 _ _ c3 (k1.extBut _ _ c1 q))) ⟨oe, k3.extBut _ _ ez e1, e2⟩
    | some x =>
      have hy : ys[i]? = none := hend.elim (fun h => by rw [hx] at h; cases h) id
      refine wpAny_bind (next_item' (h1.extBut k1.extBut D.i1z) (hl1.extBut k1.extBut D.l1z) hx fun h₂ j1 k2 => wpAny_pure ?_)
      have t2 : IsPair h₂ TO u v := k2.extBut _ _ D.TOi1 (k1.extBut _ _ D.TOz hTO)
      refine wpAny_bind (wpAny_seqItems t2 rfl (wpAny_bind (wpAny_updateSeq_pair t2 fun h₃ t3 k3 => wpAny_bind (wpAny_letGo (wpAny_pure ?_)))))
      refine wpAny_bind (wpAny_bind (wpAny_onRaise ?_))
      show wpAny _ _ (Builtin.SmallTypes.nextOf (.ref i2) >>= _) _ _ _
      refine wpAny_bind (next_end' hh (((h2.extBut k1.extBut D.i2z).extBut k2.extBut D.i12.symm).extBut k3.extBut D.TOi2.symm) (((hl2.extBut k1.extBut D.l2z).extBut k2.extBut D.l2i1).extBut k3.extBut D.l2TO) hy fun h₄ e k4 ⟨oe, e1, e2⟩ => ?_)
      have z4 : h₄.get? z = some (zO .ellipsis f1 TI TO) := k4 _ _ D.i2z.symm (k3.extBut _ _ D.TOz.symm (k2.extBut _ _ D.i1z.symm z1))
      have ez : e ≠ z := fun q => by rw [q, z4] at e1; cases e1; exact absurd e2 (by simp)
      exact wpAny_setField_rec z4 (by simp) fun h₅ _ k5 => hE h₅ e (fun c o c1 c2 c3 c4 q => k5.extBut _ _ c1 (k4 _ _ c4 (k3.extBut _ _ c2 (k2.extBut _ _ c3 (k1.extBut _ _ c1 q))))) ⟨oe, k5.extBut _ _ ez e1, e2⟩
  · simp only [Bool.false_eq_true, if_false]
    refine wpAny_bind ?_
    rw [← Array.forIn_toList]
    simp only [List.forIn_cons, List.forIn_nil]
    refine wpAny_bind (wpAny_bind (wpAny_holding ?_))
    show wpAny _ _ (Builtin.SmallTypes.nextOf (.ref i1) >>= _) _ _ _
    cases hx : xs[i]? with
    | none =>
      refine wpAny_bind (next_end' (s := { s with heap := h₁ }) hh (h1.extBut k1.extBut D.i1z) (hl1.extBut k1.extBut D.l1z) hx fun h₂ e k2 he => ?_)
      exact hE h₂ e (fun c o c1 _ c3 _ q => k2 _ _ c3 (k1.extBut _ _ c1 q)) he
    | some x =>
      have hy : ys[i]? = none := hend.elim (fun h => by rw [hx] at h; cases h) id
      refine wpAny_bind (next_item' (s := { s with heap := h₁ }) (h1.extBut k1.extBut D.i1z) (hl1.extBut k1.extBut D.l1z) hx fun h₂ j1 k2 => wpAny_pure (wpAny_pure ?_))
      refine wpAny_bind (wpAny_bind (wpAny_holding ?_))
      show wpAny _ _ (Builtin.SmallTypes.nextOf (.ref i2) >>= _) _ _ _
      refine wpAny_bind (next_end' (s := { s with heap := h₂ }) hh ((h2.extBut k1.extBut D.i2z).extBut k2.extBut D.i12.symm) ((hl2.extBut k1.extBut D.l2z).extBut k2.extBut D.l2i1) hy fun h₃ e k3 he => ?_)
      exact hE h₃ e (fun c o c1 _ c3 c4 q => k3 _ _ c4 (k2.extBut _ _ c3 (k1.extBut _ _ c1 q))) he
end
/-! ### enumerate over it -/
abbrev eO (z : Addr) (i : Int) (old : Value) : Obj := { cls := .type "enumerate", data := .fields #[.none, .bool false, .ref z, rawInt i, .none, old] }
theorem meets_new (z TI TO : Addr) : Meets (Builtin.«enumerate.__new__» ⟨[.type "enumerate", .ref z], []⟩) (fun _ R s => IsZip s.heap z TI TO .none ∧ R (.ok (.ret (.ref s.heap.objs.size))) { s with heap := s.heap.push (eO z 0 .none) }) :=
  .of_wp fun prog w A R s h => by
    obtain ⟨hp, g, d, tk, os⟩ := s
    obtain ⟨h1, h⟩ := h
    have hsub := sub_enumerate
    have q1 : ∀ {A' : Around} {E : Value → Shared → Prop} {Q : Value → Shared → Prop}, Q (.ref z) ⟨hp, g, d, tk, os⟩ → wpAny (model prog w) A' (pyIter (.ref z)) Q E ⟨hp, g, d, tk, os⟩ := fun q => wpAny_pyIter_zip (s := ⟨hp, g, d, tk, os⟩) h1 q
    wp_walk using q1
    refine wpAny_stack_any fun st => wpAny_pure ?_
    split
    · rename_i c _ _ _ _ _
      cases (c == Value.type "enumerate")
      · wp_walk using q1
        exact ⟨_, rfl, h⟩
      · wp_walk using q1
        exact ⟨_, rfl, h⟩
    · wp_walk using q1
      exact ⟨_, rfl, h⟩
section
variable {P : Program} {w : World} {A : Around} {E : Value → Shared → Prop} {s : Shared} {z TI TO i1 i2 a b e : Addr} {lt : Bool}
theorem enum_new {Q : Value → Shared → Prop} (hz : IsZip s.heap z TI TO .none) (h : Q (.ref s.heap.objs.size) { s with heap := s.heap.push (eO z 0 .none) }) : wpAny (model P w) A (call (.type "enumerate") [.ref z]) Q E s := by
  refine callType_new PySem.F.called_enumerate (by decide) (PySem.F.typeCall_enumerate_1 _) (PySem.F.newCall_enumerate_1 _) (fun obj => PySem.F.args_object_init_2 obj _) PySem.F.entry_enumerate_new (meets_new z TI TO) ⟨hz, ⟨_, Heap.get?_push_size _ rfl, rfl⟩, h⟩
theorem enum_item {i : Nat} {old x y : Value} {xs ys : Array Value} {Q : Option Value → Shared → Prop} (D : ZipApart z TI TO i1 i2 a b) (hne : e ≠ z ∧ e ≠ TO ∧ e ≠ i1 ∧ e ≠ i2 ∧ e ≠ TI) (he : s.heap.get? e = some (eO z (i : Int) old)) (S : ZS lt s.heap z TI TO i1 i2 a b i)
    (hl1 : SqI lt s.heap a xs) (hl2 : SqI lt s.heap b ys) (hx : xs[i]? = some x) (hy : ys[i]? = some y)
    (hQ : ∀ h1 h2 tk, ZS lt h1 z TI TO i1 i2 a b (i + 1) → IsPair h1 s.heap.objs.size x y → h1.objs.size = s.heap.objs.size + 1 → (∀ c o, c ≠ z → c ≠ TO → c ≠ i1 → c ≠ i2 → s.heap.get? c = some o → h1.get? c = some o) →
      PySem.IsEnumOut h2 e z ((i : Int) + 1) (.ref s.heap.objs.size) (s.heap.objs.size + 1) → h2.get? (s.heap.objs.size + 1) = some { cls := .type "tuple", data := .seq #[.int (i : Int) tk, .ref s.heap.objs.size] } → h2.objs.size = s.heap.objs.size + 2 →
      (∀ c o, c ≠ e → h1.get? c = some o → h2.get? c = some o) → Q (some (.ref (s.heap.objs.size + 1))) { s with heap := h2, toks := tk + 1 }) : wpAny (model P w) A (pyNext (.ref e)) Q E s := by
  have hT : s.TypeIs (.ref e) "enumerate" := ⟨_, he, rfl⟩
  unfold pyNext
  refine wpAny_bind (wpAny_attempt (wpAny_callSpecial?_slot (name := Str.ofString "__next__") hT PySem.F.slot_enumerate_next (wpAny_call_entry PySem.F.slot_enumerate_next hT PySem.F.entry_enumerate_next ?_ (PySem.F.args_enumerate_next_1 _))))
  show wpAny _ _ (field (.ref e) 2 >>= _) _ _ _
  refine wpAny_bind (wpAny_field he rfl (x := .ref z) rfl ?_)
  refine wpAny_bind (z_item D S hl1 hl2 hx hy fun h₁ S1 p1 z1 k1 => ?_)
  have e1 : h₁.get? e = some (eO z (i : Int) old) := k1 _ _ hne.1 hne.2.1 hne.2.2.1 hne.2.2.2.1 he
  have elt : e < s.heap.objs.size := Heap.lt_size he
  obtain ⟨hp, g, d, tk, os⟩ := s
  show wpAny _ _ (field (.ref e) 3 >>= _) _ _ ⟨h₁, g, d, tk, os⟩
  refine wpAny_bind (wpAny_field e1 rfl (x := rawInt i) rfl ?_)
  show wpAny _ _ (field (.ref e) 4 >>= _) _ _ ⟨h₁, g, d, tk, os⟩
  refine wpAny_bind (wpAny_field e1 rfl (x := .none) rfl ?_)
  show wpAny _ _ (mkInt i >>= _) _ _ ⟨h₁, g, d, tk, os⟩
  refine wpAny_bind (wpAny_mkInt ?_)
  show wpAny _ _ (setField (.ref e) 3 (rawInt ((i : Int) + 1)) >>= _) _ _ ⟨h₁, g, d, tk + 1, os⟩
  refine wpAny_bind (wpAny_setField_rec e1 (by simp) fun h₂ e2 k2 => ?_)
  replace e2 : h₂.get? e = some (eO z ((i : Int) + 1) old) := e2
  show wpAny _ _ (setField (.ref e) 4 .none >>= _) _ _ ⟨h₂, g, d, tk + 1, os⟩
  refine wpAny_bind (wpAny_setField_rec e2 (by simp) fun h₃ e3 k3 => ?_)
  replace e3 : h₃.get? e = some (eO z ((i : Int) + 1) old) := e3
  show wpAny _ _ (newTuple [.int i tk, .ref hp.objs.size] >>= _) _ _ ⟨h₃, g, d, tk + 1, os⟩
  refine wpAny_bind (wpAny_newTuple ?_)
  have sz : h₃.objs.size = hp.objs.size + 1 := by rw [k3.1, k2.1]; exact z1
  have e4 : (h₃.push { cls := .type "tuple", data := .seq #[.int i tk, .ref hp.objs.size] }).get? e = some (eO z ((i : Int) + 1) old) := Heap.get?_push_of_some _ e3
  have t4 : (h₃.push { cls := .type "tuple", data := .seq #[.int i tk, .ref hp.objs.size] }).get? (hp.objs.size + 1) = some { cls := .type "tuple", data := .seq #[.int i tk, .ref hp.objs.size] } := by
    rw [← sz]
    exact Heap.get?_push_size _ rfl
  have z4 : (h₃.push { cls := .type "tuple", data := .seq #[.int i tk, .ref hp.objs.size] }).objs.size = hp.objs.size + 2 := by rw [Heap.size_push, sz]
  have k4 : ∀ c o, c ≠ e → h₁.get? c = some o → (h₃.push { cls := .type "tuple", data := .seq #[.int i tk, .ref hp.objs.size] }).get? c = some o := fun c o hc q => Heap.get?_push_of_some _ (k3.extBut c o hc (k2.extBut c o hc q))
  generalize h₃.push { cls := .type "tuple", data := .seq #[.int i tk, .ref hp.objs.size] } = h₄ at e4 t4 z4 k4
  show wpAny _ _ (Builtin.SmallTypes.ownedTupleIsFree (.ref e) >>= _) _ _ ⟨h₄, g, d, tk + 1, os⟩
  rw [sz]
  refine wpAny_bind ?_
  unfold Builtin.SmallTypes.ownedTupleIsFree
  refine wpAny_bind (wpAny_field e4 rfl (x := .none) rfl (wpAny_pure ?_))
  simp only [if_true]
  refine wpAny_bind (wpAny_rule (wpAny_bind (wpAny_field e4 rfl (x := old) rfl ?_)))
  refine wpAny_bind (wpAny_setField_rec e4 (by simp) fun h₅ e5 k5 => ?_)
  replace e5 : h₅.get? e = some (eO z ((i : Int) + 1) (.ref hp.objs.size)) := e5
  show wpAny _ _ (Builtin.SmallTypes.ownedTupleHandOut (.ref e) (.ref (hp.objs.size + 1)) >>= _) _ _ ⟨h₅, g, d, tk + 1, os⟩
  refine wpAny_bind ?_
  unfold Builtin.SmallTypes.ownedTupleHandOut
  refine wpAny_bind (wpAny_setField_rec e5 (by simp) fun h₆ e6 k6 => ?_)
  replace e6 : PySem.IsEnumOut h₆ e z ((i : Int) + 1) (.ref hp.objs.size) (hp.objs.size + 1) := e6
  refine wpAny_setField_rec e6 (by simp) fun h₇ e7 k7 => ?_
  replace e7 : PySem.IsEnumOut h₇ e z ((i : Int) + 1) (.ref hp.objs.size) (hp.objs.size + 1) := e7
  have up : ∀ c o, c ≠ e → h₄.get? c = some o → h₇.get? c = some o := fun c o hc q => k7.extBut c o hc (k6.extBut c o hc (k5.extBut c o hc q))
  refine wpAny_bind (wpAny_letGo (wpAny_pure ⟨_, rfl, wpAny_pure (hQ h₁ h₇ tk S1 p1 z1 k1 e7 (up _ _ (Nat.ne_of_gt (Nat.lt_succ_of_lt elt)) t4) (by rw [k7.1, k6.1, k5.1, z4]) fun c o hc q => up c o hc (k4 c o hc q))⟩))
theorem enum_end {i : Nat} {old : Value} {xs ys : Array Value} {Q : Option Value → Shared → Prop} (hh : A.in1.in1.handled = none) (D : ZipApart z TI TO i1 i2 a b) (he : s.heap.get? e = some (eO z (i : Int) old)) (S : ZS lt s.heap z TI TO i1 i2 a b i) (hl1 : SqI lt s.heap a xs) (hl2 : SqI lt s.heap b ys)
    (hend : xs[i]? = none ∨ ys[i]? = none) (hQ : ∀ h', (∀ c o, c ≠ z → c ≠ TO → c ≠ i1 → c ≠ i2 → s.heap.get? c = some o → h'.get? c = some o) → Q none { s with heap := h' }) : wpAny (model P w) A (pyNext (.ref e)) Q E s := by
  have hT : s.TypeIs (.ref e) "enumerate" := ⟨_, he, rfl⟩
  unfold pyNext
  refine wpAny_bind (wpAny_attempt (wpAny_callSpecial?_slot (name := Str.ofString "__next__") hT PySem.F.slot_enumerate_next (wpAny_call_entry PySem.F.slot_enumerate_next hT PySem.F.entry_enumerate_next ?_ (PySem.F.args_enumerate_next_1 _))))
  show wpAny _ _ (field (.ref e) 2 >>= _) _ _ _
  refine wpAny_bind (wpAny_field he rfl (x := .ref z) rfl ?_)
  refine wpAny_bind (z_end hh D S hl1 hl2 hend fun h' x k ⟨o, ho, hc⟩ => ?_)
  refine wpAny_bind (wpAny_isInstance (T := "StopIteration") (b := true) ⟨o, ho, hc⟩ isSubtype_stop ?_)
  exact wpAny_pure (hQ _ k)
end
/-! ### the loop's iterator -/
/-- the lists or tuples at a and b, the items in new pairs, each with its place in a new pair -/
def SqV (lt : Bool) (K : PySem.W.Frag) (H : Hp) (a : Addr) (xs : List V) : Prop := match lt with | true => SqL K H a xs | false => SqT K H a xs
def IteZ (lt : Bool) (K : PySem.W.Frag) (a b : Addr) : It :=
  ⟨fun i H => ∃ (xs ys : List V) (x y : V), SqV lt K H a xs ∧ SqV lt K H b ys ∧ xs[i]? = some x ∧ ys[i]? = some y,
    fun i H v H' => ∃ T U x y, v = .ref U ∧ H T = none ∧ (upd H T (.tup [x, y])) U = none ∧ H' = upd (upd H T (.tup [x, y])) U (.tup [.int (i : Nat), .ref T]) ∧ (∀ xs, SqV lt K H a xs → xs[i]? = some x) ∧ ∀ ys, SqV lt K H b ys → ys[i]? = some y,
    fun i H => ∃ xs ys : List V, SqV lt K H a xs ∧ SqV lt K H b ys ∧ (xs.length ≤ i ∨ ys.length ≤ i)⟩
theorem sqv_at {X : Cx} {pins : List (Addr × Obj)} {σ : L2.St} {H : Hp} {s : Shared} {lt : Bool} {a : Addr} {xs : List V} (I : Inv X pins σ H s) (h : SqV lt X.K H a xs) : (∃ its : List Value, Vals xs its ∧ SqI lt s.heap a its.toArray) ∧ ∀ ys, SqV lt X.K H a ys → ys = xs := by
  cases lt with
  | true =>
    obtain ⟨its, rv, p, _⟩ := I.list h
    exact ⟨⟨its, rv, p.isList⟩, fun ys q => I.list_inj q h⟩
  | false =>
    obtain ⟨its, rv, p, _⟩ := I.tuple h
    exact ⟨⟨its, rv, p⟩, fun ys q => I.tuple_inj q h⟩
theorem turn_ez {lt : Bool} {P : Program} {w : World} {K : PySem.W.Frag} {elts : List Expr} {kk : Nat} {tpos : Pos} {a b z TI TO i1 i2 e : Addr} (D : ZipApart z TI TO i1 i2 a b) (hne : e ≠ z ∧ e ≠ TO ∧ e ≠ i1 ∧ e ≠ i2 ∧ e ≠ TI) :
    Turn P w K (.Tuple elts kk tpos) (IteZ lt K a b) [e, z, TI, TO, i1, i2] e (fun i h => (∃ old, h.get? e = some (eO z ((i : Nat) : Int) old)) ∧ ZS lt h z TI TO i1 i2 a b i) where
  mem := by simp
  obj := fun i h ⟨⟨old, he⟩, S⟩ c hc => by
    obtain ⟨⟨f0, f1, hz, _⟩, hTI, ⟨x, y, hTO⟩, s1, s2⟩ := S
    have e' : c = e ∨ c = z ∨ c = TI ∨ c = TO ∨ c = i1 ∨ c = i2 := by simpa using hc
    rcases e' with q | q | q | q | q | q
    · rw [q]; exact ⟨_, he, fun v q => nomatch q⟩
    · rw [q]; exact ⟨_, hz, fun v q => nomatch q⟩
    · rw [q]; exact ⟨_, hTI, fun v q => nomatch q⟩
    · rw [q]; exact ⟨_, hTO, fun v q => nomatch q⟩
    · rw [q]; exact s1.ob
    · rw [q]; exact s2.ob
  keep := fun i h h' ⟨⟨old, he⟩, S⟩ k => ⟨⟨old, k e (by simp) _ he⟩, S.keep fun c hc => k c (List.mem_cons_of_mem _ (by simpa using hc))⟩
  item := by
    intro X hP hw hK hc i pins s σ H E I hf ⟨⟨old, he⟩, S⟩ hg
    subst hP hw hK
    obtain ⟨xs, ys, x, y, hqx, hqy, hx, hy⟩ := hg
    obtain ⟨⟨its, rv, p⟩, j1⟩ := sqv_at I hqx
    obtain ⟨⟨its2, rv2, p2⟩, j2⟩ := sqv_at I hqy
    obtain ⟨u, hu, ru⟩ := rv.get hx
    obtain ⟨u2, hu2, ru2⟩ := rv2.get hy
    have fpl : ∀ c ∈ [e, z, TI, TO, i1, i2], c < s.heap.objs.size := fun c hc => by
      obtain ⟨⟨f0, f1, hz, _⟩, hTI, ⟨x, y, hTO⟩, s1, s2⟩ := S
      obtain ⟨o1, e1, _⟩ := s1.ob
      obtain ⟨o2, e2, _⟩ := s2.ob
      have e' : c = e ∨ c = z ∨ c = TI ∨ c = TO ∨ c = i1 ∨ c = i2 := by simpa using hc
      rcases e' with q | q | q | q | q | q
      · rw [q]; exact Heap.lt_size he
      · rw [q]; exact Heap.lt_size hz
      · rw [q]; exact Heap.lt_size hTI
      · rw [q]; exact Heap.lt_size hTO
      · rw [q]; exact Heap.lt_size e1
      · rw [q]; exact Heap.lt_size e2
    refine enum_item D hne he S p p2 (x := u) (y := u2) (by simpa using hu) (by simpa using hu2) fun h1 h2 tk S1 q1 z1 k1 e2 t2 z2 k2 => ?_
    have n1 : H s.heap.objs.size = none := I.hok.fresh (Nat.le_refl _)
    have new1 : ObjOk X.prog X.w (upd H s.heap.objs.size (.tup [x, y])) h1 s.heap.objs.size (.tup [x, y]) := ⟨by show 2 ≤ sizeLine; decide, [u, u2], .cons ru (.cons ru2 .nil), ⟨_, q1, rfl, _, rfl⟩⟩
    have I1 : Inv X pins σ (upd H s.heap.objs.size (.tup [x, y])) { s with heap := h1, toks := s.toks } :=
      I.turnedNew (t' := s.toks) (ch := [e, z, TI, TO, i1, i2]) (fun c o hb q => k1 c o (fun q' => hb (by simp [q'])) (fun q' => hb (by simp [q'])) (fun q' => hb (by simp [q'])) (fun q' => hb (by simp [q'])) q) hf (Nat.le_refl _) new1
    have hf1 : ∀ c ∈ [e, z, TI, TO, i1, i2], FpOk X pins (upd H s.heap.objs.size (.tup [x, y])) c := fun c hc => by
      obtain ⟨f1, f2⟩ := hf c hc
      exact ⟨by rw [upd_ne (Nat.ne_of_lt (fpl c hc))]; exact f1, f2⟩
    refine ⟨_, rfl, wpAny_letOwnedTupleGo_enum (s := { s with heap := h2, toks := tk + 1 }) e2 fun h3 e3 sb => ?_⟩
    have elt := fpl e (by simp)
    have t3 : h3.get? (s.heap.objs.size + 1) = some { cls := .type "tuple", data := .seq #[.int (i : Int) tk, .ref s.heap.objs.size] } := (sb.2 _ (Nat.ne_of_gt (Nat.lt_succ_of_lt elt))).trans t2
    have keep : ∀ c o, c ∉ [e, z, TI, TO, i1, i2] → h1.get? c = some o → h3.get? c = some o := fun c o hc q => (sb.2 c fun q' => hc (by simp [q'])).trans (k2 c o (fun q' => hc (by simp [q'])) q)
    have new2 : ObjOk X.prog X.w (upd (upd H s.heap.objs.size (.tup [x, y])) (s.heap.objs.size + 1) (.tup [.int (i : Nat), .ref s.heap.objs.size])) h3 (s.heap.objs.size + 1) (.tup [.int (i : Nat), .ref s.heap.objs.size]) :=
      ⟨by show 2 ≤ sizeLine; decide, [.int i tk, .ref s.heap.objs.size], .cons ⟨_, rfl⟩ (.cons rfl .nil), ⟨_, t3, rfl, _, rfl⟩⟩
    have I2 : Inv X pins σ (upd (upd H s.heap.objs.size (.tup [x, y])) (s.heap.objs.size + 1) (.tup [.int (i : Nat), .ref s.heap.objs.size])) { s with heap := h3, toks := tk + 1 } :=
      I1.turnedNew (t' := tk + 1) (ch := [e, z, TI, TO, i1, i2]) keep hf1 (by show h1.objs.size ≤ _; omega) new2
    refine ⟨.ref (s.heap.objs.size + 1), _, I2, rfl, ⟨_, _, x, y, rfl, n1, by rw [upd_ne (Nat.ne_of_gt (Nat.lt_succ_self _))]; exact I.hok.fresh (Nat.le_succ _), rfl, fun l hl => by rw [j1 l hl]; exact hx, fun l hl => by rw [j2 l hl]; exact hy⟩, ⟨⟨.ref s.heap.objs.size, ?_⟩, ?_⟩, fun c hc => ?_⟩
    · have q : ((i + 1 : Nat) : Int) = (i : Int) + 1 := by omega
      rw [q]
      exact e3
    · refine S1.keep fun c hc o q => ?_
      have ne : c ≠ e := by
        rcases hc with r | r | r | r | r
        · rw [r]; exact hne.1.symm
        · rw [r]; exact hne.2.2.2.2.symm
        · rw [r]; exact hne.2.1.symm
        · rw [r]; exact hne.2.2.1.symm
        · rw [r]; exact hne.2.2.2.1.symm
      exact (sb.2 c ne).trans (k2 c o ne q)
    · have lt := fpl c hc
      rw [upd_ne (Nat.ne_of_lt (Nat.lt_succ_of_lt lt)), upd_ne (Nat.ne_of_lt lt)]
      exact (hf c hc).1
  done := by
    intro X hP hw hK hc i pins s σ H E I hf ⟨⟨old, he⟩, S⟩ hg
    subst hP hw hK
    obtain ⟨xs, ys, hqx, hqy, hend⟩ := hg
    obtain ⟨⟨its, rv, p⟩, j1⟩ := sqv_at I hqx
    obtain ⟨⟨its2, rv2, p2⟩, j2⟩ := sqv_at I hqy
    have l1 := rv.length
    have l2 := rv2.length
    have hn : its.toArray[i]? = none ∨ its2.toArray[i]? = none := by
      rcases hend with q | q
      · exact .inl (by simp; omega)
      · exact .inr (by simp; omega)
    exact enum_end (by simpa using I.ok.hd hc) D he S p p2 hn fun h' hk => ⟨rfl, I.turnedL (t' := s.toks) (ch := [e, z, TI, TO, i1, i2]) (fun c o hb q =>
      hk c o (fun q' => hb (by simp [q'])) (fun q' => hb (by simp [q'])) (fun q' => hb (by simp [q'])) (fun q' => hb (by simp [q'])) q) hf⟩
  self := fun A i s Q E ⟨⟨_, he⟩, _⟩ h => wpAny_pyIter_enum he h
theorem far (n : Nat) : n + 5 ≠ n + 4 ∧ n + 5 ≠ n + 3 ∧ n + 5 ≠ n ∧ n + 5 ≠ n + 1 ∧ n + 5 ≠ n + 2 := by omega
theorem pi_ez {X : Cx} {e e2 : Expr} {ta : TA} {p p2 pos q2 tpos : Pos} {elts : List Expr} {kk : Nat} (hg : Gl X "enumerate") (hm : X.mg "enumerate" = none) (hg2 : Gl X "zip") (hm2 : X.mg "zip" = none) (ha : PA X [e, e2] ta)
    (hs : starEach [e, e2] X.env = (false, eval e X.env) :: starEach [e2] X.env) (hpl : (backTo q2 (starEach [e2] X.env)).any (·.1) = false) :
    PI X (.Tuple elts kk tpos) (.Call (.Name "enumerate" p) [.Call (.Name "zip" p2) [e, e2] [] q2] [] pos) (fun σ H R => ta σ H fun vs H1 => ∃ lt a b xs ys, vs = [.ref a, .ref b] ∧ SqV lt X.K H1 a xs ∧ SqV lt X.K H1 b ys ∧ R (IteZ lt X.K a b) H1) := by
  refine ⟨fun pins s σ H R I h => ?_⟩
  refine Call_ (ld_blt I hg hm boot_enumerate (PyProof.Rows.callWith_type1 (PyProof.Rows.args_cons ?_ rfl) rfl rfl))
  refine Call_ (ld_blt I hg2 hm2 PyProof.Rows.boot_zip (PyProof.Rows.callWith_type1 (thn (ha.run q2 pins s σ H _ I h) fun us s1 ⟨vs, H1, I1, r1, q1⟩ => ?_) hs hpl))
  obtain ⟨lt, a, b, xs, ys, ex, hqx, hqy, q⟩ := q1
  subst ex
  cases r1 with
  | cons r rr =>
    cases rr with
    | cons r' rr =>
      cases rr
      cases r
      cases r'
      have fin : ∀ h' : Heap, IsZip h' (s1.heap.objs.size + 4) (s1.heap.objs.size + 2) (s1.heap.objs.size + 3) .none → IsPair h' (s1.heap.objs.size + 2) (.ref s1.heap.objs.size) (.ref (s1.heap.objs.size + 1)) → IsPair h' (s1.heap.objs.size + 3) .none .none →
          ItI lt h' s1.heap.objs.size a 0 → ItI lt h' (s1.heap.objs.size + 1) b 0 → h'.objs.size = s1.heap.objs.size + 5 → (∀ c o, s1.heap.get? c = some o → h'.get? c = some o) → a < s1.heap.objs.size → b < s1.heap.objs.size →
          wpAny (model X.prog X.w) X.A (spliced (backTo pos (starEach [] X.env))) (fun vs s2 => wpAny (model X.prog X.w) X.A (call (.type "enumerate") (.ref (s1.heap.objs.size + 4) :: vs)) (fun v s3 => wpAny (model X.prog X.w) X.A (pyIter v) (PIE X pins σ (.Tuple elts kk tpos) R) X.xe s3) X.xe s2) X.xe { s1 with heap := h' } := fun h' hz hTI hTO h1 h2 hsz hk la lb => by
        refine PyProof.Rows.args_nil ?_
        refine enum_new (s := { s1 with heap := h' }) hz ?_
        show wpAny _ _ (pyIter (.ref h'.objs.size)) _ _ _
        rw [hsz]
        have he : (h'.push (eO (s1.heap.objs.size + 4) 0 .none)).get? (s1.heap.objs.size + 5) = some (eO (s1.heap.objs.size + 4) ((0 : Nat) : Int) .none) := by
          rw [← hsz]
          exact Heap.get?_push_size _ rfl
        refine wpAny_pyIter_enum (s := { s1 with heap := h'.push (eO (s1.heap.objs.size + 4) 0 .none) }) he ?_
        have I2 : Inv X pins σ H1 { s1 with heap := h'.push (eO (s1.heap.objs.size + 4) 0 .none) } := I1.kept (t' := s1.toks) fun c o x => Heap.get?_push_of_some _ (hk c o x)
        refine ⟨s1.heap.objs.size + 5, [s1.heap.objs.size + 5, s1.heap.objs.size + 4, s1.heap.objs.size + 2, s1.heap.objs.size + 3, s1.heap.objs.size, s1.heap.objs.size + 1], _, _, H1, rfl, I2,
          turn_ez (PySem.W.ktu_apart s1.heap.objs.size a b la lb) (far s1.heap.objs.size), ⟨⟨.none, he⟩, ?_⟩, fun c hc => ?_, q⟩
        · have up : ∀ c o, h'.get? c = some o → (h'.push (eO (s1.heap.objs.size + 4) 0 .none)).get? c = some o := fun c o x => Heap.get?_push_of_some _ x
          exact ⟨⟨.none, false, up _ _ hz, .inl rfl⟩, up _ _ hTI, ⟨_, _, up _ _ hTO⟩, h1.at fun o x => up _ o x, h2.at fun o x => up _ o x⟩
        · have hle : s1.heap.objs.size ≤ c := by
            have e' : c = s1.heap.objs.size + 5 ∨ c = s1.heap.objs.size + 4 ∨ c = s1.heap.objs.size + 2 ∨ c = s1.heap.objs.size + 3 ∨ c = s1.heap.objs.size ∨ c = s1.heap.objs.size + 1 := by simpa using hc
            rcases e' with z | z | z | z | z | z
            · rw [z]; exact Nat.le_add_right _ _
            · rw [z]; exact Nat.le_add_right _ _
            · rw [z]; exact Nat.le_add_right _ _
            · rw [z]; exact Nat.le_add_right _ _
            · rw [z]; exact Nat.le_refl _
            · rw [z]; exact Nat.le_add_right _ _
          exact I1.fpOk hle (I1.hok.fresh hle)
      cases lt with
      | true =>
        obtain ⟨its, rv, p1, _⟩ := I1.list hqx
        obtain ⟨its2, rv2, p2, _⟩ := I1.list hqy
        exact call_zip_2 p1.isList p2.isList fun h' hz hTI hTO h1 h2 hsz hk => fin h' hz hTI hTO h1 h2 hsz hk p1.lt p2.lt
      | false =>
        obtain ⟨its, rv, p1, _⟩ := I1.tuple hqx
        obtain ⟨its2, rv2, p2, _⟩ := I1.tuple hqy
        obtain ⟨o1, ho1, _⟩ := id p1
        obtain ⟨o2, ho2, _⟩ := id p2
        exact call_zipT (show s1.heap.IsTuple a its.toArray from p1) (show s1.heap.IsTuple b its2.toArray from p2) fun h' hz hTI hTO h1 h2 hsz hk => fin h' hz hTI hTO h1 h2 hsz hk (Heap.lt_size ho1) (Heap.lt_size ho2)
end EvZ

/-! EvW: dicts are walked: their keys, values, pairs; locked for good from then on. -/
namespace Ev
variable [FnTab]
open PySem PySem.Spec PyProof.Rows L2

/-- the keys and values of the dict that stands at a -/
inductive DicV (a : Addr) : HO → List (V × V) → Prop
  | k (ks : List (Key × V)) : DicV a (.dK ks) (ks.map fun p => (kV p.1, p.2))
  | n {w : World} {xs : List (NestedKey × Addr × Value)} {kv : List (V × V)} : Paired (fun (x : NestedKey × Addr × Value) (p : V × V) => p.1 = .ref x.2.1 ∧ RelV p.2 x.2.2) xs kv → DicV a (.ext (RAW w a xs)) kv
abbrev RepP (g : Gh) : List (PyData × D) → List (V × V) → Prop := Paired fun (p : PyData × D) (q : V × V) => Dp N0 g.G q.1 p.1 ∧ RepD N0 g p.2 q.2
theorem dicV_of {g : Gh} {a : Addr} {kvs : List (PyData × D)} {ho : HO} (h : DicH N0 g a kvs ho) : ∃ kv, DicV a ho kv ∧ RepP g kvs kv := by
  rcases h with ⟨ks, rfl, r⟩ | ⟨w, xs, rfl, r, _⟩
  · refine ⟨_, .k ks, ?_⟩
    induction r with
    | nil => exact .nil
    | @cons p q ps qs r1 r2 ih =>
      refine .cons ⟨?_, r1.2⟩ ih
      have e : keyP p.1 = some q.1 := r1.1
      cases hp : p.1 with
      | int i => rw [hp] at e; injection e with e; show Dp N0 g.G (kV q.1) _; rw [← e]; exact .int i
      | str x => rw [hp] at e; injection e with e; show Dp N0 g.G (kV q.1) _; rw [← e]; exact .str x
      | _ => rw [hp] at e; cases e
  · have go : ∀ {kvs : List (PyData × D)} {xs : List (NestedKey × Addr × Value)}, RepKn N0 g kvs xs → ∃ kv, Paired (fun (x : NestedKey × Addr × Value) (p : V × V) => p.1 = .ref x.2.1 ∧ RelV p.2 x.2.2) xs kv ∧ RepP g kvs kv := by
      intro kvs xs r
      induction r with
      | nil => exact ⟨[], .nil, .nil⟩
      | @cons p x ps xs r1 r2 ih =>
        obtain ⟨kv, h1, h2⟩ := ih
        obtain ⟨_, _, k3, v, k4, k5⟩ := r1
        exact ⟨(.ref x.2.1, v) :: kv, .cons ⟨rfl, k4⟩ h1, .cons ⟨k3, k5⟩ h2⟩
    obtain ⟨kv, h1, h2⟩ := go r
    exact ⟨kv, .n h1, h2⟩
theorem RepP.mono {g g' : Gh} (f : Sub g.G g'.G) (m : ∀ (n : Nat) (a : Addr), g.mu[n]? = some a → g'.mu[n]? = some a) : ∀ {ds : List (PyData × D)} {vs : List (V × V)}, RepP g ds vs → RepP g' ds vs
  | _, _, .nil => .nil
  | _, _, .cons a b => .cons ⟨dp_mono f _ _ a.1, a.2.mono f m⟩ (RepP.mono f m b)
section
variable {X : Cx} {pins : List (Addr × Obj)} {σ : L2.St} {H : Hp} {s : Shared} {d : Addr} {od : Obj} {ho : HO} {kv : List (V × V)}
/-- a locked dict's entries -/
theorem dicV_at (I : Inv X pins σ H s) (h : H d = some (.frz od ho)) (v : DicV d ho kv) : (d == sysModules) = false ∧ ∃ es ep, od.data = .dict es ep ∧ s.heap.DictRaw d es ep ∧ es.size = kv.length ∧ ∀ i p, kv[i]? = some p → ∃ hi : i < es.size, RelV p.1 es[i].key ∧ RelV p.2 es[i].val := by
  cases v with
  | k ks =>
    obtain ⟨hs, hgd, hx, es, ep, vs, hdt, hsz, kvr, hm⟩ := I.frzK h
    refine ⟨hs, es, ep, hdt, ⟨od, hgd, hx, hdt⟩, by rw [List.length_map]; exact hsz, fun i p hp => ?_⟩
    rw [List.getElem?_map] at hp
    obtain ⟨q, hq, rfl⟩ := Option.map_eq_some_iff.mp hp
    obtain ⟨u, hu, ru⟩ := kv_get kvr hq
    obtain ⟨o', es', g1, hx', hdt', _, hpr, _⟩ := hm
    rw [hgd] at g1; cases g1
    obtain ⟨rfl, _⟩ := dict_ep hdt hdt'
    have hi : i < es'.size := by rw [hsz]; exact (List.getElem?_eq_some_iff.mp hq).1
    obtain ⟨k1, k2⟩ := hpr.get? (e := es'[i]) (by simp [hi]) hu
    exact ⟨hi, relV_key (show keyIs q.1 es'[i].key = true from k1), by rw [k2]; exact ru⟩
  | @n w xs kv hp =>
    obtain ⟨hgd, ok⟩ := I.hok d _ h
    obtain ⟨r1, r2, r3, o, es, ep, e1, e2, e3, e4⟩ := ok.1
    rw [hgd] at e1; cases e1
    have hlen : xs.length = kv.length := Paired.length hp
    have hsz : es.size = xs.length := by rw [← Array.length_toList, e4, List.length_map]
    refine ⟨r1, es, ep, e3, ⟨_, hgd, e2, e3⟩, by omega, fun i p hpi => ?_⟩
    have hi : i < es.size := by rw [hsz, hlen]; exact (List.getElem?_eq_some_iff.mp hpi).1
    have hix : i < xs.length := by omega
    obtain ⟨q, hq, h1, h2⟩ := paired_get hp (List.getElem?_eq_getElem hix)
    rw [hpi] at hq; cases hq
    have ee : es[i] = (⟨xs[i].1.hash w, .ref xs[i].2.1, xs[i].2.2⟩ : DictEntry) := by
      have z : es.toList[i]? = some es[i] := by simp [hi]
      rw [e4, List.getElem?_map, List.getElem?_eq_getElem hix] at z
      exact (Option.some.inj z).symm
    refine ⟨hi, ?_, ?_⟩
    · rw [ee, h1]; exact rfl
    · rw [ee]; exact h2
end
/-! ### iterators: 0 the keys, 1 the values, 2 the pairs -/
def ItD (mode : Nat) (d : Addr) (od : Obj) (ho : HO) (kv : List (V × V)) : It :=
  ⟨fun i H => H d = some (.frz od ho) ∧ i < kv.length, fun i H x H' => match mode with
    | 0 => H' = H ∧ ∃ p, kv[i]? = some p ∧ x = p.1
    | 1 => H' = H ∧ ∃ p, kv[i]? = some p ∧ x = p.2
    | _ => ∃ T p, kv[i]? = some p ∧ x = .ref T ∧ H T = none ∧ H' = upd H T (.tup [p.1, p.2]), fun i H => H d = some (.frz od ho) ∧ kv.length ≤ i⟩
section
variable {P : Program} {w : World} {K : PySem.W.Frag} {tg : Expr} {d : Addr} {od : Obj} {ho : HO} {kv : List (V × V)} {es : Array DictEntry} {ep : Nat}
theorem turn_dk (it : Addr) (v : DicV d ho kv) (hod : od.data = .dict es ep) (hsz : es.size = kv.length) : Turn P w K tg (ItD 0 d od ho kv) [it] it (fun i h => h.IsKeyIter it d i es.size ep) where
  mem := by simp
  obj := fun i h st b hb => by
    have e : b = it := by simpa using hb
    subst e
    obtain ⟨oi, e, c, dd⟩ := st
    exact ⟨oi, e, fun v z => by rw [dd] at z; cases z⟩
  keep := fun i h h' st k => st.at fun oi e => k it (by simp) oi e
  item := by
    intro X hP hw hK hc i pins s σ H E I hf st hg
    subst hP hw hK
    obtain ⟨hd, hi⟩ := hg
    obtain ⟨f0, f1, f2, f3, f4, f5⟩ := hf it (by simp)
    obtain ⟨hs, es', ep', hdt, hm, hsz', ent⟩ := dicV_at I hd v
    obtain ⟨rfl, rfl⟩ := dict_ep hod hdt
    obtain ⟨p, hp⟩ : ∃ p, kv[i]? = some p := ⟨kv[i], List.getElem?_eq_getElem hi⟩
    obtain ⟨hlt, r1, r2⟩ := ent i p hp
    refine wpAny_pyNext_keys_item_raw st hm hlt fun h' st' sb => ?_
    have I1 : Inv X pins σ H { s with heap := h' } := I.turned (t' := s.toks) (fun b ob hb e => (sb.2 b hb).trans e) f0 f1 f3 f4 f5
    obtain ⟨oi, e, c, dd⟩ := id st'
    exact ⟨_, rfl, go_of (s := { s with heap := h' }) e c dd (by decide) ⟨p.1, H, I1, r1, ⟨rfl, p, hp, rfl⟩, st', fun b hb => (hf b hb).1⟩⟩
  done := by
    intro X hP hw hK hc i pins s σ H E I hf st hg
    subst hP hw hK
    obtain ⟨hd, hi⟩ := hg
    obtain ⟨f0, f1, f2, f3, f4, f5⟩ := hf it (by simp)
    obtain ⟨hs, es', ep', hdt, hm, hsz', ent⟩ := dicV_at I hd v
    obtain ⟨rfl, rfl⟩ := dict_ep hod hdt
    exact wpAny_pyNext_keys_end_raw (I.ok.hd hc) st hm (by omega) fun h' eb => ⟨rfl, I.turned (t' := s.toks) (fun b ob hb e => eb b ob hb e) f0 f1 f3 f4 f5⟩
  self := fun A i s Q E st h => wpAny_pyIter_keyiter st h
theorem turn_dv (it : Addr) (v : DicV d ho kv) (hod : od.data = .dict es ep) (hsz : es.size = kv.length) : Turn P w K tg (ItD 1 d od ho kv) [it] it (fun i h => h.IsValIter it d i es.size ep) where
  mem := by simp
  obj := fun i h st b hb => by
    have e : b = it := by simpa using hb
    subst e
    obtain ⟨oi, e, c, dd⟩ := st
    exact ⟨oi, e, fun v z => by rw [dd] at z; cases z⟩
  keep := fun i h h' st k => st.at fun oi e => k it (by simp) oi e
  item := by
    intro X hP hw hK hc i pins s σ H E I hf st hg
    subst hP hw hK
    obtain ⟨hd, hi⟩ := hg
    obtain ⟨f0, f1, f2, f3, f4, f5⟩ := hf it (by simp)
    obtain ⟨hs, es', ep', hdt, hm, hsz', ent⟩ := dicV_at I hd v
    obtain ⟨rfl, rfl⟩ := dict_ep hod hdt
    obtain ⟨p, hp⟩ : ∃ p, kv[i]? = some p := ⟨kv[i], List.getElem?_eq_getElem hi⟩
    obtain ⟨hlt, r1, r2⟩ := ent i p hp
    refine wpAny_pyNext_values_item_raw st hm hlt fun h' st' sb => ?_
    have I1 : Inv X pins σ H { s with heap := h' } := I.turned (t' := s.toks) (fun b ob hb e => (sb.2 b hb).trans e) f0 f1 f3 f4 f5
    obtain ⟨oi, e, c, dd⟩ := id st'
    exact ⟨_, rfl, go_of (s := { s with heap := h' }) e c dd (by decide) ⟨p.2, H, I1, r2, ⟨rfl, p, hp, rfl⟩, st', fun b hb => (hf b hb).1⟩⟩
  done := by
    intro X hP hw hK hc i pins s σ H E I hf st hg
    subst hP hw hK
    obtain ⟨hd, hi⟩ := hg
    obtain ⟨f0, f1, f2, f3, f4, f5⟩ := hf it (by simp)
    obtain ⟨hs, es', ep', hdt, hm, hsz', ent⟩ := dicV_at I hd v
    obtain ⟨rfl, rfl⟩ := dict_ep hod hdt
    exact wpAny_pyNext_values_end_raw (I.ok.hd hc) st hm (by omega) fun h' eb => ⟨rfl, I.turned (t' := s.toks) (fun b ob hb e => eb b ob hb e) f0 f1 f3 f4 f5⟩
  self := fun A i s Q E st h => wpAny_pyIter_valiter st h
theorem turn_di {elts : List Expr} {kk : Nat} {tpos : Pos} (it : Addr) (v : DicV d ho kv) (hod : od.data = .dict es ep) (hsz : es.size = kv.length) :
    Turn P w K (.Tuple elts kk tpos) (ItD 2 d od ho kv) [it] it (fun i h => ∃ ok ov, IsItemIter h it d i es.size ep ok ov) where
  mem := by simp
  obj := fun i h st b hb => by
    have e : b = it := by simpa using hb
    subst e
    obtain ⟨ok, ov, e⟩ := st
    exact ⟨_, e, fun v z => nomatch z⟩
  keep := fun i h h' st k => let ⟨ok, ov, e⟩ := st; ⟨ok, ov, k it (by simp) _ e⟩
  item := by
    intro X hP hw hK hc i pins s σ H E I hf st hg
    subst hP hw hK
    obtain ⟨hd, hi⟩ := hg
    obtain ⟨hs, es', ep', hdt, hm, hsz', ent⟩ := dicV_at I hd v
    obtain ⟨rfl, rfl⟩ := dict_ep hod hdt
    obtain ⟨p, hp⟩ : ∃ p, kv[i]? = some p := ⟨kv[i], List.getElem?_eq_getElem hi⟩
    obtain ⟨hilt, r1, r2⟩ := ent i p hp
    obtain ⟨ok, ov, he⟩ := st
    have hlt : it < s.heap.objs.size := Heap.lt_size he
    refine wpAny_pyNext_items_item_raw he hm hilt fun h' ho' hT hz hk => ?_
    refine ⟨_, rfl, wpAny_letOwnedTupleGo_items (s := { s with heap := h' }) ho' fun h'' he' sb => ?_⟩
    have hT2 : h''.get? s.heap.objs.size = some { cls := .type "tuple", data := .seq #[es'[i].key, es'[i].val] } := (sb.2 _ (Nat.ne_of_gt hlt)).trans hT
    have new : ObjOk X.prog X.w (upd H s.heap.objs.size (.tup [p.1, p.2])) h'' s.heap.objs.size (.tup [p.1, p.2]) :=
      ⟨by show 2 ≤ sizeLine; decide, [es'[i].key, es'[i].val], .cons r1 (.cons r2 .nil), ⟨_, hT2, rfl, _, rfl⟩⟩
    have I1 : Inv X pins σ (upd H s.heap.objs.size (.tup [p.1, p.2])) { s with heap := h'' } :=
      I.turnedNew (t' := s.toks) (ch := [it]) (fun b ob hb e => (sb.2 b (by simpa using hb)).trans (hk b ob (by simpa using hb) e)) hf (Nat.le_refl _) new
    refine ⟨.ref s.heap.objs.size, _, I1, rfl, ⟨_, p, hp, rfl, I.hok.fresh (Nat.le_refl _), rfl⟩, ⟨_, _, he'⟩, fun b hb => ?_⟩
    have e : b = it := by simpa using hb
    rw [e, upd_ne (Nat.ne_of_lt hlt)]
    exact (hf it (by simp)).1
  done := by
    intro X hP hw hK hc i pins s σ H E I hf st hg
    subst hP hw hK
    obtain ⟨hd, hi⟩ := hg
    obtain ⟨f0, f1, f2, f3, f4, f5⟩ := hf it (by simp)
    obtain ⟨hs, es', ep', hdt, hm, hsz', ent⟩ := dicV_at I hd v
    obtain ⟨rfl, rfl⟩ := dict_ep hod hdt
    obtain ⟨ok, ov, he⟩ := st
    exact wpAny_pyNext_items_end_raw (I.ok.hd hc) he hm (by omega) fun h' eb => ⟨rfl, I.turned (t' := s.toks) (fun b ob hb e => eb b ob hb e) f0 f1 f3 f4 f5⟩
  self := fun A i s Q E st h => let ⟨_, _, e⟩ := st; PySem.W.kcp_self e h
end
/-- the dict at a is locked, and its iterator begins -/
def DJ (mode : Nat) (a : Addr) (H : Hp) (R : It → Hp → Prop) : Prop := ∃ ho kv, DicV a ho kv ∧
  ((H a = some ho ∧ Mut (some ho) ∧ ∀ od, R (ItD mode a od ho kv) (upd H a (.frz od ho))) ∨ ∃ od, H a = some (.frz od ho) ∧ R (ItD mode a od ho kv) H)
section
variable {X : Cx} {pins : List (Addr × Obj)} {σ : L2.St} {H : Hp} {s : Shared} {a : Addr} {R : It → Hp → Prop}
theorem dj_lock {mode : Nat} (I : Inv X pins σ H s) (h : DJ mode a H R) : ∃ od ho kv H', Inv X pins σ H' s ∧ H' a = some (.frz od ho) ∧ DicV a ho kv ∧ R (ItD mode a od ho kv) H' := by
  obtain ⟨ho, kv, v, h⟩ := h
  rcases h with ⟨h1, h2, h3⟩ | ⟨od, h1, h2⟩
  · obtain ⟨od, I'⟩ := I.lock h1 h2
    exact ⟨od, ho, kv, _, I', upd_same, v, h3 od⟩
  · exact ⟨od, ho, kv, H, I, h1, v, h2⟩
theorem pi_dk {tg : Expr} (I : Inv X pins σ H s) (h : DJ 0 a H R) : wpAny (model X.prog X.w) X.A (pyIter (.ref a)) (PIE X pins σ tg R) X.xe s := by
  obtain ⟨od, ho, kv, H', I1, hH, v, q⟩ := dj_lock I h
  obtain ⟨hs, es, ep, hdt, hm, hsz, ent⟩ := dicV_at I1 hH v
  obtain ⟨o, hgd, hx, hd2⟩ := id hm
  exact iter_keys hs hgd hx hd2 (pi_one (tk := s.toks) I1 _ (turn_dk _ v hdt hsz) ⟨_, Heap.get?_push_size _ rfl, rfl, rfl⟩ q)
theorem pi_dvals {tg e : Expr} {apos cpos : Pos} {td : TE} (he : PE X e td) (hbase : attributeBase e "values" X.env (eval e X.env) = eval e X.env) (hline : (apos.endLine == cpos.line) = true) :
    PI X tg (.Call (.Attribute e "values" apos) [] [] cpos) (fun σ H R => td σ H fun x H1 => ∃ a, x = .ref a ∧ DJ 1 a H1 R) := by
  refine ⟨fun pins s σ H R I h => ?_⟩
  refine wpAny_Call_method (T := "dict") (id := "dict.values") hbase rfl hline PySem.F.plainAttrs_dict PySem.F.slot_dict_values PySem.F.type_dict_values (thn (he.run pins s σ H _ I h) fun u s1 ⟨x, H0, I0, rx, a, ex, q⟩ => ?_)
  subst ex
  obtain rfl : u = Value.ref a := rx
  obtain ⟨od, ho, kv, H1, I1, hH, v, q⟩ := dj_lock I0 q
  obtain ⟨hs, es, ep, hdt, hm, hsz, ent⟩ := dicV_at I1 hH v
  obtain ⟨o, hgd, hx, hd2⟩ := id hm
  refine ⟨hm.typeIs, fun b eb => by cases eb; exact ⟨o, hgd, hx.2.1⟩, ?_⟩
  have I2 : Inv X pins σ H1 { s1 with heap := s1.heap.push { cls := .type "dict_values", data := .fields #[.ref a] } } := I1.kept (t' := s1.toks) fun b ob q => Heap.get?_push_of_some _ q
  have fin : wpAny (model X.prog X.w) X.A (pyIter (.ref s1.heap.objs.size)) (PIE X pins σ tg R) X.xe { s1 with heap := s1.heap.push { cls := .type "dict_values", data := .fields #[.ref a] } } :=
    wpAny_pyIter_values_raw (d := a) (es := es) (ep := ep) ⟨_, Heap.get?_push_size _ rfl, rfl, rfl⟩ (hm.at fun o e => Heap.get?_push_of_some _ e) (pi_one (tk := s1.toks) I2 _ (turn_dv _ v hdt hsz) ⟨_, Heap.get?_push_size _ rfl, rfl, rfl⟩ q)
  show wpAny _ _ (callWith cpos (.builtin "dict.values") [.ref a] [] []) _ X.xe s1
  exact method_meetsIn PySem.F.slot_dict_values PySem.F.entry_dict_values rfl (PySem.evalArgs_none ⟨rfl, hm.typeIs, PySem.F.args_dict_values_1 _, _, meets_dict_values_raw a hs, ⟨⟨es, ep, hm⟩, fin⟩⟩)
theorem pi_ditems {elts : List Expr} {kk : Nat} {tpos : Pos} {e : Expr} {apos cpos : Pos} {td : TE} (he : PE X e td) (hbase : attributeBase e "items" X.env (eval e X.env) = eval e X.env) (hline : (apos.endLine == cpos.line) = true) :
    PI X (.Tuple elts kk tpos) (.Call (.Attribute e "items" apos) [] [] cpos) (fun σ H R => td σ H fun x H1 => ∃ a, x = .ref a ∧ DJ 2 a H1 R) := by
  refine ⟨fun pins s σ H R I h => ?_⟩
  refine wpAny_Call_method (T := "dict") (id := "dict.items") hbase rfl hline PySem.F.plainAttrs_dict PySem.F.slot_dict_items PySem.F.type_dict_items (thn (he.run pins s σ H _ I h) fun u s1 ⟨x, H0, I0, rx, a, ex, q⟩ => ?_)
  subst ex
  obtain rfl : u = Value.ref a := rx
  obtain ⟨od, ho, kv, H1, I1, hH, v, q⟩ := dj_lock I0 q
  obtain ⟨hs, es, ep, hdt, hm, hsz, ent⟩ := dicV_at I1 hH v
  obtain ⟨o, hgd, hx, hd2⟩ := id hm
  refine ⟨hm.typeIs, fun b eb => by cases eb; exact ⟨o, hgd, hx.2.1⟩, ?_⟩
  have I2 : Inv X pins σ H1 { s1 with heap := s1.heap.push { cls := .type "dict_items", data := .fields #[.ref a] } } := I1.kept (t' := s1.toks) fun b ob q => Heap.get?_push_of_some _ q
  have fin : wpAny (model X.prog X.w) X.A (pyIter (.ref s1.heap.objs.size)) (PIE X pins σ (.Tuple elts kk tpos) R) X.xe { s1 with heap := s1.heap.push { cls := .type "dict_items", data := .fields #[.ref a] } } :=
    wpAny_pyIter_items_raw (d := a) (es := es) (ep := ep) ⟨_, Heap.get?_push_size _ rfl, rfl, rfl⟩ (hm.at fun o e => Heap.get?_push_of_some _ e) (pi_one (tk := s1.toks) I2 _ (turn_di _ v hdt hsz) ⟨.none, .none, Heap.get?_push_size _ rfl⟩ q)
  show wpAny _ _ (callWith cpos (.builtin "dict.items") [.ref a] [] []) _ X.xe s1
  exact method_meetsIn PySem.F.slot_dict_items PySem.F.entry_dict_items rfl (PySem.evalArgs_none ⟨rfl, hm.typeIs, PySem.F.args_dict_items_1 _, _, meets_dict_items_raw a hs, ⟨⟨es, ep, hm⟩, fin⟩⟩)
end
/-! ### sorted(d) -/
theorem keys_lock {bs : List Nat} {g : Gh} {H : Hp} {st : Sto} {ds : List D} {vs : List V} {z : List PyData × Sto} {X : Cx} {pins : List (Addr × Obj)} {σ : L2.St} {s : Shared} (I : Inv X pins σ H s) (a : At N0 bs g H st) (r : RepDs N0 g ds vs) (h : keysOf ds st = some z) :
    ∃ b od ho kv kvs g' H', vs = [.ref b] ∧ z.1 = kvs.map (·.1) ∧ Inv X pins σ H' s ∧ H' b = some (.frz od ho) ∧ DicV b ho kv ∧ At N0 bs g' H' z.2 ∧ Step g H st g' H' z.2 ∧ RepP g' kvs kv := by
  unfold keysOf at h
  split at h
  · rename_i n
    obtain ⟨v, rfl, rd⟩ := reps1 r
    obtain ⟨b, hb, rfl⟩ := rd
    have open_ : ∀ kvs ho, dicOf (getS st n) = some kvs → mutable (getS st n) = true → H b = some ho → Mut (some ho) → DicH N0 g b kvs ho → z = (kvs.map (·.1), st.set n (.fzd kvs)) →
        ∃ b' od ho kv kvs g' H', ([V.ref b] : List V) = [.ref b'] ∧ z.1 = kvs.map (·.1) ∧ Inv X pins σ H' s ∧ H' b' = some (.frz od ho) ∧ DicV b' ho kv ∧ At N0 bs g' H' z.2 ∧ Step g H st g' H' z.2 ∧ RepP g' kvs kv := fun kvs ho hk hm hH hM hD ez => by
      subst ez
      obtain ⟨kv, v, rp⟩ := dicV_of hD
      obtain ⟨od, I'⟩ := I.lock hH hM
      obtain ⟨a1, s1⟩ := at_fzd a od hm hk hb hH hD
      exact ⟨b, od, ho, kv, kvs, _, _, rfl, rfl, I', upd_same, v, a1, s1, RepP.mono s1.fro s1.mu rp⟩
    cases hn : getS st n with
    | dct kvs =>
      rw [hn] at h; cases h
      obtain ⟨b', ks, h1, h2, h3, h4⟩ := a.ok.dctAt hn
      have eb := Option.some.inj (hb.symm.trans h1)
      subst eb
      exact open_ kvs _ (by rw [hn]; rfl) (by rw [hn]; rfl) h3 True.intro (.inl ⟨ks, rfl, h4⟩) rfl
    | dtn kvs =>
      rw [hn] at h; cases h
      obtain ⟨b', w, xs, h1, h2, h3, h4, h5⟩ := a.ok.dtnAt hn
      have eb := Option.some.inj (hb.symm.trans h1)
      subst eb
      exact open_ kvs _ (by rw [hn]; rfl) (by rw [hn]; rfl) h3 True.intro (.inr ⟨w, xs, rfl, h4, h5⟩) rfl
    | fzd kvs =>
      rw [hn] at h; cases h
      obtain ⟨b', od, ho, h1, h2, h3⟩ := a.ok.fzdAt hn
      have eb := Option.some.inj (hb.symm.trans h1)
      subst eb
      obtain ⟨kv, v, rp⟩ := dicV_of h3
      exact ⟨b, od, ho, kv, kvs, g, H, rfl, rfl, I, a.ok.sub _ _ h2, v, a, Step.refl, rp⟩
    | _ => rw [hn] at h; cases h
  · cases h
theorem rp_keys {g : Gh} : ∀ {kvs : List (PyData × D)} {kv : List (V × V)}, RepP g kvs kv → DpAll N0 g.G (kv.map (·.1)) (kvs.map (·.1))
  | _, _, .nil => .nil
  | _, _, .cons a b => .cons a.1 (rp_keys b)
theorem vals_get : ∀ {vs : List V} {us : List Value}, vs.length = us.length → (∀ (i : Nat) (v : V), vs[i]? = some v → ∃ u, us[i]? = some u ∧ RelV v u) → Vals vs us
  | [], [], _, _ => .nil
  | v :: vs, u :: us, hl, h => by
    obtain ⟨u', e, r⟩ := h 0 v rfl
    cases e
    exact .cons r (vals_get (by simpa using hl) fun i v e => h (i + 1) v e)
  | [], _ :: _, hl, _ => by simp at hl
  | _ :: _, [], hl, _ => by simp at hl
section
variable {X : Cx} {cl : List (Addr × Option Str)} {bs : List Nat}
theorem s_sortK {al : Bool} (hc : X.calm = true) (hu : X.A.units + 64 < cLine) : CallR X (.builtin "sorted") (rB cl bs (.sortK al)) := by
  intro pins s σ H xs us Q I r hh
  obtain ⟨g, st, ds, W, a, rr, p⟩ := hh
  have p : PostD cl bs g H st (opSortK al st ds) Q W := p
  unfold opSortK at p
  cases h2 : keysOf ds st with
  | none => rw [h2] at p; exact p.elim
  | some z =>
    rw [h2] at p
    dsimp only at p
    obtain ⟨b, od, ho, kv, kvs, g1, H1, rfl, ek, I1, hH, v, a1, s1, rp⟩ := keys_lock I a rr h2
    obtain ⟨ps, st1⟩ := z
    dsimp only at p ek a1 s1
    obtain ⟨k1, p⟩ := chk_post p
    obtain ⟨k2, p⟩ := chk_post p
    obtain ⟨k3, p⟩ := chk_post p
    obtain ⟨hs, es, ep, hdt, hm, hsz, ent⟩ := dicV_at I1 hH v
    have d1 : DpAll N0 g1.G (kv.map (·.1)) ps := by rw [ek]; exact rp_keys rp
    have hal : PySem.W.AllAlike ps := fun x hx y hy => EvS.alkAll_ok k2 x hx y hy
    have hnn : ∀ x ∈ ps, x ≠ .none := fun x hx => EvS.alk_none k2 (List.ne_nil_of_mem hx) x hx
    have hlen : ps.length ≤ sizeLine := by rw [line_eq]; exact Nat.le_of_ble_eq_true k1
    have hdep : ∀ x ∈ ps, x.depth ≤ 60 := by
      have q := (layL_ok ps 60 k3).2
      intro x hx
      have : ∀ (l : List PyData), x ∈ l → x.depth ≤ PyData.depthAll l := by
        intro l
        induction l with
        | nil => intro h; cases h
        | cons y l ih =>
          intro h
          rw [PyData.depthAll]
          rcases List.mem_cons.mp h with e | h
          · rw [e]; omega
          · have := ih h; omega
      exact Nat.le_trans (this ps hx) q
    have hkl : kv.length = ps.length := by have := dpl_len d1; rw [List.length_map] at this; exact this
    have dX : DpAll X.K H1 (kv.map (·.1)) ps := dpAll_mono a1.ok.sub _ _ (dpAll_k ps _ d1)
    rw [Vals.ref1 r]
    have rv : Vals (kv.map (·.1)) (es.toList.map (·.key)) := vals_get (by rw [List.length_map, List.length_map]; exact hsz.symm) fun i x hx => by
      rw [List.getElem?_map] at hx
      obtain ⟨q, hq, rfl⟩ := Option.map_eq_some_iff.mp hx
      obtain ⟨hi, r1, r2⟩ := ent i q hq
      exact ⟨es[i].key, by simp [hi], r1⟩
    refine EvS.sorted_any (vs := es.toList.map (·.key)) (ds := ps) (R := fun u d => ∃ v, RelV v u ∧ Dp N0 g1.G v d) (fun {Q'} k => ?_) (args_sorted1 _) (each_vd rv d1) (reads_each I1 rv dX) hal hnn hlen (fun x hx => by have := hdep x hx; omega) ?_
    · refine PySem.W.kdu_collect (PySem.KdlSrc.rawDict hs) (I.ok.hd hc) hm (by rw [hsz, hkl]; exact hlen) fun h' tk acc hk hacc => ?_
      have e : acc.toList = es.toList.map (·.key) := by
        refine List.ext_getElem? fun i => ?_
        by_cases hi : i < es.size
        · have hi2 : i < acc.size := by rw [hacc.1]; exact hi
          obtain ⟨hi3, e⟩ := hacc.2 i acc[i] (by simp [hi2])
          simp [hi, hi2, e]
        · have hi2 : ¬ i < acc.size := by rw [hacc.1]; exact hi
          simp [hi, hi2]
      rw [e]
      exact k _ _ hk
    · intro h1 tk s2 D out c hk1 hk hD hg ho' hn hol hout
      have I2 : Inv X pins σ H1 { s with heap := h1, toks := tk } := I1.kept hk1
      rw [← EvS.sortP_eq hal] at hout
      obtain ⟨ws, rw', dw⟩ := vd_each hout
      obtain ⟨h0, J⟩ := sorted_end (vs := ws) I2 hk hD hg ho' hn rw' (by rw [rw'.length, hol]; exact hlen)
      obtain ⟨_, q⟩ := mkL_post (Post.later p s1) a1 (reps_of_all dw)
      exact ⟨.ref D, _, J, rfl, q D h0⟩
end
end Ev

/-! Ev9: what loops and comprehensions walk. -/
namespace Ev
variable [FnTab]
open PySem PySem.Spec PyProof.Rows L2

/-! ### enumerate over a tuple -/
theorem meets_enumerate_newT {v : Value} {o : Obj} {H : Heap → Prop} (B : PySem.Begins v o H) :
    Meets (Builtin.«enumerate.__new__» ⟨[.type "enumerate", v], []⟩) (fun _ R s => H s.heap ∧
      R (.ok (.ret (.ref (s.heap.push o).objs.size))) { s with heap := (s.heap.push o).push { cls := .type "enumerate", data := .fields #[.none, .bool false, .ref s.heap.objs.size, rawInt 0, .none, .none] } }) :=
  .of_wp fun prog w A R s h => by
    obtain ⟨hp, g, d, tk, os⟩ := s; obtain ⟨h1, h⟩ := h
    have hsub := sub_enumerate
    have q1 : ∀ {A' : Around} {E : Value → Shared → Prop} {Q : Value → Shared → Prop}, Q (.ref hp.objs.size) ⟨hp.push o, g, d, tk, os⟩ → wpAny (model prog w) A' (pyIter v) Q E ⟨hp, g, d, tk, os⟩ :=
      fun q => B.iter prog w _ _ ⟨hp, g, d, tk, os⟩ _ h1 q
    wp_walk using q1
    refine wpAny_stack_any fun st => wpAny_pure ?_
    split
    · rename_i c _ _ _ _ _
      cases (c == Value.type "enumerate")
      · wp_walk using q1
        exact ⟨_, rfl, h⟩
      · wp_walk using q1
        exact ⟨_, rfl, h⟩
    · wp_walk using q1
      exact ⟨_, rfl, h⟩
section
variable {prog : Program} {w : World} {A : Around} {E : Value → Shared → Prop} {s : Shared}
theorem enum_beginsT {v : Value} {o : Obj} {H : Heap → Prop} {Q : Value → Shared → Prop} (B : PySem.Begins v o H) (h1 : H s.heap)
    (h : ∀ h', IsEnum h' (s.heap.objs.size + 1) s.heap.objs.size 0 .none → h'.get? s.heap.objs.size = some o → h'.objs.size = s.heap.objs.size + 2 →
      (∀ b o, s.heap.get? b = some o → h'.get? b = some o) → Q (.ref (s.heap.objs.size + 1)) { s with heap := h' }) :
    wpAny (model prog w) A (call (.type "enumerate") [v]) Q E s := by
  refine callType_new PySem.F.called_enumerate (by decide) (PySem.F.typeCall_enumerate_1 _) (PySem.F.newCall_enumerate_1 _) (fun obj => PySem.F.args_object_init_2 obj _) PySem.F.entry_enumerate_new
    (meets_enumerate_newT B) ⟨h1, ?_⟩
  have hz : (s.heap.push o).objs.size = s.heap.objs.size + 1 := Heap.size_push ..
  show _ ∧ _
  rw [hz]
  have he : IsEnum ((s.heap.push o).push { cls := .type "enumerate", data := .fields #[.none, .bool false, .ref s.heap.objs.size, rawInt 0, .none, .none] }) (s.heap.objs.size + 1) s.heap.objs.size 0 .none := by
    have := Heap.get?_push_size (s.heap.push o) (o := { cls := .type "enumerate", data := .fields #[.none, .bool false, .ref s.heap.objs.size, rawInt 0, .none, .none] }) rfl
    rw [hz] at this; exact this
  refine ⟨⟨_, he, rfl⟩, h _ he (Heap.get?_push_of_some _ (Heap.get?_push_size _ B.free)) (by rw [Heap.size_push, hz]) fun b o x => Heap.get?_push_of_some _ (Heap.get?_push_of_some _ x)⟩
theorem enum_endT {e it l : Addr} {i : Int} {j : Nat} {items : Array Value} {old : Value} {Q : Option Value → Shared → Prop} (hh : A.in1.handled = none)
    (he : IsEnum s.heap e it i old) (hit : s.heap.IsTupleIter it l j) (hl : s.heap.IsTuple l items) (hx : items[j]? = none)
    (hQ : ∀ h', Heap.ExtBut it s.heap h' → Q none { s with heap := h' }) : wpAny (model prog w) A (pyNext (.ref e)) Q E s := by
  have hT : s.TypeIs (.ref e) "enumerate" := ⟨_, he, rfl⟩
  unfold pyNext
  refine wpAny_bind (wpAny_attempt (wpAny_callSpecial?_slot (name := Str.ofString "__next__") hT PySem.F.slot_enumerate_next
    (wpAny_call_entry PySem.F.slot_enumerate_next hT PySem.F.entry_enumerate_next ?_ (PySem.F.args_enumerate_next_1 _))))
  show wpAny _ _ (field (.ref e) 2 >>= _) _ _ _
  refine wpAny_bind (wpAny_field he rfl (x := .ref it) rfl ?_)
  refine wpAny_bind (wpAny_nextOf_tuple_end hh hit hl hx fun h' x he' hx' => ?_)
  obtain ⟨o, ho, hc⟩ := hx'
  refine wpAny_bind (wpAny_isInstance (T := "StopIteration") (b := true) ⟨o, ho, hc⟩ isSubtype_stop ?_)
  exact wpAny_pure (hQ _ he')
end
def IteT (K : PySem.W.Frag) (a : Addr) : It :=
  ⟨fun i H => ∃ (xs : List V) (x : V), SqT K H a xs ∧ xs[i]? = some x, fun i H v H' => ∃ T x, v = .ref T ∧ H T = none ∧ H' = upd H T (.tup [.int (i : Nat), x]) ∧ ∀ xs, SqT K H a xs → xs[i]? = some x, fun i H => ∃ xs : List V, SqT K H a xs ∧ xs.length ≤ i⟩
theorem turn_enumT {P : Program} {w : World} {K : PySem.W.Frag} {elts : List Expr} {kk : Nat} {tpos : Pos} (a e it : Addr) :
    Turn P w K (.Tuple elts kk tpos) (IteT K a) [e, it] e (fun i h => (∃ old, IsEnum h e it ((i : Nat) : Int) old) ∧ h.IsTupleIter it a i ∧ e ≠ it) where
  mem := by simp
  obj := fun i h st b hb => by
    obtain ⟨⟨old, he⟩, ⟨o, ho, hc, hd⟩, _⟩ := st
    have e' : b = e ∨ b = it := by simpa using hb
    rcases e' with z | z
    · rw [z]; exact ⟨_, he, fun v q => nomatch q⟩
    · rw [z]; exact ⟨o, ho, fun v q => by rw [hd] at q; cases q⟩
  keep := fun i h h' st k => let ⟨⟨old, he⟩, hi, hne⟩ := st; ⟨⟨old, k e (by simp) _ he⟩, hi.at fun o q => k it (by simp) o q, hne⟩
  item := by
    intro X hP hw hK hc i pins s σ H E I hf st hg
    subst hP hw hK
    obtain ⟨⟨old, he⟩, hit, hne⟩ := st
    obtain ⟨xs, x, hq, hx⟩ := hg
    obtain ⟨its, rv, p, hz⟩ := I.tuple hq
    obtain ⟨u, hu, ru⟩ := rv.get hx
    have hel : e < s.heap.objs.size := Heap.lt_size he
    have hil : it < s.heap.objs.size := by obtain ⟨_, q, _⟩ := hit; exact Heap.lt_size q
    have p2 : s.heap.IsTuple a its.toArray := p
    have nai : a ≠ it := fun z => by
      obtain ⟨o1, e1, c1, n1, d1⟩ := p2
      obtain ⟨o2, e2, c2, d2⟩ := hit
      rw [z, e2] at e1; cases e1
      rw [d2] at d1; cases d1
    have nae : e ∉ [it, a] := fun z => by
      have z' : e = it ∨ e = a := by simpa using z
      rcases z' with z' | z'
      · exact hne z'
      · obtain ⟨o1, e1, c1, n1, d1⟩ := p2
        rw [← z', he] at e1; cases e1
        cases d1
    have hlt : i < its.toArray.size := by
      have := (List.getElem?_eq_some_iff.mp hu).1
      simpa using this
    refine wpAny_pyNext_enum_itemD (Draws.tuple (A := X.A.in1) (I.ok.hd hc) it a nai its.toArray) he ⟨hit, p2⟩ hlt hne nae fun x' h' tk hP ho hs' hT hsz hk => ?_
    have ex : x' = u := by
      have e1 : its[i]? = some x' := by simpa using hP
      rw [hu] at e1; cases e1; rfl
    subst ex
    obtain ⟨hit', _⟩ := hs'
    refine ⟨_, rfl, wpAny_letOwnedTupleGo_enum (s := { s with heap := h', toks := tk + 1 }) ho fun h'' he' sb => ?_⟩
    have hT2 : h''.get? s.heap.objs.size = some { cls := .type "tuple", data := .seq #[.int i tk, x'] } := (sb.2 _ (Nat.ne_of_gt hel)).trans hT
    have new : ObjOk X.prog X.w (upd H s.heap.objs.size (.tup [.int (i : Nat), x])) h'' s.heap.objs.size (.tup [.int (i : Nat), x]) :=
      ⟨by show 2 ≤ sizeLine; decide, [.int i tk, x'], .cons ⟨_, rfl⟩ (.cons ru .nil), ⟨_, hT2, rfl, _, rfl⟩⟩
    have I1 : Inv X pins σ (upd H s.heap.objs.size (.tup [.int (i : Nat), x])) { s with heap := h'', toks := tk + 1 } :=
      I.turnedNew (ch := [e, it]) (fun b ob hb q => (sb.2 b (fun z => hb (by simp [z]))).trans (hk b ob (fun z => hb (by simp [z])) (fun z => hb (by simp [z])) q)) hf (Nat.le_refl _) new
    refine ⟨.ref s.heap.objs.size, _, I1, rfl, ⟨_, x, rfl, I.hok.fresh (Nat.le_refl _), rfl, fun ys hy => by rw [I.tuple_inj hy hq]; exact hx⟩, ⟨⟨x', ?_⟩, hit'.at fun o q => (sb.2 it (Ne.symm hne)).trans q, hne⟩, fun b hb => ?_⟩
    · have e1 : ((i + 1 : Nat) : Int) = (i : Int) + 1 := by omega
      rw [e1]; exact he'
    · have hb' : b < s.heap.objs.size := by
        have e' : b = e ∨ b = it := by simpa using hb
        rcases e' with z | z
        · rw [z]; exact hel
        · rw [z]; exact hil
      rw [upd_ne (Nat.ne_of_lt hb')]
      exact (hf b hb).1
  done := by
    intro X hP hw hK hc i pins s σ H E I hf st hg
    subst hP hw hK
    obtain ⟨⟨old, he⟩, hit, hne⟩ := st
    obtain ⟨xs, hq, hx⟩ := hg
    obtain ⟨its, rv, p, hz⟩ := I.tuple hq
    obtain ⟨f0, f1, f2, f3, f4, f5⟩ := hf it (by simp)
    have hl := rv.length
    exact enum_endT (I.ok.hd hc) he hit (show s.heap.IsTuple a its.toArray from p) (by simp; omega) fun h' eb => ⟨rfl, I.turned (t' := s.toks) (fun b o hb q => eb b o hb q) f0 f1 f3 f4 f5⟩
  self := fun A i s Q E st h => let ⟨⟨_, he⟩, _⟩ := st; wpAny_pyIter_enum he h
theorem pi_enumA {X : Cx} {e : Expr} {te : TE} {p pos tpos : Pos} {elts : List Expr} {kk : Nat} (hg : Gl X "enumerate") (hm : X.mg "enumerate" = none) (he : PE X e te) (hs : starEach [e] X.env = [(false, eval e X.env)]) :
    PI X (.Tuple elts kk tpos) (.Call (.Name "enumerate" p) [e] [] pos) (fun σ H R => te σ H fun x H1 => ∃ a xs, x = .ref a ∧ ((SqL X.K H1 a xs ∧ R (Ite X.K a) H1) ∨ (SqT X.K H1 a xs ∧ R (IteT X.K a) H1))) := by
  refine ⟨fun pins s σ H R I h => ?_⟩
  have ha0 : PA X [e] (tCons te tNil) := pa_cons he pa_nil hs
  have ha : PA X [e] (fun σ H Q => ∃ R', te σ H R' ∧ ∀ x H1, R' x H1 → Q [x] H1) := ⟨fun pos pins s σ H Q I ⟨R', q1, q2⟩ => by
    rw [hs]
    show wpAny _ _ (spliced ((false, eval e X.env) :: backTo pos (starEach [] X.env))) _ _ s
    exact Calls.spliced_cons (thn (he.run pins s σ H _ I q1) fun u s1 ⟨x, H1, I1, r1, q⟩ => Calls.spliced_nil ⟨[x], H1, I1, .cons r1 .nil, q2 x H1 q⟩)⟩
  have h0 : ∃ R', te σ H R' ∧ ∀ x H1, R' x H1 → ∃ a xs, [x] = [V.ref a] ∧ ((SqL X.K H1 a xs ∧ R (Ite X.K a) H1) ∨ (SqT X.K H1 a xs ∧ R (IteT X.K a) H1)) :=
    ⟨_, h, fun x H1 ⟨a, xs, e1, q⟩ => ⟨a, xs, by rw [e1], q⟩⟩
  refine Call_ (ld_blt I hg hm boot_enumerate (PyProof.Rows.callWith_type1 (thn (ha.run pos pins s σ H (fun vs H1 => ∃ a xs, vs = [V.ref a] ∧ ((SqL X.K H1 a xs ∧ R (Ite X.K a) H1) ∨ (SqT X.K H1 a xs ∧ R (IteT X.K a) H1))) I ?_) fun us s1 ⟨vs, H1, I1, r1, q1⟩ => ?_) hs rfl))
  · exact h0
  obtain ⟨a, xs, ex, q1⟩ := q1
  subst ex
  cases r1 with
  | cons r rr =>
    cases rr
    cases r
    rcases q1 with ⟨hq, q⟩ | ⟨hq, q⟩
    · obtain ⟨its, rv, p', hz⟩ := I1.list hq
      refine call_enumerate_list p'.isList fun h' he hit hsz hk => wpAny_pyIter_enum he ?_
      have I2 : Inv X pins σ H1 { s1 with heap := h' } := I1.kept (t' := s1.toks) hk
      refine ⟨s1.heap.objs.size + 1, [s1.heap.objs.size + 1, s1.heap.objs.size], _, _, H1, rfl, I2, turn_enum a (s1.heap.objs.size + 1) s1.heap.objs.size, ⟨⟨.none, he⟩, hit, Nat.succ_ne_self _⟩, fun b hb => ?_, q⟩
      have e' : b = s1.heap.objs.size + 1 ∨ b = s1.heap.objs.size := by simpa using hb
      have hle : s1.heap.objs.size ≤ b := by
        rcases e' with z | z
        · rw [z]; exact Nat.le_add_right _ _
        · rw [z]; exact Nat.le_refl _
      exact I1.fpOk hle (I1.hok.fresh hle)
    · obtain ⟨its, rv, p', hz⟩ := I1.tuple hq
      refine enum_beginsT (begins_tuple a its.toArray) p' fun h' he hit hsz hk => wpAny_pyIter_enum he ?_
      have I2 : Inv X pins σ H1 { s1 with heap := h' } := I1.kept (t' := s1.toks) hk
      refine ⟨s1.heap.objs.size + 1, [s1.heap.objs.size + 1, s1.heap.objs.size], _, _, H1, rfl, I2, turn_enumT a (s1.heap.objs.size + 1) s1.heap.objs.size, ⟨⟨.none, he⟩, ⟨_, hit, rfl, rfl⟩, Nat.succ_ne_self _⟩, fun b hb => ?_, q⟩
      have e' : b = s1.heap.objs.size + 1 ∨ b = s1.heap.objs.size := by simpa using hb
      have hle : s1.heap.objs.size ≤ b := by
        rcases e' with z | z
        · rw [z]; exact Nat.le_add_right _ _
        · rw [z]; exact Nat.le_refl _
      exact I1.fpOk hle (I1.hok.fresh hle)

/-- the row at turn i -/
def cur (src : Src) (i : Nat) (st : Sto) : Option (Option (List D)) :=
  match src with
  | .fix its => some its[i]?
  | .live en n => match listItems st (.ref n) with
    | none => none
    | some xs => some (xs[i]?.map (rowOf en i))
/-- a row as a value: the item, or a new pair -/
inductive RowV (g : Gh) (H : Hp) : List D → V → Hp → Prop
  | one {d : D} {v : V} : RepD N0 g d v → RowV g H [d] v H
  | two {d e : D} {T : Addr} {v w : V} : H T = none → RepD N0 g d v → RepD N0 g e w → RowV g H [d, e] (.ref T) (upd H T (.tup [v, w]))
  | nest {d : D} {x y : PyData} {T U : Addr} {v u w : V} : H T = none → (upd H T (.tup [u, w])) U = none → RepD N0 g d v → Dp N0 g.G u x → Dp N0 g.G w y → RowV g H [d, .p (.tuple [x, y])] (.ref U) (upd (upd H T (.tup [u, w])) U (.tup [v, .ref T]))
def FedU (bs : List Nat) (J : It) (src : Src) (g0 : Gh) (H0 : Hp) (st0 : Sto) : Prop :=
  ∀ i g H st, At N0 bs g H st → Step g0 H0 st0 g H st → ∀ o, cur src i st = some o → match o with
    | none => J.stop i H
    | some row => J.go i H ∧ ∀ x H', J.yld i H x H' → RowV g H row x H'
def JOf (K : PySem.W.Frag) (kd : Nat) (vs : List V) (H : Hp) (R : It → Hp → Prop) : Prop :=
  match kd, vs with
  | 0, [x] => ∃ a, x = .ref a ∧ (((∃ xs, SqL K H a xs) ∧ R (Itl K a) H) ∨ ((∃ xs, SqT K H a xs) ∧ R (Itt K a) H) ∨ DJ 0 a H R)
  | 7, [x] => ∃ a, x = .ref a ∧ DJ 1 a H R
  | 8, [x] => ∃ a, x = .ref a ∧ DJ 2 a H R
  | 1, [x] => ∃ j : Int, x = .int j ∧ -(2 ^ 62) ≤ j ∧ j < 2 ^ 62 ∧ R (Itr 0 j.toNat) H
  | 2, [x, y] => ∃ i j : Int, x = .int i ∧ y = .int j ∧ (-(2 ^ 62) ≤ i ∧ i < 2 ^ 62 ∧ -(2 ^ 62) ≤ j ∧ j < 2 ^ 62) ∧ R (Itr i (j - i).toNat) H
  | 3, [x] => ∃ a xs, x = .ref a ∧ ((SqL K H a xs ∧ R (Ite K a) H) ∨ (SqT K H a xs ∧ R (IteT K a) H))
  | 4, [x, y] => ∃ a b xs ys, x = .ref a ∧ y = .ref b ∧ ((SqL K H a xs ∧ SqL K H b ys ∧ R (Itz K a b) H) ∨ (SqT K H a xs ∧ SqT K H b ys ∧ R (RZ.ItzT K a b) H))
  | 6, [x, y] => ∃ lt a b xs ys, x = .ref a ∧ y = .ref b ∧ EvZ.SqV lt K H a xs ∧ EvZ.SqV lt K H b ys ∧ R (EvZ.IteZ lt K a b) H
  | 5, [x] => ∃ a xs, x = .ref a ∧ ((SqL K H a xs ∧ R (Itv K a xs.length) H) ∨ (SqT K H a xs ∧ R (RT.ItvT K a xs.length) H))
  | _, _ => False
section
variable {K : PySem.W.Frag} {bs : List Nat} {g g0 : Gh} {H H0 : Hp} {st st0 : Sto} {a b : Addr} {vs ws : List V} {xs ys : List PyData}
theorem later_l (h : SqL N0 g0.G a vs) (o : At N0 bs g H st) (s : Step g0 H0 st0 g H st) : SqL K H a vs := sql_k (sql_mono o.ok.sub (sql_mono s.fro h))
theorem later_t (h : SqT N0 g0.G a vs) (o : At N0 bs g H st) (s : Step g0 H0 st0 g H st) : SqT K H a vs := sqt_k (sqt_mono o.ok.sub (sqt_mono s.fro h))
theorem rowsP_get {i : Nat} : (rowsP xs)[i]? = xs[i]?.map fun x => [D.p x] := by unfold rowsP; rw [List.getElem?_map]
theorem none_len {α β : Type} {as : List α} {cs : List β} (hl : as.length = cs.length) {i : Nat} (h : cs[i]? = none) : as.length ≤ i := by
  rw [hl]; exact List.getElem?_eq_none_iff.mp h
theorem fed_lst (h : SqL N0 g0.G a vs) (d : DpAll N0 g0.G vs xs) : FedU bs (Itl K a) (.fix (rowsP xs)) g0 H0 st0 := fun i g H st o s ro e => by
  have e' : (rowsP xs)[i]? = ro := Option.some.inj e
  rw [rowsP_get] at e'
  have q := later_l (K := K) h o s
  cases hx : xs[i]? with
  | none =>
    rw [hx] at e'; subst e'
    exact ⟨vs, q, none_len (dpl_len d) hx⟩
  | some x =>
    rw [hx] at e'; subst e'
    obtain ⟨v, hv, dv⟩ := dpl_get d hx
    refine ⟨⟨vs, v, q, hv⟩, fun z H' y => ?_⟩
    obtain ⟨e1, y⟩ := y
    subst e1
    have e2 := y vs q
    rw [hv] at e2; cases e2
    exact .one (show Dp N0 g.G _ x from dp_mono s.fro _ _ dv)
theorem fed_tup (h : SqT N0 g0.G a vs) (d : DpAll N0 g0.G vs xs) : FedU bs (Itt K a) (.fix (rowsP xs)) g0 H0 st0 := fun i g H st o s ro e => by
  have e' : (rowsP xs)[i]? = ro := Option.some.inj e
  rw [rowsP_get] at e'
  have q := later_t (K := K) h o s
  cases hx : xs[i]? with
  | none =>
    rw [hx] at e'; subst e'
    exact ⟨vs, q, none_len (dpl_len d) hx⟩
  | some x =>
    rw [hx] at e'; subst e'
    obtain ⟨v, hv, dv⟩ := dpl_get d hx
    refine ⟨⟨vs, v, q, hv⟩, fun z H' y => ?_⟩
    obtain ⟨e1, y⟩ := y
    subst e1
    have e2 := y vs q
    rw [hv] at e2; cases e2
    exact .one (show Dp N0 g.G _ x from dp_mono s.fro _ _ dv)
theorem rangeFrom_get : ∀ (n : Nat) (lo : Int) (i : Nat), (rangeFrom lo n)[i]? = if i < n then some [D.int (lo + i)] else none
  | 0, lo, i => by rw [if_neg (Nat.not_lt_zero _)]; rfl
  | n + 1, lo, 0 => by rw [if_pos (Nat.succ_pos _)]; show some [D.int lo] = _; rw [show lo + ((0 : Nat) : Int) = lo by omega]
  | n + 1, lo, i + 1 => by
    show (rangeFrom (lo + 1) n)[i]? = _
    rw [rangeFrom_get n (lo + 1) i]
    by_cases h : i < n
    · rw [if_pos h, if_pos (by omega), show lo + 1 + (i : Int) = lo + ((i + 1 : Nat) : Int) by omega]
    · rw [if_neg h, if_neg (by omega)]
theorem fed_range {lo : Int} {n : Nat} : FedU bs (Itr lo n) (.fix (rangeFrom lo n)) g0 H0 st0 := fun i g H st o s ro e => by
  have e' : (rangeFrom lo n)[i]? = ro := Option.some.inj e
  rw [rangeFrom_get] at e'
  by_cases h : i < n
  · rw [if_pos h] at e'; subst e'
    refine ⟨h, fun z H' y => ?_⟩
    obtain ⟨e1, e2⟩ := y
    subst e1; subst e2
    exact .one (show Dp N0 g.G _ _ from .int _)
  · rw [if_neg h] at e'; subst e'
    exact Nat.le_of_not_lt h
theorem enumFrom_get : ∀ (ds : List D) (lo : Int) (i : Nat), (enumFrom lo ds)[i]? = ds[i]?.map fun d => [D.int (lo + i), d]
  | [], lo, i => rfl
  | d :: r, lo, 0 => by show some [D.int lo, d] = some [D.int (lo + ((0 : Nat) : Int)), d]; rw [show lo + ((0 : Nat) : Int) = lo by omega]
  | d :: r, lo, i + 1 => by
    show (enumFrom (lo + 1) r)[i]? = r[i]?.map _
    rw [enumFrom_get r (lo + 1) i, show (fun d => [D.int (lo + 1 + (i : Int)), d]) = fun d => [D.int (lo + ((i + 1 : Nat) : Int)), d] from funext fun d => by rw [show lo + 1 + (i : Int) = lo + ((i + 1 : Nat) : Int) by omega]]
theorem fed_enum (h : SqL N0 g0.G a vs) (d : DpAll N0 g0.G vs xs) : FedU bs (Ite K a) (.fix (enumFrom 0 (xs.map .p))) g0 H0 st0 := fun i g H st o s ro e => by
  have e' : (enumFrom 0 (xs.map D.p))[i]? = ro := Option.some.inj e
  rw [enumFrom_get, List.getElem?_map] at e'
  have q := later_l (K := K) h o s
  cases hx : xs[i]? with
  | none =>
    rw [hx] at e'; subst e'
    exact ⟨vs, q, none_len (dpl_len d) hx⟩
  | some x =>
    rw [hx] at e'; subst e'
    obtain ⟨v, hv, dv⟩ := dpl_get d hx
    refine ⟨⟨vs, v, q, hv⟩, fun z H' y => ?_⟩
    obtain ⟨T, w, rfl, hT, rfl, y⟩ := y
    have e2 := y vs q
    rw [hv] at e2; cases e2
    refine .two hT (v := .int (i : Nat)) ?_ (show Dp N0 g.G _ x from dp_mono s.fro _ _ dv)
    rw [Int.zero_add]
    exact (show Dp N0 g.G _ _ from .int _)
theorem fed_enumT (h : SqT N0 g0.G a vs) (d : DpAll N0 g0.G vs xs) : FedU bs (IteT K a) (.fix (enumFrom 0 (xs.map .p))) g0 H0 st0 := fun i g H st o s ro e => by
  have e' : (enumFrom 0 (xs.map D.p))[i]? = ro := Option.some.inj e
  rw [enumFrom_get, List.getElem?_map] at e'
  have q := later_t (K := K) h o s
  cases hx : xs[i]? with
  | none =>
    rw [hx] at e'; subst e'
    exact ⟨vs, q, none_len (dpl_len d) hx⟩
  | some x =>
    rw [hx] at e'; subst e'
    obtain ⟨v, hv, dv⟩ := dpl_get d hx
    refine ⟨⟨vs, v, q, hv⟩, fun z H' y => ?_⟩
    obtain ⟨T, w, rfl, hT, rfl, y⟩ := y
    have e2 := y vs q
    rw [hv] at e2; cases e2
    refine .two hT (v := .int (i : Nat)) ?_ (show Dp N0 g.G _ x from dp_mono s.fro _ _ dv)
    rw [Int.zero_add]
    exact (show Dp N0 g.G _ _ from .int _)
theorem zipD_get : ∀ (as cs : List D) (i : Nat), (zipD as cs)[i]? = match as[i]?, cs[i]? with | some x, some y => some [x, y] | _, _ => none
  | [], _, i => rfl
  | _ :: _, [], i => by
    show ([] : List (List D))[i]? = _
    rw [List.getElem?_nil, List.getElem?_nil]
    split
    · rename_i h; cases h
    · rfl
  | x :: as, y :: cs, 0 => rfl
  | x :: as, y :: cs, i + 1 => zipD_get as cs i
theorem fed_zip (h : SqL N0 g0.G a vs) (d : DpAll N0 g0.G vs xs) (h2 : SqL N0 g0.G b ws) (d2 : DpAll N0 g0.G ws ys) : FedU bs (Itz K a b) (.fix (zipD (xs.map .p) (ys.map .p))) g0 H0 st0 := fun i g H st o s ro e => by
  have e' : (zipD (xs.map D.p) (ys.map D.p))[i]? = ro := Option.some.inj e
  rw [zipD_get, List.getElem?_map, List.getElem?_map] at e'
  have q := later_l (K := K) h o s
  have q2 := later_l (K := K) h2 o s
  cases hx : xs[i]? with
  | none =>
    rw [hx] at e'
    have e'' : (none : Option (List D)) = ro := e'
    subst e''
    exact ⟨vs, ws, q, q2, .inl (none_len (dpl_len d) hx)⟩
  | some x =>
    cases hy : ys[i]? with
    | none =>
      rw [hx, hy] at e'
      have e'' : (none : Option (List D)) = ro := e'
      subst e''
      exact ⟨vs, ws, q, q2, .inr (none_len (dpl_len d2) hy)⟩
    | some y =>
      rw [hx, hy] at e'
      have e'' : some [D.p x, D.p y] = ro := e'
      subst e''
      obtain ⟨v, hv, dv⟩ := dpl_get d hx
      obtain ⟨w, hw, dw⟩ := dpl_get d2 hy
      refine ⟨⟨vs, ws, v, w, q, q2, hv, hw⟩, fun z H' yl => ?_⟩
      obtain ⟨T, v', w', rfl, hT, rfl, y1, y2⟩ := yl
      have e2 := y1 vs q
      have e3 := y2 ws q2
      rw [hv] at e2; cases e2
      rw [hw] at e3; cases e3
      exact .two hT (show Dp N0 g.G _ x from dp_mono s.fro _ _ dv) (show Dp N0 g.G _ y from dp_mono s.fro _ _ dw)
theorem fed_zipT (h : SqT N0 g0.G a vs) (d : DpAll N0 g0.G vs xs) (h2 : SqT N0 g0.G b ws) (d2 : DpAll N0 g0.G ws ys) : FedU bs (RZ.ItzT K a b) (.fix (zipD (xs.map .p) (ys.map .p))) g0 H0 st0 := fun i g H st o s ro e => by
  have e' : (zipD (xs.map D.p) (ys.map D.p))[i]? = ro := Option.some.inj e
  rw [zipD_get, List.getElem?_map, List.getElem?_map] at e'
  have q := later_t (K := K) h o s
  have q2 := later_t (K := K) h2 o s
  cases hx : xs[i]? with
  | none =>
    rw [hx] at e'
    have e'' : (none : Option (List D)) = ro := e'
    subst e''
    exact ⟨vs, ws, q, q2, .inl (none_len (dpl_len d) hx)⟩
  | some x =>
    cases hy : ys[i]? with
    | none =>
      rw [hx, hy] at e'
      have e'' : (none : Option (List D)) = ro := e'
      subst e''
      exact ⟨vs, ws, q, q2, .inr (none_len (dpl_len d2) hy)⟩
    | some y =>
      rw [hx, hy] at e'
      have e'' : some [D.p x, D.p y] = ro := e'
      subst e''
      obtain ⟨v, hv, dv⟩ := dpl_get d hx
      obtain ⟨w, hw, dw⟩ := dpl_get d2 hy
      refine ⟨⟨vs, ws, v, w, q, q2, hv, hw⟩, fun z H' yl => ?_⟩
      obtain ⟨T, v', w', rfl, hT, rfl, y1, y2⟩ := yl
      have e2 := y1 vs q
      have e3 := y2 ws q2
      rw [hv] at e2; cases e2
      rw [hw] at e3; cases e3
      exact .two hT (show Dp N0 g.G _ x from dp_mono s.fro _ _ dv) (show Dp N0 g.G _ y from dp_mono s.fro _ _ dw)
theorem zipP_get : ∀ (as cs : List PyData) (i : Nat), (zipP as cs)[i]? = match as[i]?, cs[i]? with | some x, some y => some (.tuple [x, y]) | _, _ => none
  | [], _, i => rfl
  | _ :: _, [], i => by
    show ([] : List PyData)[i]? = _
    rw [List.getElem?_nil]
    split
    · rename_i h; cases h
    · rfl
  | x :: as, y :: cs, 0 => rfl
  | x :: as, y :: cs, i + 1 => zipP_get as cs i
theorem later_v {lt : Bool} (h : EvZ.SqV lt N0 g0.G a vs) (o : At N0 bs g H st) (s : Step g0 H0 st0 g H st) : EvZ.SqV lt K H a vs := by
  cases lt with
  | true => exact later_l h o s
  | false => exact later_t h o s
theorem fed_ez {lt : Bool} (h : EvZ.SqV lt N0 g0.G a vs) (d : DpAll N0 g0.G vs xs) (h2 : EvZ.SqV lt N0 g0.G b ws) (d2 : DpAll N0 g0.G ws ys) : FedU bs (EvZ.IteZ lt K a b) (.fix (enumFrom 0 ((zipP xs ys).map .p))) g0 H0 st0 := fun i g H st o s ro e => by
  have e' : (enumFrom 0 ((zipP xs ys).map D.p))[i]? = ro := Option.some.inj e
  rw [enumFrom_get, List.getElem?_map, zipP_get] at e'
  have q := later_v (K := K) h o s
  have q2 := later_v (K := K) h2 o s
  cases hx : xs[i]? with
  | none =>
    rw [hx] at e'
    have e'' : (none : Option (List D)) = ro := e'
    subst e''
    exact ⟨vs, ws, q, q2, .inl (none_len (dpl_len d) hx)⟩
  | some x =>
    cases hy : ys[i]? with
    | none =>
      rw [hx, hy] at e'
      have e'' : (none : Option (List D)) = ro := e'
      subst e''
      exact ⟨vs, ws, q, q2, .inr (none_len (dpl_len d2) hy)⟩
    | some y =>
      rw [hx, hy] at e'
      have e'' : some [D.int (0 + (i : Int)), D.p (.tuple [x, y])] = ro := e'
      subst e''
      obtain ⟨v, hv, dv⟩ := dpl_get d hx
      obtain ⟨w, hw, dw⟩ := dpl_get d2 hy
      refine ⟨⟨vs, ws, v, w, q, q2, hv, hw⟩, fun z H' yl => ?_⟩
      obtain ⟨T, U, v', w', rfl, hT, hU, rfl, y1, y2⟩ := yl
      have e2 := y1 vs q
      have e3 := y2 ws q2
      rw [hv] at e2; cases e2
      rw [hw] at e3; cases e3
      refine .nest hT hU (v := .int (i : Nat)) ?_ (dp_mono s.fro _ _ dv) (dp_mono s.fro _ _ dw)
      rw [Int.zero_add]
      exact (show Dp N0 g.G _ _ from .int _)
theorem rev_get {α : Type} {zs : List α} {i : Nat} (h : i < zs.length) : zs.reverse[i]? = zs[zs.length - 1 - i]? := List.getElem?_reverse h
theorem fed_rev (h : SqL N0 g0.G a vs) (d : DpAll N0 g0.G vs xs) : FedU bs (Itv K a vs.length) (.fix (rowsP xs.reverse)) g0 H0 st0 := fun i g H st o s ro e => by
  have e' : (rowsP xs.reverse)[i]? = ro := Option.some.inj e
  rw [rowsP_get] at e'
  have hl := dpl_len d
  have q := later_l (K := K) h o s
  by_cases hi : i < xs.length
  · rw [rev_get hi] at e'
    cases hx : xs[xs.length - 1 - i]? with
    | none => have := List.getElem?_eq_none_iff.mp hx; omega
    | some x =>
      rw [hx] at e'; subst e'
      obtain ⟨v, hv, dv⟩ := dpl_get d hx
      have hv' : vs[vs.length - 1 - i]? = some v := by rw [hl]; exact hv
      refine ⟨⟨by omega, vs, v, q, hv'⟩, fun z H' y => ?_⟩
      obtain ⟨e1, y⟩ := y
      subst e1
      have e2 := y vs q
      rw [hv'] at e2; cases e2
      exact .one (show Dp N0 g.G _ x from dp_mono s.fro _ _ dv)
  · have : xs.reverse[i]? = none := List.getElem?_eq_none_iff.mpr (by rw [List.length_reverse]; omega)
    rw [this] at e'; subst e'
    show vs.length ≤ i
    omega
theorem fed_revT (h : SqT N0 g0.G a vs) (d : DpAll N0 g0.G vs xs) : FedU bs (RT.ItvT K a vs.length) (.fix (rowsP xs.reverse)) g0 H0 st0 := fun i g H st o s ro e => by
  have e' : (rowsP xs.reverse)[i]? = ro := Option.some.inj e
  rw [rowsP_get] at e'
  have hl := dpl_len d
  have q := later_t (K := K) h o s
  by_cases hi : i < xs.length
  · rw [rev_get hi] at e'
    cases hx : xs[xs.length - 1 - i]? with
    | none => have := List.getElem?_eq_none_iff.mp hx; omega
    | some x =>
      rw [hx] at e'; subst e'
      obtain ⟨v, hv, dv⟩ := dpl_get d hx
      have hv' : vs[vs.length - 1 - i]? = some v := by rw [hl]; exact hv
      refine ⟨⟨by omega, vs, v, q, hv'⟩, fun z H' y => ?_⟩
      obtain ⟨e1, y⟩ := y
      subst e1
      have e2 := y vs q
      rw [hv'] at e2; cases e2
      exact .one (show Dp N0 g.G _ x from dp_mono s.fro _ _ dv)
  · have : xs.reverse[i]? = none := List.getElem?_eq_none_iff.mpr (by rw [List.length_reverse]; omega)
    rw [this] at e'; subst e'
    show vs.length ≤ i
    omega
theorem fed_live {n : Nat} (hm : g0.mu[n]? = some a) : FedU bs (Itl K a) (.live false n) g0 H0 st0 := fun i g H st o s ro e => by
  have e' : (match listItems st (.ref n) with
    | none => none
    | some xs => some (xs[i]?.map (rowOf false i))) = some ro := e
  cases hi : listItems st (.ref n) with
  | none => rw [hi] at e'; cases e'
  | some zs =>
    rw [hi] at e'
    have e' : zs[i]?.map (rowOf false i) = ro := Option.some.inj e'
    obtain ⟨b, vs, eb, hs, hr⟩ := o.ok.list (v := .ref a) hi ⟨a, s.mu n a hm, rfl⟩
    cases eb
    have q := sql_k (K := K) hs
    cases hx : zs[i]? with
    | none =>
      rw [hx] at e'
      have e'' : (none : Option (List D)) = ro := e'
      subst e''
      exact ⟨vs, q, none_len hr.len.symm hx⟩
    | some x =>
      rw [hx] at e'
      have e'' : some [x] = ro := e'
      subst e''
      obtain ⟨v, hv, dv⟩ := hr.get hx
      refine ⟨⟨vs, v, q, hv⟩, fun z H' y => ?_⟩
      obtain ⟨e1, y⟩ := y
      subst e1
      have e2 := y vs q
      rw [hv] at e2; cases e2
      exact .one dv
theorem fed_liveE {n : Nat} (hm : g0.mu[n]? = some a) : FedU bs (Ite K a) (.live true n) g0 H0 st0 := fun i g H st o s ro e => by
  have e' : (match listItems st (.ref n) with
    | none => none
    | some xs => some (xs[i]?.map (rowOf true i))) = some ro := e
  cases hi : listItems st (.ref n) with
  | none => rw [hi] at e'; cases e'
  | some zs =>
    rw [hi] at e'
    have e' : zs[i]?.map (rowOf true i) = ro := Option.some.inj e'
    obtain ⟨b, vs, eb, hs, hr⟩ := o.ok.list (v := .ref a) hi ⟨a, s.mu n a hm, rfl⟩
    cases eb
    have q := sql_k (K := K) hs
    cases hx : zs[i]? with
    | none =>
      rw [hx] at e'
      have e'' : (none : Option (List D)) = ro := e'
      subst e''
      exact ⟨vs, q, none_len hr.len.symm hx⟩
    | some x =>
      rw [hx] at e'
      have e'' : some [D.int i, x] = ro := e'
      subst e''
      obtain ⟨v, hv, dv⟩ := hr.get hx
      refine ⟨⟨vs, v, q, hv⟩, fun z H' y => ?_⟩
      obtain ⟨T, w, rfl, hT, rfl, y⟩ := y
      have e2 := y vs q
      rw [hv] at e2; cases e2
      exact .two hT (show Dp N0 g.G (.int (i : Nat)) _ from .int _) dv
theorem plainT_ok {d : D} {v : V} (h : plainT d = some xs) (r : RepD N0 g d v) : ∃ a vs, v = .ref a ∧ SqT N0 g.G a vs ∧ DpAll N0 g.G vs xs := by
  cases d with
  | p x => cases x with
    | tuple ys => cases h; exact dp_tup r
    | _ => cases h
  | ref n => cases h
theorem plainL_ok (o : Ok N0 g H st) {d : D} {v : V} (h : plainL st d = some xs) (r : RepD N0 g d v) : ∃ a vs, v = .ref a ∧ SqL N0 g.G a vs ∧ DpAll N0 g.G vs xs := by
  cases d with
  | p x => cases x with
    | list ys => cases h; exact dp_lst r
    | _ => cases h
  | ref n =>
    have h' : (match getS st n with
      | .fz (.list xs) => some xs
      | _ => none) = some xs := h
    cases hn : getS st n with
    | fz w =>
      rw [hn] at h'
      cases w with
      | list ys =>
        cases h'
        obtain ⟨b, h1, h2⟩ := o.fzAt hn
        obtain ⟨b', hb, e'⟩ := r
        rw [hb] at h1; cases h1
        rw [e']
        exact dp_lst h2
      | _ => cases h'
    | _ => rw [hn] at h'; cases h'
theorem small_ok {i : Int} (h : small62 i = true) : -(2 ^ 62) ≤ i ∧ i < 2 ^ 62 := by
  obtain ⟨h1, h2⟩ := Bool.and_eq_true_iff.mp h
  exact ⟨of_decide_eq_true h1, of_decide_eq_true h2⟩
end
/-- the iterator that the hand layer makes serves what the reckoner walks -/
theorem walk_fed {K : PySem.W.Frag} {bs : List Nat} {g : Gh} {H : Hp} {st : Sto} {kd : Nat} {ds : List D} {vs : List V} {src : Src} {R : It → Hp → Prop} (a : At N0 bs g H st) (r : RepDs N0 g ds vs) (h : walk kd ds st = some src)
    (k : ∀ J, FedU bs J src g H st → R J H) : JOf K kd vs H R := by
  unfold walk at h
  split at h
  · rename_i d
    obtain ⟨v, rfl, rd⟩ := reps1 r
    split at h
    · rename_i xs hx
      cases h
      obtain ⟨b, ws, rfl, h1, d1⟩ := plainT_ok hx rd
      exact ⟨b, rfl, .inr (.inl ⟨⟨ws, sqt_k (sqt_mono a.ok.sub h1)⟩, k _ (fed_tup h1 d1)⟩)⟩
    · split at h
      · rename_i xs hx
        cases h
        obtain ⟨b, ws, rfl, h1, d1⟩ := plainL_ok a.ok hx rd
        exact ⟨b, rfl, .inl ⟨⟨ws, sql_k (sql_mono a.ok.sub h1)⟩, k _ (fed_lst h1 d1)⟩⟩
      · split at h
        · rename_i n _ _
          split at h
          · rename_i xs hn
            cases h
            obtain ⟨b, hb, rfl⟩ := rd
            obtain ⟨b', ws, h1, h2, h3, h4⟩ := a.ok.lstAt hn
            have eb := Option.some.inj (hb.symm.trans h1)
            subst eb
            exact ⟨b, rfl, .inl ⟨⟨ws, .inl (.inl h3)⟩, k _ (fed_live hb)⟩⟩
          · cases h
        · cases h
  · rename_i j
    obtain ⟨v, rfl, rd⟩ := reps1 r
    split at h
    · rename_i hs
      cases h
      obtain ⟨h1, h2⟩ := small_ok hs
      exact ⟨j, dp_int rd, h1, h2, k _ fed_range⟩
    · cases h
  · rename_i i j
    obtain ⟨v, w, rfl, r1, r2⟩ := reps2 r
    split at h
    · rename_i hs hs2
      cases h
      obtain ⟨h1, h2⟩ := small_ok hs
      obtain ⟨h3, h4⟩ := small_ok hs2
      exact ⟨i, j, dp_int r1, dp_int r2, ⟨h1, h2, h3, h4⟩, k _ fed_range⟩
    · cases h
  · rename_i d
    obtain ⟨v, rfl, rd⟩ := reps1 r
    split at h
    · rename_i xs hx
      cases h
      obtain ⟨b, ws, rfl, h1, d1⟩ := plainT_ok hx rd
      exact ⟨b, ws, rfl, .inr ⟨sqt_k (sqt_mono a.ok.sub h1), k _ (fed_enumT h1 d1)⟩⟩
    · split at h
      · rename_i xs hx
        cases h
        obtain ⟨b, ws, rfl, h1, d1⟩ := plainL_ok a.ok hx rd
        exact ⟨b, ws, rfl, .inl ⟨sql_k (sql_mono a.ok.sub h1), k _ (fed_enum h1 d1)⟩⟩
      · split at h
        · rename_i n _ _
          split at h
          · rename_i xs hn
            cases h
            obtain ⟨b, hb, rfl⟩ := rd
            obtain ⟨b', ws, h1, h2, h3, h4⟩ := a.ok.lstAt hn
            have eb := Option.some.inj (hb.symm.trans h1)
            subst eb
            exact ⟨b, ws, rfl, .inl ⟨.inl (.inl h3), k _ (fed_liveE hb)⟩⟩
          · cases h
        · cases h
  · rename_i d e
    obtain ⟨v, w, rfl, r1, r2⟩ := reps2 r
    split at h
    · rename_i xs ys hx hy
      cases h
      obtain ⟨b, ws, rfl, h1, d1⟩ := plainT_ok hx r1
      obtain ⟨b2, ws2, rfl, h2, d2⟩ := plainT_ok hy r2
      exact ⟨b, b2, ws, ws2, rfl, rfl, .inr ⟨sqt_k (sqt_mono a.ok.sub h1), sqt_k (sqt_mono a.ok.sub h2), k _ (fed_zipT h1 d1 h2 d2)⟩⟩
    · split at h
      · rename_i xs ys hx hy
        cases h
        obtain ⟨b, ws, rfl, h1, d1⟩ := plainL_ok a.ok hx r1
        obtain ⟨b2, ws2, rfl, h2, d2⟩ := plainL_ok a.ok hy r2
        exact ⟨b, b2, ws, ws2, rfl, rfl, .inl ⟨sql_k (sql_mono a.ok.sub h1), sql_k (sql_mono a.ok.sub h2), k _ (fed_zip h1 d1 h2 d2)⟩⟩
      · cases h
    · cases h
  · rename_i d
    obtain ⟨v, rfl, rd⟩ := reps1 r
    split at h
    · rename_i xs hx
      cases h
      obtain ⟨b, ws, rfl, h1, d1⟩ := plainT_ok hx rd
      exact ⟨b, ws, rfl, .inr ⟨sqt_k (sqt_mono a.ok.sub h1), k _ (fed_revT h1 d1)⟩⟩
    · split at h
      · rename_i xs hx
        cases h
        obtain ⟨b, ws, rfl, h1, d1⟩ := plainL_ok a.ok hx rd
        exact ⟨b, ws, rfl, .inl ⟨sql_k (sql_mono a.ok.sub h1), k _ (fed_rev h1 d1)⟩⟩
      · cases h
  · rename_i d e
    obtain ⟨v, w, rfl, r1, r2⟩ := reps2 r
    split at h
    · rename_i xs ys hx hy
      cases h
      obtain ⟨b, ws, rfl, h1, d1⟩ := plainT_ok hx r1
      obtain ⟨b2, ws2, rfl, h2, d2⟩ := plainT_ok hy r2
      exact ⟨false, b, b2, ws, ws2, rfl, rfl, sqt_k (sqt_mono a.ok.sub h1), sqt_k (sqt_mono a.ok.sub h2), k _ (fed_ez (lt := false) h1 d1 h2 d2)⟩
    · split at h
      · rename_i xs ys hx hy
        cases h
        obtain ⟨b, ws, rfl, h1, d1⟩ := plainL_ok a.ok hx r1
        obtain ⟨b2, ws2, rfl, h2, d2⟩ := plainL_ok a.ok hy r2
        exact ⟨true, b, b2, ws, ws2, rfl, rfl, sql_k (sql_mono a.ok.sub h1), sql_k (sql_mono a.ok.sub h2), k _ (fed_ez (lt := true) h1 d1 h2 d2)⟩
      · cases h
    · cases h
  · cases h
theorem rep_get {g : Gh} : ∀ {kvs : List (PyData × D)} {kv : List (V × V)}, RepP g kvs kv → ∀ (i : Nat), match kvs[i]? with | some p => ∃ q, kv[i]? = some q ∧ Dp N0 g.G q.1 p.1 ∧ RepD N0 g p.2 q.2 | none => kv.length ≤ i
  | _, _, .nil, i => by simp
  | _, _, .cons (a := a) (b := b) h1 h2, 0 => ⟨b, rfl, h1.1, h1.2⟩
  | _ :: kvs, _ :: kv, .cons h1 h2, i + 1 => by
    have := rep_get h2 i
    rw [List.getElem?_cons_succ]
    cases h : kvs[i]? with
    | none => rw [h] at this; simp only [List.length_cons]; exact Nat.succ_le_succ this
    | some p =>
      rw [h] at this
      obtain ⟨q, e, k⟩ := this
      exact ⟨q, by rw [List.getElem?_cons_succ]; exact e, k⟩
def modeOf (kd : Nat) : Nat := match kd with | 0 => 0 | 7 => 1 | _ => 2
theorem fed_dic {bs : List Nat} {g0 : Gh} {H0 : Hp} {st0 : Sto} {a : Addr} {od : Obj} {ho : HO} {kvs : List (PyData × D)} {kv : List (V × V)} (kd : Nat) (hG : g0.G a = some (.frz od ho)) (hp : RepP g0 kvs kv) : FedU bs (ItD (modeOf kd) a od ho kv) (.fix (dicRows kd kvs)) g0 H0 st0 := fun i g H st o s ro e => by
  have hH : H a = some (.frz od ho) := o.ok.sub _ _ (s.fro _ _ hG)
  have hr := rep_get (RepP.mono s.fro s.mu hp) i
  have e' : (dicRows kd kvs)[i]? = ro := Option.some.inj e
  have none_ : kvs[i]? = none → match (none : Option (List D)) with | none => (ItD (modeOf kd) a od ho kv).stop i H | some row => (ItD (modeOf kd) a od ho kv).go i H ∧ ∀ x H', (ItD (modeOf kd) a od ho kv).yld i H x H' → RowV g H row x H' := fun h => by
    rw [h] at hr
    exact ⟨hH, hr⟩
  match kd, e' with
  | 0, e' =>
    have e' : (kvs.map fun p => [D.p p.1])[i]? = ro := e'
    rw [List.getElem?_map] at e'
    cases h : kvs[i]? with
    | none => rw [h] at e'; subst e'; exact none_ h
    | some p =>
      rw [h] at e' hr; subst e'
      obtain ⟨q, e1, e2, e3⟩ := hr
      refine ⟨⟨hH, (List.getElem?_eq_some_iff.mp e1).1⟩, fun x H' y => ?_⟩
      obtain ⟨rfl, q', e4, rfl⟩ := (show H' = H ∧ ∃ p, kv[i]? = some p ∧ x = p.1 from y)
      rw [e1] at e4; cases e4
      exact .one (show RepD N0 g (.p p.1) q.1 from e2)
  | 7, e' =>
    have e' : (kvs.map fun p => [p.2])[i]? = ro := e'
    rw [List.getElem?_map] at e'
    cases h : kvs[i]? with
    | none => rw [h] at e'; subst e'; exact none_ h
    | some p =>
      rw [h] at e' hr; subst e'
      obtain ⟨q, e1, e2, e3⟩ := hr
      refine ⟨⟨hH, (List.getElem?_eq_some_iff.mp e1).1⟩, fun x H' y => ?_⟩
      obtain ⟨rfl, q', e4, rfl⟩ := (show H' = H ∧ ∃ p, kv[i]? = some p ∧ x = p.2 from y)
      rw [e1] at e4; cases e4
      exact .one e3
  | 1, e' | 2, e' | 3, e' | 4, e' | 5, e' | 6, e' | (_ + 8), e' =>
    have e' : (kvs.map fun p => [D.p p.1, p.2])[i]? = ro := e'
    rw [List.getElem?_map] at e'
    cases h : kvs[i]? with
    | none => rw [h] at e'; subst e'; exact none_ h
    | some p =>
      rw [h] at e' hr; subst e'
      obtain ⟨q, e1, e2, e3⟩ := hr
      refine ⟨⟨hH, (List.getElem?_eq_some_iff.mp e1).1⟩, fun x H' y => ?_⟩
      obtain ⟨T, q', e4, rfl, hT, rfl⟩ := (show ∃ T p, kv[i]? = some p ∧ x = .ref T ∧ H T = none ∧ H' = upd H T (.tup [p.1, p.2]) from y)
      rw [e1] at e4; cases e4
      exact .two hT (show RepD N0 g (.p p.1) q.1 from e2) e3
theorem walkD_fed {bs : List Nat} {g : Gh} {H : Hp} {st : Sto} {kd : Nat} {ds : List D} {vs : List V} {z : Src × Sto} (a : At N0 bs g H st) (r : RepDs N0 g ds vs) (h : walkD kd ds st = some z) :
    ∃ b, vs = [.ref b] ∧ ∀ R : It → Hp → Prop, (∀ g' H' J, At N0 bs g' H' z.2 → Step g H st g' H' z.2 → FedU bs J z.1 g' H' z.2 → R J H') → DJ (modeOf kd) b H R := by
  unfold walkD at h
  split at h
  · rename_i n
    obtain ⟨v, rfl, rd⟩ := reps1 r
    obtain ⟨b, hb, rfl⟩ := rd
    have open_ : ∀ kvs ho, dicOf (getS st n) = some kvs → mutable (getS st n) = true → H b = some ho → Mut (some ho) → DicH N0 g b kvs ho → z = (.fix (dicRows kd kvs), st.set n (.fzd kvs)) →
        ∃ b', ([V.ref b] : List V) = [.ref b'] ∧ ∀ R : It → Hp → Prop, (∀ g' H' J, At N0 bs g' H' z.2 → Step g H st g' H' z.2 → FedU bs J z.1 g' H' z.2 → R J H') → DJ (modeOf kd) b' H R := fun kvs ho hk hm hH hM hD ez => by
      subst ez
      refine ⟨b, rfl, fun R k => ?_⟩
      obtain ⟨kv, v, rp⟩ := dicV_of hD
      refine ⟨ho, kv, v, .inl ⟨hH, hM, fun od => ?_⟩⟩
      obtain ⟨a1, s1⟩ := at_fzd a od hm hk hb hH hD
      exact k _ _ _ a1 s1 (fed_dic kd upd_same (RepP.mono s1.fro s1.mu rp))
    cases hn : getS st n with
    | dct kvs =>
      rw [hn] at h; cases h
      obtain ⟨b', ks, h1, h2, h3, h4⟩ := a.ok.dctAt hn
      have eb := Option.some.inj (hb.symm.trans h1)
      subst eb
      exact open_ kvs _ (by rw [hn]; rfl) (by rw [hn]; rfl) h3 True.intro (.inl ⟨ks, rfl, h4⟩) rfl
    | dtn kvs =>
      rw [hn] at h; cases h
      obtain ⟨b', w, xs, h1, h2, h3, h4, h5⟩ := a.ok.dtnAt hn
      have eb := Option.some.inj (hb.symm.trans h1)
      subst eb
      exact open_ kvs _ (by rw [hn]; rfl) (by rw [hn]; rfl) h3 True.intro (.inr ⟨w, xs, rfl, h4, h5⟩) rfl
    | fzd kvs =>
      rw [hn] at h; cases h
      obtain ⟨b', od, ho, h1, h2, h3⟩ := a.ok.fzdAt hn
      have eb := Option.some.inj (hb.symm.trans h1)
      subst eb
      refine ⟨b, rfl, fun R k => ?_⟩
      obtain ⟨kv, v, rp⟩ := dicV_of h3
      exact ⟨ho, kv, v, .inr ⟨od, a.ok.sub _ _ h2, k _ _ _ a Step.refl (fed_dic kd h2 rp)⟩⟩
    | _ => rw [hn] at h; cases h
  · cases h
theorem walkF_fed {K : PySem.W.Frag} {bs : List Nat} {g : Gh} {H : Hp} {st : Sto} {kd : Nat} {ds : List D} {vs : List V} {z : Src × Sto} (a : At N0 bs g H st) (r : RepDs N0 g ds vs) (h : walkF kd ds st = some z) :
    ∀ R : It → Hp → Prop, (∀ g' H' J, At N0 bs g' H' z.2 → Step g H st g' H' z.2 → FedU bs J z.1 g' H' z.2 → R J H') → JOf K kd vs H R := by
  have plain : ∀ kd, ((walk kd ds st).map fun s => (s, st)) = some z → ∀ R : It → Hp → Prop, (∀ g' H' J, At N0 bs g' H' z.2 → Step g H st g' H' z.2 → FedU bs J z.1 g' H' z.2 → R J H') → JOf K kd vs H R := fun kd h R k => by
    cases hw : walk kd ds st with
    | none => rw [hw] at h; cases h
    | some src =>
      rw [hw] at h
      cases h
      exact walk_fed a r hw fun J fed => k _ _ J a Step.refl fed
  have zips : ∀ kd, walkZ kd ds st = some z → ∀ R : It → Hp → Prop, (∀ g' H' J, At N0 bs g' H' z.2 → Step g H st g' H' z.2 → FedU bs J z.1 g' H' z.2 → R J H') → JOf K kd vs H R := fun kd h R k => by
    unfold walkZ at h
    split at h
    · rename_i y q
      obtain ⟨ps, st1⟩ := y
      obtain ⟨g1, a1, s1, d1⟩ := mapF_ok (fun o r e => frz_ok DEEP o r e) ds a r q
      dsimp only at h
      cases hw : walk kd (ps.map .p) st1 with
      | none => rw [hw] at h; cases h
      | some src =>
        rw [hw] at h
        cases h
        exact walk_fed a1 (reps_of_all d1) hw fun J fed => k _ _ J a1 s1 fed
    · cases h
  unfold walkF at h
  split at h
  · split at h
    · rename_i y q
      cases h
      obtain ⟨b, rfl, dj⟩ := walkD_fed a r q
      exact fun R k => ⟨b, rfl, .inr (.inr (dj R k))⟩
    · exact plain 0 h
  · exact zips 4 h
  · exact zips 5 h
  · exact zips 6 h
  · obtain ⟨b, rfl, dj⟩ := walkD_fed a r h
    exact fun R k => ⟨b, rfl, dj R k⟩
  · obtain ⟨b, rfl, dj⟩ := walkD_fed a r h
    exact fun R k => ⟨b, rfl, dj R k⟩
  · exact plain _ h
end Ev

/-! Ev10: iterators of the text, targets, list comprehensions. -/
namespace Ev
variable [FnTab]
open PySem PySem.Spec PyProof.Rows L2

/-! ### iterators of the text -/
section
variable {X : Cx} {tg : Expr} {cl : List (Addr × Option Str)} {bs : List Nat} {W : WX} {C : Cl}
def iSeq (K : PySem.W.Frag) (tl : TE) : TI := fun σ H R => tl σ H fun x H1 => ∃ a, x = .ref a ∧ (((∃ xs, SqL K H1 a xs) ∧ R (Itl K a) H1) ∨ ((∃ xs, SqT K H1 a xs) ∧ R (Itt K a) H1) ∨ DJ 0 a H1 R)
theorem pi_seq {l : Expr} {tl : TE} (hl : PE X l tl) : PI X tg l (iSeq X.K tl) := by
  refine ⟨fun pins s σ H R I h => ?_⟩
  refine thn (hl.run pins s σ H _ I h) fun v s1 ⟨x, H1, I1, r1, q1⟩ => ?_
  obtain ⟨a, e, q1⟩ := q1
  subst e
  cases r1
  rcases q1 with ⟨⟨xs, hq⟩, q⟩ | ⟨⟨xs, hq⟩, q⟩ | q
  · obtain ⟨its, rv, p, hz⟩ := I1.list hq
    refine wpAny_pyIter_list p.isList ?_
    refine ⟨s1.heap.objs.size, [s1.heap.objs.size], _, _, H1, rfl, I1.kept (t' := s1.toks) fun b o e => Heap.get?_push_of_some _ e, turn_list a _, ⟨_, Heap.get?_push_size _ rfl, rfl, rfl⟩, fun b hb => ?_, q⟩
    have e : b = s1.heap.objs.size := by simpa using hb
    subst e
    exact I1.fpOk (Nat.le_refl _) (I1.hok.fresh (Nat.le_refl _))
  · obtain ⟨its, rv, p, hz⟩ := I1.tuple hq
    refine wpAny_pyIter_tuple (show s1.heap.IsTuple a its.toArray from p) ?_
    refine ⟨s1.heap.objs.size, [s1.heap.objs.size], _, _, H1, rfl, I1.kept (t' := s1.toks) fun b o e => Heap.get?_push_of_some _ e, turn_tuple a _, ⟨_, Heap.get?_push_size _ rfl, rfl, rfl⟩, fun b hb => ?_, q⟩
    have e : b = s1.heap.objs.size := by simpa using hb
    subst e
    exact I1.fpOk (Nat.le_refl _) (I1.hok.fresh (Nat.le_refl _))
  · exact pi_dk I1 q
def rdJ (cl : List (Addr × Option Str)) (bs : List Nat) (W : WX) (C : Cl) (K : PySem.W.Frag) (kd : Nat) (es : List E) : TI := fun σ H R => rdA cl bs W (fun env st => evs C bs env es st) σ H (fun vs H1 => JOf K kd vs H1 R)
theorem rdA_mono {c : Env → Sto → R (List D)} {σ : L2.St} {H : Hp} {Q Q' : List V → Hp → Prop} (q : rdA cl bs W c σ H Q) (k : ∀ vs H, Q vs H → Q' vs H) : rdA cl bs W c σ H Q' := by
  obtain ⟨g, st, env, a, er, p⟩ := q
  exact ⟨g, st, env, a, er, p.mono k⟩
theorem rdC_mono {c : Env → Sto → R D} {σ : L2.St} {H : Hp} {Q Q' : VK} (q : rdC cl bs W c σ H Q) (k : ∀ vs H, Q vs H → Q' vs H) : rdC cl bs W c σ H Q' := by
  obtain ⟨g, st, env, a, er, p⟩ := q
  exact ⟨g, st, env, a, er, p.mono k⟩
theorem jof1 {K : PySem.W.Frag} {kd : Nat} {vs : List V} {H : Hp} {R : It → Hp → Prop} (hk : kd = 0 ∨ kd = 1 ∨ kd = 3 ∨ kd = 5 ∨ kd = 7 ∨ kd = 8) (h : JOf K kd vs H R) : ∃ x, vs = [x] := by
  match vs, h with
  | [x], _ => exact ⟨x, rfl⟩
  | [], h => rcases hk with rfl | rfl | rfl | rfl | rfl | rfl <;> exact h.elim
  | _ :: _ :: _, h => rcases hk with rfl | rfl | rfl | rfl | rfl | rfl <;> exact h.elim
theorem jof2 {K : PySem.W.Frag} {kd : Nat} {vs : List V} {H : Hp} {R : It → Hp → Prop} (hk : kd = 2 ∨ kd = 4 ∨ kd = 6) (h : JOf K kd vs H R) : ∃ x y, vs = [x, y] := by
  match vs, h with
  | [x, y], _ => exact ⟨x, y, rfl⟩
  | [], h => rcases hk with rfl | rfl | rfl <;> exact h.elim
  | [_], h => rcases hk with rfl | rfl | rfl <;> exact h.elim
  | _ :: _ :: _ :: _, h => rcases hk with rfl | rfl | rfl <;> exact h.elim
abbrev sE' (cl : List (Addr × Option Str)) (bs : List Nat) (W : WX) (C : Cl) (X : Cx) (pe : Expr) (e : E) : Prop := PE X pe (rdC cl bs W (fun env st => ev C bs env e false st))
theorem pi_0 {pe : Expr} {e : E} (h : sE' cl bs W C X pe e) : PI X tg pe (rdJ cl bs W C X.K 0 [e]) := (pi_seq h).imp fun σ H R q => args1 q
theorem pi_1 {pe : Expr} {e : E} {p pos : Pos} (hg : Gl X "range") (hm : X.mg "range" = none) (h : sE' cl bs W C X pe e) (hs : noStar pe = true) : PI X tg (.Call (.Name "range" p) [pe] [] pos) (rdJ cl bs W C X.K 1 [e]) :=
  (pi_range1 hg hm (pa_cons' h pa_nil' hs) (star_cons hs _ _)).imp fun σ H R q => rdA_mono q fun vs H h => by
    obtain ⟨x, rfl⟩ := jof1 (.inr (.inl rfl)) h
    obtain ⟨j, rfl, h1, h2, h3⟩ := h
    exact ⟨j, rfl, h1, h2, h3⟩
theorem pi_2 {pe pf : Expr} {e f : E} {p pos : Pos} (hg : Gl X "range") (hm : X.mg "range" = none) (h : sE' cl bs W C X pe e) (h2 : sE' cl bs W C X pf f) (hs : noStar pe = true) (hs2 : noStar pf = true) : PI X tg (.Call (.Name "range" p) [pe, pf] [] pos) (rdJ cl bs W C X.K 2 [e, f]) :=
  (pi_range2 hg hm (pa_cons' h (pa_cons' h2 pa_nil' hs2) hs) (by rw [star_cons hs, star_cons hs2]; rfl) (star_cons hs2 _ _)).imp fun σ H R q => rdA_mono q fun vs H h => by
    obtain ⟨x, y, rfl⟩ := jof2 (.inl rfl) h
    obtain ⟨i, j, rfl, rfl, h1, h3⟩ := h
    exact ⟨i, j, rfl, h1, h3⟩
theorem pi_3 {pe : Expr} {e : E} {elts : List Expr} {kk : Nat} {p pos tpos : Pos} (hg : Gl X "enumerate") (hm : X.mg "enumerate" = none) (h : sE' cl bs W C X pe e) (hs : noStar pe = true) : PI X (.Tuple elts kk tpos) (.Call (.Name "enumerate" p) [pe] [] pos) (rdJ cl bs W C X.K 3 [e]) :=
  (pi_enumA hg hm h (star_cons hs _ _)).imp fun σ H R q => args1 q
theorem pi_4 {pe pf : Expr} {e f : E} {elts : List Expr} {kk : Nat} {p pos tpos : Pos} (hg : Gl X "zip") (hm : X.mg "zip" = none) (h : sE' cl bs W C X pe e) (h2 : sE' cl bs W C X pf f) (hs : noStar pe = true) (hs2 : noStar pf = true) : PI X (.Tuple elts kk tpos) (.Call (.Name "zip" p) [pe, pf] [] pos) (rdJ cl bs W C X.K 4 [e, f]) :=
  (RZ.pi_zipA hg hm (pa_cons' h (pa_cons' h2 pa_nil' hs2) hs) (star_cons hs _ _) (by rw [star_cons hs2]; rfl)).imp fun σ H R q => rdA_mono q fun vs H h => by
    obtain ⟨x, y, rfl⟩ := jof2 (.inr (.inl rfl)) h
    obtain ⟨a, b, xs, ys, rfl, rfl, h1⟩ := h
    exact ⟨a, b, xs, ys, rfl, h1⟩
theorem pi_6 {pe pf : Expr} {e f : E} {elts : List Expr} {kk : Nat} {p p2 pos q2 tpos : Pos} (hg : Gl X "enumerate") (hm : X.mg "enumerate" = none) (hg2 : Gl X "zip") (hm2 : X.mg "zip" = none) (h : sE' cl bs W C X pe e) (h2 : sE' cl bs W C X pf f) (hs : noStar pe = true) (hs2 : noStar pf = true) :
    PI X (.Tuple elts kk tpos) (.Call (.Name "enumerate" p) [.Call (.Name "zip" p2) [pe, pf] [] q2] [] pos) (rdJ cl bs W C X.K 6 [e, f]) :=
  (EvZ.pi_ez hg hm hg2 hm2 (pa_cons' h (pa_cons' h2 pa_nil' hs2) hs) (star_cons hs _ _) (by rw [star_cons hs2]; rfl)).imp fun σ H R q => rdA_mono q fun vs H h => by
    obtain ⟨x, y, rfl⟩ := jof2 (.inr (.inr rfl)) h
    obtain ⟨lt, a, b, xs, ys, rfl, rfl, h1⟩ := h
    exact ⟨lt, a, b, xs, ys, rfl, h1⟩
theorem pi_5 {pe : Expr} {e : E} {p pos : Pos} (hg : Gl X "reversed") (hm : X.mg "reversed" = none) (h : sE' cl bs W C X pe e) (hs : noStar pe = true) : PI X tg (.Call (.Name "reversed" p) [pe] [] pos) (rdJ cl bs W C X.K 5 [e]) :=
  (RT.pi_revA hg hm h (star_cons hs _ _)).imp fun σ H R q => args1 q
theorem pi_7 {po : Expr} {o : E} {apos cpos : Pos} (h : sE' cl bs W C X po o) (hb : isBase po = true) (hl : (apos.endLine == cpos.line) = true) : PI X tg (.Call (.Attribute po "values" apos) [] [] cpos) (rdJ cl bs W C X.K 7 [o]) :=
  (pi_dvals h (base_ok hb _ _ _) hl).imp fun σ H R q => args1 q
theorem pi_8 {po : Expr} {o : E} {elts : List Expr} {kk : Nat} {apos cpos tpos : Pos} (h : sE' cl bs W C X po o) (hb : isBase po = true) (hl : (apos.endLine == cpos.line) = true) : PI X (.Tuple elts kk tpos) (.Call (.Attribute po "items" apos) [] [] cpos) (rdJ cl bs W C X.K 8 [o]) :=
  (pi_ditems h (base_ok hb _ _ _) hl).imp fun σ H R q => args1 q
/-- what is walked, from the reckoner's step on -/
theorem rdJ_of {α : Type} {f : Src → Sto → R α} {kd : Nat} {es : List E} {σ : L2.St} {H : Hp} {R : It → Hp → Prop} {K : PySem.W.Frag} {β : Type} {Rep : Gh → α → β → Prop} {Q : β → Hp → Prop}
    (q : ∃ g st env, At N0 bs g H st ∧ EnvR g env σ ∧ Post cl bs Rep g H st ((evs C bs env es st).bind fun ds st1 => match walkF kd ds st1 with | none => .stuck | some its => f its.1 its.2) Q (fun a b H' => W a b σ H') ∧
      (∀ src g1 H1 st1 J, At N0 bs g1 H1 st1 → EnvR g1 env σ → Post cl bs Rep g1 H1 st1 (f src st1) Q (fun a b H' => W a b σ H') → FedU bs J src g1 H1 st1 → R J H1)) : rdJ cl bs W C K kd es σ H R := by
  obtain ⟨g, st, env, a, er, p, k⟩ := q
  refine ⟨g, st, env, a, er, Post.bind (Rep' := Rep) p fun ds st1 vs g1 H1 a1 s1 r1 p1 => ?_⟩
  cases hw : walkF kd ds st1 with
  | none => rw [hw] at p1; exact p1.elim
  | some src =>
    rw [hw] at p1
    exact walkF_fed (K := K) a1 r1 hw R fun g2 H2 J a2 s2 fed => k src.1 g2 H2 src.2 J a2 (er.step (s1.trans s2)) (Post.later p1 s2) fed
end

/-! ### targets -/
mutual
def gT (K : PySem.W.Frag) : Tg → TG
  | .name i => gName i
  | .tup ts => gTup K ts.length (gTs K ts)
termination_by structural x => x
def gTs (K : PySem.W.Frag) : List Tg → TGs
  | [] => gNil
  | t :: ts => gCons (gT K t) (gTs K ts)
termination_by structural x => x
end
mutual
/-- the target's text; fn: what may be stored though it is a cell -/
def chkT (N : List Str) (sc : Scope) (fn : Str → Bool) : Tg → Expr → Bool
  | .name i, .Name x _ => decide (N[i]? = some x) && (match sc.names.lookup x with | some .local => true | some .cell => fn x | _ => false)
  | .tup ts, .Tuple es _ _ => chkTs N sc fn ts es
  | _, _ => false
termination_by structural x => x
def chkTs (N : List Str) (sc : Scope) (fn : Str → Bool) : List Tg → List Expr → Bool
  | [], [] => true
  | t :: ts, e :: es => chkT N sc fn t e && chkTs N sc fn ts es
  | _, _ => false
termination_by structural x => x
end
theorem ae_cons {e : Expr} (h : noStar e = true) (es : List Expr) (env : PySem.Env) : assignEach (e :: es) env = (false, assign e env) :: assignEach es env := by
  cases e <;> first | rfl | cases h
section
variable {X : Cx}
mutual
theorem chkT_ok (hc : X.calm = true) (hN : X.N.Nodup) : ∀ (t : Tg) (e : Expr), chkT X.N X.env.scope X.fn t e = true → PG X e (gT X.K t) ∧ noStar e = true
  | .name i, .Name x p, h => by
    have h' : (decide (X.N[i]? = some x) && (match X.env.scope.names.lookup x with | some .local => true | some .cell => X.fn x | _ => false)) = true := h
    obtain ⟨h1, h2⟩ := Bool.and_eq_true_iff.mp h'
    have h1 := of_decide_eq_true h1
    refine ⟨?_, rfl⟩
    split at h2
    · rename_i e
      exact pg_name hN h1 (.inl e) (.inr e)
    · rename_i e
      exact pg_name hN h1 (.inr e) (.inl h2)
    · cases h2
  | .tup ts, .Tuple es k p, h => by
    obtain ⟨h1, h2, h3, h4⟩ := chkTs_ok hc hN ts es h
    exact ⟨pg_tup hc h1 (by rw [← h2]; exact h3) h4, rfl⟩
theorem chkTs_ok (hc : X.calm = true) (hN : X.N.Nodup) : ∀ (ts : List Tg) (es : List Expr), chkTs X.N X.env.scope X.fn ts es = true →
    PGs X es (gTs X.K ts) ∧ es.length = ts.length ∧ (assignEach es X.env).length = es.length ∧ (assignEach es X.env).findIdx? (·.1) = none
  | [], [], _ => ⟨pgs_nil, rfl, rfl, rfl⟩
  | t :: ts, e :: es, h => by
    obtain ⟨h1, h2⟩ := Bool.and_eq_true_iff.mp (show (chkT X.N X.env.scope X.fn t e && chkTs X.N X.env.scope X.fn ts es) = true from h)
    obtain ⟨k1, k2⟩ := chkT_ok hc hN t e h1
    obtain ⟨k3, k4, k5, k6⟩ := chkTs_ok hc hN ts es h2
    refine ⟨pgs_cons k1 k3 (by rw [ae_cons k2]; rfl), by rw [List.length_cons, List.length_cons, k4], by rw [ae_cons k2, List.length_cons, List.length_cons, k5], ?_⟩
    rw [ae_cons k2, List.findIdx?_cons, k6]
    rfl
end
end

mutual
def slots : Tg → List Nat
  | .name i => [i]
  | .tup ts => slotss ts
termination_by structural x => x
def slotss : List Tg → List Nat
  | [] => []
  | t :: ts => slots t ++ slotss ts
termination_by structural x => x
end
/-- σ' is σ but for the slots -/
def OnlyAt (is : List Nat) (σ σ' : L2.St) : Prop := ∀ vs : List Nat, (∀ i ∈ is, i ∈ vs) → wipe σ' vs = wipe σ vs
theorem wipe_set {i : Nat} {o : Option V} : ∀ {vs : List Nat} {σ : L2.St}, i ∈ vs → wipe (σ.set i o) vs = wipe σ vs
  | v :: vs, σ, h => by
    unfold wipe
    by_cases hv : i ∈ vs
    · rw [wipe_set hv]
    · have e : i = v := by
        rcases List.mem_cons.mp h with e | h
        · exact e
        · exact absurd h hv
      subst e
      have go : ∀ {vs : List Nat} {σ : L2.St}, i ∉ vs → (wipe (σ.set i o) vs) = (wipe σ vs).set i o := by
        intro vs
        induction vs with
        | nil => intro σ _; rfl
        | cons w ws ih =>
          intro σ hn
          have h1 : i ≠ w := fun e => hn (by rw [e]; exact List.mem_cons_self)
          have h2 : i ∉ ws := fun e => hn (List.mem_cons_of_mem _ e)
          unfold wipe
          rw [ih h2, List.set_comm _ _ h1]
      rw [go hv, List.set_set]
theorem wipe_comm {i : Nat} {o : Option V} : ∀ {vs : List Nat} {σ : L2.St}, i ∉ vs → wipe (σ.set i o) vs = (wipe σ vs).set i o
  | [], σ, _ => rfl
  | w :: ws, σ, hn => by
    have h1 : i ≠ w := fun e => hn (by rw [e]; exact List.mem_cons_self)
    have h2 : i ∉ ws := fun e => hn (List.mem_cons_of_mem _ e)
    unfold wipe
    rw [wipe_comm h2, List.set_comm _ _ h1]
theorem wipe_more {ws : List Nat} {σ : L2.St} : ∀ {vs : List Nat}, (∀ i ∈ vs, i ∈ ws) → wipe (wipe σ vs) ws = wipe σ ws
  | [], _ => rfl
  | v :: vs, h => by
    have e : wipe σ (v :: vs) = (wipe σ vs).set v none := rfl
    rw [e, wipe_set (h v List.mem_cons_self)]
    exact wipe_more fun i hi => h i (List.mem_cons_of_mem _ hi)
theorem wipe_wipe {vs : List Nat} {σ : L2.St} : wipe (wipe σ vs) vs = wipe σ vs := wipe_more fun _ h => h
section
variable {K : PySem.W.Frag} {g : Gh} {H : Hp}
mutual
theorem asg_ok : ∀ (t : Tg) (d : D) (v : V) (env env' : Env) (σ : L2.St), RepD N0 g d v → EnvR g env σ → asg t d env = some env' → Sub g.G H → gT K t v σ H fun σ2 H2 => H2 = H ∧ EnvR g env' σ2 ∧ OnlyAt (slots t) σ σ2
  | .name i, d, v, env, env', σ, r, er, h, _ => by
    have h' : some (setE env i (some d)) = some env' := h
    cases h'
    exact ⟨rfl, er.set i r, fun vs hv => wipe_set (hv i List.mem_cons_self)⟩
  | .tup ts, d, v, env, env', σ, r, er, h, hs => by
    cases d with
    | ref n => cases h
    | p x =>
      cases x with
      | tuple xs =>
        have h' : asgPs ts xs env = some env' := h
        obtain ⟨a, vs, rfl, h1, d1⟩ := dp_tup r
        obtain ⟨h2, h3⟩ := asgPs_ok ts xs vs env env' σ d1 er h' hs
        exact ⟨a, vs, rfl, sqt_k (sqt_mono hs h1), by rw [dpl_len d1, h2], h3⟩
      | _ => cases h
theorem asgPs_ok : ∀ (ts : List Tg) (xs : List PyData) (vs : List V) (env env' : Env) (σ : L2.St), DpAll N0 g.G vs xs → EnvR g env σ → asgPs ts xs env = some env' → Sub g.G H →
    xs.length = ts.length ∧ gTs K ts vs σ H fun σ2 H2 => H2 = H ∧ EnvR g env' σ2 ∧ OnlyAt (slotss ts) σ σ2
  | [], [], vs, env, env', σ, d, er, h, _ => by
    cases h
    cases d
    exact ⟨rfl, rfl, rfl, er, fun _ _ => rfl⟩
  | [], _ :: _, _, _, _, _, _, _, h, _ => by cases h
  | _ :: _, [], _, _, _, _, _, _, h, _ => by cases h
  | t :: ts, x :: xs, vs, env, env', σ, d, er, h, hs => by
    have h' : (match asg t (.p x) env with | some env' => asgPs ts xs env' | none => none) = some env' := h
    match vs, d with
    | v :: vs', .cons d1 d2 =>
      cases e : asg t (.p x) env with
      | none => rw [e] at h'; cases h'
      | some env1 =>
        rw [e] at h'
        have k1 := asg_ok t (.p x) v env env1 σ d1 er e hs
        have k2 := fun σ1 er1 => asgPs_ok ts xs vs' env1 env' σ1 d2 er1 h' hs
        refine ⟨by rw [List.length_cons, List.length_cons, (asgPs_len ts xs env1 env' h')], v, vs', rfl, gT_mono t v σ H _ _ k1 fun σ1 H1 ⟨e1, er1, o1⟩ => ?_⟩
        subst e1
        refine gTs_mono ts vs' σ1 H1 _ _ (k2 σ1 er1).2 fun σ2 H2 ⟨e2, er2, o2⟩ => ⟨e2, er2, fun ws hw => ?_⟩
        rw [o2 ws fun i hi => hw i (List.mem_append_right _ hi), o1 ws fun i hi => hw i (List.mem_append_left _ hi)]
theorem asgPs_len : ∀ (ts : List Tg) (xs : List PyData) (env env' : Env), asgPs ts xs env = some env' → xs.length = ts.length
  | [], [], _, _, _ => rfl
  | [], _ :: _, _, _, h => by cases h
  | _ :: _, [], _, _, h => by cases h
  | t :: ts, x :: xs, env, env', h => by
    have h' : (match asg t (.p x) env with | some env' => asgPs ts xs env' | none => none) = some env' := h
    cases e : asg t (.p x) env with
    | none => rw [e] at h'; cases h'
    | some env1 =>
      rw [e] at h'
      rw [List.length_cons, List.length_cons, asgPs_len ts xs env1 env' h']
theorem gT_mono : ∀ (t : Tg) (v : V) (σ : L2.St) (H : Hp) (Q Q' : L2.St → Hp → Prop), gT K t v σ H Q → (∀ σ H, Q σ H → Q' σ H) → gT K t v σ H Q'
  | .name i, v, σ, H, Q, Q', h, k => k _ _ h
  | .tup ts, v, σ, H, Q, Q', h, k => by
    obtain ⟨a, xs, e, h1, h2, h3⟩ := h
    exact ⟨a, xs, e, h1, h2, gTs_mono ts xs σ H Q Q' h3 k⟩
theorem gTs_mono : ∀ (ts : List Tg) (vs : List V) (σ : L2.St) (H : Hp) (Q Q' : L2.St → Hp → Prop), gTs K ts vs σ H Q → (∀ σ H, Q σ H → Q' σ H) → gTs K ts vs σ H Q'
  | [], vs, σ, H, Q, Q', h, k => ⟨h.1, k _ _ h.2⟩
  | t :: ts, vs, σ, H, Q, Q', h, k => by
    obtain ⟨v, r, e, h1⟩ := h
    exact ⟨v, r, e, gT_mono t v σ H _ _ h1 fun σ1 H1 h2 => gTs_mono ts r σ1 H1 Q Q' h2 k⟩
end
end
end Ev

/-! Ev11: list comprehensions. -/
namespace Ev
variable [FnTab]
open PySem PySem.Spec PyProof.Rows L2

/-! ### the reckoner's loop, turn by turn -/
def consO (o : Option D) (acc : List D) : List D := match o with | some d => d :: acc | none => acc
def lcRest (turn : List D → Sto → R (Option D)) (src : Src) (m i : Nat) (acc : List D) (st : Sto) : R (List D) :=
  match src with
  | .fix its => lcLoop turn (its.drop i) acc st
  | .live en n => lcLive turn en n m i acc st
def srcM (src : Src) (m i : Nat) : Prop := match src with | .fix its => m = its.length - i | .live _ _ => True
theorem bind_ok {α β : Type} {r : R α} {f : α → Sto → R β} {b : β} {st : Sto} (h : r.bind f = .ok b st) : ∃ a st1, r = .ok a st1 ∧ f a st1 = .ok b st := by
  cases r with
  | ok a st1 => exact ⟨a, st1, rfl, h⟩
  | exn c x st1 => cases h
  | stuck => cases h
theorem ask_ok {β : Type} {r : R D} {f : Bool → Sto → R β} {b : β} {st : Sto} (h : r.ask f = .ok b st) : ∃ t st1, r = .ok (D.bool t) st1 ∧ f t st1 = .ok b st := by
  match r, h with
  | .ok (.p (.bool t)) st1, h => exact ⟨t, st1, rfl, h⟩
  | .ok (.p .none) _, h => cases h
  | .ok (.p (.int _)) _, h => cases h
  | .ok (.p (.str _)) _, h => cases h
  | .ok (.p (.list _)) _, h => cases h
  | .ok (.p (.tuple _)) _, h => cases h
  | .ok (.p (.dict _)) _, h => cases h
  | .ok (.ref _) _, h => cases h
  | .exn _ _ _, h => cases h
  | .stuck, h => cases h
section
variable {turn : List D → Sto → R (Option D)}
theorem lcLoop_cons {row : List D} {its : List (List D)} {acc : List D} {st : Sto} {ds : List D} {st5 : Sto} (h : lcLoop turn (row :: its) acc st = .ok ds st5) : ∃ o st1, turn row st = .ok o st1 ∧ lcLoop turn its (consO o acc) st1 = .ok ds st5 := by
  obtain ⟨o, st1, e, k⟩ := bind_ok (show (turn row st).bind _ = _ from h)
  refine ⟨o, st1, e, ?_⟩
  cases o with
  | some d => exact k
  | none => exact k
theorem lcLoop_len : ∀ {its : List (List D)} {acc : List D} {st : Sto} {ds : List D} {st5 : Sto}, lcLoop turn its acc st = .ok ds st5 → acc.length ≤ ds.length
  | [], acc, st, ds, st5, h => by
    cases h
    rw [List.length_reverse]; exact Nat.le_refl _
  | row :: its, acc, st, ds, st5, h => by
    obtain ⟨o, st1, _, k⟩ := lcLoop_cons h
    have := lcLoop_len k
    cases o with
    | some d => exact Nat.le_of_succ_le this
    | none => exact this
theorem lcLive_step {en : Bool} {n k i : Nat} {acc : List D} {st : Sto} {ds : List D} {st5 : Sto} (h : lcLive turn en n (k + 1) i acc st = .ok ds st5) :
    ∃ xs, listItems st (.ref n) = some xs ∧ ((xs[i]? = none ∧ acc.reverse = ds ∧ st = st5) ∨ ∃ x o st1, xs[i]? = some x ∧ turn (rowOf en i x) st = .ok o st1 ∧ lcLive turn en n k (i + 1) (consO o acc) st1 = .ok ds st5) := by
  unfold lcLive at h
  cases h1 : listItems st (.ref n) with
  | none => rw [h1] at h; cases h
  | some xs =>
    rw [h1] at h
    dsimp only at h
    refine ⟨xs, rfl, ?_⟩
    cases h2 : xs[i]? with
    | none =>
      rw [h2] at h
      cases h
      exact .inl ⟨rfl, rfl, rfl⟩
    | some x =>
      rw [h2] at h
      obtain ⟨o, st1, e, q⟩ := bind_ok (show (turn (rowOf en i x) st).bind _ = _ from h)
      refine .inr ⟨x, o, st1, rfl, e, ?_⟩
      cases o with
      | some d => exact q
      | none => exact q
theorem lcLive_len {en : Bool} {n : Nat} : ∀ {k i : Nat} {acc : List D} {st : Sto} {ds : List D} {st5 : Sto}, lcLive turn en n k i acc st = .ok ds st5 → acc.length ≤ ds.length
  | 0, _, _, _, _, _, h => by cases h
  | k + 1, i, acc, st, ds, st5, h => by
    obtain ⟨xs, _, h⟩ := lcLive_step h
    rcases h with ⟨_, rfl, _⟩ | ⟨x, o, st1, _, _, h⟩
    · rw [List.length_reverse]; exact Nat.le_refl _
    · have := lcLive_len h
      cases o with
      | some d => exact Nat.le_of_succ_le this
      | none => exact this
theorem lcRest_len {src : Src} {m i : Nat} {acc : List D} {st : Sto} {ds : List D} {st5 : Sto} (h : lcRest turn src m i acc st = .ok ds st5) : acc.length ≤ ds.length := by
  cases src with
  | fix its => exact lcLoop_len h
  | live en n => exact lcLive_len h
/-- a turn: nothing more comes, or a row and what follows it -/
inductive LcS (turn : List D → Sto → R (Option D)) (src : Src) (m i : Nat) (acc : List D) (st : Sto) (ds : List D) (st5 : Sto) : Prop
  | done : cur src i st = some none → acc.reverse = ds → st = st5 → LcS turn src m i acc st ds st5
  | row {row : List D} {m' : Nat} {o : Option D} {st1 : Sto} : cur src i st = some (some row) → m' < m → srcM src m' (i + 1) → turn row st = .ok o st1 → lcRest turn src m' (i + 1) (consO o acc) st1 = .ok ds st5 → LcS turn src m i acc st ds st5
theorem lcRest_step {src : Src} {m i : Nat} {acc : List D} {st : Sto} {ds : List D} {st5 : Sto} (h : lcRest turn src m i acc st = .ok ds st5) (hm : srcM src m i) : LcS turn src m i acc st ds st5 := by
  cases src with
  | fix its =>
    have hm : m = its.length - i := hm
    have h : lcLoop turn (its.drop i) acc st = .ok ds st5 := h
    cases hi : its[i]? with
    | none =>
      rw [List.drop_eq_nil_of_le (List.getElem?_eq_none_iff.mp hi)] at h
      cases h
      exact .done (by show some its[i]? = _; rw [hi]) rfl rfl
    | some row =>
      obtain ⟨hl, he⟩ := List.getElem?_eq_some_iff.mp hi
      rw [List.drop_eq_getElem_cons hl, he] at h
      obtain ⟨o, st1, e, k⟩ := lcLoop_cons h
      exact .row (m' := its.length - (i + 1)) (by show some its[i]? = _; rw [hi]) (by omega) rfl e k
  | live en n =>
    cases m with
    | zero => cases h
    | succ k =>
      obtain ⟨xs, h1, h2⟩ := lcLive_step h
      rcases h2 with ⟨h2, h3, h4⟩ | ⟨x, o, st1, h2, h3, h4⟩
      · refine .done ?_ h3 h4
        show (match listItems st (.ref n) with | none => none | some xs => some (xs[i]?.map (rowOf en i))) = _
        rw [h1]
        show some (xs[i]?.map (rowOf en i)) = _
        rw [h2]; rfl
      · refine .row (m' := k) ?_ (Nat.lt_succ_self _) True.intro h3 h4
        show (match listItems st (.ref n) with | none => none | some xs => some (xs[i]?.map (rowOf en i))) = _
        rw [h1]
        show some (xs[i]?.map (rowOf en i)) = _
        rw [h2]; rfl
end
/-! ### rows to targets -/
section
variable {K : PySem.W.Frag} {bs : List Nat} {g : Gh} {H H' : Hp} {st : Sto}
theorem asgs_ok : ∀ (ts : List Tg) (ds : List D) (vs : List V) (env env' : Env) (σ : L2.St), RepDs N0 g ds vs → EnvR g env σ → asgs ts ds env = some env' → Sub g.G H →
    ds.length = ts.length ∧ gTs K ts vs σ H fun σ2 H2 => H2 = H ∧ EnvR g env' σ2 ∧ OnlyAt (slotss ts) σ σ2
  | [], [], vs, env, env', σ, r, er, h, _ => by
    cases h
    cases r
    exact ⟨rfl, rfl, rfl, er, fun _ _ => rfl⟩
  | [], _ :: _, _, _, _, _, _, _, h, _ => by cases h
  | _ :: _, [], _, _, _, _, _, _, h, _ => by cases h
  | t :: ts, d :: ds, vs, env, env', σ, r, er, h, hs => by
    have h' : (match asg t d env with | some env' => asgs ts ds env' | none => none) = some env' := h
    match vs, r with
    | v :: vs', .cons r1 r2 =>
      cases e : asg t d env with
      | none => rw [e] at h'; cases h'
      | some env1 =>
        rw [e] at h'
        have k1 := asg_ok (K := K) t d v env env1 σ r1 er e hs
        have k2 := fun σ1 er1 => asgs_ok ts ds vs' env1 env' σ1 r2 er1 h' hs
        obtain ⟨a, b, c, dd, hlen⟩ : ∃ (a b c d : Unit), ds.length = ts.length := by
          refine ⟨(), (), (), (), ?_⟩
          exact asgs_len ts ds env1 env' h'
        refine ⟨by rw [List.length_cons, List.length_cons, hlen], v, vs', rfl, gT_mono (g := g) (H := H) t v σ H _ _ k1 fun σ1 H1 ⟨e1, er1, o1⟩ => ?_⟩
        subst e1
        refine gTs_mono (g := g) (H := H1) ts vs' σ1 H1 _ _ (k2 σ1 er1).2 fun σ2 H2 ⟨e2, er2, o2⟩ => ⟨e2, er2, fun ws hw => ?_⟩
        rw [o2 ws fun i hi => hw i (List.mem_append_right _ hi), o1 ws fun i hi => hw i (List.mem_append_left _ hi)]
where asgs_len : ∀ (ts : List Tg) (ds : List D) (env env' : Env), asgs ts ds env = some env' → ds.length = ts.length
  | [], [], _, _, _ => rfl
  | [], _ :: _, _, _, h => by cases h
  | _ :: _, [], _, _, h => by cases h
  | t :: ts, x :: xs, env, env', h => by
    have h' : (match asg t x env with | some env' => asgs ts xs env' | none => none) = some env' := h
    cases e : asg t x env with
    | none => rw [e] at h'; cases h'
    | some env1 =>
      rw [e] at h'
      rw [List.length_cons, List.length_cons, asgs_len ts xs env1 env' h']
theorem row_ok {row : List D} {x : V} (rv : RowV g H row x H') (a : At N0 bs g H st) : ∃ g', At N0 bs g' H' st ∧ Step g H st g' H' st ∧
    ∀ (tg : Tg) (env env' : Env) (σ : L2.St), asgItem tg row env = some env' → EnvR g env σ → gT K tg x σ H' fun σ2 H2 => H2 = H' ∧ EnvR g' env' σ2 ∧ OnlyAt (slots tg) σ σ2 := by
  cases rv with
  | one r => exact ⟨g, a, Step.refl, fun tg env env' σ h er => asg_ok tg _ x env env' σ r er h a.ok.sub⟩
  | @nest d x y T U v u w hT hU r1 d1 d2 =>
    obtain ⟨a1, s1⟩ := at_froz (ho := .tup [u, w]) a hT
    obtain ⟨a2, s2⟩ := at_laid (ho := .tup [v, .ref T]) a1 hU
    refine ⟨_, a2, s1.trans s2, fun tg env env' σ h er => ?_⟩
    cases tg with
    | name i => cases h
    | tup ts =>
      have rt : RepD N0 ⟨upd g.G T (.tup [u, w]), g.mu⟩ (.p (.tuple [x, y])) (.ref T) := .tup (.inl (.inl upd_same)) (.cons (s1.dp d1) (.cons (s1.dp d2) .nil))
      obtain ⟨h1, h2⟩ := asgs_ok (K := K) (H := upd (upd H T (.tup [u, w])) U (.tup [v, .ref T])) ts [d, .p (.tuple [x, y])] [v, .ref T] env env' σ (.cons (s1.rep r1) (.cons rt .nil)) (er.step s1) h a2.ok.sub
      exact ⟨U, [v, .ref T], rfl, .inl (.inl upd_same), h1, h2⟩
  | @two d e T v w hT r1 r2 =>
    obtain ⟨a1, s1⟩ := at_laid (ho := .tup [v, w]) a hT
    refine ⟨g, a1, s1, fun tg env env' σ h er => ?_⟩
    cases tg with
    | name i => cases h
    | tup ts =>
      obtain ⟨h1, h2⟩ := asgs_ok (K := K) (H := upd H T (.tup [v, w])) ts [d, e] [v, w] env env' σ (.cons r1 (.cons r2 .nil)) er h a1.ok.sub
      exact ⟨T, [v, w], rfl, .inl (.inl upd_same), h1, h2⟩
end
/-! ### the comprehension -/
abbrev RepQ : Gh → Bool → Bool → Prop := fun _ a b => a = b
def rdQ (cl : List (Addr × Option Str)) (bs : List Nat) (W : WX) (c : Env → Sto → R Bool) : TT := fun σ H Q => ∃ g st env, At N0 bs g H st ∧ EnvR g env σ ∧ Post cl bs RepQ g H st (c env st) Q (fun a b H' => W a b σ H')
def WF : WX := fun _ _ _ _ => False
def lcTurn (C : Cl) (bs : List Nat) (env : Env) (own : List Nat) (tg : Tg) (ifs : List E) (elt : E) : List D → Sto → R (Option D) := fun x st2 => match asgItem tg x (wipeE env own) with
  | none => .stuck
  | some env' => (evAll C bs env' ifs st2).bind fun t st3 => match t with
    | true => (ev C bs env' elt false st3).bind fun d st4 => .ok (some d) st4
    | false => .ok none st3
section
variable {X : Cx} {cl : List (Addr × Option Str)} {bs : List Nat} {W : WX} {C : Cl} {K : PySem.W.Frag}
theorem pts_no : PTs X [] (rdQ cl bs W (fun env st => evAll C bs env [] st)) := ⟨fun pins s σ H Q I q => pts_nil.run pins s σ H Q I (by
  obtain ⟨g, st, env, a, er, p⟩ := q
  exact Post.fin (Rep := RepQ) p a rfl)⟩
theorem pts_if {c : E} {pc : Expr} (h : sE cl bs W C X pc c) : PTs X [pc] (rdQ cl bs W (fun env st => evAll C bs env [c] st)) := ⟨fun pins s σ H Q I q => (pts_one h.t).run pins s σ H Q I (by
  obtain ⟨g, st, env, a, er, p⟩ := q
  refine ⟨g, st, env, a, er, ask_post (Rep := RepQ) p fun t st1 g1 H1 a1 s1 p1 => ?_⟩
  cases t with
  | true => exact Post.fin (Rep := RepQ) p1 a1 rfl
  | false => exact Post.fin (Rep := RepQ) p1 a1 rfl)⟩
theorem lc_rd {al : Bool} {own : List Nat} {tg : Tg} {kd : Nat} {src ifs : List E} {elt : E} {σ : L2.St} {H : Hp} {Q : VK} (hin : ∀ i ∈ slots tg, i ∈ own)
    (q : rdC cl bs W (fun env st => ev C bs env (.lc al own tg kd src ifs elt) false st) σ H Q) :
    tLc (rdJ cl bs W C K kd src) (gT K tg) (rdQ cl bs WF (fun env st => evAll C bs env ifs st)) (rdC cl bs WF (fun env st => ev C bs env elt false st)) own σ H Q := by
  obtain ⟨g, st, env, a, er, p⟩ := q
  refine rdJ_of (Rep := RepD N0) (f := fun its st1 => (noExn (lcRun (lcTurn C bs env own tg ifs elt) its st1)).bind fun acc st5 => mkL al acc st5) ⟨g, st, env, a, er, p, fun srcs g1 H1 st1 J a1 er1 p1 fed D hD => ?_⟩
  obtain ⟨ds, st5, e5, p5⟩ : ∃ ds st5, lcRun (lcTurn C bs env own tg ifs elt) srcs st1 = .ok ds st5 ∧ PostD cl bs g1 H1 st1 (mkL al ds st5) Q (fun a b H' => W a b σ H') := by
    cases z : lcRun (lcTurn C bs env own tg ifs elt) srcs st1 with
    | ok ds st5 => rw [z] at p1; exact ⟨ds, st5, rfl, p1⟩
    | exn c x st5 => rw [z] at p1; exact p1.elim
    | stuck => rw [z] at p1; exact p1.elim
  have hlen : ds.length ≤ LINE := by
    have p6 := p5
    unfold mkL at p6
    exact Nat.le_of_ble_eq_true (chk_post p6).1
  refine ⟨fun i m H => srcM srcs m i ∧ ∃ g st acc vacc, At N0 bs g H st ∧ Step g1 H1 st1 g H st ∧ Pend g H st D (.lst vacc) ∧ RepDs N0 g acc.reverse vacc ∧ lcRest (lcTurn C bs env own tg ifs elt) srcs m i acc st = .ok ds st5, ?_, ?_⟩
  · obtain ⟨a2, s2⟩ := at_laid (ho := .lst []) a1 hD
    cases srcs with
    | fix its => exact ⟨its.length, (by show its.length = its.length - 0; omega), g1, st1, [], [], a2, s2, pend_new a1 hD, .nil, e5⟩
    | live en n => exact ⟨TURNS, True.intro, g1, st1, [], [], a2, s2, pend_new a1 hD, .nil, e5⟩
  · rintro i m H2 ⟨hm, g2, st2, acc, vacc, a2, s2, q2, r2, e2⟩
    cases lcRest_step e2 hm with
    | done h1 h2 h3 =>
      subst h2; subst h3
      exact .inl ⟨fed i g2 H2 st2 a2 s2 none h1, mkL_pend p5 s2 a2 q2 r2 hD⟩
    | @row row m' o st3 h1 h2 h3 h4 h5 =>
      obtain ⟨go, yl⟩ := fed i g2 H2 st2 a2 s2 (some row) h1
      refine .inr ⟨go, _, fun H' h => ⟨m', h2, h⟩, fun x H3 y => ?_⟩
      obtain ⟨g3, a3, s3, tgt⟩ := row_ok (K := K) (yl x H3 y) a2
      unfold lcTurn at h4
      cases z : asgItem tg row (wipeE env own) with
      | none => rw [z] at h4; cases h4
      | some env' =>
        rw [z] at h4
        dsimp only at h4
        obtain ⟨t, st4, e4, k4⟩ := bind_ok h4
        refine gT_mono (g := g2) (H := H2) tg x _ H3 _ _ (tgt tg (wipeE env own) env' (wipe σ own) z ((er1.step s2).wipe own)) fun σ2 H4 ⟨eH, er2, only⟩ => ?_
        subst eH
        refine ⟨by rw [only own hin, wipe_wipe], g3, st2, env', a3, er2, ?_⟩
        show Post cl bs RepQ g3 H4 st2 (evAll C bs env' ifs st2) _ _
        rw [e4]
        intro b g5 H5 a5 s5 rb
        cases (show t = b from rb)
        have q5 := pend_step (pend_step q2 s3) s5
        cases t with
        | false =>
          rw [if_neg Bool.false_ne_true]
          cases k4
          exact ⟨h3, g5, st3, acc, vacc, a5, (s2.trans s3).trans s5, q5, s5.reps (s3.reps r2), h5⟩
        | true =>
          rw [if_pos rfl]
          obtain ⟨d, st6, e6, k6⟩ := bind_ok (show (ev C bs env' elt false st4).bind _ = _ from k4)
          cases k6
          refine ⟨g5, st4, env', a5, er2.step s5, ?_⟩
          show PostD cl bs g5 H5 st4 (ev C bs env' elt false st4) _ _
          rw [e6]
          intro v g6 H6 a6 s6 r6
          have q6 := pend_step q5 s6
          obtain ⟨a7, q7⟩ := pend_upd (ho' := .lst (vacc ++ [v])) a6 q6
          have hl := lcRest_len h5
          have hl2 := r2.len
          rw [List.length_reverse] at hl2
          have hl : acc.length + 1 ≤ ds.length := hl
          refine ⟨vacc, q6.at_, by rw [line_eq]; omega, h3, g6, st3, d :: acc, vacc ++ [v], a7, step_upd (((s2.trans s3).trans s5).trans s6) hD, q7, ?_, h5⟩
          rw [List.reverse_cons]
          exact RepDs.app (s6.reps (s5.reps (s3.reps r2))) (.cons r6 .nil)
end
end Ev

/-! EvO: displays with stars, turned sequences, shifts, dict comprehensions. -/
namespace Ev
variable [FnTab]
open PySem PySem.Spec PyProof.Rows L2
section
variable {X : Cx} {cl : List (Addr × Option Str)} {bs : List Nat} {W : WX} {C : Cl}

/-! ### stars -/
def spO (ms : List Bool) (ds : List D) (st : Sto) : R (List D) := match spread ms ds with | some xs => .ok xs st | none => .stuck
inductive SpE (cl : List (Addr × Option Str)) (bs : List Nat) (W : WX) (C : Cl) (X : Cx) : List Bool → List E → List Expr → Prop
  | nil : SpE cl bs W C X [] [] []
  | one {e : E} {ms : List Bool} {es : List E} {pe : Expr} {pes : List Expr} : sE cl bs W C X pe e → noStar pe = true → SpE cl bs W C X ms es pes → SpE cl bs W C X (false :: ms) (e :: es) (pe :: pes)
  | star {e : E} {ms : List Bool} {es : List E} {pe : Expr} {p : Pos} {pes : List Expr} : sE cl bs W C X pe e → SpE cl bs W C X ms es pes → SpE cl bs W C X (true :: ms) (.op .spl [e] :: es) (.Starred pe p :: pes)
theorem sp_one (env : Env) (st : Sto) (e : E) (es : List E) (ms : List Bool) : (evs C bs env (e :: es) st).bind (fun ds st1 => spO (false :: ms) ds st1) =
    (ev C bs env e false st).bind fun d st1 => ((evs C bs env es st1).bind fun ds st2 => spO ms ds st2).bind fun xs st3 => .ok (d :: xs) st3 := by
  show ((ev C bs env e false st).bind fun d st1 => (evs C bs env es st1).bind fun ds st2 => .ok (d :: ds) st2).bind _ = _
  cases ev C bs env e false st with
  | ok d st1 =>
    show ((evs C bs env es st1).bind fun ds st2 => .ok (d :: ds) st2).bind _ = ((evs C bs env es st1).bind fun ds st2 => spO ms ds st2).bind fun xs st3 => .ok (d :: xs) st3
    cases evs C bs env es st1 with
    | ok ds st2 =>
      show spO (false :: ms) (d :: ds) st2 = (spO ms ds st2).bind fun xs st3 => .ok (d :: xs) st3
      unfold spO
      show (match (spread ms ds).map (d :: ·) with | some xs => R.ok xs st2 | none => .stuck) = _
      cases spread ms ds <;> rfl
    | exn c x st2 => rfl
    | stuck => rfl
  | exn c x st1 => rfl
  | stuck => rfl
theorem sp_star (env : Env) (st : Sto) (e : E) (es : List E) (ms : List Bool) : (evs C bs env (.op .spl [e] :: es) st).bind (fun ds st1 => spO (true :: ms) ds st1) =
    (ev C bs env e false st).bind fun d st1 => match plainS d with
      | some ys => ((evs C bs env es st1).bind fun ds st2 => spO ms ds st2).bind fun xs st3 => .ok (ys ++ xs) st3
      | none => .stuck := by
  show (((evs C bs env [e] st).bind fun ds st1 => opS .spl ds st1).bind fun d st1 => (evs C bs env es st1).bind fun ds st2 => .ok (d :: ds) st2).bind _ = _
  show ((((ev C bs env e false st).bind fun d st1 => R.ok [d] st1).bind fun ds st1 => opS .spl ds st1).bind fun d st1 => (evs C bs env es st1).bind fun ds st2 => .ok (d :: ds) st2).bind _ = _
  cases ev C bs env e false st with
  | ok d st1 =>
    show (((match plainS d with | some _ => R.ok d st1 | none => .stuck).bind fun d st1 => (evs C bs env es st1).bind fun ds st2 => .ok (d :: ds) st2)).bind _ = match plainS d with
      | some ys => ((evs C bs env es st1).bind fun ds st2 => spO ms ds st2).bind fun xs st3 => .ok (ys ++ xs) st3
      | none => .stuck
    cases hp : plainS d with
    | none => rfl
    | some ys =>
      show ((evs C bs env es st1).bind fun ds st2 => R.ok (d :: ds) st2).bind _ = ((evs C bs env es st1).bind fun ds st2 => spO ms ds st2).bind fun xs st3 => .ok (ys ++ xs) st3
      cases evs C bs env es st1 with
      | ok ds st2 =>
        show spO (true :: ms) (d :: ds) st2 = (spO ms ds st2).bind fun xs st3 => .ok (ys ++ xs) st3
        unfold spO
        show (match (match plainS d, spread ms ds with | some xs, some ys => some (xs ++ ys) | _, _ => none) with | some xs => R.ok xs st2 | none => .stuck) = _
        rw [hp]
        cases spread ms ds <;> rfl
      | exn c x st2 => rfl
      | stuck => rfl
  | exn c x st1 => rfl
  | stuck => rfl
theorem plainS_ok {g : Gh} {H : Hp} {st : Sto} (a : At N0 bs g H st) {d : D} {v : V} {ys : List D} (h : plainS d = some ys) (r : RepD N0 g d v) : ∃ b vs, v = .ref b ∧ (SqT X.K H b vs ∨ SqL X.K H b vs) ∧ RepDs N0 g ys vs := by
  cases d with
  | ref n => cases h
  | p x => cases x with
    | tuple xs =>
      cases h
      obtain ⟨b, vs, rfl, hs, ha⟩ := dp_tup r
      exact ⟨b, vs, rfl, .inl (sqt_k (sqt_mono a.ok.sub hs)), reps_of_all ha⟩
    | list xs =>
      cases h
      obtain ⟨b, vs, rfl, hs, ha⟩ := dp_lst r
      exact ⟨b, vs, rfl, .inr (sql_k (sql_mono a.ok.sub hs)), reps_of_all ha⟩
    | _ => cases h
theorem pa_sp : ∀ {ms : List Bool} {es : List E} {pes : List Expr}, SpE cl bs W C X ms es pes → PA X pes (rdA cl bs W (fun env st => (evs C bs env es st).bind fun ds st1 => spO ms ds st1))
  | _, _, _, .nil => pa_nil.imp fun σ H Q q => by
    obtain ⟨g, st, env, a, er, p⟩ := q
    exact Post.fin (Rep := RepDs N0) p a .nil
  | _, _, _, .one h hs r => (pa_cons h.v (pa_sp r) (star_cons hs _ X.env)).imp fun σ H Q q => by
    obtain ⟨g, st, env, a, er, p⟩ := q
    have p : PostL cl bs g H st ((evs C bs env (_ :: _) st).bind fun ds st1 => spO (false :: _) ds st1) Q (fun a b H' => W a b σ H') := p
    rw [sp_one] at p
    refine ⟨g, st, env, a, er, Post.bind (Rep' := RepDs N0) p fun d st1 v g1 H1 a1 s1 r1 p1 => ⟨g1, st1, env, a1, er.step s1, Post.bind (Rep' := RepDs N0) p1 fun ds st2 vs g2 H2 a2 s2 r2 p2 => ?_⟩⟩
    exact Post.fin (Rep := RepDs N0) p2 a2 (.cons (s2.rep r1) r2)
  | _, _, _, .star h r => (StX.pa_star h.v (pa_sp r)).imp fun σ H Q q => by
    obtain ⟨g, st, env, a, er, p⟩ := q
    have p : PostL cl bs g H st ((evs C bs env (.op .spl [_] :: _) st).bind fun ds st1 => spO (true :: _) ds st1) Q (fun a b H' => W a b σ H') := p
    rw [sp_star] at p
    refine ⟨g, st, env, a, er, Post.bind (Rep' := RepDs N0) p fun d st1 v g1 H1 a1 s1 r1 p1 => ?_⟩
    cases hp : plainS d with
    | none => rw [hp] at p1; exact p1.elim
    | some ys =>
      rw [hp] at p1
      obtain ⟨b, vs, rfl, hv, rv⟩ := plainS_ok (X := X) a1 hp r1
      refine ⟨b, vs, rfl, hv, g1, st1, env, a1, er.step s1, Post.bind (Rep' := RepDs N0) p1 fun ds st2 ws g2 H2 a2 s2 r2 p2 => ?_⟩
      exact Post.fin (Rep := RepDs N0) p2 a2 (RepDs.app (s2.reps rv) r2)
theorem sp_bind {α : Type} (r : R (List D)) (ms : List Bool) (f : List D → Sto → R α) : (r.bind fun ds st1 => match spread ms ds with | some xs => f xs st1 | none => .stuck) = (r.bind fun ds st1 => spO ms ds st1).bind f := by
  cases r with
  | ok ds st1 =>
    show (match spread ms ds with | some xs => f xs st1 | none => .stuck) = (spO ms ds st1).bind f
    unfold spO
    cases spread ms ds <;> rfl
  | exn c x st1 => rfl
  | stuck => rfl
theorem e_tupS {ms : List Bool} {es : List E} {pes : List Expr} {k : Nat} {pos : Pos} (h : SpE cl bs W C X ms es pes) : sE cl bs W C X (.Tuple pes k pos) (.op (.tupS ms) es) :=
  se_fin (c := cOp C bs (.tupS ms) es) ((pe_tup (pa_sp h)).imp fun σ H Q q => by
    obtain ⟨g, st, env, a, er, p⟩ := q
    have p : PostD cl bs g H st ((evs C bs env es st).bind fun ds st1 => match spread ms ds with | some xs => mkT xs st1 | none => .stuck) Q (fun a b H' => W a b σ H') := p
    rw [sp_bind] at p
    exact ⟨g, st, env, a, er, Post.bind (Rep' := RepD N0) p fun ds st1 vs g1 H1 a1 s1 r1 p1 => mkT_post p1 a1 r1⟩) (fun _ => rfl)
theorem e_lstS {al : Bool} {ms : List Bool} {es : List E} {pes : List Expr} {pos : Pos} (h : SpE cl bs W C X ms es pes) : sE cl bs W C X (.List pes pos) (.op (.lstS al ms) es) :=
  se_fin (c := cOp C bs (.lstS al ms) es) ((pe_lst (pa_sp h)).imp fun σ H Q q => by
    obtain ⟨g, st, env, a, er, p⟩ := q
    have p : PostD cl bs g H st ((evs C bs env es st).bind fun ds st1 => match spread ms ds with | some xs => mkL al xs st1 | none => .stuck) Q (fun a b H' => W a b σ H') := p
    rw [sp_bind] at p
    exact ⟨g, st, env, a, er, Post.bind (Rep' := RepD N0) p fun ds st1 vs g1 H1 a1 s1 r1 p1 => mkL_post p1 a1 r1⟩) (fun _ => rfl)

/-! ### gcd, shifts -/
theorem s_gcd : CallR X (.builtin "math.gcd") (rB cl bs .gcd) := by
  intro pins s σ H xs us Q I r hh
  obtain ⟨g, st, ds, W, a, rr, p⟩ := hh
  have p0 : PostD cl bs g H st (opInt2 st (fun i j => some (.int (gcdI i j))) ds) Q W := p
  obtain ⟨i, j, d, rfl, e, p⟩ := opInt2_inv p0
  obtain ⟨v, w, rfl, r1, r2⟩ := reps2 rr
  have e1 := dp_int r1
  have e2 := dp_int r2
  subst e1; subst e2
  cases e
  exact cr_gcd pins s σ H _ us Q I r ⟨i, j, rfl, Post.fin p a (show Dp N0 _ _ _ from .int _)⟩
theorem e_gcd {x : Str} (hg : Gl X x) (hm : X.mg x = some (.builtin "math.gcd")) (hdb : (x == ("__debug__" : Str)) = false) {es : List E} {pe : Expr} {pes : List Expr} {p pos : Pos} (ha : PA X (pe :: pes) (rdA cl bs W (fun env st => evs C bs env es st))) (hs : noStars (pe :: pes) = true) :
    sE cl bs W C X (.Call (.Name x p) (pe :: pes) [] pos) (.op .gcd es) := by
  obtain ⟨s1, s2⟩ := Bool.and_eq_true_iff.mp hs
  exact se_fin (c := cOp C bs .gcd es) ((pe_callBfun s_gcd hg hm ha hdb (star_cons s1 pes X.env) (stars_any s2)).imp fun σ H Q q => args_op q) (fun _ => rfl)
theorem nat2_inv {g : Gh} {H : Hp} {st : Sto} {Q : VK} {W : XW} {f : Nat → Nat → Option Nat} {ds : List D} (p : PostD cl bs g H st (opNat2 st f ds) Q W) : ∃ m n k : Nat, ds = [.p (.int m), .p (.int n)] ∧ f m n = some k ∧ PostD cl bs g H st (.ok (D.int k) st) Q W := by
  unfold opNat2 at p
  split at p
  · rename_i a b
    have nat : ∀ {d : D} {n : Nat}, natOf d = some n → d = .p (.int n) := fun {d n} h => by
      unfold natOf at h
      split at h
      · cases h; rfl
      · cases h
    split at p
    · rename_i m n h1 h2
      split at p
      · rename_i k hk
        exact ⟨m, n, k, by rw [nat h1, nat h2], hk, p⟩
      · exact p.elim
    · exact p.elim
  · exact p.elim
theorem s_shl : OpR X (binaryOp .LShift) (fun x y => rO cl bs (opS .shl) [x, y]) := by
  intro pins s σ H x y v u Q I rx ry hh
  obtain ⟨g, st, ds, W, a, rr, p⟩ := hh
  have p0 : PostD cl bs g H st (opNat2 st (fun m n => match Nat.ble n 100000, Nat.blt m (2 ^ 64) with | true, true => some (m * 2 ^ n) | _, _ => none) ds) Q W := p
  obtain ⟨m, n, k, rfl, e, p⟩ := nat2_inv p0
  obtain ⟨v', w', e0, r1, r2⟩ := reps2 rr
  injection e0 with e1 e0
  injection e0 with e2 _
  subst e1; subst e2
  have e1 := dp_int r1
  have e2 := dp_int r2
  subst e1; subst e2
  split at e
  · rename_i h1 h2
    cases e
    have h1 := Nat.le_of_ble_eq_true h1
    have h2 : m < 2 ^ 64 := Nat.le_of_ble_eq_true h2
    refine op_shl pins s σ H _ _ v u Q I rx ry ⟨m, n, rfl, rfl, ⟨by omega, by omega, by simpa using h2⟩, ?_⟩
    show Q (.int ((m : Int) * 2 ^ (n : Int).toNat)) H
    rw [Int.toNat_natCast]
    have ee : ((m : Int) * 2 ^ n) = ((m * 2 ^ n : Nat) : Int) := by simp
    rw [ee]
    exact Post.fin p a (show Dp N0 _ _ _ from .int _)
  · cases e
theorem s_shr : OpR X (binaryOp .RShift) (fun x y => rO cl bs (opS .shr) [x, y]) := by
  intro pins s σ H x y v u Q I rx ry hh
  obtain ⟨g, st, ds, W, a, rr, p⟩ := hh
  have p0 : PostD cl bs g H st (opNat2 st (fun m n => match Nat.ble n 100000 with | true => some (m / 2 ^ n) | false => none) ds) Q W := p
  obtain ⟨m, n, k, rfl, e, p⟩ := nat2_inv p0
  obtain ⟨v', w', e0, r1, r2⟩ := reps2 rr
  injection e0 with e1 e0
  injection e0 with e2 _
  subst e1; subst e2
  have e1 := dp_int r1
  have e2 := dp_int r2
  subst e1; subst e2
  split at e
  · cases e
    refine op_shr pins s σ H _ _ v u Q I rx ry ⟨m, n, rfl, rfl, by omega, ?_⟩
    show Q (.int ((m : Int) / 2 ^ (n : Int).toNat)) H
    rw [Int.toNat_natCast]
    have ee : ((m : Int) / 2 ^ n) = ((m / 2 ^ n : Nat) : Int) := by simp
    rw [ee]
    exact Post.fin p a (show Dp N0 _ _ _ from .int _)
  · cases e
theorem s_band : OpR X (binaryOp .BitAnd) (fun x y => rO cl bs (opS .band) [x, y]) := by
  intro pins s σ H x y v u Q I rx ry hh
  obtain ⟨g, st, ds, W, a, rr, p⟩ := hh
  have p0 : PostD cl bs g H st (opNat2 st (fun m n => some (Nat.land m n)) ds) Q W := p
  obtain ⟨m, n, k, rfl, e, p⟩ := nat2_inv p0
  obtain ⟨v', w', e0, r1, r2⟩ := reps2 rr
  injection e0 with e1 e0
  injection e0 with e2 _
  subst e1; subst e2
  have e1 := dp_int r1
  have e2 := dp_int r2
  subst e1; subst e2
  cases e
  refine op_and pins s σ H _ _ v u Q I rx ry ⟨m, n, rfl, rfl, ?_⟩
  have ee : Builtin.bitAnd (m : Int) (n : Int) = ((Nat.land m n : Nat) : Int) := by
    unfold Builtin.bitAnd
    rw [decide_eq_true (show (0 : Int) ≤ m by omega), decide_eq_true (show (0 : Int) ≤ n by omega)]
    show (((m : Int).toNat &&& (n : Int).toNat : Nat) : Int) = _
    rw [Int.toNat_natCast, Int.toNat_natCast]
    rfl
  show Q (.int (Builtin.bitAnd (m : Int) (n : Int))) H
  rw [ee]
  exact Post.fin p a (show Dp N0 _ _ _ from .int _)
theorem s_bor : OpR X (binaryOp .BitOr) (fun x y => rO cl bs (opS .bor) [x, y]) := by
  intro pins s σ H x y v u Q I rx ry hh
  obtain ⟨g, st, ds, W, a, rr, p⟩ := hh
  have p0 : PostD cl bs g H st (opNat2 st (fun m n => some (Nat.lor m n)) ds) Q W := p
  obtain ⟨m, n, k, rfl, e, p⟩ := nat2_inv p0
  obtain ⟨v', w', e0, r1, r2⟩ := reps2 rr
  injection e0 with e1 e0
  injection e0 with e2 _
  subst e1; subst e2
  have e1 := dp_int r1
  have e2 := dp_int r2
  subst e1; subst e2
  cases e
  refine op_or pins s σ H _ _ v u Q I rx ry ⟨m, n, rfl, rfl, ?_⟩
  have ee : Builtin.bitOr (m : Int) (n : Int) = ((Nat.lor m n : Nat) : Int) := by
    have b1 : ∀ k : Nat, (Builtin.bitNot (Builtin.bitNot (k : Int))).toNat = k := fun k => by unfold Builtin.bitNot; omega
    unfold Builtin.bitOr Builtin.bitAnd
    rw [decide_eq_false (show ¬ (0 : Int) ≤ Builtin.bitNot m by unfold Builtin.bitNot; omega), decide_eq_false (show ¬ (0 : Int) ≤ Builtin.bitNot n by unfold Builtin.bitNot; omega)]
    show Builtin.bitNot (Builtin.bitNot (((Builtin.bitNot (Builtin.bitNot (m : Int))).toNat ||| (Builtin.bitNot (Builtin.bitNot (n : Int))).toNat : Nat) : Int)) = _
    rw [b1, b1]
    show Builtin.bitNot (Builtin.bitNot ((Nat.lor m n : Nat) : Int)) = _
    unfold Builtin.bitNot
    omega
  show Q (.int (Builtin.bitOr (m : Int) (n : Int))) H
  rw [ee]
  exact Post.fin p a (show Dp N0 _ _ _ from .int _)
end
/-! ### x[::-1] -/
section
variable {prog : Program} {w : World} {A : Around} {E : Value → Shared → Prop} {s : Shared}
theorem slice_rev {sl : Addr} {vl vu vs : Value} {n : Nat} {Q : Int × Int × Nat → Shared → Prop} (hs : s.heap.IsSliceOf sl vl vu vs) (pl : IsPart vl none) (pu : IsPart vu none) (ps : IsPart vs (some (-1)))
    (h : Q ((n : Int) - 1, -1, n) s) : wpAny (model prog w) A (Builtin.Slice.sliceApplied (.ref sl) (pure (n : Int))) Q E s := by
  obtain ⟨os, hos, hcs, hds⟩ := id hs
  unfold Builtin.Slice.sliceApplied Builtin.Slice.sliceFields
  refine wpAny_bind (wpAny_bind (wpAny_field hos hds (x := vl) rfl (wpAny_bind (wpAny_field hos hds (x := vu) rfl (wpAny_bind (wpAny_field hos hds (x := vs) rfl (wpAny_pure ?_)))))))
  refine wpAny_bind (HT.slicePart_ ps ?_)
  show wpAny _ _ (if ((-1 : Int) == 0) = true then _ else _) _ _ s
  rw [if_neg (by decide)]
  refine wpAny_bind (HT.slicePart_ pl (wpAny_bind (HT.slicePart_ pu (wpAny_bind (wpAny_pure ?_)))))
  show wpAny _ _ (match Builtin.Slice.sliceAdjust none none (-1) (n : Int) with | (lo, hi) => pure (lo, (-1 : Int), Builtin.Slice.slicePlaces lo hi (-1))) _ _ s
  have e1 : Builtin.Slice.sliceAdjust none none (-1) (n : Int) = ((n : Int) - 1, -1) := by
    unfold Builtin.Slice.sliceAdjust
    simp
  rw [e1]
  show wpAny _ _ (pure ((n : Int) - 1, (-1 : Int), Builtin.Slice.slicePlaces ((n : Int) - 1) (-1) (-1))) _ _ s
  have e2 : Builtin.Slice.slicePlaces ((n : Int) - 1) (-1) (-1) = n := by
    unfold Builtin.Slice.slicePlaces
    rw [if_neg (by decide)]
    by_cases hn : (n : Int) - 1 > -1
    · rw [if_pos hn, show (- -1 : Int) = 1 by decide, Int.ediv_one]
      omega
    · rw [if_neg hn]
      omega
  rw [e2]
  exact wpAny_pure h
theorem fm_congr {α β : Type} {f g : α → Option β} : ∀ {l : List α}, (∀ x ∈ l, f x = g x) → l.filterMap f = l.filterMap g
  | [], _ => rfl
  | x :: l, h => by rw [List.filterMap_cons, List.filterMap_cons, h x List.mem_cons_self, fm_congr fun y hy => h y (List.mem_cons_of_mem _ hy)]
theorem pick_rev (xs : Array Value) : ((List.range xs.size).filterMap fun (k : Nat) => xs[((xs.size : Int) - 1 + (k : Int) * -1).toNat]?).toArray = xs.toList.reverse.toArray := by
  have e : (List.range xs.size).filterMap (fun (k : Nat) => xs[((xs.size : Int) - 1 + (k : Int) * -1).toNat]?) = ((List.range xs.size).map fun k => xs.size - 1 - k).filterMap (xs[·]?) := by
    rw [List.filterMap_map]
    refine fm_congr fun k hk => ?_
    have := List.mem_range.mp hk
    show xs[((xs.size : Int) - 1 + (k : Int) * -1).toNat]? = xs[xs.size - 1 - k]?
    congr 1
    omega
  rw [e, PySem.W.krv_range, List.filterMap_reverse, PySem.W.krv_all]
theorem tup_rev {t sl : Addr} {items : Array Value} {vl vu vs : Value} {Q : Value → Shared → Prop} (ht : IsTup s.heap t items) (hs : s.heap.IsSliceOf sl vl vu vs) (pl : IsPart vl none) (pu : IsPart vu none) (ps : IsPart vs (some (-1)))
    (h : Q (.ref s.heap.objs.size) { s with heap := s.heap.push { cls := .type "tuple", data := .seq items.toList.reverse.toArray } }) (hsz : items.size ≤ sizeLine) : wpAny (model prog w) A (PySem.getItem (.ref t) (.ref sl)) Q E s := by
  have htake : sizeOk (.seq items.toList.reverse.toArray) := by
    show items.toList.reverse.toArray.size ≤ sizeLine
    rw [List.size_toArray, List.length_reverse, Array.length_toList]
    exact hsz
  obtain ⟨os, hos, hcs, hds⟩ := id hs
  have hTs : s.TypeIs (.ref sl) "slice" := ⟨os, hos, hcs⟩
  unfold PySem.getItem
  try with_reducible refine wpAny_holding ?_
  first | refine wpAny_bind (wpAny_pure ?_) | skip
  refine wpAny_bind (wpAny_sequenceKey ht.typeIs (by decide) ?_)
  refine wpAny_bind (wpAny_callSpecial?_slot (name := Str.ofString "__getitem__") ht.typeIs PyProof.Rows.slot_tuple_getitem
    (wpAny_call_entry PyProof.Rows.slot_tuple_getitem ht.typeIs entry_tuple_getitem ?_ (args_tuple_getitem _ _)))
  show wpAny _ _ (Builtin.Tuple.tupleItemsOf (.ref t) >>= _) _ _ s
  refine wpAny_bind (tupleItemsOf_ ht ?_)
  refine wpAny_bind (wpAny_typeOf hTs ?_)
  rw [if_pos (by decide)]
  refine wpAny_bind (slice_rev hs pl pu ps ?_)
  have hno : ¬ ((((items.size : Int) - 1 == 0) && ((-1 : Int) == 1) && (items.size == items.size)) = true) := by
    intro q
    rw [Bool.and_eq_true, Bool.and_eq_true] at q
    exact absurd q.1.2 (by decide)
  show wpAny _ _ (if (((items.size : Int) - 1 == 0) && ((-1 : Int) == 1) && (items.size == items.size)) = true then _ else _) _ _ s
  rw [if_neg hno, pick_rev]
  first
    | exact wpAny_bind (m := Builtin.Tuple.tupleExact _) (wpAny_newObj_type (wpAny_pure ⟨_, rfl, wpAny_pure h⟩) htake)
    | exact wpAny_bind (m := Builtin.Tuple.tupleExact _) (wpAny_newObj_type (wpAny_bind (wpAny_pure (wpAny_pure ⟨_, rfl, wpAny_pure h⟩))) htake)
    | exact wpAny_bind (wpAny_bind (m := Builtin.Tuple.tupleExact _) (wpAny_newObj_type (wpAny_pure (wpAny_pure ⟨_, rfl, wpAny_pure h⟩)) htake))
    | exact wpAny_bind (wpAny_bind (m := Builtin.Tuple.tupleExact _) (wpAny_newObj_type (wpAny_pure ⟨_, rfl, wpAny_pure h⟩) htake))
end
section
variable {X : Cx} {cl : List (Addr × Option Str)} {bs : List Nat} {W : WX} {C : Cl}
def tRevA (K : PySem.W.Frag) (te : TE) : TE := fun σ H Q => te σ H fun x H1 => ∃ a xs, x = .ref a ∧ ((SqL K H1 a xs ∧ ∀ p, H1 p = none → Q (.ref p) (upd H1 p (.lst xs.reverse))) ∨ (SqT K H1 a xs ∧ ∀ p, H1 p = none → Q (.ref p) (upd H1 p (.tup xs.reverse))))
theorem pe_revA {e : Expr} {te : TE} {k : Nat} {p1 p2 p3 pos : Pos} (he : PE X e te) : PE X (.Subscript e (.Slice none none (some (.UnaryOp .USub (.Constant (.int 1) k p1) p2)) p3) pos) (tRevA X.K te) := by
  refine ⟨fun pins s σ H Q I h => ?_⟩
  refine Subscript_ (thn (he.run pins s σ H _ I h) fun v s1 ⟨x, H1, I1, r1, q1⟩ => ?_)
  obtain ⟨a, xs, ex, q⟩ := q1
  subst ex
  cases r1
  have hst : PO X (some (.UnaryOp .USub (.Constant (.int 1) k p1) p2)) (tPart (tUn (rU fun i => .int (-i)) (tC (.int 1)))) := po_some (L2.pe_un un_neg pe_int)
  refine wpAny_Slice (thn (po_none.run pins s1 σ H1 (fun o H2 => o = none ∧ H2 = H1) I1 ⟨rfl, rfl⟩) fun vl s2 ⟨l, H2, I2, pl, el, e2⟩ => ?_)
  subst el e2
  refine thn (po_none.run pins s2 σ H2 (fun o H3 => o = none ∧ H3 = H2) I2 ⟨rfl, rfl⟩) fun vu s3 ⟨u, H3, I3, pu, eu, e3⟩ => ?_
  subst eu e3
  refine thn (hst.run pins s3 σ H3 (fun o H4 => o = some (-1) ∧ H4 = H3) I3 ⟨1, rfl, -1, rfl, rfl, rfl⟩) fun vs s4 ⟨o, H4, I4, ps, eo, e4⟩ => ?_
  subst eo e4
  have I5 : Inv X pins σ H4 { s4 with heap := s4.heap.push { cls := .type "slice", data := .fields #[vl, vu, vs] } } := I4.kept (t' := s4.toks) fun b ob q => Heap.get?_push_of_some _ q
  show wpAny (model X.prog X.w) X.A (subscriptTail e (.Slice none none (some (.UnaryOp .USub (.Constant (.int 1) k p1) p2)) p3) (.ref a) (.ref s4.heap.objs.size)) (EP X pins σ Q) X.xe { s4 with heap := s4.heap.push { cls := .type "slice", data := .fields #[vl, vu, vs] } }
  rcases q with ⟨hx, q⟩ | ⟨hx, q⟩
  · obtain ⟨its, r, ht, hz⟩ := I5.list hx
    have hlen := r.length
    refine tail_any (ops := [.ref a, .ref s4.heap.objs.size]) ht.isList.typeIs (PySem.slot_list_getitem.lookup) ?_ (by with_unfolding_all rfl)
    refine wpAny_getItem_list_slice ht.isList (Heap.IsSliceOf.new _ vl vu vs) pl pu ps (by decide) ?_ (by rw [List.size_toArray]; omega)
    rw [PySem.W.krv_pick]
    refine ⟨.ref _, _, I5.laid (t' := s4.toks) (o := .lst xs.reverse) (fun b ob q => Heap.get?_push_of_some _ q) (Nat.le_refl _) ?_, rfl, q _ (I5.hok.fresh (Nat.le_refl _))⟩
    exact ⟨by rw [List.length_reverse]; exact hz, _, 0, r.reverse, Heap.get?_push_size _ rfl⟩
  · obtain ⟨its, r, ht, hz⟩ := I5.tuple hx
    have hlen := r.length
    refine tail_any (ops := [.ref a, .ref s4.heap.objs.size]) ht.typeIs (PyProof.Rows.slot_tuple_getitem.lookup) ?_ (by with_unfolding_all rfl)
    refine tup_rev ht (Heap.IsSliceOf.new _ vl vu vs) pl pu ps ?_ (by rw [List.size_toArray]; omega)
    refine ⟨.ref _, _, I5.laid (t' := s4.toks) (o := .tup xs.reverse) (fun b ob q => Heap.get?_push_of_some _ q) (Nat.le_refl _) ?_, rfl, q _ (I5.hok.fresh (Nat.le_refl _))⟩
    exact ⟨by rw [List.length_reverse]; exact hz, _, r.reverse, IsTup.new _ _⟩
theorem e_rev {al : Bool} {a : E} {pa : Expr} {k : Nat} {p1 p2 p3 pos : Pos} (ha : sE cl bs W C X pa a) : sE cl bs W C X (.Subscript pa (.Slice none none (some (.UnaryOp .USub (.Constant (.int 1) k p1) p2)) p3) pos) (.op (.rev al) [a]) :=
  se_fin (c := cOp C bs (.rev al) [a]) ((pe_revA ha.v).imp fun σ H Q q => by
    obtain ⟨g, st, env, a, er, p⟩ := args1 (args_op q)
    refine ⟨g, st, env, a, er, p.mono fun v H h => ?_⟩
    obtain ⟨g, st, ds, W, a, r, p⟩ := h
    obtain ⟨d, v', rfl, e, rd, p⟩ := on1 p r
    cases e
    have p : PostD cl bs g H st (opRev al st d) Q W := p
    unfold opRev at p
    split at p
    · obtain ⟨b, vs, rfl, h1, d1⟩ := dp_tup rd
      refine ⟨b, vs, rfl, .inr ⟨sqt_k (sqt_mono a.ok.sub h1), fun l hl => ?_⟩⟩
      exact newT_post p a (dpl_rev d1) l hl
    · cases h1 : listItems st d with
      | none => rw [h1] at p; exact p.elim
      | some ys =>
        rw [h1] at p
        obtain ⟨b, vs, rfl, hs, hr⟩ := a.ok.list h1 rd
        exact ⟨b, vs, rfl, .inl ⟨sql_k hs, (mkL_post p a hr.reverse).2⟩⟩) (fun _ => rfl)
where dpl_rev : ∀ {G : Hp} {vs : List V} {ds : List PyData}, DpAll N0 G vs ds → DpAll N0 G vs.reverse ds.reverse
  | _, _, [], .nil => .nil
  | _, _, d :: ds, .cons a b => by
    rw [List.reverse_cons, List.reverse_cons]
    exact dpl_app (dpl_rev b) (.cons a .nil)
end
/-! ### max(x, key=len) -/
section
variable {X : Cx} {cl : List (Addr × Option Str)} {bs : List Nat} {W : WX} {C : Cl}
def btN (N : List Nat) (i j : Nat) : Bool := Nat.blt (N.getD j 0) (N.getD i 0)
theorem longest_ok (L : List D) (N : List Nat) (hl : L.length = N.length) : ∀ (k j : Nat), L.length - (j + 1) = k → j + 1 ≤ L.length → ∀ d, L[argBest (btN N) j]? = some d → L[argBest (btN N) (L.length - 1)]? = some (longest d (N.getD (argBest (btN N) j) 0) (L.drop (j + 1)) (N.drop (j + 1)))
  | 0, j, hk, hj, d, hd => by
    have e : j = L.length - 1 := by omega
    rw [List.drop_eq_nil_of_le (by omega)]
    rw [← e]
    exact hd
  | k + 1, j, hk, hj, d, hd => by
    have h1 : j + 1 < L.length := by omega
    have h2 : j + 1 < N.length := by omega
    rw [List.drop_eq_getElem_cons h1, List.drop_eq_getElem_cons h2]
    have en : N.getD (j + 1) 0 = N[j + 1] := by rw [List.getD_eq_getElem?_getD, List.getElem?_eq_getElem h2]; rfl
    have eb : btN N (j + 1) (argBest (btN N) j) = Nat.blt (N.getD (argBest (btN N) j) 0) N[j + 1] := by unfold btN; rw [en]
    have ih := longest_ok L N hl k (j + 1) (by omega) (by omega)
    have ea : argBest (btN N) (j + 1) = if btN N (j + 1) (argBest (btN N) j) = true then j + 1 else argBest (btN N) j := rfl
    show L[argBest (btN N) (L.length - 1)]? = some (match Nat.blt (N.getD (argBest (btN N) j) 0) N[j + 1] with
      | true => longest L[j + 1] N[j + 1] (L.drop (j + 1 + 1)) (N.drop (j + 1 + 1))
      | false => longest d (N.getD (argBest (btN N) j) 0) (L.drop (j + 1 + 1)) (N.drop (j + 1 + 1)))
    rw [← eb]
    cases q : btN N (j + 1) (argBest (btN N) j) with
    | true =>
      rw [q, if_pos rfl] at ea
      rw [ea] at ih
      rw [en] at ih
      exact ih _ (List.getElem?_eq_getElem h1)
    | false =>
      rw [q, if_neg Bool.false_ne_true] at ea
      rw [ea] at ih
      exact ih d hd
theorem lens_ok {g : Gh} {H : Hp} {st : Sto} (a : At N0 bs g H st) : ∀ {ds : List D} {ns : List Nat} {vs : List V}, lens st ds = some ns → RepDs N0 g ds vs → ds.length = ns.length ∧ ∀ (i n : Nat), ns[i]? = some n → ∃ (b : Addr) (ys : List V), vs[i]? = some (V.ref b) ∧ (SqL N0 H b ys ∨ SqT N0 H b ys) ∧ ys.length = n
  | [], ns, vs, h, r => by
    cases h
    exact ⟨rfl, fun i n h => by cases h⟩
  | d :: ds, ns, vs, h, r => by
    have h : (match items st d, lens st ds with | some xs, some ns => some (xs.length :: ns) | _, _ => none) = some ns := h
    cases h1 : items st d with
    | none => rw [h1] at h; cases h
    | some xs =>
      cases h2 : lens st ds with
      | none => rw [h1, h2] at h; cases h
      | some ms =>
        rw [h1, h2] at h
        cases h
        cases r with
        | cons r1 r2 =>
          obtain ⟨k1, k2⟩ := lens_ok a h2 r2
          obtain ⟨b, ys, rfl, hs, hr⟩ := a.ok.items h1 r1
          refine ⟨by rw [List.length_cons, List.length_cons, k1], fun i n h => ?_⟩
          cases i with
          | zero => cases h; exact ⟨b, ys, rfl, hs, hr.len.symm⟩
          | succ i => exact k2 i n h
theorem call_maxLen {pins : List (Addr × Obj)} {σ : L2.St} {H : Hp} {s : Shared} {Q : VK} (hc : X.calm = true) (I : Inv X pins σ H s) {b : Addr} {vs : List V} {L : List D} {N : List Nat} {g : Gh} {d : D} (hS : SqL N0 H b vs) (rL : RepDs N0 g L vs) (hl : L.length = N.length)
    (hN : ∀ (i n : Nat), N[i]? = some n → ∃ (a : Addr) (ys : List V), vs[i]? = some (V.ref a) ∧ (SqL N0 H a ys ∨ SqT N0 H a ys) ∧ ys.length = n) (h0 : 0 < L.length) (hd : L[argBest (btN N) (L.length - 1)]? = some d) (hQ : ∀ v, RepD N0 g d v → Q v H) :
    wpAny (model X.prog X.w) X.A (call (.builtin "max") [.ref b] [(Str.ofString "key", .builtin "len")]) (EP X pins σ Q) X.xe s := by
  obtain ⟨its, rv, pl, hz⟩ := I.list (sql_k hS)
  have hlen := rv.length
  have hLv := rL.len
  have line := line63
  have big : b < s.heap.objs.size := by obtain ⟨_, e, _⟩ := pl.isList; exact Heap.lt_size e
  generalize hI : s.heap.objs.size = It at *
  -- the items' lengths
  have items_ : ∀ (i : Nat) (v : Value), its[i]? = some v → ∃ (a : Addr) (n : Nat), v = Value.ref a ∧ N[i]? = some n ∧ ((∃ zs : Array Value, s.heap.IsList a zs ∧ zs.size = n ∧ (n : Int) < 2 ^ 63) ∨ ∃ zs : Array Value, IsTup s.heap a zs ∧ zs.size = n ∧ (n : Int) < 2 ^ 63) := fun i v hv => by
    have hi : i < its.length := (List.getElem?_eq_some_iff.mp hv).1
    have hn : i < N.length := by omega
    obtain ⟨a, ys, e1, e2, e3⟩ := hN i N[i] (List.getElem?_eq_getElem hn)
    obtain ⟨u, hu, ru⟩ := rv.get e1
    rw [hv] at hu; cases hu
    cases ru
    refine ⟨a, N[i], rfl, List.getElem?_eq_getElem hn, ?_⟩
    rcases e2 with e2 | e2
    · obtain ⟨zs, r', p', hz'⟩ := I.list (sql_k e2)
      have hl' := r'.length
      exact .inl ⟨zs.toArray, p'.isList, by rw [List.size_toArray]; omega, by omega⟩
    · obtain ⟨zs, r', p', hz'⟩ := I.tuple (sqt_k e2)
      have hl' := r'.length
      exact .inr ⟨zs.toArray, p', by rw [List.size_toArray]; omega, by omega⟩
  refine call_max_walkKB (wpAny_pyIter_list pl.isList ?_)
  rw [hI]
  refine ⟨It, [It, b], [It], fun x y => y = x, its.length, fun i v => its.toArray[i]? = some v, fun i s => s.heap.IsListIter It b i ∧ s.heap.IsList b its.toArray, fun s' => (∀ c o, s.heap.get? c = some o → s'.heap.get? c = some o) ∧ s'.gens = s.gens ∧ s'.drawn = s.drawn ∧ s'.os = s.os,
    fun i k _ => ∃ t, k = .int (N.getD i 0 : Nat) t, btN N, rfl, (show WalksS X.prog X.w X.A.in1 It [It, b] [It] _ its.length _ _ from by
      have := (Walks.list (prog := X.prog) (w := X.w) (A := X.A.in1) (I.ok.hd hc) It b (Nat.ne_of_lt big) its.toArray).toS
      rw [List.size_toArray] at this
      exact this), ⟨⟨_, by rw [← hI]; exact Heap.get?_push_size _ rfl, rfl, rfl⟩, pl.isList.push _⟩, fun c hc' => ?_, by omega, ?_, ⟨fun c o e => Heap.get?_push_of_some _ e, rfl, rfl, rfl⟩, fun v s' hv hJ => ?_⟩
  · show c < (s.heap.push _).objs.size
    rw [Heap.size_push, hI]
    rcases List.mem_cons.mp hc' with rfl | hc'
    · exact Nat.lt_succ_self _
    · rcases List.mem_cons.mp hc' with rfl | hc'
      · exact Nat.lt_succ_of_lt big
      · cases hc'
  · refine ⟨fun u u' hJ m => ?_, fun i k u u' hV m => hV, fun i v u o Q' E' hi hv hJ hst hSo k => ?_, fun i j ki kj u Q' E' hJ h1 h2 q => ?_⟩
    · obtain ⟨j1, j2, j3, j4⟩ := hJ
      refine ⟨fun c o e => m.heap c o (fun hm => ?_) (j1 c o e), m.gens.trans j2, m.drawn.trans j3, m.os.trans j4⟩
      have hlt := Heap.lt_size e
      rw [hI] at hlt
      rcases List.mem_cons.mp hm with rfl | hm
      · have : (s.heap.push { cls := .type "list_iterator", data := .fields #[.ref b, .int 0 0] }).objs.size = It + 1 := by rw [Heap.size_push, hI]
        rw [this] at hlt
        exact absurd hlt (Nat.not_lt.mpr (Nat.le_succ _))
      · rcases List.mem_cons.mp hm with rfl | hm
        · exact absurd hlt (Nat.lt_irrefl _)
        · cases hm
    · obtain ⟨a, n, rfl, e1, e2⟩ := items_ i v (by simpa using hv)
      have en : N.getD i 0 = n := by rw [List.getD_eq_getElem?_getD, e1]; rfl
      have hst' := (show WalksS X.prog X.w X.A.in1 It [It, b] [It] _ its.length _ _ from by
        have := (Walks.list (prog := X.prog) (w := X.w) (A := X.A.in1) (I.ok.hd hc) It b (Nat.ne_of_lt big) its.toArray).toS
        rw [List.size_toArray] at this
        exact this)
      rcases e2 with ⟨zs, p1, p2, p3⟩ | ⟨zs, p1, p2, p3⟩
      · refine Calls.call_len_list (p1.at fun o e => hJ.1 _ _ e) (by rw [p2]; exact p3) (k _ _ ⟨hJ.1, hJ.2.1, hJ.2.2.1, hJ.2.2.2⟩ ?_ hSo ⟨u.toks + 1, ?_⟩ fun j k' h => h)
        · exact hst
        · rw [en, p2]
      · refine len_tuple (let ⟨o, h1, h2⟩ := p1; ⟨o, hJ.1 _ _ h1, h2⟩) (by rw [p2]; exact p3) (k _ _ ⟨hJ.1, hJ.2.1, hJ.2.2.1, hJ.2.2.2⟩ ?_ hSo ⟨u.toks + 1, ?_⟩ fun j k' h => h)
        · exact hst
        · rw [en, p2]
    · obtain ⟨t, rfl⟩ := h1
      obtain ⟨t', rfl⟩ := h2
      have e : btN N i j = decide (((N.getD i 0 : Nat) : Int) > ((N.getD j 0 : Nat) : Int)) := by
        unfold btN
        by_cases h : N.getD j 0 < N.getD i 0
        · rw [show Nat.blt (N.getD j 0) (N.getD i 0) = true from Nat.ble_eq_true_of_le h, decide_eq_true (by omega)]
        · rw [decide_eq_false (by omega)]
          cases q2 : Nat.blt (N.getD j 0) (N.getD i 0) with
          | false => rfl
          | true => exact absurd (Nat.le_of_ble_eq_true q2) h
      rw [e] at q
      exact richCompare_gives (op := .Gt) (typeIs_int u _ t) (typeIs_int u _ t') PySem.F.slot_int_gt PySem.F.entry_int_gt (PySem.F.args_int_gt_2 _ _) (gives_int_gt _ _ t t') (fun x => nomatch x) q
  · have hv : its[argBest (btN N) (its.length - 1)]? = some v := by simpa using hv
    have eL : L.length = its.length := by omega
    rw [← eL] at hv
    obtain ⟨x, hx, rx⟩ := rL.get hd
    obtain ⟨u, hu, ru⟩ := rv.get hx
    rw [hv] at hu; cases hu
    obtain ⟨j1, j2, j3, j4⟩ := hJ
    refine ⟨x, H, ?_, ru, hQ x rx⟩
    have I' : Inv X pins σ H { s with heap := s'.heap, toks := s'.toks } := I.kept j1
    have es : ({ s with heap := s'.heap, toks := s'.toks } : Shared) = s' := by
      cases s'
      simp only at j2 j3 j4
      subst j2 j3 j4
      rfl
    rw [es] at I'
    exact I'
theorem e_maxLen (hc : X.calm = true) {a : E} {pa : Expr} {p p2 p3 pos : Pos} (hg : Gl X "max") (hm : X.mg "max" = none) (hg2 : Gl X "len") (hm2 : X.mg "len" = none) (ha : sE cl bs W C X pa a) (hs : noStar pa = true) :
    sE cl bs W C X (.Call (.Name "max" p) [pa] [⟨some "key", .Name "len" p2, p3⟩] pos) (.op .maxLen [a]) := by
  refine se_fin (c := cOp C bs .maxLen [a]) ⟨fun pins s σ H Q I q => ?_⟩ (fun _ => rfl)
  have q := args1 (args_op q)
  refine wpAny_Call_Name_kw (ld_blt I hg hm PyProof.Rows.boot_max ?_ (by decide) (by decide))
  have hA : PA X [pa] (rdA cl bs W (fun env st => evs C bs env [a] st)) := pa_cons' ha.v pa_nil' hs
  obtain ⟨g0, st0, env0, a0, er0, p0⟩ := q
  have qa : rdA cl bs W (fun env st => evs C bs env [a] st) σ H (fun vs H1 => rO cl bs (opS .maxLen) vs H1 Q) := by
    refine ⟨g0, st0, env0, a0, er0, ?_⟩
    have p0 : PostD cl bs g0 H st0 (ev C bs env0 a false st0) (fun x H1 => rO cl bs (opS .maxLen) [x] H1 Q) (fun a b H' => W a b σ H') := p0
    show PostL cl bs g0 H st0 ((ev C bs env0 a false st0).bind fun d st1 => .ok [d] st1) _ _
    cases e : ev C bs env0 a false st0 with
    | ok d st1 =>
      rw [e] at p0
      intro vs g' H' a' s' r
      obtain ⟨v, rfl, rv⟩ := reps1 r
      exact p0 v g' H' a' s' rv
    | exn c x st1 => rw [e] at p0; exact p0
    | stuck => rw [e] at p0; exact p0
  refine PyProof.Rows.callWith_kw (thn (hA.run pos pins s σ H _ I qa) fun us s1 ⟨vs, H1, I1, r1, q1⟩ => ?_) (by rw [star_cons hs]; rfl) (by rw [star_cons hs]; rfl) rfl rfl
  show wpAny _ _ (evalAll [(do let v ← eval (.Name "len" p2) X.env; standAt pos; pure v)]) _ _ s1
  refine wpAny_evalAll_cons (wpAny_bind (ld_blt I1 hg2 hm2 boot_len (wpAny_bind (wpAny_standAt (wpAny_pure (wpAny_evalAll_nil ?_)))) (by decide) (by decide)))
  show wpAny _ _ (call (.builtin "max") us [(Str.ofString "key", .builtin "len")]) _ _ s1
  obtain ⟨g, st, ds, W', a', rr, p⟩ := q1
  obtain ⟨d, v, rfl, rfl, rd, p⟩ := on1 (f := fun d => match listItems st d with
      | some (x :: r) => match lens st (x :: r) with
        | some (n :: s) => .ok (longest x n r s) st
        | _ => .stuck
      | _ => .stuck) p rr
  cases h1 : listItems st d with
  | none => rw [h1] at p; exact p.elim
  | some ys => cases ys with
    | nil => rw [h1] at p; exact p.elim
    | cons y ys =>
      rw [h1] at p
      dsimp only at p
      cases h2 : lens st (y :: ys) with
      | none => rw [h2] at p; exact p.elim
      | some ns => cases ns with
        | nil => rw [h2] at p; exact p.elim
        | cons n ns =>
          rw [h2] at p
          obtain ⟨b, ws, rfl, hs', hr⟩ := a'.ok.list h1 rd
          obtain ⟨u, rfl, ru⟩ := vals1 r1
          cases (show u = Value.ref b from ru)
          obtain ⟨k1, k2⟩ := lens_ok a' h2 hr
          have best := longest_ok (y :: ys) (n :: ns) k1 _ 0 rfl (by rw [List.length_cons]; omega) y rfl
          exact call_maxLen hc I1 hs' hr k1 k2 (by rw [List.length_cons]; omega) best fun v rv => Post.fin p a' rv
end
section
variable {X : Cx} {cl : List (Addr × Option Str)} {bs : List Nat} {W : WX} {C : Cl}
theorem e_sortK {al : Bool} (hc : X.calm = true) (hu : X.A.units + 64 < cLine) (hg : Gl X "sorted") (hm : X.mg "sorted" = none) {es : List E} {pe : Expr} {pes : List Expr} {p pos : Pos} (ha : PA X (pe :: pes) (rdA cl bs W (fun env st => evs C bs env es st))) (hs : noStars (pe :: pes) = true) :
    sE cl bs W C X (.Call (.Name "sorted" p) (pe :: pes) [] pos) (.op (.sortK al) es) := by
  obtain ⟨s1, s2⟩ := Bool.and_eq_true_iff.mp hs
  exact se_fin (c := cOp C bs (.sortK al) es) ((pe_callB (s_sortK hc hu) hg hm PyProof.Rows.boot_sorted ha (by decide) (by decide) (star_cons s1 pes X.env) (stars_any s2)).imp fun σ H Q q => args_op q) (fun _ => rfl)
end
end Ev

/-! EvC: dict comprehensions, whatever their keys: the store of an entry is told by a reading of its own. -/
namespace Ev
variable [FnTab]
open PySem PySem.Spec PyProof.Rows L2

/-- how an entry is stored at D: y: z, then Nx -/
abbrev TSt := Addr → V → V → Hp → (Hp → Prop) → Prop
def StoresBy (X : Cx) (t : TSt) : Prop := ∀ (pins : List (Addr × Obj)) (σ : L2.St) (H : Hp) (s : Shared) (D : Addr) (y z : V) (u r : Value) (Nx : Hp → Prop) (Q : Unit → Shared → Prop) (E : Value → Shared → Prop),
  Inv X pins σ H s → RelV y u → RelV z r → t D y z H Nx → (∀ H' s', Inv X pins σ H' s' → Nx H' → Q () s') → wpAny (model X.prog X.w) X.A (dictSet D u r) Q E s
/-- a turn of the comprehension from the item x on -/
def DcTurn (g : TG) (tt : TT) (tk tv : TE) (t : TSt) (vs : List Nat) (σ : L2.St) (D : Addr) (Nx : Hp → Prop) (x : V) (H : Hp) : Prop :=
  g x (wipe σ vs) H fun σ2 H2 => wipe σ2 vs = wipe σ vs ∧ tt σ2 H2 fun b H3 => match b with
    | true => tk σ2 H3 fun y H4 => tv σ2 H4 fun z H5 => t D y z H5 Nx
    | false => Nx H3
def tDcA (wi : TI) (g : TG) (tt : TT) (tk tv : TE) (t : TSt) (vs : List Nat) : TE := fun σ H Q => wi σ H fun J H1 => ∀ D, H1 D = none → ∃ Wp : Nat → Nat → Hp → Prop, (∃ m, Wp 0 m (upd H1 D (.dK []))) ∧ ∀ i m H, Wp i m H →
  (J.stop i H ∧ Q (.ref D) H) ∨ (J.go i H ∧ ∃ Nx : Hp → Prop, (∀ H', Nx H' → ∃ m', m' < m ∧ Wp (i + 1) m' H') ∧ ∀ x H', J.yld i H x H' → DcTurn g tt tk tv t vs σ D Nx x H')
section
variable {X : Cx} {kx vx tg iter : Expr} {ifs : List Expr} {g : TG} {tt : TT} {tk tv : TE} {t : TSt} {vs : List Nat} {σ : L2.St} {D : Addr}
/-- what holds between two turns, in the block's context B -/
structure Btw (B : Cx) (vs : List Nat) (σ : L2.St) (fp : List Addr) (tn : Nat → Heap → Prop) (Wp : Nat → Nat → Hp → Prop) (m : Nat) (s : Shared) (i : Nat) (H : Hp) : Prop where
  inv : Inv B [] (wipe σ vs) H s
  it : tn i s.heap
  off : ∀ b ∈ fp, H b = none
  w : Wp i m H
theorem btw_of {B : Cx} {fp : List Addr} {it : Addr} {J : It} {tn : Nat → Heap → Prop} {Wp : Nat → Nat → Hp → Prop} {P : Program} {w : World} {K : PySem.W.Frag} (T : Turn P w K tg J fp it tn) {i m : Nat} {σ2 : L2.St} {h0 : Heap} {s : Shared} {H : Hp} (I : Inv B ([] ++ pinsAt fp h0) σ2 H s) (h : wipe σ2 vs = wipe σ vs)
    (st : tn (i + 1) h0) (hw : Wp (i + 1) m H) : Btw B vs σ fp tn Wp m s (i + 1) H := by
  have held : ∀ b ∈ fp, ∀ o, h0.get? b = some o → s.heap.get? b = some o ∧ H b = none := fun b hb o e => by
    obtain ⟨e1, e2, _⟩ := I.pin (b, o) (List.mem_append_right _ (List.mem_append_right _ (mem_pinsAt hb e)))
    exact ⟨e1, e2⟩
  refine ⟨(I.unpinned (pins := [])).weak (by rw [← h, wipe_length]) (fun j v e => ?_), T.keep _ _ _ st fun b hb o e => (held b hb o e).1, fun b hb => ?_, hw⟩
  · rw [← h] at e
    exact (wipe_some e).1
  · obtain ⟨o, e, _⟩ := T.obj _ _ st b hb
    exact (held b hb o e).2
/-- one turn, from the item on -/
theorem dc_turn {B : Cx} {fp : List Addr} {it : Addr} {J : It} {tn : Nat → Heap → Prop} {Wp : Nat → Nat → Hp → Prop} {P : Program} {w : World} {K : PySem.W.Frag} {n i : Nat} {Nx : Hp → Prop} (T : Turn P w K tg J fp it tn) (hnx : ∀ H', Nx H' → ∃ m', m' < n ∧ Wp (i + 1) m' H')
    (bg : PG B tg g) (bt : PTs B ifs tt) (bk : PE B kx tk) (bv : PE B vx tv) (bs : StoresBy B t) {h0 : Heap} {s : Shared} {H : Hp} {x : V} {u : Value} {E : Value → Shared → Prop} (hE : ∀ e s', B.xe e s' → E e s') (I : Inv B ([] ++ pinsAt fp h0) (wipe σ vs) H s) (rx : RelV x u) (st : tn (i + 1) h0) (q : DcTurn g tt tk tv t vs σ D Nx x H) :
    wpAny (model B.prog B.w) B.A (assign tg B.env u) (fun _ s2 => wpAny (model B.prog B.w) B.A (forIn ifs true fun c r => if r = true then do let ok ← isTrue c B.env (eval c B.env); pure (ForInStep.yield ok) else pure (ForInStep.yield r)) (fun ok s3 =>
      if ok = true then wpAny (model B.prog B.w) B.A (eval kx B.env) (fun kv s4 => wpAny (model B.prog B.w) B.A (eval vx B.env) (fun vv s5 =>
        wpAny (model B.prog B.w) B.A (dictSet D kv vv) (fun _ s6 => ∃ m, m < n ∧ ∃ i H, Btw B vs σ fp tn Wp m s6 i H) E s5) E s4) E s3
      else ∃ m, m < n ∧ ∃ i H, Btw B vs σ fp tn Wp m s3 i H) E s2) E s := by
  have ends : ∀ {s' : Shared} {H' : Hp} {σ2 : L2.St}, Inv B ([] ++ pinsAt fp h0) σ2 H' s' → wipe σ2 vs = wipe σ vs → Nx H' → ∃ m, m < n ∧ ∃ i H, Btw B vs σ fp tn Wp m s' i H := fun {s' H' σ2} I' e nx => by
    obtain ⟨m, hm, hw⟩ := hnx H' nx
    exact ⟨m, hm, _, _, btw_of T I' e st hw⟩
  refine wpAny_mono (bg.run _ s _ H x u _ I rx q) (fun _ s2 ⟨σ2, H2, I2, hw2, q2⟩ => ?_) hE
  refine wpAny_mono (bt.run _ s2 σ2 H2 _ I2 q2) (fun b s3 ⟨H3, I3, q3⟩ => ?_) hE
  cases b with
  | false =>
    rw [if_neg Bool.false_ne_true]
    exact ends I3 hw2 q3
  | true =>
    rw [if_pos rfl]
    refine wpAny_mono (bk.run _ s3 σ2 H3 _ I3 q3) (fun kv s4 ⟨y, H4, I4, r4, q4⟩ => ?_) hE
    refine wpAny_mono (bv.run _ s4 σ2 H4 _ I4 q4) (fun vv s5 ⟨z, H5, I5, r5, q5⟩ => ?_) hE
    exact bs _ _ _ _ _ _ _ _ _ _ _ _ I5 r4 r5 q5 fun H6 s6 I6 nx => ends I6 hw2 nx
theorem pe_dcA {scope : Scope} {own : List (Str × Nat)} {pos : Pos} {wi : TI} (hc : X.calm = true) (hN : X.N.Nodup) (hi : PI X tg iter wi) (ok : BlkOk X.N X.env.scope scope own)
    (hg : ∀ (s : Shared) (H : Hp) (D : Addr) (c : List (Str × Addr)) (fp : List Addr), PG (X.blk s H scope (compEnvC scope c D X.env) fp) tg g)
    (ht : ∀ (s : Shared) (H : Hp) (D : Addr) (c : List (Str × Addr)) (fp : List Addr), PTs (X.blk s H scope (compEnvC scope c D X.env) fp) ifs tt)
    (hk : ∀ (s : Shared) (H : Hp) (D : Addr) (c : List (Str × Addr)) (fp : List Addr), PE (X.blk s H scope (compEnvC scope c D X.env) fp) kx tk)
    (hv : ∀ (s : Shared) (H : Hp) (D : Addr) (c : List (Str × Addr)) (fp : List Addr), PE (X.blk s H scope (compEnvC scope c D X.env) fp) vx tv)
    (hst : ∀ (s : Shared) (H : Hp) (D : Addr) (c : List (Str × Addr)) (fp : List Addr), StoresBy (X.blk s H scope (compEnvC scope c D X.env) fp) t)
    (hs : ∀ x, foldedSetIterable iter X.env x = pure x) : PE X (.DictComp kx vx [⟨tg, iter, ifs, 0⟩] scope pos) (tDcA wi g tt tk tv t (own.map (·.2))) := by
  refine ⟨fun pins s σ H Q I h => ?_⟩
  rw [arm_eval_DictComp]
  have cells : ∀ y ∈ scope.names, y.2 = .free → ∃ c, X.env.cells.lookup y.1 = some c := fun y hy e => I.ok.has _ (ok.free y hy e)
  refine wpAny_comprehension_free rfl hs (closure_ok cells) ok.kind (fun y hy e => by rw [ok.uniq y hy, e]) (thn (hi.run pins s σ H _ I h) fun v1 s1 h1 => thn h1 fun v2 s2 h2 => ?_)
  obtain ⟨it, fp, tn, J, H2, rfl, I2, T, st2, off2, q⟩ := h2
  -- the dict is laid, the block's cells behind it
  refine wpAny_newObj_type (newEnv_comp ?_)
  have fresh : H2 s2.heap.objs.size = none := I2.hok.fresh (Nat.le_refl _)
  obtain ⟨Wp, ⟨m0, w0⟩, turn⟩ := q _ fresh
  have I3 : Inv X pins σ (upd H2 s2.heap.objs.size (.dK [])) { s2 with heap := s2.heap.push { cls := .type "dict", data := .dict #[] } } :=
    I2.laid (t' := s2.toks) (fun b o e => Heap.get?_push_of_some _ e) (Nat.le_refl _) (dk_empty s2.heap I2.big)
  have below : ∀ b ∈ fp, b < s2.heap.objs.size := fun b hb => by
    obtain ⟨o, e, _⟩ := T.obj _ _ st2 b hb
    exact Heap.lt_size e
  have off3 : ∀ b ∈ fp, FpOk X pins (upd H2 s2.heap.objs.size (.dK [])) b ∧ b < (s2.heap.push { cls := .type "dict", data := .dict #[] }).objs.size := fun b hb => by
    have hb2 := below b hb
    obtain ⟨f1, f2⟩ := off2 b hb
    refine ⟨⟨?_, f2⟩, ?_⟩
    · rw [upd_ne (Nat.ne_of_lt hb2)]; exact f1
    · rw [Heap.size_push]; exact Nat.lt_succ_of_lt hb2
  have I4 := block_start I3 ok hN off3
  generalize hD : s2.heap.objs.size = D at *
  generalize hs3 : ({ s2 with heap := s2.heap.push { cls := .type "dict", data := .dict #[] } } : Shared) = s3 at *
  have e3 : s3.heap = s2.heap.push { cls := .type "dict", data := .dict #[] } := by rw [← hs3]
  rw [← e3] at off3
  show codeAny _ _ (.compStart (.DictComp kx vx [⟨tg, iter, ifs, 0⟩] scope pos) 0 (.ref it) (.ref D) (compEnvC scope (cellsFrom (s3.heap.objs.size + 1) scope.names (cloFrom X.env.cells scope.names [])) s3.heap.objs.size X.env)) (compPost (model X.prog X.w) X.A X.xe none (EP X pins σ Q) (.ref D) s3.heap.objs.size) { s3 with heap := pushCells (s3.heap.push { cls := .type "dict", data := .dict #[] }) scope.names }
  have st4 : tn 0 (pushCells (s3.heap.push { cls := .type "dict", data := .dict #[] }) scope.names) := T.keep _ _ _ st2 fun b _ o e => pushCells_keeps _ _ _ _ (Heap.get?_push_of_some _ (by rw [e3]; exact Heap.get?_push_of_some _ e))
  generalize hce : compEnvC scope (cellsFrom (s3.heap.objs.size + 1) scope.names (cloFrom X.env.cells scope.names [])) s3.heap.objs.size X.env = ce at *
  have eL : ce.locals = s3.heap.objs.size := by rw [← hce]; rfl
  have bg : PG (X.blk s3 (upd H2 D (.dK [])) scope ce fp) tg g := by rw [← hce]; exact hg _ _ _ _ _
  have bt : PTs (X.blk s3 (upd H2 D (.dK [])) scope ce fp) ifs tt := by rw [← hce]; exact ht _ _ _ _ _
  have bk : PE (X.blk s3 (upd H2 D (.dK [])) scope ce fp) kx tk := by rw [← hce]; exact hk _ _ _ _ _
  have bv : PE (X.blk s3 (upd H2 D (.dK [])) scope ce fp) vx tv := by rw [← hce]; exact hv _ _ _ _ _
  have bst : StoresBy (X.blk s3 (upd H2 D (.dK [])) scope ce fp) t := by rw [← hce]; exact hst _ _ _ _ _
  have own0 : ∀ b ∈ fp, (upd H2 D (.dK [])) b = none := fun b hb => (off3 b hb).1.1
  generalize hs4 : ({ s3 with heap := pushCells (s3.heap.push { cls := .type "dict", data := .dict #[] }) scope.names } : Shared) = s4 at *
  have st4' : tn 0 s4.heap := by rw [← hs4]; exact st4
  have fps : ∀ {σ' : L2.St} {H' : Hp} {s' : Shared}, Inv (X.blk s3 (upd H2 D (.dK [])) scope ce fp) [] σ' H' s' → (∀ b ∈ fp, H' b = none) → ∀ b ∈ fp, FpOk (X.blk s3 (upd H2 D (.dK [])) scope ce fp) [] H' b := fun {σ' H' s'} I' no b hb => by
    refine ⟨no b hb, (I'.ok.exf b hb).1, I'.ok.exfs b hb, .inl hb, fun x c e => (I'.ok.exf b hb).2 x c e, fun p hp => ?_⟩
    have hp : p ∈ ([] : List (Addr × Obj)) ++ [] := hp
    simp at hp
  have loop : codeAny (model X.prog X.w) X.A (.compLoop (.DictComp kx vx [⟨tg, iter, ifs, 0⟩] scope pos) 0 (.ref it) (.ref D) ce) (compPost (model X.prog X.w) X.A X.xe none (EP X pins σ Q) (.ref D) s3.heap.objs.size) s4 := by
    refine compLoop_anyD (fun n s' => ∃ i H', Btw (X.blk s3 (upd H2 D (.dK [])) scope ce fp) (own.map (·.2)) σ fp tn Wp n s' i H') ?_ m0 ⟨0, _, I4, st4', own0, w0⟩
    rintro n s5 ⟨i, H5, b5⟩
    rcases turn i n H5 b5.w with ⟨stop, qq⟩ | ⟨go, Nx, hNx, step⟩
    · refine thnF (T.done (X.blk s3 (upd H2 D (.dK [])) scope ce fp) rfl rfl rfl hc i [] s5 _ H5 (fun _ _ => False) b5.inv (fps b5.inv b5.off) b5.it stop) fun r s6 ⟨hr, I6⟩ => ?_
      subst hr
      have I7 : Inv X pins σ H5 s6 := I3.call' (ch := fp) I6.os I6.base I6.hok I6.bare fun b hb => by
        obtain ⟨_, f2, f3, f4, f5, f6⟩ := (off3 b hb).1
        exact ⟨f4, f2, f5, f6⟩
      have noL : H5 s3.heap.objs.size = none := by rw [← eL]; exact I6.free
      obtain ⟨m, hn, _⟩ := I6.loc
      have hn : s6.heap.Ns ce.locals m := hn
      rw [eL] at hn
      obtain ⟨f0, f1, f2, f3, f4, f5⟩ := I3.fpOk (H' := H5) (Nat.le_refl _) noL
      exact ⟨m, hn, fun h'' sb => ⟨.ref D, H5, I7.turned (t' := s6.toks) (fun b o hb e => (sb.2 b hb).trans e) f0 f1 f3 f4 f5, rfl, qq⟩⟩
    · refine thnF (T.item (X.blk s3 (upd H2 D (.dK [])) scope ce fp) rfl rfl rfl hc i [] s5 _ H5 (fun _ _ => False) b5.inv (fps b5.inv b5.off) b5.it go) fun r s6 ⟨u, hr, h6⟩ => ?_
      subst hr
      refine thnF h6 fun _ s7 ⟨x, H7, I7, r7, y7, st7, n7⟩ => ?_
      exact dc_turn T hNx bg bt bk bv bst (fun _ _ z => z.elim) (I7.pinned (fps I7 n7) (T.obj _ _ st7)) r7 st7 (step x H7 y7)
  exact codeAny_compStart_dict loop (T.self X.A 0 _ _ _ st4' loop)
end
/-! ### the reckoner's -/
def rdSt (bs : List Nat) : TSt := fun D y z H Nx => ∃ g st n d k o', At N0 bs g H st ∧ g.mu[n]? = some D ∧ putD bs n (getS st n) k d = some o' ∧ Dp N0 g.G y k ∧ RepD N0 g d z ∧ ∀ H', At N0 bs g H' (st.set n o') → Step g H st g H' (st.set n o') → Nx H'
theorem stores_rd {X : Cx} {bs : List Nat} (hu : X.A.units + 9 < cLine) : StoresBy X (rdSt bs) := by
  intro pins σ H s D y z u r Nx Q E I ru rr h k
  obtain ⟨g, st, n, d, kk, o', a, hb, hp, hy, hd, hn⟩ := h
  exact s_dictSet hu I a hb hp hy hd ru rr fun H' s' I' a' st' => k H' s' I' (hn H' a' st')
def dcTurn (C : Cl) (bs : List Nat) (env : Env) (own : List Nat) (tg : Tg) (ifs : List E) (ke ve : E) (n : Nat) : List D → Sto → R (Option D) := fun x st2 => match asgItem tg x (wipeE env own) with
  | none => .stuck
  | some env' => (evAll C bs env' ifs st2).bind fun t st3 => match t with
    | true => (ev C bs env' ke false st3).bind fun k st4 => (ev C bs env' ve false st4).bind fun v st5 => putC bs n k v st5
    | false => .ok none st3
theorem dc_rd {X : Cx} {cl : List (Addr × Option Str)} {bs : List Nat} {W : WX} {C : Cl} {K : PySem.W.Frag} {own : List Nat} {tg : Tg} {kd : Nat} {src ifs : List E} {ke ve : E} {σ : L2.St} {H : Hp} {Q : VK} (hin : ∀ i ∈ slots tg, i ∈ own)
    (q : rdC cl bs W (fun env st => ev C bs env (.dcmp own tg kd src ifs ke ve) false st) σ H Q) :
    tDcA (rdJ cl bs W C K kd src) (gT K tg) (rdQ cl bs WF (fun env st => evAll C bs env ifs st)) (rdC cl bs WF (fun env st => ev C bs env ke false st)) (rdC cl bs WF (fun env st => ev C bs env ve false st)) (rdSt bs) own σ H Q := by
  obtain ⟨g, st, env, a, er, p⟩ := q
  refine rdJ_of (Rep := RepD N0) (f := fun its st1 => (noExn (lcRun (dcTurn C bs env own tg ifs ke ve st1.length) its (st1 ++ [SO.dct []]))).bind fun _ st6 => R.ok (D.ref st1.length) st6) ⟨g, st, env, a, er, p, fun srcs g1 H1 st1 J a1 er1 p1 fed D hD => ?_⟩
  generalize hn : st1.length = n at *
  obtain ⟨ds, st5, e5, p5⟩ : ∃ ds st5, lcRun (dcTurn C bs env own tg ifs ke ve n) srcs (st1 ++ [.dct []]) = .ok ds st5 ∧ PostD cl bs g1 H1 st1 (.ok (.ref n) st5) Q (fun a b H' => W a b σ H') := by
    cases z : lcRun (dcTurn C bs env own tg ifs ke ve n) srcs (st1 ++ [.dct []]) with
    | ok ds st5 => rw [z] at p1; exact ⟨ds, st5, rfl, p1⟩
    | exn c x st5 => rw [z] at p1; exact p1.elim
    | stuck => rw [z] at p1; exact p1.elim
  obtain ⟨a2, s2, e2⟩ := at_store (so := .dct []) (ho := .dK []) a1 hD rfl ⟨[], rfl, .nil⟩
  rw [hn] at e2
  refine ⟨fun i m H => srcM srcs m i ∧ ∃ g st acc, At N0 bs g H st ∧ Step g1 H1 st1 g H st ∧ g.mu[n]? = some D ∧ lcRest (dcTurn C bs env own tg ifs ke ve n) srcs m i acc st = .ok ds st5, ?_, ?_⟩
  · cases srcs with
    | fix its => exact ⟨its.length, (by show its.length = its.length - 0; omega), _, _, [], a2, s2, e2, e5⟩
    | live en n => exact ⟨TURNS, True.intro, _, _, [], a2, s2, e2, e5⟩
  · rintro i m H2 ⟨hm, g2, st2, acc, a3, s3, e3, l3⟩
    cases lcRest_step l3 hm with
    | done h1 h2 h3 =>
      subst h3
      exact .inl ⟨fed i g2 H2 st2 a3 s3 none h1, Post.fin' (Rep := RepD N0) p5 a3 s3 ⟨D, e3, rfl⟩⟩
    | @row row m' o st3 h1 h2 h3 h4 h5 =>
      obtain ⟨go, yl⟩ := fed i g2 H2 st2 a3 s3 (some row) h1
      refine .inr ⟨go, _, fun H' h => ⟨m', h2, h⟩, fun x H3 y => ?_⟩
      obtain ⟨g4, a4, s4, tgt⟩ := row_ok (K := K) (yl x H3 y) a3
      unfold dcTurn at h4
      cases z : asgItem tg row (wipeE env own) with
      | none => rw [z] at h4; cases h4
      | some env' =>
        rw [z] at h4
        dsimp only at h4
        obtain ⟨t, st4, q1, k1⟩ := bind_ok h4
        refine gT_mono (g := g2) (H := H2) tg x _ H3 _ _ (tgt tg (wipeE env own) env' (wipe σ own) z ((er1.step s3).wipe own)) fun σ2 H4 ⟨eH, er2, only⟩ => ?_
        subst eH
        refine ⟨by rw [only own hin, wipe_wipe], g4, st2, env', a4, er2, ?_⟩
        show Post cl bs RepQ g4 H4 st2 (evAll C bs env' ifs st2) _ _
        rw [q1]
        intro b g5 H5 a5 s5 rb
        cases (show t = b from rb)
        have m5 : g5.mu[n]? = some D := s5.mu _ _ (s4.mu _ _ e3)
        cases t with
        | false =>
          cases k1
          exact ⟨h3, g5, st3, acc, a5, (s3.trans s4).trans s5, m5, h5⟩
        | true =>
          obtain ⟨kk, st6, q2, k2⟩ := bind_ok (show (ev C bs env' ke false st4).bind _ = _ from k1)
          obtain ⟨vv, st7, q3, k3⟩ := bind_ok (show (ev C bs env' ve false st6).bind _ = _ from k2)
          refine ⟨g5, st4, env', a5, er2.step s5, ?_⟩
          show PostD cl bs g5 H5 st4 (ev C bs env' ke false st4) _ _
          rw [q2]
          intro vk g6 H6 a6 s6 r6
          refine ⟨g6, st6, env', a6, (er2.step s5).step s6, ?_⟩
          show PostD cl bs g6 H6 st6 (ev C bs env' ve false st6) _ _
          rw [q3]
          intro vz g7 H7 a7 s7 r7
          have k3 : putC bs n kk vv st7 = .ok o st3 := k3
          unfold putC at k3
          cases kk with
          | ref _ => cases k3
          | p kd' =>
            dsimp only at k3
            cases hp : putD bs n (getS st7 n) kd' vv with
            | none => rw [hp] at k3; cases k3
            | some o' =>
              rw [hp] at k3
              cases k3
              exact ⟨g7, st7, n, vv, kd', o', a7, s7.mu _ _ (s6.mu _ _ m5), hp, s7.dp r6, r7, fun H' a8 s8 => ⟨h3, g7, _, acc, a8, ((((s3.trans s4).trans s5).trans s6).trans s7).trans s8, s7.mu _ _ (s6.mu _ _ m5), h5⟩⟩
theorem e_dc {X : Cx} {cl : List (Addr × Option Str)} {bs : List Nat} {W : WX} {C : Cl} (hc : X.calm = true) (hN : X.N.Nodup) (hu : X.A.units + 9 < cLine) {own : List Nat} {ownX : List (Str × Nat)} {tg : Tg} {kd : Nat} {src ifs : List E} {ke ve : E} {ptg pit pk pv : Expr} {pifs : List Expr} {scope : Scope} {pos : Pos} (hb : BlkOk X.N X.env.scope scope ownX) (ho : ownX.map (·.2) = own) (hin : ∀ i ∈ slots tg, i ∈ own)
    (hi : PI X ptg pit (rdJ cl bs W C X.K kd src)) (hns : ∀ x, foldedSetIterable pit X.env x = pure x)
    (hg : ∀ (s : Shared) (H : Hp) (D : Addr) (c : List (Str × Addr)) (fp : List Addr), PG (X.blk s H scope (compEnvC scope c D X.env) fp) ptg (gT X.K tg))
    (ht : ∀ (s : Shared) (H : Hp) (D : Addr) (c : List (Str × Addr)) (fp : List Addr), PTs (X.blk s H scope (compEnvC scope c D X.env) fp) pifs (rdQ cl bs WF (fun env st => evAll C bs env ifs st)))
    (hk : ∀ (s : Shared) (H : Hp) (D : Addr) (c : List (Str × Addr)) (fp : List Addr), PE (X.blk s H scope (compEnvC scope c D X.env) fp) pk (rdC cl bs WF (fun env st => ev C bs env ke false st)))
    (hv : ∀ (s : Shared) (H : Hp) (D : Addr) (c : List (Str × Addr)) (fp : List Addr), PE (X.blk s H scope (compEnvC scope c D X.env) fp) pv (rdC cl bs WF (fun env st => ev C bs env ve false st))) :
    sE cl bs W C X (.DictComp pk pv [⟨ptg, pit, pifs, 0⟩] scope pos) (.dcmp own tg kd src ifs ke ve) :=
  se_fin (c := fun env st => ev C bs env (.dcmp own tg kd src ifs ke ve) false st) ((pe_dcA hc hN hi hb hg ht hk hv (fun s H D c fp => stores_rd (X := X.blk s H scope (compEnvC scope c D X.env) fp) hu) hns).imp fun σ H Q q => by
    rw [ho]
    exact dc_rd (X := X) hin q) (fun _ => rfl)
end Ev

/-! EvQ: a def as a value; it is called. -/
namespace Ev
variable [FnTab]
open PySem PySem.Spec PyProof.Rows L2
section
variable {K : PySem.W.Frag} {g : Gh} {H : Hp} {st : Sto}
/-- a def is laid in the store -/
theorem at_fnc {bs : List Nat} (o : At K bs g H st) {p : Addr} {f : Nat} (hf : FnTab.fa f = some p) :
    At K bs ⟨g.G, g.mu ++ [p]⟩ H (st ++ [.fnc f]) ∧ Step g H st ⟨g.G, g.mu ++ [p]⟩ H (st ++ [.fnc f]) ∧ (g.mu ++ [p])[st.length]? = some p := by
  have hl := o.ok.len
  have mm : ∀ (n : Nat) (a : Addr), g.mu[n]? = some a → (g.mu ++ [p])[n]? = some a := fun n a h => by
    have := (List.getElem?_eq_some_iff.mp h).1
    rw [List.getElem?_append_left this]; exact h
  have mlast : (g.mu ++ [p])[st.length]? = some p := by rw [← hl, List.getElem?_append_right (Nat.le_refl _)]; simp
  have old : ∀ n, n < st.length → getS (st ++ [.fnc f]) n = getS st n := fun n h => getS_app_lt h
  have cases_ : ∀ n, mutable (getS (st ++ [.fnc f]) n) = true → n < st.length ∧ mutable (getS st n) = true := fun n hn => by
    rcases Nat.lt_trichotomy n st.length with h | h | h
    · rw [old n h] at hn; exact ⟨h, hn⟩
    · subst h; rw [getS_app_eq] at hn; cases hn
    · rw [getS_app_gt h] at hn; cases hn
  have am : ∀ n a, n < st.length → (g.mu ++ [p])[n]? = some a → g.mu[n]? = some a := fun n a h q => by
    rw [List.getElem?_append_left (by omega)] at q; exact q
  refine ⟨⟨⟨by simp [hl], o.ok.sub, fun n hn => ?_, fun n hn => ?_, fun n m a h1 h2 h3 h4 => o.ok.inj n m a (cases_ n h1).2 (cases_ m h2).2 (am n a (cases_ n h1).1 h3) (am m a (cases_ m h2).1 h4)⟩, fun b hb => ?_⟩, ⟨Sub.refl _, mm, fun a u h1 h2 h3 => ⟨h1, h2, fun n hn q => ?_⟩⟩, mlast⟩
  · obtain ⟨h, hn⟩ := cases_ n hn
    obtain ⟨a, ho', h1, h2, h3, h4⟩ := o.ok.muts n hn
    exact ⟨a, ho', mm n a h1, h2, h3, by rw [old n h]; exact MutO.mono (g := g) (g' := ⟨g.G, g.mu ++ [p]⟩) (Sub.refl _) mm h4⟩
  · rcases Nat.lt_trichotomy n st.length with h | h | h
    · rw [old n h] at hn ⊢
      obtain ⟨a, h1, h2⟩ := o.ok.frz n hn
      exact ⟨a, mm n a h1, FrzO.mono (g := g) (g' := ⟨g.G, g.mu ++ [p]⟩) (Sub.refl _) mm h2⟩
    · subst h
      rw [getS_app_eq]
      exact ⟨p, mlast, hf⟩
    · rw [getS_app_gt h] at hn; cases hn
  · obtain ⟨h1, h2⟩ := o.w b hb
    refine ⟨by simp; omega, fun n hn => ?_⟩
    rw [old n (by omega)]
    exact h2 n hn
  · obtain ⟨h, hn⟩ := cases_ n hn
    exact h3 n hn (am n a h q)
end
section
variable {X : Cx} {cl : List (Addr × Option Str)} {bs : List Nat} {W : WX} {C : Cl}
/-- a global name that stands for a def -/
theorem e_fnv {x : Str} {f : Nat} {fa : Addr} {p : Pos} (hg : Gl X x) (hm : X.mg x = some (.ref fa)) (hf : FnTab.fa f = some fa) (hdb : (x == ("__debug__" : Str)) = false) : sE cl bs W C X (.Name x p) (.fnv f) := by
  have h : PE X (.Name x p) (rdC cl bs W (fun env st => R.ok (.ref st.length) (st ++ [.fnc f]))) := ⟨fun pins s σ H Q I q => by
    obtain ⟨g, st, env, a, er, q⟩ := q
    obtain ⟨a1, s1, e1⟩ := at_fnc a hf
    exact ld_glob I hg hm ⟨.ref fa, H, I, rfl, Post.fin' (Rep := RepD N0) q a1 s1 ⟨fa, e1, rfl⟩⟩ hdb⟩
  exact se_fin (c := fun env st => R.ok (.ref st.length) (st ++ [.fnc f])) h (fun _ => rfl)
/-- a call of what an expression gives -/
def CallsBy (X : Cx) (fe : Expr) (pes : List Expr) (pos : Pos) : Prop := ∀ (Q : Value → Shared → Prop) (s : Shared), wpAny (model X.prog X.w) X.A (eval fe X.env) (fun u s1 => wpAny (model X.prog X.w) X.A (callWith pos u [] (backTo pos (starEach pes X.env)) (backToKw pos (keywordEach [] X.env))) Q X.xe s1) X.xe s →
  wpAny (model X.prog X.w) X.A (eval (.Call fe pes [] pos) X.env) Q X.xe s
theorem callsBy_name {x : Str} {p pos : Pos} {pes : List Expr} : CallsBy X (.Name x p) pes pos := fun Q s h => wpAny_Call_Name_kw h
theorem callsBy_sub {a b : Expr} {p pos : Pos} {pes : List Expr} : CallsBy X (.Subscript a b p) pes pos := fun Q s h => Call_ h rfl
def tF (X : Cx) (CX : CXT) (k : Nat) (E : L2.St → XK) (tf : TE) (t : TA) : TE := fun σ H Q => tf σ H fun y H1 => ∃ a fd ps sp, y = V.ref a ∧ PySem.W.keepIn X.K (.ref a) = true ∧ FnOk X.prog X.w X.K X.mg X.base CX k a fd ps sp ∧ Binds X.K fd ps [] ∧ tCallS sp E t σ H1 Q
theorem pe_callF {k : Nat} {CX : CXT} {E : L2.St → XK} {fe pe : Expr} {pes : List Expr} {pos : Pos} {tf : TE} {t : TA} (hr : Room k X.A) (hx : ∀ σ, PassesAt CX X σ (E σ)) (hf : PE X fe tf) (ha : PA X (pe :: pes) t) (ht : CallsBy X fe (pe :: pes) pos)
    (he : starEach (pe :: pes) X.env = (false, eval pe X.env) :: starEach pes X.env) (hpl : (backTo pos (starEach pes X.env)).any (·.1) = false) : PE X (.Call fe (pe :: pes) [] pos) (tF X CX k E tf t) := by
  refine ⟨fun pins s σ H Q I h => ?_⟩
  refine ht _ _ (thn (hf.run pins s σ H _ I h) fun u s1 ⟨y, H1, I1, ry, a, fd, ps, sp, ey, hk, F, hb, q⟩ => ?_)
  subst ey
  obtain rfl : u = Value.ref a := ry
  refine PySem.W.callWith_K (h₀ := X.base) I1.ok.mod.kin hk (thn (ha.run pos pins s1 σ H1 _ I1 q) fun us s2 ⟨vs, H2, I2, r, q⟩ => ⟨I2.kIn, ?_⟩) he hpl
  exact run_fnS F hr hb (hx σ) I2 r q
theorem pe_callF0 {k : Nat} {CX : CXT} {E : L2.St → XK} {fe : Expr} {pos : Pos} {tf : TE} (hr : Room k X.A) (hx : ∀ σ, PassesAt CX X σ (E σ)) (hf : PE X fe tf) (ht : CallsBy X fe [] pos) : PE X (.Call fe [] [] pos) (tF X CX k E tf tNil) := by
  refine ⟨fun pins s σ H Q I h => ?_⟩
  refine ht _ _ (thn (hf.run pins s σ H _ I h) fun u s1 ⟨y, H1, I1, ry, a, fd, ps, sp, ey, hk, F, hb, q⟩ => ?_)
  subst ey
  obtain rfl : u = Value.ref a := ry
  exact PySem.W.callWith_K0 I1.kIn hk (run_fnS (us := []) F hr hb (hx σ) I1 .nil q)
end
end Ev

/-! Ev12: the text of an expression beside the reckoner's: a check, and what it gives. -/
namespace Ev
open PySem PySem.Spec PyProof.Rows L2
/-- what the module's names stand for: plain data, built-in functions -/
class CnTab where
  cn : List (Str × PyData)
  bf : List (Str × String)
  /-- is an own class under ValueError (true) or LookupError (false) -/
  xb : List (Str × Bool × Bool)
variable [FnTab] [CnTab]
structure CnOk (mg : Str → Option Value) : Prop where
  cn : ∀ p ∈ CnTab.cn, ∃ u v, mg p.1 = some u ∧ RelV v u ∧ ∀ G, Dp N0 G v p.2
  bf : ∀ p ∈ CnTab.bf, mg p.1 = some (.builtin p.2)

/-- a way to call by keywords: how many positional values, the keywords' names, which of them stands for each parameter left -/
abbrev Kwp : Type := Nat × List Str × List Nat
/-- a def's global name, the ways it is called by keywords -/
abbrev FnN : Type := Str × List Kwp
def pickV {α : Type} (perm : List Nat) (ws : List α) : List α := perm.filterMap fun i => ws[i]?
def KwOk (K : PySem.W.Frag) (fd : FuncData) (ps : List Str) (q : Kwp) : Prop := ∀ (s : Shared) (us ws : List Value), K.In s.heap → us.length = q.1 → ws.length = q.2.1.length → BindsTo s fd ⟨us, q.2.1.zip ws⟩ (ps.zip (us ++ pickV q.2.2 ws))
structure FtOk (F : List FnN) (mg : Str → Option Value) : Prop where
  to : ∀ (f : Nat) (a : Addr), FnTab.fa f = some a → ∃ x kw, F[f]? = some (x, kw) ∧ mg x = some (.ref a)
  of : ∀ (f : Nat) (x : Str) (kw : List Kwp) (a : Addr), F[f]? = some (x, kw) → mg x = some (.ref a) → FnTab.fa f = some a
/-- what is known of a context -/
structure GX (X : Cx) (cl : List (Addr × Option Str)) (W : WX) (C : Cl) (F : List FnN) (k : Nat) : Prop where
  calm : X.calm = true
  nd : X.N.Nodup
  room : Room k X.A
  tk : Takes X W
  fn : ∀ (f : Nat) (x : Str) (kw : List Kwp), F[f]? = some (x, kw) → ∃ (fa : Addr) (fd : FuncData) (ps : List Str), X.mg x = some (.ref fa) ∧ FnOk X.prog X.w X.K X.mg X.base (L2.CX X.prog X.w) k fa fd ps (spF C cl f) ∧ PySem.W.keepIn X.K (.ref fa) = true ∧ Binds X.K fd ps [] ∧ ∀ q ∈ kw, KwOk X.K fd ps q
  bl : ∀ x ∈ bltNames, X.mg x = none
  cn : CnOk X.mg
  ft : FtOk F X.mg
theorem GX.blk {X : Cx} {cl : List (Addr × Option Str)} {W : WX} {C : Cl} {F : List FnN} {k : Nat} (G : GX X cl W C F k) (s : Shared) (H : Hp) (scope : Scope) (cenv : PySem.Env) (fp : List Addr) : GX (X.blk s H scope cenv fp) cl WF C F k :=
  ⟨G.calm, G.nd, G.room, fun _ _ ⟨_, _, _, _, _, _, _, _, _, _, _, _, _, _, _, _, w⟩ => w.elim, G.fn, G.bl, G.cn, G.ft⟩

/-! ### the checks -/
def visB (sc : Scope) (x : Str) : Bool := match sc.names.lookup x with | some .local => true | some .cell => true | some .free => true | _ => false
def okN (x : Str) : Bool := !(x == ("__debug__" : Str)) && !(x == ("__classdict__" : Str))
def cstC : PyData → Const → Bool
  | .none, .none => true
  | .bool b, .bool c => b == c
  | .int i, .int j => decide (i = j)
  | .str x, .str y => x == y
  | _, _ => false
mutual
/-- plain data and how it is written out -/
def chkC : PyData → Expr → Bool
  | .none, pe => match pe with | .Constant .none _ _ => true | _ => false
  | .bool b, pe => match pe with | .Constant (.bool c) _ _ => b == c | _ => false
  | .int i, pe => match pe with
    | .Constant (.int j) _ _ => decide (i = j)
    | .UnaryOp .USub (.Constant (.int j) _ _) _ => decide (i = -j)
    | _ => false
  | .str x, pe => match pe with | .Constant (.str y) _ _ => x == y | _ => false
  | .list xs, pe => match pe with | .List es _ => decide (xs.length ≤ 1000) && chkCs xs es | _ => false
  | .tuple xs, pe => match pe with | .Tuple es _ _ => decide (xs.length ≤ 1000) && chkCs xs es | _ => false
  | .dict _, _ => false
termination_by structural x => x
def chkCs : List PyData → List Expr → Bool
  | [], pes => match pes with | [] => true | _ :: _ => false
  | x :: xs, pes => match pes with | pe :: pes => noStar pe && (chkC x pe && chkCs xs pes) | [] => false
termination_by structural x => x
end
def isAdd : Operator → Bool | .Add => true | _ => false
def isSubt : Operator → Bool | .Sub => true | _ => false
def isMult : Operator → Bool | .Mult => true | _ => false
def isFdiv : Operator → Bool | .FloorDiv => true | _ => false
def isMod : Operator → Bool | .Mod => true | _ => false
def isPow : Operator → Bool | .Pow => true | _ => false
def isShl : Operator → Bool | .LShift => true | _ => false
def isShr : Operator → Bool | .RShift => true | _ => false
def isBnd : Operator → Bool | .BitAnd => true | _ => false
def isBor : Operator → Bool | .BitOr => true | _ => false
def binC (op : Operator) : Op → Bool
  | .add _ => isAdd op
  | .subt => isSubt op
  | .mul _ => isMult op
  | .fdiv => isFdiv op
  | .mod => isMod op
  | .pow => isPow op
  | .shl => isShl op
  | .shr => isShr op
  | .band => isBnd op
  | .bor => isBor op
  | _ => false
def isEq : CmpOp → Bool | .Eq => true | _ => false
def isNe : CmpOp → Bool | .NotEq => true | _ => false
def isLt : CmpOp → Bool | .Lt => true | _ => false
def isLe : CmpOp → Bool | .LtE => true | _ => false
def isGt : CmpOp → Bool | .Gt => true | _ => false
def isGe : CmpOp → Bool | .GtE => true | _ => false
def isIn' : CmpOp → Bool | .In => true | _ => false
def isNi : CmpOp → Bool | .NotIn => true | _ => false
def cmpC (op : CmpOp) : Op → Bool
  | .eq => isEq op
  | .ne => isNe op
  | .lt => isLt op
  | .le => isLe op
  | .gt => isGt op
  | .ge => isGe op
  | .inn => isIn' op
  | .notIn => isNi op
  | _ => false
def plainIx : Expr → Bool
  | .Slice _ _ _ _ => false
  | _ => true
/-- the parts of a dict's display, one behind another -/
def inter : List (Option Expr) → List Expr → Option (List Expr)
  | [], [] => some []
  | some k :: ks, v :: vs => (inter ks vs).map fun r => k :: v :: r
  | _, _ => none
def opArgs (sc : Scope) (o : Op) : Expr → Option (List Expr)
  | .BinOp a op b _ => match binC op o with | true => some [a, b] | false => none
  | .UnaryOp .USub a _ => match o with | .neg => some [a] | _ => none
  | .Compare a [op] [b] _ => match o with
    | .isN => match op, b with | .Is, .Constant .none _ _ => some [a] | _, _ => none
    | .notN => match op, b with | .IsNot, .Constant .none _ _ => some [a] | _, _ => none
    | o => match cmpC op o && !behindInMarks op b with | true => some [a, b] | false => none
  | .Subscript a b _ => match o with
    | .idx => match plainIx b with | true => some [a, b] | false => none
    | .rev _ => match b with | .Slice none none (some (.UnaryOp .USub (.Constant (.int 1) _ _) _)) _ => some [a] | _ => none
    | _ => none
  | .Tuple es _ _ => match o with | .tup => some es | _ => none
  | .List es _ => match o with | .lst _ => some es | _ => none
  | .Dict ks vs _ => match o with
    | .dic => match ks, vs with
      | [], [] => some []
      | ks, vs => match Nat.ble ks.length 15 with | true => inter ks vs | false => none
    | _ => none
  | .Call (.Name x _) args [] _ => match o with
    | .isi ts => match args with
      | [a, .Name y _] => match ts with
        | [t] => match x == ("isinstance" : Str) && (decide (1 ≤ t) && decide (t ≤ 6)) && (y == tyStr t && (glB sc x && glB sc y)) with | true => some [a] | false => none
        | _ => none
      | [a, .Tuple es _ _] => match x == ("isinstance" : Str) && decide (ts.length ≤ 100) && (tyNames sc ts es && glB sc x) with | true => some [a] | false => none
      | _ => none
    | .sortSet _ => match args with
      | [.Call (.Name y _) [a] [] _] => match (x == ("sorted" : Str) && y == ("set" : Str)) && (glB sc x && glB sc y) with | true => some [a] | false => none
      | _ => none
    | .lenSet => match args with
      | [.Call (.Name y _) [a] [] _] => match (x == ("len" : Str) && y == ("set" : Str)) && (glB sc x && glB sc y) with | true => some [a] | false => none
      | _ => none
    | .gcd => match args with
      | _ :: _ => match (CnTab.bf.any fun p => p.1 == x && decide (p.2 = "math.gcd")) && (glB sc x && !(x == ("__debug__" : Str))) with | true => some args | false => none
      | [] => none
    | .sortK _ => match args with
      | _ :: _ => match x == ("sorted" : Str) && glB sc x with | true => some args | false => none
      | [] => none
    | o => match bltV o with
      | some (y, _) => match args with
        | _ :: _ => match x == y && glB sc x with | true => some args | false => none
        | [] => none
      | none => none
  | .Call (.Name x _) [a] [⟨some y, .Name z _, _⟩] _ => match o with
    | .maxLen => match (x == ("max" : Str) && (y == ("key" : Str) && z == ("len" : Str))) && (glB sc x && glB sc z) with | true => some [a] | false => none
    | _ => none
  | _ => none
def methArgs (m : Mt) : Expr → Option (Expr × List Expr)
  | .Call (.Attribute po x apos) es [] cpos => match isBase po && (apos.endLine == cpos.line) with
    | true => match m, es with
      | .append, [e] => match x == ("append" : Str) with | true => some (po, [e]) | false => none
      | .get1, [e] => match x == ("get" : Str) with | true => some (po, [e]) | false => none
      | .get2, [e, f] => match x == ("get" : Str) with | true => some (po, [e, f]) | false => none
      | .extend, [e] => match x == ("extend" : Str) with | true => some (po, [e]) | false => none
      | .pop, [] => match x == ("pop" : Str) with | true => some (po, []) | false => none
      | .popAt, [e] => match x == ("pop" : Str) with | true => some (po, [e]) | false => none
      | .insert, [e, f] => match x == ("insert" : Str) with | true => some (po, [e, f]) | false => none
      | .remove, [e] => match x == ("remove" : Str) with | true => some (po, [e]) | false => none
      | .setdef, [e, f] => match x == ("setdefault" : Str) with | true => some (po, [e, f]) | false => none
      | _, _ => none
    | false => none
  | _ => none
/-- what is walked: its parts -/
def srcArgs (sc : Scope) (kd : Nat) (tg : Expr) (it : Expr) : Option (List Expr) :=
  match kd with
  | 0 => some [it]
  | 1 => match it with | .Call (.Name x _) [a] [] _ => (match x == ("range" : Str) && glB sc x with | true => some [a] | false => none) | _ => none
  | 2 => match it with | .Call (.Name x _) [a, b] [] _ => (match x == ("range" : Str) && glB sc x with | true => some [a, b] | false => none) | _ => none
  | 3 => match it, tg with | .Call (.Name x _) [a] [] _, .Tuple _ _ _ => (match x == ("enumerate" : Str) && glB sc x with | true => some [a] | false => none) | _, _ => none
  | 4 => match it, tg with | .Call (.Name x _) [a, b] [] _, .Tuple _ _ _ => (match x == ("zip" : Str) && glB sc x with | true => some [a, b] | false => none) | _, _ => none
  | 5 => match it with | .Call (.Name x _) [a] [] _ => (match x == ("reversed" : Str) && glB sc x with | true => some [a] | false => none) | _ => none
  | 6 => match it, tg with
    | .Call (.Name x _) [.Call (.Name y _) [a, b] [] _] [] _, .Tuple _ _ _ => (match (x == ("enumerate" : Str) && y == ("zip" : Str)) && (glB sc x && glB sc y) with | true => some [a, b] | false => none)
    | _, _ => none
  | 7 => match it with | .Call (.Attribute po x apos) [] [] cpos => (match x == ("values" : Str) && (isBase po && (apos.endLine == cpos.line)) with | true => some [po] | false => none) | _ => none
  | 8 => match it, tg with | .Call (.Attribute po x apos) [] [] cpos, .Tuple _ _ _ => (match x == ("items" : Str) && (isBase po && (apos.endLine == cpos.line)) with | true => some [po] | false => none) | _, _ => none
  | _ => none
def noSet : Expr → Bool
  | .Set _ _ _ => false
  | _ => true
def ownN (N : List Str) (own : List Nat) : List (Str × Nat) := own.filterMap fun i => N[i]?.map fun x => (x, i)
def blkB (N : List Str) (sc scope : Scope) (own : List Nat) : Bool := blkC N sc scope (ownN N own) && decide ((ownN N own).map (·.2) = own)
def kwNames : List Keyword → Option (List Str)
  | [] => some []
  | ⟨some x, _, _⟩ :: r => (kwNames r).map (x :: ·)
  | _ :: _ => none
def kwVal : Keyword → Expr
  | ⟨_, e, _⟩ => e
/-- a module's name for plain data -/
def cnEq : PyData → PyData → Bool
  | .int i, .int j => decide (i = j)
  | .str x, .str y => x == y
  | _, _ => false
def cnB (sc : Scope) (d : PyData) : Expr → Bool
  | .Name x _ => (CnTab.cn.any fun p => p.1 == x && cnEq p.2 d) && (glB sc x && okN x)
  | _ => false
mutual
def chkE (F : List FnN) (N : List Str) (sc : Scope) : E → Expr → Bool
  | .var i, pe => match pe with | .Name x _ => decide (N[i]? = some x) && (visB sc x && okN x) | _ => false
  | .cst d, pe => chkC d pe || cnB sc d pe
  | .op o es, pe => match o with
    | .tupS ms => match pe with | .Tuple pes _ _ => chkSp F N sc ms es pes | _ => false
    | .lstS _ ms => match pe with | .List pes _ => chkSp F N sc ms es pes | _ => false
    | o => match opArgs sc o pe with | some pes => chkEs F N sc es pes | none => false
  | .meth m o es, pe => match methArgs m pe with | some (po, pes) => chkE F N sc o po && chkEs F N sc es pes | none => false
  | .slc _ a lo hi, pe => match pe with | .Subscript pa (.Slice plo phi none _) _ => chkE F N sc a pa && (chkP F N sc lo plo && chkP F N sc hi phi) | _ => false
  | .call f es, pe => match pe with | .Call (.Name x _) pes [] _ => (match F[f]? with | some (y, _) => y == x | none => false) && (glB sc x && okN x) && chkEs F N sc es pes | _ => false
  | .callk f es ks ke, pe => match pe with
    | .Call (.Name x _) pes kws _ => match kwNames kws with
      | some names => (match F[f]? with | some (y, kw) => y == x && kw.any (fun q => decide (q = (es.length, names, ks))) | none => false) && (glB sc x && okN x) && (chkEs F N sc es pes && chkEs F N sc ke (kws.map kwVal))
      | none => false
    | _ => false
  | .nvr, _ => true
  | .fnv f, pe => match pe with | .Name x _ => (match F[f]? with | some (y, _) => y == x | none => false) && (glB sc x && okN x) | _ => false
  | .callv a es, pe => match pe with | .Call fe pes [] _ => (match fe with | .Subscript _ _ _ => true | .Name _ _ => true | _ => false) && (chkE F N sc a fe && chkEs F N sc es pes) | _ => false
  | .dcmp own tg kd src ifs ke ve, pe => match pe with
    | .DictComp pk pv [⟨ptg, pit, pifs, 0⟩] scope _ => (blkB N sc scope own && (slots tg).all fun i => own.contains i) && (chkT N (relS scope sc) (fun x => scope.names.lookup x == some .cell) tg ptg && noSet pit) &&
      ((match srcArgs sc kd ptg pit with | some pes => chkEs F N sc src pes | none => false) && (chkI F N (relS scope sc) ifs pifs && (chkE F N (relS scope sc) ke pk && chkE F N (relS scope sc) ve pv)))
    | _ => false
  | .and a b, pe => match pe with
    | .BoolOp .And (pa :: pb :: rest) pos => chkE F N sc a pa && (match rest with | [] => chkE F N sc b pb | _ :: _ => chkE F N sc b (.BoolOp .And (pb :: rest) pos))
    | _ => false
  | .or a b, pe => match pe with
    | .BoolOp .Or (pa :: pb :: rest) pos => chkE F N sc a pa && (match rest with | [] => chkE F N sc b pb | _ :: _ => chkE F N sc b (.BoolOp .Or (pb :: rest) pos))
    | _ => false
  | .not a, pe => match pe with | .UnaryOp .Not pa _ => chkE F N sc a pa | _ => false
  | .ife c a b, pe => match pe with | .IfExp pc pa pb _ => chkE F N sc c pc && (chkE F N sc a pa && chkE F N sc b pb) | _ => false
  | .chain o1 o2 a b c, pe => match pe with
    | .Compare pa [op, op'] [pb, pc] _ => (cmpC op o1 && cmpC op' o2) && !lastMarks [op, op'] [pb, pc] && (chkE F N sc a pa && (chkE F N sc b pb && chkE F N sc c pc))
    | _ => false
  | .lc _ own tg kd src ifs elt, pe => match pe with
    | .ListComp pelt [⟨ptg, pit, pifs, 0⟩] scope _ => (blkB N sc scope own && (slots tg).all fun i => own.contains i) && (chkT N (relS scope sc) (fun x => scope.names.lookup x == some .cell) tg ptg && noSet pit) &&
      ((match srcArgs sc kd ptg pit with | some pes => chkEs F N sc src pes | none => false) && (chkI F N (relS scope sc) ifs pifs && chkE F N (relS scope sc) elt pelt))
    | _ => false
termination_by structural x => x
def chkEs (F : List FnN) (N : List Str) (sc : Scope) : List E → List Expr → Bool
  | [], pes => match pes with | [] => true | _ :: _ => false
  | e :: es, pes => match pes with | pe :: pes => noStar pe && (chkE F N sc e pe && chkEs F N sc es pes) | [] => false
termination_by structural x => x
/-- displays with stars -/
def chkSp (F : List FnN) (N : List Str) (sc : Scope) : List Bool → List E → List Expr → Bool
  | ms, [], pes => match ms, pes with | [], [] => true | _, _ => false
  | ms, e :: es, pes => match ms, pes with
    | false :: ms, pe :: pes => noStar pe && (chkE F N sc e pe && chkSp F N sc ms es pes)
    | true :: ms, .Starred pe _ :: pes => chkSt F N sc e pe && chkSp F N sc ms es pes
    | _, _ => false
termination_by structural _ x => x
def chkSt (F : List FnN) (N : List Str) (sc : Scope) : E → Expr → Bool
  | .op o es, pe => match o with | .spl => noStar pe && chkEs F N sc es [pe] | _ => false
  | _, _ => false
termination_by structural x => x
def chkP (F : List FnN) (N : List Str) (sc : Scope) : List E → Option Expr → Bool
  | [], pe => match pe with | none => true | some _ => false
  | e :: es, pe => match es, pe with | [], some pe => chkE F N sc e pe | _, _ => false
termination_by structural x => x
def chkI (F : List FnN) (N : List Str) (sc : Scope) : List E → List Expr → Bool
  | [], pes => match pes with | [] => true | _ :: _ => false
  | e :: es, pes => match es, pes with | [], [pe] => chkE F N sc e pe | _, _ => false
termination_by structural x => x
end

/-! ### what they give -/
section
variable {cl : List (Addr × Option Str)} {bs : List Nat} {W : WX} {C : Cl} {F : List FnN} {k : Nat} {X : Cx}
inductive AE (cl : List (Addr × Option Str)) (bs : List Nat) (W : WX) (C : Cl) (X : Cx) : List E → List Expr → Prop
  | nil : AE cl bs W C X [] []
  | cons {e : E} {es : List E} {pe : Expr} {pes : List Expr} : sE cl bs W C X pe e → noStar pe = true → AE cl bs W C X es pes → AE cl bs W C X (e :: es) (pe :: pes)
theorem AE.pa : ∀ {es : List E} {pes : List Expr}, AE cl bs W C X es pes → PA X pes (rdA cl bs W (fun env st => evs C bs env es st)) ∧ noStars pes = true
  | _, _, .nil => ⟨pa_nil', rfl⟩
  | _, _, .cons h s r => by
    obtain ⟨k1, k2⟩ := r.pa
    exact ⟨pa_cons' h.v k1 s, Bool.and_eq_true_iff.mpr ⟨s, k2⟩⟩
theorem AE.one {es : List E} {pe : Expr} (h : AE cl bs W C X es [pe]) : ∃ e, es = [e] ∧ sE cl bs W C X pe e ∧ noStar pe = true := by
  cases h with
  | cons h1 h2 h3 => cases h3; exact ⟨_, rfl, h1, h2⟩
theorem AE.two {es : List E} {pe pf : Expr} (h : AE cl bs W C X es [pe, pf]) : ∃ e f, es = [e, f] ∧ sE cl bs W C X pe e ∧ noStar pe = true ∧ sE cl bs W C X pf f ∧ noStar pf = true := by
  cases h with
  | cons h1 h2 h3 =>
    obtain ⟨f, rfl, h4, h5⟩ := h3.one
    exact ⟨_, _, rfl, h1, h2, h4, h5⟩
theorem isAdd_ok {op : Operator} (h : isAdd op = true) : op = .Add := by cases op <;> first | rfl | cases h
theorem isSubt_ok {op : Operator} (h : isSubt op = true) : op = .Sub := by cases op <;> first | rfl | cases h
theorem isMult_ok {op : Operator} (h : isMult op = true) : op = .Mult := by cases op <;> first | rfl | cases h
theorem isFdiv_ok {op : Operator} (h : isFdiv op = true) : op = .FloorDiv := by cases op <;> first | rfl | cases h
theorem isMod_ok {op : Operator} (h : isMod op = true) : op = .Mod := by cases op <;> first | rfl | cases h
theorem isPow_ok {op : Operator} (h : isPow op = true) : op = .Pow := by cases op <;> first | rfl | cases h
theorem isShl_ok {op : Operator} (h : isShl op = true) : op = .LShift := by cases op <;> first | rfl | cases h
theorem isShr_ok {op : Operator} (h : isShr op = true) : op = .RShift := by cases op <;> first | rfl | cases h
theorem isBnd_ok {op : Operator} (h : isBnd op = true) : op = .BitAnd := by cases op <;> first | rfl | cases h
theorem isBor_ok {op : Operator} (h : isBor op = true) : op = .BitOr := by cases op <;> first | rfl | cases h
theorem binC_ok {op : Operator} {o : Op} (h : binC op o = true) : OpR X (binaryOp op) (fun x y => rO cl bs (opS o) [x, y]) := by
  cases o with
  | add al => rw [isAdd_ok h]; exact s_add
  | subt => rw [isSubt_ok h]; exact s_subt
  | mul al => rw [isMult_ok h]; exact s_mul
  | fdiv => rw [isFdiv_ok h]; exact s_fdiv
  | mod => rw [isMod_ok h]; exact s_mod
  | pow => rw [isPow_ok h]; exact s_pow
  | shl => rw [isShl_ok h]; exact s_shl
  | shr => rw [isShr_ok h]; exact s_shr
  | band => rw [isBnd_ok h]; exact s_band
  | bor => rw [isBor_ok h]; exact s_bor
  | _ => exact absurd h Bool.false_ne_true
theorem isEq_ok {op : CmpOp} (h : isEq op = true) : op = .Eq := by cases op <;> first | rfl | cases h
theorem isNe_ok {op : CmpOp} (h : isNe op = true) : op = .NotEq := by cases op <;> first | rfl | cases h
theorem isLt_ok {op : CmpOp} (h : isLt op = true) : op = .Lt := by cases op <;> first | rfl | cases h
theorem isLe_ok {op : CmpOp} (h : isLe op = true) : op = .LtE := by cases op <;> first | rfl | cases h
theorem isGt_ok {op : CmpOp} (h : isGt op = true) : op = .Gt := by cases op <;> first | rfl | cases h
theorem isGe_ok {op : CmpOp} (h : isGe op = true) : op = .GtE := by cases op <;> first | rfl | cases h
theorem isIn'_ok {op : CmpOp} (h : isIn' op = true) : op = .In := by cases op <;> first | rfl | cases h
theorem isNi_ok {op : CmpOp} (h : isNi op = true) : op = .NotIn := by cases op <;> first | rfl | cases h
theorem cmpC_ok (hu : X.A.units + 64 < cLine) (hu' : X.A.units + 65 < cLine) {op : CmpOp} {o : Op} (h : cmpC op o = true) : OpR X (compareOp op) (fun x y => rO cl bs (opS o) [x, y]) ∧ isCmp o = true := by
  cases o with
  | eq => rw [isEq_ok h]; exact ⟨s_eq hu, rfl⟩
  | ne => rw [isNe_ok h]; exact ⟨s_ne hu, rfl⟩
  | lt => rw [isLt_ok h]; exact ⟨s_lt, rfl⟩
  | le => rw [isLe_ok h]; exact ⟨s_le, rfl⟩
  | gt => rw [isGt_ok h]; exact ⟨s_gt, rfl⟩
  | ge => rw [isGe_ok h]; exact ⟨s_ge, rfl⟩
  | inn => rw [isIn'_ok h]; exact ⟨s_in hu', rfl⟩
  | notIn => rw [isNi_ok h]; exact ⟨s_notIn hu', rfl⟩
  | _ => exact absurd h Bool.false_ne_true
theorem plainIx_ok {b : Expr} (h : plainIx b = true) : PlainIx b := by
  intro o i
  cases b <;> first | rfl | cases h
theorem s_dic0 : sE cl bs W C X (.Dict [] [] pos) (.op .dic []) := by
  refine se_fin (c := cOp C bs .dic []) (pe_dnewK.imp fun σ H Q q => ?_) (fun _ => rfl)
  obtain ⟨g, st, env, a, er, p⟩ := q
  intro l hl
  have p : PostD cl bs g H st (chk true (.ok (.ref st.length) (st ++ [.dct []]))) Q (fun a b H' => W a b σ H') := p
  obtain ⟨_, p⟩ := chk_post p
  obtain ⟨a1, q1⟩ := at_laid (ho := .dK []) a hl
  exact dic_pend p q1 a1 (pend_new a hl) .nil hl
/-! ### dict displays -/
theorem argsC {e : E} {es : List E} {σ : L2.St} {H : Hp} {Q : List V → Hp → Prop} (q : rdA cl bs W (fun env st => evs C bs env (e :: es) st) σ H Q) :
    rdC cl bs W (fun env st => ev C bs env e false st) σ H (fun x H1 => rdA cl bs W (fun env st => evs C bs env es st) σ H1 (fun xs H2 => Q (x :: xs) H2)) := by
  obtain ⟨g, st, env, a, er, p⟩ := q
  refine ⟨g, st, env, a, er, Post.bind (Rep' := RepDs N0) p fun d st1 v g1 H1 a1 s1 r1 p1 => ?_⟩
  refine ⟨g1, st1, env, a1, er.step s1, Post.bind (Rep' := RepDs N0) p1 fun ds st2 vs g2 H2 a2 s2 r2 p2 => ?_⟩
  exact Post.fin (Rep := RepDs N0) p2 a2 (.cons (s2.rep r1) r2)
def flatV : List (V × V) → List V
  | [] => []
  | p :: ps => p.1 :: p.2 :: flatV ps
theorem rdA_mono' {c : Env → Sto → R (List D)} {σ : L2.St} {H : Hp} {Q Q' : List V → Hp → Prop} (q : rdA cl bs W c σ H Q) (k : ∀ vs H, Q vs H → Q' vs H) : rdA cl bs W c σ H Q' := by
  obtain ⟨g, st, env, a, er, p⟩ := q
  exact ⟨g, st, env, a, er, p.mono k⟩
theorem rdC_mono' {c : Env → Sto → R D} {σ : L2.St} {H : Hp} {Q Q' : VK} (q : rdC cl bs W c σ H Q) (k : ∀ vs H, Q vs H → Q' vs H) : rdC cl bs W c σ H Q' := by
  obtain ⟨g, st, env, a, er, p⟩ := q
  exact ⟨g, st, env, a, er, p.mono k⟩
theorem pps_of {pos : Pos} : ∀ {ks : List (Option Expr)} {vs : List Expr} {pes : List Expr} {es : List E}, inter ks vs = some pes → AE cl bs W C X es pes → ∃ trs, PPs X pos ks vs trs ∧ ks.all (·.isSome) = true ∧ ks.length = vs.length ∧
    ∀ σ H Q, rdA cl bs W (fun env st => evs C bs env es st) σ H (fun ws H' => ∀ ps, flatV ps = ws → Q ps H') → tPairs trs σ H Q
  | [], [], _, _, h, ae => by
    cases h
    cases ae
    refine ⟨[], pps_nil, rfl, rfl, fun σ H Q q => ?_⟩
    obtain ⟨g, st, env, a, er, p⟩ := q
    exact Post.fin (Rep := RepDs N0) p a .nil [] rfl
  | some k :: ks, v :: vs, pes, es, h, ae => by
    have h : (inter ks vs).map (fun r => k :: v :: r) = some pes := h
    cases e : inter ks vs with
    | none => rw [e] at h; cases h
    | some r =>
      rw [e] at h
      cases h
      cases ae with
      | cons h1 n1 ae =>
        cases ae with
        | cons h2 n2 ae =>
          obtain ⟨trs, k1, k2, k3, k4⟩ := pps_of (pos := pos) e ae
          refine ⟨_ :: trs, pps_cons h1.v h2.v k1, by rw [List.all_cons, k2]; rfl, by rw [List.length_cons, List.length_cons, k3], fun σ H Q q => ?_⟩
          refine rdC_mono' (argsC q) fun x H1 q1 => rdC_mono' (argsC q1) fun y H2 q2 => ?_
          refine k4 σ H2 _ (rdA_mono' q2 fun ws H3 q3 ps hp => q3 ((x, y) :: ps) ?_)
          show x :: y :: flatV ps = _
          rw [hp]
  | [], _ :: _, _, _, h, _ => by cases h
  | none :: _, _, _, _, h, _ => by cases h
  | some _ :: _, [], _, _, h, _ => by cases h
theorem pairs_ok {g : Gh} : ∀ {ds : List D} {kvs : List (PyData × D)} {ws : List V} {ps : List (V × V)}, pairsOf ds = some kvs → RepDs N0 g ds ws → flatV ps = ws → RepP g kvs ps
  | [], kvs, ws, ps, h, r, e => by
    cases h
    cases r
    cases ps with
    | nil => exact .nil
    | cons p ps => cases e
  | .p k :: d :: ds, kvs, ws, ps, h, r, e => by
    have h : (pairsOf ds).map ((k, d) :: ·) = some kvs := h
    cases hp : pairsOf ds with
    | none => rw [hp] at h; cases h
    | some kvs' =>
      rw [hp] at h
      cases h
      match ws, r with
      | x :: y :: ws', .cons r1 (.cons r2 r3) =>
        cases ps with
        | nil => cases e
        | cons p ps =>
          obtain ⟨px, py⟩ := p
          have e : px :: py :: flatV ps = x :: y :: ws' := e
          injection e with e1 e
          injection e with e2 e3
          subst e1; subst e2
          exact .cons ⟨r1, r2⟩ (pairs_ok hp r3 e3)
  | [.p _], _, _, _, h, _, _ => by cases h
  | .ref _ :: _, _, _, _, h, _, _ => by cases h
theorem okW_top {st : Sto} {n : Nat} {d : D} (w : StoW bs st) (h : ∀ b ∈ bs, b ≤ n) : okW bs n d = true := by
  cases d with
  | p x => rfl
  | ref r =>
    refine List.all_eq_true.mpr fun b hb => ?_
    have := h b hb
    rw [show Nat.ble b n = true from Nat.ble_eq_true_of_le this]
    rfl
theorem putD_bs {n : Nat} {o o' : SO} {k : PyData} {d : D} (h : putD [] n o k d = some o') (hw : okW bs n d = true) : putD bs n o k d = some o' := by
  have e : okW [] n d = true := by cases d <;> rfl
  unfold putD at h ⊢
  rw [e] at h
  rw [hw]
  exact h
theorem set_self : ∀ {st : Sto} {n : Nat}, n < st.length → st.set n (getS st n) = st
  | [], n, h => absurd h (Nat.not_lt_zero _)
  | x :: r, 0, h => rfl
  | x :: r, n + 1, h => congrArg (x :: ·) (set_self (st := r) (n := n) (Nat.lt_of_succ_lt_succ h))
/-- the pairs of a display are stored, one after the other -/
theorem stores_ok {X : Cx} {pins : List (Addr × Obj)} {σ : L2.St} {Q : Unit → Shared → Prop} {E : Value → Shared → Prop} {n : Nat} {b : Addr} (hu : X.A.units + 9 < cLine) (hn : ∀ c ∈ bs, c ≤ n) (kvs : List (PyData × D)) : ∀ (ps : List (V × V)) (vs : List (Value × Value)) (g : Gh) (H : Hp) (s : Shared) (st : Sto) (o : SO),
    Inv X pins σ H s → At N0 bs g H st → g.mu[n]? = some b → n < st.length → RepP g kvs ps → VV ps vs → putsD n (getS st n) kvs = some o →
    (∀ g' H' s', Inv X pins σ H' s' → At N0 bs g' H' (st.set n o) → Step g H st g' H' (st.set n o) → Q () s') → wpAny (model X.prog X.w) X.A (storeAll b vs) Q E s := by
  induction kvs with
  | nil =>
    intro ps vs g H s st o I a hb hl rp rv h k
    cases rp
    cases rv
    cases h
    unfold storeAll
    rw [List.forIn_nil]
    refine wpAny_pure (k g H s I ?_ ?_)
    · rw [set_self hl]; exact a
    · rw [set_self hl]; exact Step.refl
  | cons kd kvs ih =>
    intro ps vs g H s st o I a hb hl rp rv h k
    obtain ⟨kk, d⟩ := kd
    cases rp with
    | @cons _ p _ ps r1 r2 =>
      cases rv with
      | @cons _ q _ vs q1 q2 =>
        have h : (match putD [] n (getS st n) kk d with | some o' => putsD n o' kvs | none => none) = some o := h
        cases hp : putD [] n (getS st n) kk d with
        | none => rw [hp] at h; cases h
        | some o1 =>
          rw [hp] at h
          have h : putsD n o1 kvs = some o := h
          unfold storeAll
          rw [List.forIn_cons]
          refine wpAny_bind (wpAny_bind (s_dictSet hu I a hb (putD_bs hp (okW_top a.w hn)) r1.1 r1.2 q1.1 q1.2 fun H1 s1 I1 a1 s1' => wpAny_pure ?_))
          refine ih ps vs g H1 s1 (st.set n o1) o I1 a1 hb (by rw [List.length_set]; exact hl) (RepP.mono s1'.fro s1'.mu r2) q2 (by rw [getS_set_eq hl]; exact h) fun g' H' s' I' a' st' => ?_
          rw [List.set_set] at a' st'
          exact k g' H' s' I' a' (s1'.trans st')
theorem s_dic (hu : X.A.units + 9 < cLine) {ks : List (Option Expr)} {vs : List Expr} {pes : List Expr} {es : List E} {pos : Pos} (hne : ks = [] → vs = [] → False) (h15 : ks.length ≤ 15) (h : inter ks vs = some pes) (ae : AE cl bs W C X es pes) : sE cl bs W C X (.Dict ks vs pos) (.op .dic es) := by
  obtain ⟨trs, k1, k2, k3, k4⟩ := pps_of (pos := pos) h ae
  have h0 : ks ≠ [] := fun e => by
    subst e
    cases vs with
    | nil => exact hne rfl rfl
    | cons _ _ => cases h
  refine se_fin (c := cOp C bs .dic es) ⟨fun pins s σ H Q I q => ?_⟩ (fun _ => rfl)
  have hn := I.hok.fresh (Nat.le_refl s.heap.objs.size)
  have I1 := I.laid (a := s.heap.objs.size) (o := .dK []) (h' := s.heap.push { cls := .type "dict", data := .dict #[] }) (t' := s.toks) (fun _ _ q => Heap.get?_push_of_some _ q) (Nat.le_refl _) (dk_empty s.heap I.big)
  generalize hl : s.heap.objs.size = l at hn I1
  obtain ⟨g, st, env, a, er, p⟩ := q
  obtain ⟨a1, s1⟩ := at_laid (ho := .dK []) a hn
  have p : PostD cl bs g H st ((evs C bs env es st).bind fun ds st1 => opS .dic ds st1) Q (fun a b H' => W a b σ H') := p
  have pairs : rdA cl bs W (fun env st => evs C bs env es st) σ (upd H l (.dK [])) (fun ws H' => ∀ ps, flatV ps = ws → ∃ ds st1 g1 kvs, At N0 bs g1 H' st1 ∧ Step g (upd H l (.dK [])) st g1 H' st1 ∧ pairsOf ds = some kvs ∧ RepP g1 kvs ps ∧ Pend g1 H' st1 l (.dK []) ∧ PostD cl bs g H st (opS .dic ds st1) Q (fun a b H' => W a b σ H')) := by
    refine ⟨g, st, env, a1, er, ?_⟩
    show PostL cl bs g (upd H l (.dK [])) st (evs C bs env es st) _ _
    cases e : evs C bs env es st with
    | stuck => rw [e] at p; exact p
    | exn c x st1 =>
      rw [e] at p
      exact fun cls dx g' H' a' s' ex => p cls dx g' H' a' (s1.trans s') ex
    | ok ds st1 =>
      rw [e] at p
      intro ws g1 H1 a2 s2 r2 ps hps
      have p1 : PostD cl bs g H st (match pairsOf ds with
        | some kvs => chk (Nat.ble kvs.length 15) (match putsD st1.length (.dct []) kvs with
          | some o => .ok (.ref st1.length) (st1 ++ [o])
          | none => .stuck)
        | none => .stuck) Q (fun a b H' => W a b σ H') := p
      cases hp : pairsOf ds with
      | none => rw [hp] at p1; exact p1.elim
      | some kvs => exact ⟨ds, st1, g1, kvs, a2, s2, hp, pairs_ok hp r2 hps, pend_step (pend_new (ho := .dK []) a hn) s2, p⟩
  have q := k4 σ _ (fun ps H' => ∃ ds st1 g1 kvs, At N0 bs g1 H' st1 ∧ Step g (upd H l (.dK [])) st g1 H' st1 ∧ pairsOf ds = some kvs ∧ RepP g1 kvs ps ∧ Pend g1 H' st1 l (.dK []) ∧ PostD cl bs g H st (opS .dic ds st1) Q (fun a b H' => W a b σ H')) pairs
  refine wpAny_Dict_any k2 k3 h0 h15 ?_
  rw [hl]
  refine thn (k1.run pins _ σ _ _ I1 q) fun ws s2 ⟨ps, H2, I2, rel, ds, st1, g1, kvs, a2, s2', hp, rp, pd, pp⟩ => ?_
  have pp : PostD cl bs g H st (match pairsOf ds with
    | some kvs => chk (Nat.ble kvs.length 15) (match putsD st1.length (.dct []) kvs with
      | some o => .ok (.ref st1.length) (st1 ++ [o])
      | none => .stuck)
    | none => .stuck) Q (fun a b H' => W a b σ H') := pp
  rw [hp] at pp
  obtain ⟨c1, pp⟩ := chk_post pp
  cases ho : putsD st1.length (.dct []) kvs with
  | none => rw [ho] at pp; exact pp.elim
  | some o =>
    rw [ho] at pp
    obtain ⟨a3, e3, c3⟩ := pend_store (so := .dct []) a2 pd rfl ⟨[], rfl, .nil⟩
    have s3 := step_store (s1.trans s2') hn a2.ok.len c3 e3
    have rp3 : RepP ⟨g1.G, g1.mu ++ [l]⟩ kvs ps := RepP.mono (g := g1) (g' := ⟨g1.G, g1.mu ++ [l]⟩) (Sub.refl g1.G) (fun n b h => by
      have := (List.getElem?_eq_some_iff.mp h).1
      show (g1.mu ++ [l])[n]? = some b
      rw [List.getElem?_append_left this]; exact h) rp
    refine stores_ok (bs := bs) hu (fun c hc => (a2.w c hc).1) kvs ps ws _ _ _ _ o I2 a3 e3 (by rw [List.length_append]; simp) rp3 rel (by rw [getS_app_eq]; exact ho) fun g' H' s' I' a' s4 => ?_
    have es : (st1 ++ [SO.dct []]).set st1.length o = st1 ++ [o] := by
      rw [List.set_append_right _ _ (Nat.le_refl _), Nat.sub_self]; rfl
    rw [es] at a' s4
    exact ⟨.ref l, H', I', rfl, Post.fin' (Rep := RepD N0) pp a' (s3.trans s4) ⟨l, s4.mu _ _ e3, rfl⟩⟩
theorem opArgs_ok (G : GX X cl W C F k) {sc : Scope} (hsc : X.env.scope = sc) {o : Op} {es : List E} : ∀ {pe : Expr} {pes : List Expr}, opArgs sc o pe = some pes → AE cl bs W C X es pes → sE cl bs W C X pe (.op o es) := by
  have hu := G.room.units
  have hun := G.room.un
  intro pe pes h ae
  unfold opArgs at h
  split at h
  · split at h
    · rename_i hb
      cases h
      obtain ⟨e, f, rfl, h1, _, h2, _⟩ := ae.two
      exact e_bin (binC_ok hb) h1 h2
    · cases h
  · split at h
    · cases h
      obtain ⟨e, rfl, h1, _⟩ := ae.one
      exact e_un h1
    · cases h
  · split at h
    · split at h
      · cases h
        obtain ⟨e, rfl, h1, _⟩ := ae.one
        exact e_isN h1
      · cases h
    · split at h
      · cases h
        obtain ⟨e, rfl, h1, _⟩ := ae.one
        exact e_notN h1
      · cases h
    · split at h
      · rename_i hb
        cases h
        obtain ⟨e, f, rfl, h1, _, h2, _⟩ := ae.two
        obtain ⟨b1, b2⟩ := Bool.and_eq_true_iff.mp hb
        obtain ⟨k1, k2⟩ := cmpC_ok (cl := cl) (bs := bs) hu (by omega) b1
        exact e_cmp k1 k2 h1 h2 (by simpa using b2)
      · cases h
  · split at h
    · split at h
      · rename_i hb
        cases h
        obtain ⟨e, f, rfl, h1, _, h2, _⟩ := ae.two
        exact e_idx (by omega) h1 h2 (plainIx_ok hb)
      · cases h
    · split at h
      · cases h
        obtain ⟨e, rfl, h1, _⟩ := ae.one
        exact e_rev h1
      · cases h
    · cases h
  · split at h
    · cases h
      exact e_tup ae.pa.1
    · cases h
  · split at h
    · cases h
      exact e_lst ae.pa.1
    · cases h
  · split at h
    · split at h
      · cases h
        cases ae
        exact s_dic0
      · rename_i ks vs hne
        split at h
        · rename_i hle
          exact s_dic (by omega) (fun e1 e2 => hne e1 e2) (Nat.le_of_ble_eq_true hle) h ae
        · cases h
    · cases h
  · split at h
    · split at h
      · split at h
        · split at h
          · rename_i hb
            cases h
            obtain ⟨e, rfl, h1, n1⟩ := ae.one
            simp only [Bool.and_eq_true, decide_eq_true_eq] at hb
            obtain ⟨⟨ex, t1, t6⟩, ey, g1, g2⟩ := hb
            have ex := eq_of_beq ex
            have ey := eq_of_beq ey
            subst ex; subst ey
            exact e_isi t1 t6 h1 n1 (glB_ok hsc g1) (G.bl _ (by decide)) (glB_ok hsc g2) (G.bl _ (tyStr_boot _ t1 t6).2.2.2)
          · cases h
        · cases h
      · split at h
        · rename_i hb
          cases h
          obtain ⟨e, rfl, h1, n1⟩ := ae.one
          simp only [Bool.and_eq_true, decide_eq_true_eq] at hb
          obtain ⟨⟨ex, tl⟩, tn, g1⟩ := hb
          have ex := eq_of_beq ex
          subst ex
          exact e_isiT hsc G.bl (by rw [line_eq]; exact Nat.le_trans tl (by decide)) tn h1 n1 (glB_ok hsc g1)
        · cases h
      · cases h
    · split at h
      · split at h
        · rename_i hb
          cases h
          obtain ⟨e, rfl, h1, n1⟩ := ae.one
          simp only [Bool.and_eq_true] at hb
          obtain ⟨⟨ex, ey⟩, g1, g2⟩ := hb
          have ex := eq_of_beq ex
          subst ex
          have ey := eq_of_beq ey
          subst ey
          exact e_setOf (s_sortSet G.calm (by omega)) (glB_ok hsc g1) (G.bl _ (by decide)) PyProof.Rows.boot_sorted (by decide) (by decide) (glB_ok hsc g2) (G.bl _ (by decide)) h1 n1
        · cases h
      · cases h
    · split at h
      · split at h
        · rename_i hb
          cases h
          obtain ⟨e, rfl, h1, n1⟩ := ae.one
          simp only [Bool.and_eq_true] at hb
          obtain ⟨⟨ex, ey⟩, g1, g2⟩ := hb
          have ex := eq_of_beq ex
          subst ex
          have ey := eq_of_beq ey
          subst ey
          exact e_setOf (s_lenSet G.calm (by omega)) (glB_ok hsc g1) (G.bl _ (by decide)) boot_len (by decide) (by decide) (glB_ok hsc g2) (G.bl _ (by decide)) h1 n1
        · cases h
      · cases h
    · split at h
      · split at h
        · rename_i hb
          cases h
          simp only [Bool.and_eq_true, Bool.not_eq_true'] at hb
          obtain ⟨hb, g1, g2⟩ := hb
          obtain ⟨p, p1, p2⟩ := List.any_eq_true.mp hb
          simp only [Bool.and_eq_true, decide_eq_true_eq] at p2
          obtain ⟨e1, e2⟩ := p2
          have hm := G.cn.bf p p1
          rw [eq_of_beq e1, e2] at hm
          obtain ⟨k1, k2⟩ := ae.pa
          exact e_gcd (glB_ok hsc g1) hm g2 k1 k2
        · cases h
      · cases h
    · split at h
      · split at h
        · rename_i hb
          cases h
          obtain ⟨ex, g1⟩ := Bool.and_eq_true_iff.mp hb
          have ex := eq_of_beq ex
          subst ex
          obtain ⟨k1, k2⟩ := ae.pa
          exact e_sortK G.calm (by omega) (glB_ok hsc g1) (G.bl _ (by decide)) k1 k2
        · cases h
      · cases h
    · split at h
      · rename_i hv
        split at h
        · split at h
          · rename_i hb
            cases h
            obtain ⟨ex, g1⟩ := Bool.and_eq_true_iff.mp hb
            have ex := eq_of_beq ex
            subst ex
            obtain ⟨k1, k2⟩ := ae.pa
            exact e_blt G.calm (by omega) hv (glB_ok hsc g1) (G.bl _ (bltV_name hv).2.2.2) k1 k2
          · cases h
        · cases h
      · cases h
  · split at h
    · split at h
      · rename_i hb
        cases h
        simp only [Bool.and_eq_true] at hb
        obtain ⟨⟨ex, ey, ez⟩, g1, g2⟩ := hb
        have ex := eq_of_beq ex
        subst ex
        have ey := eq_of_beq ey
        subst ey
        have ez := eq_of_beq ez
        subst ez
        obtain ⟨e, rfl, h1, n1⟩ := ae.one
        exact e_maxLen G.calm (glB_ok hsc g1) (G.bl _ (by decide)) (glB_ok hsc g2) (G.bl _ (by decide)) h1 n1
      · cases h
    · cases h
  · cases h
end
end Ev

/-! Ev13: a checked expression does what the reckoner says. -/
namespace Ev
variable [FnTab] [CnTab]
open PySem PySem.Spec PyProof.Rows L2
section
variable {cl : List (Addr × Option Str)} {bs : List Nat} {W : WX} {C : Cl} {F : List FnN} {N : List Str} {k : Nat} {X : Cx}
theorem visB_ok {sc : Scope} {x : Str} (hs : X.env.scope = sc) (h : visB sc x = true) : Vis X.env.scope x := by
  unfold visB at h
  rw [hs]
  split at h
  · rename_i e; exact .inl e
  · rename_i e; exact .inr (.inl e)
  · rename_i e; exact .inr (.inr e)
  · cases h
theorem okN_ok {x : Str} (h : okN x = true) : (x == ("__debug__" : Str)) = false ∧ (x == ("__classdict__" : Str)) = false := by
  unfold okN at h
  simpa using h
theorem e_var {i : Nat} {x : Str} {pos : Pos} (hN : X.N[i]? = some x) (hv : Vis X.env.scope x) (hd : (x == ("__debug__" : Str)) = false) (hcd : (x == ("__classdict__" : Str)) = false) : sE cl bs W C X (.Name x pos) (.var i) :=
  se_fin (c := fun env st => match getE env i with | some d => .ok d st | none => .stuck) ((pe_var hN hv hd hcd).imp fun σ H Q q => by
    obtain ⟨g, st, env, a, er, p⟩ := q
    have p : PostD cl bs g H st (match getE env i with | some d => .ok d st | none => .stuck) Q (fun a b H' => W a b σ H') := p
    cases e : getE env i with
    | none => rw [e] at p; exact p.elim
    | some d =>
      rw [e] at p
      obtain ⟨v, h1, h2⟩ := er.val i d e
      exact ⟨v, h1, Post.fin (Rep := RepD N0) p a h2⟩) (fun _ => rfl)
theorem e_cst {d : PyData} {c : Const} {j : Nat} {pos : Pos} (h : cstC d c = true) : sE cl bs W C X (.Constant c j pos) (.cst d) := by
  refine se_fin (c := fun env st => .ok (.p d) st) ?_ (fun _ => rfl)
  have go : ∀ v, (∀ G, Dp N0 G v d) → PE X (.Constant c j pos) (tC v) → PE X (.Constant c j pos) (rdC cl bs W (fun env st => .ok (.p d) st)) := fun v hv h => h.imp fun σ H Q q => by
    obtain ⟨g, st, env, a, er, p⟩ := q
    exact Post.fin (Rep := RepD N0) p a (hv _)
  unfold cstC at h
  split at h
  · exact go .non (fun _ => .non) pe_non
  · have e := eq_of_beq h
    subst e
    exact go (.bl _) (fun _ => .bl _) pe_bl
  · have e := of_decide_eq_true h
    subst e
    exact go (.int _) (fun _ => .int _) pe_int
  · have e := eq_of_beq h
    subst e
    exact go (.str _) (fun _ => .str _) pe_str
  · cases h
/-- plain data, written out -/
def rdD (bs : List Nat) (x : PyData) : TE := fun _ H Q => ∃ g st, At N0 bs g H st ∧ ∀ w g' H', At N0 bs g' H' st → Step g H st g' H' st → Dp N0 g'.G w x → Q w H'
def rdDs (bs : List Nat) (xs : List PyData) : TA := fun _ H Q => ∃ g st, At N0 bs g H st ∧ ∀ ws g' H', At N0 bs g' H' st → Step g H st g' H' st → DpAll N0 g'.G ws xs → Q ws H'
theorem pe_D {x : PyData} {v : V} {pe : Expr} (h : PE X pe (tC v)) (hv : ∀ G, Dp N0 G v x) : PE X pe (rdD bs x) := h.imp fun σ H Q q => by
  obtain ⟨g, st, a, q⟩ := q
  exact q v g H a Step.refl (hv _)
mutual
theorem chkC_ok : ∀ (x : PyData) (pe : Expr), chkC x pe = true → PE X pe (rdD bs x)
  | .none, pe, h => by
    unfold chkC at h
    split at h
    · exact pe_D pe_non fun _ => .non
    · cases h
  | .bool b, pe, h => by
    unfold chkC at h
    split at h
    · have e := eq_of_beq h
      subst e
      exact pe_D pe_bl fun _ => .bl _
    · cases h
  | .int i, pe, h => by
    unfold chkC at h
    split at h
    · have e := of_decide_eq_true h
      subst e
      exact pe_D pe_int fun _ => .int _
    · rename_i j k p p2
      have e := of_decide_eq_true h
      subst e
      refine (pe_un (s_neg (cl := []) (bs := bs)) (pe_int (i := j) (j := k) (pos := p))).imp fun σ H Q q => ?_
      obtain ⟨g, st, a, q⟩ := q
      exact ⟨g, st, [.p (.int j)], fun _ _ _ => False, a, .cons (show Dp N0 _ _ _ from .int _) .nil, fun v g' H' a' s' r => q v g' H' a' s' r⟩
    · cases h
  | .str z, pe, h => by
    unfold chkC at h
    split at h
    · have e := eq_of_beq h
      subst e
      exact pe_D pe_str fun _ => .str _
    · cases h
  | .list xs, pe, h => by
    unfold chkC at h
    split at h
    · rename_i es p
      obtain ⟨h1, h2⟩ := Bool.and_eq_true_iff.mp h
      have h1 := of_decide_eq_true h1
      refine (pe_lst (chkCs_ok xs es h2).1).imp fun σ H Q q => ?_
      obtain ⟨g, st, a, q⟩ := q
      refine ⟨g, st, a, fun ws g' H' a' s' d' => ⟨by rw [dpl_len d', line_eq]; exact Nat.le_trans h1 (by decide), fun l hl => ?_⟩⟩
      obtain ⟨a2, s2⟩ := at_froz (ho := .lst ws) a' hl
      exact q _ _ _ a2 (s'.trans s2) (.lst (.inl (.inl upd_same)) (dpAll_mono (Sub.new (a'.ok.sub.free hl)) _ _ d'))
    · cases h
  | .tuple xs, pe, h => by
    unfold chkC at h
    split at h
    · rename_i es k p
      obtain ⟨h1, h2⟩ := Bool.and_eq_true_iff.mp h
      have h1 := of_decide_eq_true h1
      refine (pe_tup (chkCs_ok xs es h2).1).imp fun σ H Q q => ?_
      obtain ⟨g, st, a, q⟩ := q
      refine ⟨g, st, a, fun ws g' H' a' s' d' => ⟨by rw [dpl_len d', line_eq]; exact Nat.le_trans h1 (by decide), fun l hl => ?_⟩⟩
      obtain ⟨a2, s2⟩ := at_froz (ho := .tup ws) a' hl
      exact q _ _ _ a2 (s'.trans s2) (.tup (.inl (.inl upd_same)) (dpAll_mono (Sub.new (a'.ok.sub.free hl)) _ _ d'))
    · cases h
  | .dict _, pe, h => by
    unfold chkC at h
    cases h
theorem chkCs_ok : ∀ (xs : List PyData) (pes : List Expr), chkCs xs pes = true → PA X pes (rdDs bs xs) ∧ noStars pes = true
  | [], pes, h => by
    unfold chkCs at h
    split at h
    · refine ⟨pa_nil.imp fun σ H Q q => ?_, rfl⟩
      obtain ⟨g, st, a, q⟩ := q
      exact q [] g H a Step.refl .nil
    · cases h
  | x :: xs, pes, h => by
    unfold chkCs at h
    split at h
    · rename_i pe pes
      simp only [Bool.and_eq_true] at h
      obtain ⟨h1, h2, h3⟩ := h
      obtain ⟨k1, k2⟩ := chkCs_ok xs pes h3
      refine ⟨(pa_cons (chkC_ok x pe h2) k1 (star_cons h1 pes _)).imp fun σ H Q q => ?_, Bool.and_eq_true_iff.mpr ⟨h1, k2⟩⟩
      obtain ⟨g, st, a, q⟩ := q
      refine ⟨g, st, a, fun w g1 H1 a1 s1 d1 => ⟨g1, st, a1, fun ws g2 H2 a2 s2 d2 => ?_⟩⟩
      exact q (w :: ws) g2 H2 a2 (s1.trans s2) (.cons (s2.dp d1) d2)
    · cases h
end
theorem chkC_isTrue {x : PyData} {pe : Expr} (h : chkC x pe = true) (env : PySem.Env) : ∀ whole, isTrue pe env whole = (do let v ← whole; standAt pe.pos; holding [v] (truthy v)) := by
  intro whole
  cases pe with
  | Constant c k p => rfl
  | List es p => rfl
  | Tuple es k p => rfl
  | UnaryOp op a p =>
    cases x with
    | int i =>
      cases op with
      | USub => rfl
      | _ => unfold chkC at h; cases h
    | _ => unfold chkC at h; cases h
  | _ => cases x <;> (unfold chkC at h; cases h)
theorem e_cstC {d : PyData} {pe : Expr} (h : chkC d pe = true) : sE cl bs W C X pe (.cst d) :=
  se_fin (c := fun env st => .ok (.p d) st) ((chkC_ok (bs := bs) d pe h).imp fun σ H Q q => by
    obtain ⟨g, st, env, a, er, p⟩ := q
    exact ⟨g, st, a, fun w g' H' a' s' d' => p w g' H' a' s' d'⟩) (chkC_isTrue h X.env)
theorem e_cn (G : GX X cl W C F k) {sc : Scope} (hsc : X.env.scope = sc) {d : PyData} {pe : Expr} (h : cnB sc d pe = true) : sE cl bs W C X pe (.cst d) := by
  unfold cnB at h
  split at h
  · rename_i x p
    simp only [Bool.and_eq_true] at h
    obtain ⟨h1, h2, h3⟩ := h
    obtain ⟨n1, _⟩ := okN_ok h3
    obtain ⟨q, q1, q2⟩ := List.any_eq_true.mp h1
    obtain ⟨e1, e2⟩ := Bool.and_eq_true_iff.mp q2
    obtain ⟨u, v, m1, m2, m3⟩ := G.cn.cn q q1
    have e1 := eq_of_beq e1
    rw [e1] at m1
    have e2 : q.2 = d := by
      clear m3
      generalize q.2 = z at e2
      cases z with
      | int i => cases d with
        | int j => exact congrArg PyData.int (of_decide_eq_true e2)
        | _ => cases e2
      | str x => cases d with
        | str y => exact congrArg PyData.str (eq_of_beq e2)
        | _ => cases e2
      | _ => cases d <;> cases e2
    rw [e2] at m3
    exact se_fin (c := fun env st => .ok (.p d) st) ((pe_glob (glB_ok hsc h2) m1 m2 n1).imp fun σ H Q q => by
      obtain ⟨g, st, env, a, er, p⟩ := q
      exact Post.fin (Rep := RepD N0) p a (show Dp N0 _ _ _ from m3 _)) (fun _ => rfl)
  · cases h
theorem srcArgs_ok (G : GX X cl W C F k) {sc : Scope} (hsc : X.env.scope = sc) {kd : Nat} {tg it : Expr} {pes : List Expr} {es : List E} (h : srcArgs sc kd tg it = some pes) (ae : AE cl bs W C X es pes) : PI X tg it (rdJ cl bs W C X.K kd es) := by
  unfold srcArgs at h
  split at h
  · cases h
    obtain ⟨e, rfl, h1, n1⟩ := ae.one
    exact pi_0 h1.v
  · split at h
    · split at h
      · rename_i hb
        cases h
        obtain ⟨ex, g1⟩ := Bool.and_eq_true_iff.mp hb
        have ex := eq_of_beq ex
        subst ex
        obtain ⟨e, rfl, h1, n1⟩ := ae.one
        exact pi_1 (glB_ok hsc g1) (G.bl _ (by decide)) h1.v n1
      · cases h
    · cases h
  · split at h
    · split at h
      · rename_i hb
        cases h
        obtain ⟨ex, g1⟩ := Bool.and_eq_true_iff.mp hb
        have ex := eq_of_beq ex
        subst ex
        obtain ⟨e, f, rfl, h1, n1, h2, n2⟩ := ae.two
        exact pi_2 (glB_ok hsc g1) (G.bl _ (by decide)) h1.v h2.v n1 n2
      · cases h
    · cases h
  · split at h
    · split at h
      · rename_i hb
        cases h
        obtain ⟨ex, g1⟩ := Bool.and_eq_true_iff.mp hb
        have ex := eq_of_beq ex
        subst ex
        obtain ⟨e, rfl, h1, n1⟩ := ae.one
        exact pi_3 (glB_ok hsc g1) (G.bl _ (by decide)) h1.v n1
      · cases h
    · cases h
  · split at h
    · split at h
      · rename_i hb
        cases h
        obtain ⟨ex, g1⟩ := Bool.and_eq_true_iff.mp hb
        have ex := eq_of_beq ex
        subst ex
        obtain ⟨e, f, rfl, h1, n1, h2, n2⟩ := ae.two
        exact pi_4 (glB_ok hsc g1) (G.bl _ (by decide)) h1.v h2.v n1 n2
      · cases h
    · cases h
  · split at h
    · split at h
      · rename_i hb
        cases h
        obtain ⟨ex, g1⟩ := Bool.and_eq_true_iff.mp hb
        have ex := eq_of_beq ex
        subst ex
        obtain ⟨e, rfl, h1, n1⟩ := ae.one
        exact pi_5 (glB_ok hsc g1) (G.bl _ (by decide)) h1.v n1
      · cases h
    · cases h
  · split at h
    · split at h
      · rename_i hb
        cases h
        simp only [Bool.and_eq_true] at hb
        obtain ⟨⟨ex, ey⟩, g1, g2⟩ := hb
        have ex := eq_of_beq ex
        subst ex
        have ey := eq_of_beq ey
        subst ey
        obtain ⟨e, f, rfl, h1, n1, h2, n2⟩ := ae.two
        exact pi_6 (glB_ok hsc g1) (G.bl _ (by decide)) (glB_ok hsc g2) (G.bl _ (by decide)) h1.v h2.v n1 n2
      · cases h
    · cases h
  · split at h
    · split at h
      · rename_i hb
        cases h
        simp only [Bool.and_eq_true] at hb
        obtain ⟨ex, b1, b2⟩ := hb
        have ex := eq_of_beq ex
        subst ex
        obtain ⟨e, rfl, h1, n1⟩ := ae.one
        exact pi_7 h1.v b1 b2
      · cases h
    · cases h
  · split at h
    · split at h
      · rename_i hb
        cases h
        simp only [Bool.and_eq_true] at hb
        obtain ⟨ex, b1, b2⟩ := hb
        have ex := eq_of_beq ex
        subst ex
        obtain ⟨e, rfl, h1, n1⟩ := ae.one
        exact pi_8 h1.v b1 b2
      · cases h
    · cases h
  · cases h
theorem noSet_ok {e : Expr} (h : noSet e = true) (env : PySem.Env) (x : Value) : foldedSetIterable e env x = pure x := by
  cases e <;> first | rfl | cases h
theorem methArgs_ok (G : GX X cl W C F k) {m : Mt} {o : E} {es : List E} {pe po : Expr} {pes : List Expr} (h : methArgs m pe = some (po, pes)) (ho : sE cl bs W C X po o) (ae : AE cl bs W C X es pes) : sE cl bs W C X pe (.meth m o es) := by
  have hun := G.room.un
  unfold methArgs at h
  split at h
  · split at h
    · rename_i hb
      obtain ⟨b1, b2⟩ := Bool.and_eq_true_iff.mp hb
      split at h
      · split at h
        · rename_i hx
          cases h
          have ex := eq_of_beq hx
          subst ex
          obtain ⟨e, rfl, h1, n1⟩ := ae.one
          exact e_append ho h1 b1 n1 b2
        · cases h
      · split at h
        · rename_i hx
          cases h
          have ex := eq_of_beq hx
          subst ex
          obtain ⟨e, rfl, h1, n1⟩ := ae.one
          obtain ⟨k4, k5⟩ := (AE.cons h1 n1 .nil : AE cl bs W C X _ _).pa
          exact e_get1 (by omega) ho k4 b1 b2 k5 rfl
        · cases h
      · split at h
        · rename_i hx
          cases h
          have ex := eq_of_beq hx
          subst ex
          obtain ⟨e, f, rfl, h1, n1, h2, n2⟩ := ae.two
          obtain ⟨k4, k5⟩ := (AE.cons h1 n1 (.cons h2 n2 .nil) : AE cl bs W C X _ _).pa
          exact e_get2 (by omega) ho k4 b1 b2 k5 rfl
        · cases h
      · split at h
        · rename_i hx
          cases h
          have ex := eq_of_beq hx
          subst ex
          obtain ⟨k4, k5⟩ := ae.pa
          exact e_extend ho k4 b1 b2 k5 rfl
        · cases h
      · split at h
        · rename_i hx
          cases h
          have ex := eq_of_beq hx
          subst ex
          cases ae
          exact e_pop ho b1 b2
        · cases h
      · split at h
        · rename_i hx
          cases h
          have ex := eq_of_beq hx
          subst ex
          obtain ⟨k4, k5⟩ := ae.pa
          exact e_popAt ho k4 b1 b2 k5 rfl
        · cases h
      · split at h
        · rename_i hx
          cases h
          have ex := eq_of_beq hx
          subst ex
          obtain ⟨k4, k5⟩ := ae.pa
          exact e_insert ho k4 b1 b2 k5 rfl
        · cases h
      · split at h
        · rename_i hx
          cases h
          have ex := eq_of_beq hx
          subst ex
          obtain ⟨k4, k5⟩ := ae.pa
          exact e_remove (by omega) ho k4 b1 b2 k5 rfl
        · cases h
      · split at h
        · rename_i hx
          cases h
          have ex := eq_of_beq hx
          subst ex
          obtain ⟨k4, k5⟩ := ae.pa
          exact e_setdef (by omega) ho k4 b1 b2 k5 rfl
        · cases h
      · cases h
    · cases h
  · cases h
/-! ### calls by keywords -/
theorem fnN_of {f : Nat} {x : Str} (h : (match F[f]? with | some (y, _) => y == x | none => false) = true) : ∃ kw, F[f]? = some (x, kw) := by
  cases e : F[f]? with
  | none => rw [e] at h; cases h
  | some yk =>
    obtain ⟨y, kw⟩ := yk
    rw [e] at h
    have ey := eq_of_beq (show (y == x) = true from h)
    subst ey
    exact ⟨kw, rfl⟩
theorem fnK_of {f n : Nat} {x : Str} {names : List Str} {ks : List Nat} (h : (match F[f]? with | some (y, kw) => y == x && kw.any (fun q => decide (q = (n, names, ks))) | none => false) = true) : ∃ kw, F[f]? = some (x, kw) ∧ (n, names, ks) ∈ kw := by
  cases e : F[f]? with
  | none => rw [e] at h; cases h
  | some yk =>
    obtain ⟨y, kw⟩ := yk
    rw [e] at h
    obtain ⟨h1, h2⟩ := Bool.and_eq_true_iff.mp (show (y == x && kw.any (fun q => decide (q = (n, names, ks)))) = true from h)
    have ey := eq_of_beq h1
    subst ey
    obtain ⟨q, q1, q2⟩ := List.any_eq_true.mp h2
    have eq := of_decide_eq_true q2
    subst eq
    exact ⟨kw, rfl, q1⟩
theorem kw_all {pos : Pos} {env : PySem.Env} : ∀ {kws : List Keyword} {names : List Str}, kwNames kws = some names → (backToKw pos (keywordEach kws env)).all (·.1.isSome) = true ∧ (backToKw pos (keywordEach kws env)).filterMap (·.1) = names ∧ (backToKw pos (keywordEach kws env)).any (·.1.isNone) = false
  | [], names, h => by cases h; exact ⟨rfl, rfl, rfl⟩
  | ⟨none, e, p⟩ :: r, names, h => by cases h
  | ⟨some x, e, p⟩ :: r, names, h => by
    have h' : (kwNames r).map (x :: ·) = some names := h
    cases q : kwNames r with
    | none => rw [q] at h'; cases h'
    | some ns =>
      rw [q] at h'
      cases h'
      obtain ⟨k1, k2, k3⟩ := kw_all (pos := pos) (env := env) q
      exact ⟨k1, congrArg (x :: ·) k2, k3⟩
theorem pk_of : ∀ {kws : List Keyword} {ke : List E}, AE cl bs W C X ke (kws.map kwVal) → PK X kws (rdA cl bs W (fun env st => evs C bs env ke st))
  | [], ke, h => by
    cases h
    exact ⟨fun pos pins s σ H Q I q => pk_nil.run pos pins s σ H Q I (by
      obtain ⟨g, st, env, a, er, p⟩ := q
      exact Post.fin (Rep := RepDs N0) p a .nil)⟩
  | ⟨nm, pe, p⟩ :: r, ke, h => by
    cases h with
    | cons h1 h2 h3 =>
      exact ⟨fun pos pins s σ H Q I q => (pk_cons h1.v (pk_of h3)).run pos pins s σ H Q I (argsC q)⟩
theorem vals_pick {vs : List V} {us : List Value} (r : Vals vs us) : ∀ perm : List Nat, Vals (pickV perm vs) (pickV perm us)
  | [] => .nil
  | i :: is => by
    have ih := vals_pick r is
    unfold pickV at ih ⊢
    rw [List.filterMap_cons, List.filterMap_cons]
    cases e : vs[i]? with
    | none =>
      have e2 : us[i]? = none := List.getElem?_eq_none_iff.mpr (by rw [← r.length]; exact List.getElem?_eq_none_iff.mp e)
      rw [e2]; exact ih
    | some v =>
      obtain ⟨u, hu, ru⟩ := r.get e
      rw [hu]; exact .cons ru ih
theorem reps_pick {g : Gh} {ds : List D} {vs : List V} (r : RepDs N0 g ds vs) : ∀ perm : List Nat, RepDs N0 g (pickV perm ds) (pickV perm vs)
  | [] => .nil
  | i :: is => by
    have ih := reps_pick r is
    unfold pickV at ih ⊢
    rw [List.filterMap_cons, List.filterMap_cons]
    cases e : ds[i]? with
    | none =>
      have e2 : vs[i]? = none := List.getElem?_eq_none_iff.mpr (by rw [← r.len]; exact List.getElem?_eq_none_iff.mp e)
      rw [e2]; exact ih
    | some v =>
      obtain ⟨u, hu, ru⟩ := RepDs.get r e
      rw [hu]; exact .cons ru ih
theorem evs_len : ∀ {es : List E} {env : Env} {st : Sto} {ds : List D} {st1 : Sto}, evs C bs env es st = .ok ds st1 → ds.length = es.length
  | [], env, st, ds, st1, h => by cases h; rfl
  | e :: es, env, st, ds, st1, h => by
    obtain ⟨d, st2, _, h⟩ := bind_ok (show (ev C bs env e false st).bind _ = _ from h)
    obtain ⟨ds', st3, h2, h⟩ := bind_ok (show (evs C bs env es st2).bind _ = _ from h)
    cases h
    rw [List.length_cons, List.length_cons, evs_len h2]
/-- rdA, the number of values told -/
theorem rdA_len {es : List E} {σ : L2.St} {H : Hp} {Q : List V → Hp → Prop} (q : rdA cl bs W (fun env st => evs C bs env es st) σ H Q) : rdA cl bs W (fun env st => evs C bs env es st) σ H (fun vs H1 => vs.length = es.length ∧ Q vs H1) := by
  obtain ⟨g, st, env, a, er, p⟩ := q
  refine ⟨g, st, env, a, er, ?_⟩
  show PostL cl bs g H st (evs C bs env es st) _ _
  have p : PostL cl bs g H st (evs C bs env es st) Q (fun a b H' => W a b σ H') := p
  cases e : evs C bs env es st with
  | ok ds st1 =>
    rw [e] at p
    exact fun vs g' H' a' s' r => ⟨by rw [← RepDs.len r]; exact evs_len e, p vs g' H' a' s' r⟩
  | exn c x st1 => rw [e] at p; exact p
  | stuck => rw [e] at p; exact p
/-- a call of a def that an expression gives -/
theorem callv_tf {F : List FnN} {k : Nat} (G : GX X cl W C F k) {a : E} {es : List E} {t : TA} (ht : ∀ (f : Nat) (σ : L2.St) (H : Hp) (Q : VK), rdC cl bs W (fun env st => (evs C bs env es st).bind fun ds st1 => C bs f ds st1) σ H Q → tCallS (spF C cl f) (WE W) t σ H Q)
    {σ : L2.St} {H : Hp} {Q : VK} (q : rdC cl bs W (fun env st => (ev C bs env a false st).bind fun d st1 => match fncOf st1 d with | some f => (evs C bs env es st1).bind fun ds st2 => C bs f ds st2 | none => .stuck) σ H Q) :
    tF X (L2.CX X.prog X.w) k (WE W) (rdC cl bs W (fun env st => ev C bs env a false st)) t σ H Q := by
  obtain ⟨g, st, env, a0, er, p⟩ := q
  refine ⟨g, st, env, a0, er, Post.bind (Rep' := RepD N0) p fun d st1 v g1 H1 a1 s1 r1 p1 => ?_⟩
  cases hf : fncOf st1 d with
  | none => rw [hf] at p1; exact p1.elim
  | some f =>
    rw [hf] at p1
    cases d with
    | p x => cases hf
    | ref n =>
      have hf' : (match getS st1 n with | .fnc f => some f | _ => none) = some f := hf
      obtain ⟨b, hb, rfl⟩ := r1
      cases hn : getS st1 n with
      | fnc f' =>
        rw [hn] at hf'
        cases hf'
        obtain ⟨b', e1, e2⟩ := a1.ok.frz n (by rw [hn]; rfl)
        rw [hb] at e1; cases e1
        rw [hn] at e2
        obtain ⟨x, kw, h1, h2⟩ := G.ft.to f b e2
        obtain ⟨fa, fd, ps, m1, m2, m3, m4, _⟩ := G.fn f x kw h1
        have eb : b = fa := by
          have := h2.symm.trans m1
          injection this with this
          injection this
        subst eb
        exact ⟨b, fd, ps, spF C cl f, rfl, m3, m2, m4, ht f σ H1 _ ⟨g1, st1, env, a1, er.step s1, p1⟩⟩
      | _ => rw [hn] at hf'; cases hf'
theorem e_callv {F : List FnN} {k : Nat} (G : GX X cl W C F k) {a : E} {es : List E} {fe : Expr} {pes : List Expr} {pos : Pos} (ha : sE cl bs W C X fe a) (hc : CallsBy X fe pes pos) (ae : AE cl bs W C X es pes) : sE cl bs W C X (.Call fe pes [] pos) (.callv a es) := by
  refine se_fin (c := fun env st => (ev C bs env a false st).bind fun d st1 => match fncOf st1 d with | some f => (evs C bs env es st1).bind fun ds st2 => C bs f ds st2 | none => .stuck) ?_ (fun _ => rfl)
  cases ae with
  | nil =>
    refine (pe_callF0 G.room (passAt G.tk) ha.v hc).imp fun σ H Q q => callv_tf G (fun f σ H Q q => ?_) q
    obtain ⟨g, st, env, a0, er, p⟩ := q
    exact ⟨bs, g, st, [], a0, .nil, p⟩
  | cons k1 k2 k3 =>
    obtain ⟨k4, k5⟩ := (AE.cons k1 k2 k3).pa
    obtain ⟨s1, s2⟩ := Bool.and_eq_true_iff.mp k5
    exact (pe_callF G.room (passAt G.tk) ha.v k4 hc (star_cons s1 _ X.env) (stars_any s2)).imp fun σ H Q q => callv_tf G (fun f σ H Q q => call_sp q) q
theorem e_callk {k : Nat} {f : Nat} {fa : Addr} {fd : FuncData} {ps : List Str} {x : Str} {p pos : Pos} {names : List Str} {ks : List Nat} {es ke : List E} {pes : List Expr} {kws : List Keyword} (F0 : FnOk X.prog X.w X.K X.mg X.base (L2.CX X.prog X.w) k fa fd ps (spF C cl f)) (hr : Room k X.A) (hg : Gl X x) (hm : X.mg x = some (.ref fa))
    (hk : PySem.W.keepIn X.K (.ref fa) = true) (hb : KwOk X.K fd ps (es.length, names, ks)) (tk : Takes X W) (hdb : (x == ("__debug__" : Str)) = false) (hn : kwNames kws = some names) (ha : AE cl bs W C X es pes) (hke : AE cl bs W C X ke (kws.map kwVal)) :
    sE cl bs W C X (.Call (.Name x p) pes kws pos) (.callk f es ks ke) := by
  have hlen : names.length = ke.length := by
    have go : ∀ {kws : List Keyword} {names : List Str}, kwNames kws = some names → names.length = kws.length := by
      intro kws
      induction kws with
      | nil => intro names h; cases h; rfl
      | cons kw r ih =>
        intro names h
        obtain ⟨nm, e, p⟩ := kw
        cases nm with
        | none => cases h
        | some x =>
          have h' : (kwNames r).map (x :: ·) = some names := h
          cases q : kwNames r with
          | none => rw [q] at h'; cases h'
          | some ns =>
            rw [q] at h'
            cases h'
            rw [List.length_cons, List.length_cons, ih q]
    have go2 : ∀ {ke : List E} {pes : List Expr}, AE cl bs W C X ke pes → ke.length = pes.length := by
      intro ke pes h
      induction h with
      | nil => rfl
      | cons _ _ _ ih => rw [List.length_cons, List.length_cons, ih]
    rw [go hn, go2 hke, List.length_map]
  obtain ⟨k1, k2, k3⟩ := kw_all (pos := pos) (env := X.env) hn
  have hpk := pk_of hke
  -- the callee runs
  have run : ∀ {pins : List (Addr × Obj)} {σ : L2.St} {H : Hp} {s : Shared} {Q : VK} {us ws : List Value} {vs zs : List V}, Inv X pins σ H s → Vals vs us → Vals zs ws → vs.length = es.length → zs.length = ke.length → spF C cl f (vs ++ pickV ks zs) H Q (WE W σ) →
      wpAny (model X.prog X.w) X.A (call (.ref fa) us (names.zip ws)) (EP X pins σ Q) X.xe s := fun {pins σ H s Q us ws vs zs} I r rz l1 l2 h => by
    have r2 : Vals (vs ++ pickV ks zs) (us ++ pickV ks ws) := r.append (vals_pick rz ks)
    refine wpAny_call (codeAny_mono (F0.run X.A X.stack s H ⟨us, names.zip ws⟩ (us ++ pickV ks ws) (vs ++ pickV ks zs) Q (WE W σ) hr I.env0 (hb s us ws I.kIn (by rw [← r.length]; exact l1) (by rw [← rz.length, l2, hlen])) r2 h) fun r s' hq => ?_)
    cases r with
    | error e => exact passAt tk σ pins H s e s' I hq
    | ok fl =>
      cases fl with
      | ret u => exact I.after hq
      | next => exact False.elim hq
      | brk => exact False.elim hq
      | cont => exact False.elim hq
  have red : ∀ {σ : L2.St} {H : Hp} {Q : VK}, rdC cl bs W (fun env st => (evs C bs env es st).bind fun ds st1 => (evs C bs env ke st1).bind fun zs st2 => C bs f (place ds ks zs) st2) σ H Q →
      rdA cl bs W (fun env st => evs C bs env es st) σ H (fun vs H1 => rdA cl bs W (fun env st => evs C bs env ke st) σ H1 (fun zs H2 => spF C cl f (vs ++ pickV ks zs) H2 Q (WE W σ))) := fun {σ H Q} q => by
    obtain ⟨g, st, env, a, er, p⟩ := q
    refine ⟨g, st, env, a, er, Post.bind (Rep' := RepD N0) p fun ds st1 vs g1 H1 a1 s1 r1 p1 => ?_⟩
    refine ⟨g1, st1, env, a1, er.step s1, Post.bind (Rep' := RepD N0) p1 fun zs st2 ws g2 H2 a2 s2 r2 p2 => ?_⟩
    exact ⟨bs, g2, st2, place ds ks zs, a2, RepDs.app (s2.reps r1) (reps_pick r2 ks), p2⟩
  refine se_fin (c := fun env st => (evs C bs env es st).bind fun ds st1 => (evs C bs env ke st1).bind fun zs st2 => C bs f (place ds ks zs) st2) ⟨fun pins s σ H Q I q => ?_⟩ (fun _ => rfl)
  refine wpAny_Call_Name_kw (ld_glob I hg hm ?_ hdb)
  have q1 := rdA_len (red q)
  cases pes with
  | nil =>
    cases ha
    have q1 : rdA cl bs W (fun env st => evs C bs env ke st) σ H (fun zs H2 => spF C cl f ([] ++ pickV ks zs) H2 Q (WE W σ)) := by
      obtain ⟨g, st, env, a, er, p⟩ := q1
      exact (Post.fin (Rep := RepDs N0) p a .nil).2
    refine PySem.W.callWith_KW0 (h₀ := X.base) I.ok.mod.kin hk k1 ?_ (by rw [k3]; rfl)
    refine thn (hpk.run pos pins s σ H _ I (rdA_len q1)) fun ws s2 ⟨zs, H2, I2, rz, l2, q2⟩ => ⟨I2.kIn, ?_⟩
    rw [k2]
    exact run (us := []) (vs := []) I2 .nil rz rfl l2 q2
  | cons pe pes =>
    obtain ⟨a1, a2⟩ := ha.pa
    obtain ⟨b1, b2⟩ := Bool.and_eq_true_iff.mp a2
    refine PySem.W.callWith_KW (h₀ := X.base) I.ok.mod.kin hk k1 (thn (a1.run pos pins s σ H _ I q1) fun us s1 ⟨vs, H1, I1, r, l1, q2⟩ => ?_) (by rw [k3, stars_any a2]; rfl) (star_cons b1 pes X.env)
    refine thn (hpk.run pos pins s1 σ H1 _ I1 (rdA_len q2)) fun ws s2 ⟨zs, H2, I2, rz, l2, q3⟩ => ⟨I2.kIn, ?_⟩
    rw [k2]
    exact run I2 r rz l1 l2 q3
/-- a comprehension, its parts checked -/
theorem e_lc (G : GX X cl W C F k) {al : Bool} {own : List Nat} {tg : Tg} {kd : Nat} {src ifs : List E} {elt : E} {ptg pit pelt : Expr} {pifs : List Expr} {scope : Scope} {pos : Pos} (hb : BlkOk X.N X.env.scope scope (ownN X.N own)) (ho : (ownN X.N own).map (·.2) = own) (hin : ∀ i ∈ slots tg, i ∈ own)
    (hi : PI X ptg pit (rdJ cl bs W C X.K kd src)) (hns : noSet pit = true)
    (hg : ∀ (s : Shared) (H : Hp) (D : Addr) (c : List (Str × Addr)) (fp : List Addr), PG (X.blk s H scope (compEnvC scope c D X.env) fp) ptg (gT X.K tg))
    (ht : ∀ (s : Shared) (H : Hp) (D : Addr) (c : List (Str × Addr)) (fp : List Addr), PTs (X.blk s H scope (compEnvC scope c D X.env) fp) pifs (rdQ cl bs WF (fun env st => evAll C bs env ifs st)))
    (he : ∀ (s : Shared) (H : Hp) (D : Addr) (c : List (Str × Addr)) (fp : List Addr), PE (X.blk s H scope (compEnvC scope c D X.env) fp) pelt (rdC cl bs WF (fun env st => ev C bs env elt false st))) :
    sE cl bs W C X (.ListComp pelt [⟨ptg, pit, pifs, 0⟩] scope pos) (.lc al own tg kd src ifs elt) :=
  se_fin (c := fun env st => ev C bs env (.lc al own tg kd src ifs elt) false st) ((pe_lc G.calm G.nd hi hb hg ht he (noSet_ok hns X.env)).imp fun σ H Q q => by
    rw [ho]
    exact lc_rd hin q) (fun _ => rfl)
end
section
variable {cl : List (Addr × Option Str)} {bs : List Nat} {C : Cl} {F : List FnN} {N : List Str} {k : Nat}
mutual
theorem chkE_ok : ∀ (e : E) (pe : Expr) (X : Cx) (W : WX) (sc : Scope), GX X cl W C F k → X.N = N → X.env.scope = sc → chkE F N sc e pe = true → sE cl bs W C X pe e
  | .var i, pe, X, W, sc, G, hN, hsc, h => by
    unfold chkE at h
    split at h
    · simp only [Bool.and_eq_true, decide_eq_true_eq] at h
      obtain ⟨h1, h2, h3⟩ := h
      obtain ⟨n1, n2⟩ := okN_ok h3
      exact e_var (by rw [hN]; exact h1) (visB_ok hsc h2) n1 n2
    · cases h
  | .cst d, pe, X, W, sc, G, hN, hsc, h => by
    unfold chkE at h
    rcases (Bool.or_eq_true _ _).mp h with h | h
    · exact e_cstC h
    · exact e_cn G hsc h
  | .op o es, pe, X, W, sc, G, hN, hsc, h => by
    unfold chkE at h
    split at h
    · split at h
      · exact e_tupS (chkSp_ok _ es _ X W sc G hN hsc h)
      · cases h
    · split at h
      · exact e_lstS (chkSp_ok _ es _ X W sc G hN hsc h)
      · cases h
    · split at h
      · rename_i pes ho
        exact opArgs_ok G hsc ho (chkEs_ok es pes X W sc G hN hsc h)
      · cases h
  | .meth m o es, pe, X, W, sc, G, hN, hsc, h => by
    unfold chkE at h
    split at h
    · rename_i po pes hm
      obtain ⟨h1, h2⟩ := Bool.and_eq_true_iff.mp h
      exact methArgs_ok G hm (chkE_ok o po X W sc G hN hsc h1) (chkEs_ok es pes X W sc G hN hsc h2)
    · cases h
  | .slc al a lo hi, pe, X, W, sc, G, hN, hsc, h => by
    unfold chkE at h
    split at h
    · rename_i pa plo phi _ _
      simp only [Bool.and_eq_true] at h
      obtain ⟨h1, h2, h3⟩ := h
      exact e_slc (chkE_ok a pa X W sc G hN hsc h1) (chkP_ok lo plo X W sc G hN hsc h2) (chkP_ok hi phi X W sc G hN hsc h3)
    · cases h
  | .call f es, pe, X, W, sc, G, hN, hsc, h => by
    unfold chkE at h
    split at h
    · rename_i x _ pes _
      simp only [Bool.and_eq_true, decide_eq_true_eq] at h
      obtain ⟨⟨h1, h2, h3⟩, h4⟩ := h
      obtain ⟨kw, hkw⟩ := fnN_of h1
      obtain ⟨fa, fd, ps, m1, m2, m3, m4, _⟩ := G.fn f x kw hkw
      have ae := chkEs_ok es pes X W sc G hN hsc h4
      obtain ⟨n1, n2⟩ := okN_ok h3
      cases ae with
      | nil => exact e_call0 m2 G.room (glB_ok hsc h2) m1 m3 m4 G.tk n1
      | cons k1 k2 k3 =>
        obtain ⟨k4, k5⟩ := (AE.cons k1 k2 k3).pa
        exact e_call m2 G.room (glB_ok hsc h2) m1 m3 m4 G.tk n1 k4 k5
    · cases h
  | .callk f es ks ke, pe, X, W, sc, G, hN, hsc, h => by
    unfold chkE at h
    split at h
    · rename_i x _ pes kws _
      split at h
      · rename_i names hn
        simp only [Bool.and_eq_true] at h
        obtain ⟨⟨h1, h2, h3⟩, h4, h5⟩ := h
        obtain ⟨kw, hkw, hq⟩ := fnK_of h1
        obtain ⟨fa, fd, ps, m1, m2, m3, m4, m5⟩ := G.fn f x kw hkw
        obtain ⟨n1, n2⟩ := okN_ok h3
        exact e_callk m2 G.room (glB_ok hsc h2) m1 m3 (m5 _ hq) G.tk n1 hn (chkEs_ok es pes X W sc G hN hsc h4) (chkEs_ok ke _ X W sc G hN hsc h5)
      · cases h
    · cases h
  | .fnv f, pe, X, W, sc, G, hN, hsc, h => by
    unfold chkE at h
    split at h
    · rename_i x _
      simp only [Bool.and_eq_true] at h
      obtain ⟨h1, h2, h3⟩ := h
      obtain ⟨kw, hkw⟩ := fnN_of h1
      obtain ⟨fa, fd, ps, m1, m2, m3, m4, _⟩ := G.fn f x kw hkw
      exact e_fnv (glB_ok hsc h2) m1 (G.ft.of f x kw fa hkw m1) (okN_ok h3).1
    · cases h
  | .callv a es, pe, X, W, sc, G, hN, hsc, h => by
    unfold chkE at h
    split at h
    · rename_i fe pes pos
      simp only [Bool.and_eq_true] at h
      obtain ⟨h1, h2, h3⟩ := h
      refine e_callv G (chkE_ok a fe X W sc G hN hsc h2) ?_ (chkEs_ok es pes X W sc G hN hsc h3)
      split at h1
      · exact callsBy_sub
      · exact callsBy_name
      · cases h1
    · cases h
  | .dcmp own tg kd src ifs ke ve, pe, X, W, sc, G, hN, hsc, h => by
    unfold chkE at h
    have hun := G.room.un
    split at h
    · rename_i pk pv ptg pit pifs scope _
      simp only [Bool.and_eq_true] at h
      obtain ⟨⟨⟨h1, h2⟩, h3, h4⟩, h5, h6, h7, h8⟩ := h
      unfold blkB at h1
      obtain ⟨b1, b2⟩ := Bool.and_eq_true_iff.mp h1
      have b2 := of_decide_eq_true b2
      have hin : ∀ i ∈ slots tg, i ∈ own := fun i hi => by
        have := List.all_eq_true.mp h2 i hi
        simpa using this
      split at h5
      · rename_i pes hs
        have hsrc := srcArgs_ok (bs := bs) G hsc hs (chkEs_ok src pes X W sc G hN hsc h5)
        have hsc2 : ∀ (s : Shared) (H : Hp) (D : Addr) (c : List (Str × Addr)) (fp : List Addr), (X.blk s H scope (compEnvC scope c D X.env) fp).env.scope = relS scope sc := fun s H D c fp => by
          show relS scope X.env.scope = _
          rw [hsc]
        refine e_dc G.calm G.nd (by omega) (ownX := ownN N own) (by rw [hN, hsc]; exact blkOk_by b1) b2 hin hsrc (noSet_ok h4 X.env) (fun s H D c fp => (chkT_ok (X := X.blk s H scope (compEnvC scope c D X.env) fp) G.calm G.nd tg ptg ?_).1) (fun s H D c fp => ?_) (fun s H D c fp => ?_) (fun s H D c fp => ?_)
        · rw [hsc2 s H D c fp]
          show chkT X.N _ _ tg ptg = true
          rw [hN]; exact h3
        · exact chkI_ok ifs pifs (X.blk s H scope (compEnvC scope c D X.env) fp) WF (relS scope sc) (G.blk s H scope _ fp) hN (hsc2 s H D c fp) h6
        · exact (chkE_ok ke pk (X.blk s H scope (compEnvC scope c D X.env) fp) WF (relS scope sc) (G.blk s H scope _ fp) hN (hsc2 s H D c fp) h7).v
        · exact (chkE_ok ve pv (X.blk s H scope (compEnvC scope c D X.env) fp) WF (relS scope sc) (G.blk s H scope _ fp) hN (hsc2 s H D c fp) h8).v
      · cases h5
    · cases h
  | .nvr, pe, X, W, sc, G, hN, hsc, h => ⟨⟨fun _ _ _ _ _ _ ⟨_, _, _, _, _, p⟩ => False.elim p⟩, ⟨fun _ _ _ _ _ _ ⟨_, _, _, _, _, p⟩ => False.elim p⟩⟩
  | .and a b, pe, X, W, sc, G, hN, hsc, h => by
    unfold chkE at h
    split at h
    · rename_i pa pb rest pos
      obtain ⟨h1, h2⟩ := Bool.and_eq_true_iff.mp h
      have ha := chkE_ok a pa X W sc G hN hsc h1
      cases rest with
      | nil =>
        have hb := chkE_ok b pb X W sc G hN hsc h2
        exact e_and ha (bool_one hb) (pw_and1 hb.t)
      | cons r rs =>
        have hb := chkE_ok b (.BoolOp .And (pb :: r :: rs) pos) X W sc G hN hsc h2
        exact e_and ha hb.v (pw_all hb.t)
    · cases h
  | .or a b, pe, X, W, sc, G, hN, hsc, h => by
    unfold chkE at h
    split at h
    · rename_i pa pb rest pos
      obtain ⟨h1, h2⟩ := Bool.and_eq_true_iff.mp h
      have ha := chkE_ok a pa X W sc G hN hsc h1
      cases rest with
      | nil =>
        have hb := chkE_ok b pb X W sc G hN hsc h2
        exact e_or ha (bool_one hb) (pw_or1 hb.t)
      | cons r rs =>
        have hb := chkE_ok b (.BoolOp .Or (pb :: r :: rs) pos) X W sc G hN hsc h2
        exact e_or ha hb.v (pw_all hb.t)
    · cases h
  | .not a, pe, X, W, sc, G, hN, hsc, h => by
    unfold chkE at h
    split at h
    · rename_i pa _
      exact e_not (chkE_ok a pa X W sc G hN hsc h)
    · cases h
  | .ife c a b, pe, X, W, sc, G, hN, hsc, h => by
    unfold chkE at h
    split at h
    · rename_i pc pa pb _
      simp only [Bool.and_eq_true] at h
      obtain ⟨h1, h2, h3⟩ := h
      exact e_ife (chkE_ok c pc X W sc G hN hsc h1) (chkE_ok a pa X W sc G hN hsc h2) (chkE_ok b pb X W sc G hN hsc h3)
    · cases h
  | .chain o1 o2 a b c, pe, X, W, sc, G, hN, hsc, h => by
    unfold chkE at h
    have hu := G.room.units
    have hun := G.room.un
    split at h
    · rename_i pa op op' pb pc _
      simp only [Bool.and_eq_true] at h
      obtain ⟨⟨⟨h1, h2⟩, h3⟩, h4, h5, h6⟩ := h
      obtain ⟨k1, k2⟩ := cmpC_ok (cl := cl) (bs := bs) (X := X) hu (by omega) h1
      obtain ⟨k3, k4⟩ := cmpC_ok (cl := cl) (bs := bs) (X := X) hu (by omega) h2
      exact e_chain k1 k3 k2 k4 (chkE_ok a pa X W sc G hN hsc h4) (chkE_ok b pb X W sc G hN hsc h5) (chkE_ok c pc X W sc G hN hsc h6) (by simpa using h3)
    · cases h
  | .lc al own tg kd src ifs elt, pe, X, W, sc, G, hN, hsc, h => by
    unfold chkE at h
    split at h
    · rename_i pelt ptg pit pifs scope _
      simp only [Bool.and_eq_true] at h
      obtain ⟨⟨⟨h1, h2⟩, h3, h4⟩, h5, h6, h7⟩ := h
      unfold blkB at h1
      obtain ⟨b1, b2⟩ := Bool.and_eq_true_iff.mp h1
      have b2 := of_decide_eq_true b2
      have hin : ∀ i ∈ slots tg, i ∈ own := fun i hi => by
        have := List.all_eq_true.mp h2 i hi
        simpa using this
      split at h5
      · rename_i pes hs
        have hsrc := srcArgs_ok (bs := bs) G hsc hs (chkEs_ok src pes X W sc G hN hsc h5)
        have hsc2 : ∀ (s : Shared) (H : Hp) (D : Addr) (c : List (Str × Addr)) (fp : List Addr), (X.blk s H scope (compEnvC scope c D X.env) fp).env.scope = relS scope sc := fun s H D c fp => by
          show relS scope X.env.scope = _
          rw [hsc]
        refine e_lc G (by rw [hN, hsc]; exact blkOk_by b1) (by rw [hN]; exact b2) hin hsrc h4 (fun s H D c fp => (chkT_ok (X := X.blk s H scope (compEnvC scope c D X.env) fp) G.calm G.nd tg ptg ?_).1) (fun s H D c fp => ?_) (fun s H D c fp => ?_)
        · rw [hsc2 s H D c fp]
          show chkT X.N _ _ tg ptg = true
          rw [hN]; exact h3
        · exact chkI_ok ifs pifs (X.blk s H scope (compEnvC scope c D X.env) fp) WF (relS scope sc) (G.blk s H scope _ fp) hN (hsc2 s H D c fp) h6
        · exact (chkE_ok elt pelt (X.blk s H scope (compEnvC scope c D X.env) fp) WF (relS scope sc) (G.blk s H scope _ fp) hN (hsc2 s H D c fp) h7).v
      · cases h5
    · cases h
theorem chkEs_ok : ∀ (es : List E) (pes : List Expr) (X : Cx) (W : WX) (sc : Scope), GX X cl W C F k → X.N = N → X.env.scope = sc → chkEs F N sc es pes = true → AE cl bs W C X es pes
  | [], pes, X, W, sc, G, hN, hsc, h => by
    unfold chkEs at h
    split at h
    · exact .nil
    · cases h
  | e :: es, pes, X, W, sc, G, hN, hsc, h => by
    unfold chkEs at h
    split at h
    · rename_i pe pes
      simp only [Bool.and_eq_true] at h
      obtain ⟨h1, h2, h3⟩ := h
      exact .cons (chkE_ok e pe X W sc G hN hsc h2) h1 (chkEs_ok es pes X W sc G hN hsc h3)
    · cases h
theorem chkSp_ok : ∀ (ms : List Bool) (es : List E) (pes : List Expr) (X : Cx) (W : WX) (sc : Scope), GX X cl W C F k → X.N = N → X.env.scope = sc → chkSp F N sc ms es pes = true → SpE cl bs W C X ms es pes
  | ms, [], pes, X, W, sc, G, hN, hsc, h => by
    unfold chkSp at h
    split at h
    · exact .nil
    · cases h
  | ms, e :: es, pes, X, W, sc, G, hN, hsc, h => by
    unfold chkSp at h
    split at h
    · rename_i ms pe pes
      simp only [Bool.and_eq_true] at h
      obtain ⟨h1, h2, h3⟩ := h
      exact .one (chkE_ok e pe X W sc G hN hsc h2) h1 (chkSp_ok ms es pes X W sc G hN hsc h3)
    · rename_i ms pe _ pes
      obtain ⟨h1, h2⟩ := Bool.and_eq_true_iff.mp h
      obtain ⟨e', rfl, h3⟩ := chkSt_ok e pe X W sc G hN hsc h1
      exact .star h3 (chkSp_ok ms es pes X W sc G hN hsc h2)
    · cases h
theorem chkSt_ok : ∀ (e : E) (pe : Expr) (X : Cx) (W : WX) (sc : Scope), GX X cl W C F k → X.N = N → X.env.scope = sc → chkSt F N sc e pe = true → ∃ e', e = .op .spl [e'] ∧ sE cl bs W C X pe e'
  | .op o es, pe, X, W, sc, G, hN, hsc, h => by
    unfold chkSt at h
    split at h
    · obtain ⟨h1, h2⟩ := Bool.and_eq_true_iff.mp h
      obtain ⟨e', rfl, h3, _⟩ := (chkEs_ok es [pe] X W sc G hN hsc h2).one
      exact ⟨e', rfl, h3⟩
    · cases h
  | .var _, pe, X, W, sc, G, hN, hsc, h => by unfold chkSt at h; cases h
  | .cst _, pe, X, W, sc, G, hN, hsc, h => by unfold chkSt at h; cases h
  | .meth _ _ _, pe, X, W, sc, G, hN, hsc, h => by unfold chkSt at h; cases h
  | .slc _ _ _ _, pe, X, W, sc, G, hN, hsc, h => by unfold chkSt at h; cases h
  | .call _ _, pe, X, W, sc, G, hN, hsc, h => by unfold chkSt at h; cases h
  | .callk _ _ _ _, pe, X, W, sc, G, hN, hsc, h => by unfold chkSt at h; cases h
  | .and _ _, pe, X, W, sc, G, hN, hsc, h => by unfold chkSt at h; cases h
  | .or _ _, pe, X, W, sc, G, hN, hsc, h => by unfold chkSt at h; cases h
  | .not _, pe, X, W, sc, G, hN, hsc, h => by unfold chkSt at h; cases h
  | .ife _ _ _, pe, X, W, sc, G, hN, hsc, h => by unfold chkSt at h; cases h
  | .chain _ _ _ _ _, pe, X, W, sc, G, hN, hsc, h => by unfold chkSt at h; cases h
  | .nvr, pe, X, W, sc, G, hN, hsc, h => by unfold chkSt at h; cases h
  | .fnv _, pe, X, W, sc, G, hN, hsc, h => by unfold chkSt at h; cases h
  | .callv _ _, pe, X, W, sc, G, hN, hsc, h => by unfold chkSt at h; cases h
  | .dcmp _ _ _ _ _ _ _, pe, X, W, sc, G, hN, hsc, h => by unfold chkSt at h; cases h
  | .lc _ _ _ _ _ _ _, pe, X, W, sc, G, hN, hsc, h => by unfold chkSt at h; cases h
theorem chkP_ok : ∀ (es : List E) (pe : Option Expr) (X : Cx) (W : WX) (sc : Scope), GX X cl W C F k → X.N = N → X.env.scope = sc → chkP F N sc es pe = true → PO X pe (rdP cl bs W (fun env st => evPart C bs env es st))
  | [], pe, X, W, sc, G, hN, hsc, h => by
    unfold chkP at h
    split at h
    · exact po_no
    · cases h
  | e :: es, pe, X, W, sc, G, hN, hsc, h => by
    unfold chkP at h
    split at h
    · rename_i pe
      exact po_one (chkE_ok e pe X W sc G hN hsc h)
    · cases h
theorem chkI_ok : ∀ (es : List E) (pes : List Expr) (X : Cx) (W : WX) (sc : Scope), GX X cl W C F k → X.N = N → X.env.scope = sc → chkI F N sc es pes = true → PTs X pes (rdQ cl bs W (fun env st => evAll C bs env es st))
  | [], pes, X, W, sc, G, hN, hsc, h => by
    unfold chkI at h
    split at h
    · exact pts_no
    · cases h
  | e :: es, pes, X, W, sc, G, hN, hsc, h => by
    unfold chkI at h
    split at h
    · rename_i pe
      exact pts_if (chkE_ok e pe X W sc G hN hsc h)
    · cases h
end
end
end Ev

/-! Ev14: readings of statements; one rule for each form that raises nothing of its own. -/
namespace Ev
variable [FnTab] [CnTab]
open PySem PySem.Spec PyProof.Rows L2

/-- what is wanted behind a statement -/
def PostS (cl : List (Addr × Option Str)) (bs : List Nat) (g : Gh) (H : Hp) (st : Sto) (r : RS) (D : Ends) (W : WX) : Prop :=
  match r with
  | .nx env st' => ∀ σ' g' H', At N0 bs g' H' st' → Step g H st g' H' st' → EnvR g' env σ' → D.nx σ' H'
  | .rt d st' => ∀ v g' H', At N0 bs g' H' st' → Step g H st g' H' st' → RepD N0 g' d v → D.rt v H'
  | .bk env st' => ∀ σ' g' H', At N0 bs g' H' st' → Step g H st g' H' st' → EnvR g' env σ' → D.bk σ' H'
  | .ct env st' => ∀ σ' g' H', At N0 bs g' H' st' → Step g H st g' H' st' → EnvR g' env σ' → D.ct σ' H'
  | .exn c x env st' => ∀ cls dx σ' g' H', At N0 bs g' H' st' → Step g H st g' H' st' → EnvR g' env σ' → ExnR cl g' c x cls dx → W cls dx σ' H'
  | .stuck => False
section
variable {cl : List (Addr × Option Str)} {bs : List Nat} {g g1 : Gh} {H H1 : Hp} {st st1 : Sto} {r : RS} {D : Ends} {W : WX} {env : Env} {σ : L2.St}
theorem PostS.later (h : PostS cl bs g H st r D W) (s : Step g H st g1 H1 st1) : PostS cl bs g1 H1 st1 r D W := by
  cases r with
  | nx env st' => exact fun σ' g' H' a s' e => h σ' g' H' a (s.trans s') e
  | rt d st' => exact fun v g' H' a s' e => h v g' H' a (s.trans s') e
  | bk env st' => exact fun σ' g' H' a s' e => h σ' g' H' a (s.trans s') e
  | ct env st' => exact fun σ' g' H' a s' e => h σ' g' H' a (s.trans s') e
  | exn c x env st' => exact fun cls dx σ' g' H' a s' e x => h cls dx σ' g' H' a (s.trans s') e x
  | stuck => exact h
theorem to_post {α β : Type} {Rep : Gh → α → β → Prop} {m : R α} {f : α → Sto → RS} {Q : β → Hp → Prop} (h : PostS cl bs g H st (m.to env f) D W) (er : EnvR g env σ)
    (k : ∀ d st1 v g1 H1, At N0 bs g1 H1 st1 → Step g H st g1 H1 st1 → Rep g1 d v → PostS cl bs g1 H1 st1 (f d st1) D W → Q v H1) : Post cl bs Rep g H st m Q (fun a b H' => W a b σ H') := by
  cases m with
  | ok d st' => exact fun v g' H' a s rep => k d st' v g' H' a s rep (h.later s)
  | exn c x st' => exact fun cls dx g' H' a s e => h cls dx σ g' H' a s (er.step s) e
  | stuck => exact h
theorem toB_post {m : R Ev.D} {f : Bool → Sto → RS} {Qb : Bool → Hp → Prop} (h : PostS cl bs g H st (m.toT env f) D W) (er : EnvR g env σ)
    (k : ∀ b st1 g1 H1, At N0 bs g1 H1 st1 → Step g H st g1 H1 st1 → PostS cl bs g1 H1 st1 (f b st1) D W → Qb b H1) : PostD cl bs g H st m (fun v H => ∃ b, v = .bl b ∧ Qb b H) (fun a b H' => W a b σ H') := by
  match m, h with
  | .ok (.p (.bool b)) st', h => exact fun v g' H' a s rep => ⟨b, dp_bl rep, k b st' g' H' a s (h.later s)⟩
  | .exn c x st', h => exact fun cls dx g' H' a s e => h cls dx σ g' H' a s (er.step s) e
  | .stuck, h => exact h.elim
  | .ok (.p .none) st', h => exact h.elim
  | .ok (.p (.int _)) st', h => exact h.elim
  | .ok (.p (.str _)) st', h => exact h.elim
  | .ok (.p (.list _)) st', h => exact h.elim
  | .ok (.p (.tuple _)) st', h => exact h.elim
  | .ok (.p (.dict _)) st', h => exact h.elim
  | .ok (.ref _) st', h => exact h.elim
end
def rdS (cl : List (Addr × Option Str)) (bs : List Nat) (W : WX) (c : Env → Sto → RS) : TS := fun D σ H => ∃ g st env, At N0 bs g H st ∧ EnvR g env σ ∧ PostS cl bs g H st (c env st) D W
abbrev sS (cl : List (Addr × Option Str)) (bs : List Nat) (W : WX) (C : Cl) (fl : Nat) (X : Cx) (p : Stmt) (s : S) : Prop := PS X p (rdS cl bs W (fun env st => exec C bs fl s env st))
abbrev sSs (cl : List (Addr × Option Str)) (bs : List Nat) (W : WX) (C : Cl) (fl : Nat) (X : Cx) (p : List Stmt) (s : List S) : Prop := PSs X p (rdS cl bs W (fun env st => execs C bs fl s env st))
theorem _root_.L2.PS.imp {X : Cx} {p : Stmt} {t t' : TS} (h : PS X p t) (k : ∀ D σ H, t' D σ H → t D σ H) : PS X p t' := ⟨fun pins s σ H D I q => h.run pins s σ H D I (k D σ H q)⟩
theorem _root_.L2.PSs.imp {X : Cx} {p : List Stmt} {t t' : TS} (h : PSs X p t) (k : ∀ D σ H, t' D σ H → t D σ H) : PSs X p t' := ⟨fun pins s σ H D I q => h.run pins s σ H D I (k D σ H q)⟩
section
variable {cl : List (Addr × Option Str)} {bs : List Nat} {W : WX} {C : Cl} {fl : Nat} {X : Cx} {pos : Pos}
/-! ### rows of statements -/
theorem ss_nil : sSs cl bs W C fl X [] [] := pss_nil.imp fun D σ H q => by
  obtain ⟨g, st, env, a, er, p⟩ := q
  exact p σ g H a Step.refl er
theorem ss_cons {p : Stmt} {ps : List Stmt} {s : S} {ss : List S} (h : sS cl bs W C fl X p s) (hs : sSs cl bs W C fl X ps ss) : sSs cl bs W C fl X (p :: ps) (s :: ss) := (pss_cons h hs).imp fun D σ H q => by
  obtain ⟨g, st, env, a, er, p⟩ := q
  refine ⟨g, st, env, a, er, ?_⟩
  have p : PostS cl bs g H st (match exec C bs fl s env st with
    | .nx env1 st1 => execs C bs fl ss env1 st1
    | r => r) D W := p
  show PostS cl bs g H st (exec C bs fl s env st) _ W
  cases e : exec C bs fl s env st with
  | nx env1 st1 =>
    rw [e] at p
    intro σ' g' H' a' s' er'
    exact ⟨g', st1, env1, a', er', p.later s'⟩
  | rt d st' => rw [e] at p; exact p
  | bk env st' => rw [e] at p; exact p
  | ct env st' => rw [e] at p; exact p
  | exn c x env st' => rw [e] at p; exact p
  | stuck => rw [e] at p; exact p
/-! ### small statements -/
theorem s_pass : sS cl bs W C fl X (.Pass pos) .pass := ps_pass.imp fun D σ H q => by
  obtain ⟨g, st, env, a, er, p⟩ := q
  exact p σ g H a Step.refl er
theorem s_brk : sS cl bs W C fl X (.Break pos) .brk := ps_break.imp fun D σ H q => by
  obtain ⟨g, st, env, a, er, p⟩ := q
  exact p σ g H a Step.refl er
theorem s_cnt : sS cl bs W C fl X (.Continue pos) .cnt := ps_continue.imp fun D σ H q => by
  obtain ⟨g, st, env, a, er, p⟩ := q
  exact p σ g H a Step.refl er
theorem s_retN : sS cl bs W C fl X (.Return none pos) .retN := ps_retN.imp fun D σ H q => by
  obtain ⟨g, st, env, a, er, p⟩ := q
  exact p .non g H a Step.refl (show Dp N0 _ _ _ from .non)
theorem s_ret {pe : Expr} {e : E} (h : sE' cl bs W C X pe e) : sS cl bs W C fl X (.Return (some pe) pos) (.ret e) := (ps_ret h).imp fun D σ H q => by
  obtain ⟨g, st, env, a, er, p⟩ := q
  exact ⟨g, st, env, a, er, to_post p er fun d st1 v g1 H1 a1 s1 r1 p1 => p1 v g1 H1 a1 Step.refl r1⟩
def noComp : Expr → Bool
  | .ListComp _ _ _ _ => false
  | .SetComp _ _ _ _ => false
  | .DictComp _ _ _ _ _ => false
  | _ => true
theorem noComp_ok {e : Expr} (h : noComp e = true) (t : Option Expr) (l : Nat) (env : PySem.Env) : swapsWith e t l env = pure false := by
  cases e <;> first | rfl | cases h
theorem s_ex {pe : Expr} {e : E} (h : sE' cl bs W C X pe e) (hn : noComp pe = true) : sS cl bs W C fl X (.Expr pe pos) (.ex e) := (ps_expr h (noComp_ok hn _ _ _)).imp fun D σ H q => by
  obtain ⟨g, st, env, a, er, p⟩ := q
  exact ⟨g, st, env, a, er, to_post p er fun d st1 v g1 H1 a1 s1 r1 p1 => p1 σ g1 H1 a1 Step.refl (er.step s1)⟩
theorem s_ife {pc : Expr} {pa pb : List Stmt} {c : E} {a b : List S} (hc : sE cl bs W C X pc c) (ha : sSs cl bs W C fl X pa a) (hb : sSs cl bs W C fl X pb b) : sS cl bs W C fl X (.If pc pa pb pos) (.ife c a b) := (ps_if hc.t ha hb).imp fun D σ H q => by
  obtain ⟨g, st, env, a, er, p⟩ := q
  refine ⟨g, st, env, a, er, toB_post p er fun t st1 g1 H1 a1 s1 p1 => ?_⟩
  cases t with
  | true => exact ⟨g1, st1, env, a1, er.step s1, p1⟩
  | false => exact ⟨g1, st1, env, a1, er.step s1, p1⟩
/-! ### assignments -/
theorem asg_post {d : Ev.D} {v : V} {t : Tg} {g : Gh} {H : Hp} {st : Sto} {env : Env} {σ : L2.St} {D : Ends} {K : PySem.W.Frag} (a : At N0 bs g H st) (er : EnvR g env σ) (r : RepD N0 g d v) (p : PostS cl bs g H st (nxt (Ev.asg t d env) st) D W) : gT K t v σ H D.nx := by
  cases z : Ev.asg t d env with
  | none => rw [z] at p; exact p.elim
  | some env' =>
    rw [z] at p
    refine gT_mono (g := g) (H := H) t v σ H _ _ (asg_ok t d v env env' σ r er z a.ok.sub) fun σ2 H2 ⟨e, er2, _⟩ => ?_
    subst e
    exact p σ2 g H2 a Step.refl er2
theorem s_asg {pt pe : Expr} {t : Tg} {e : E} (hg : PG X pt (gT X.K t)) (h : sE' cl bs W C X pe e) (hs : swapsWithSole [pt] pe pos.line X.env = pure false) (hw : swappedStores [pt] pe X.env = pure none) (h1 : noStar pt = true) : sS cl bs W C fl X (.Assign [pt] pe pos) (.asg t e) :=
  (ps_asg h hg hs hw (by rw [ae_cons h1]; rfl)).imp fun D σ H q => by
    obtain ⟨g, st, env, a, er, p⟩ := q
    exact ⟨g, st, env, a, er, to_post p er fun d st1 v g1 H1 a1 s1 r1 p1 => asg_post a1 (er.step s1) r1 p1⟩
end
end Ev

/-! Ev15: several targets at once, o[i] = e, for, while. -/
namespace Ev
variable [FnTab] [CnTab]
open PySem PySem.Spec PyProof.Rows L2
section
variable {cl : List (Addr × Option Str)} {bs : List Nat} {W : WX} {C : Cl} {fl : Nat} {X : Cx} {pos : Pos}
/-! ### a, b = x, y and a, b, c = x, y, z by swapped stores -/
theorem asgs_post {g : Gh} {H : Hp} {st : Sto} {D : Ends} {o : Option Env} (p : PostS cl bs g H st (nxt o st) D W) : ∃ env', o = some env' ∧ PostS cl bs g H st (.nx env' st) D W := by
  cases o with
  | none => exact p.elim
  | some env' => exact ⟨env', rfl, p⟩
theorem s_par2 {i j : Nat} {es : List E} {pt : Stmt} (h : PS X pt (tPar i j (rdA cl bs W (fun env st => evs C bs env es st)))) : sS cl bs W C fl X pt (.par [.name i, .name j] es) := h.imp fun D σ H q => by
  obtain ⟨g, st, env, a, er, p⟩ := q
  refine ⟨g, st, env, a, er, to_post (Rep := RepDs N0) p er fun ds st1 vs g1 H1 a1 s1 r1 p1 => ?_⟩
  obtain ⟨env', e, p1⟩ := asgs_post p1
  match ds, r1, e with
  | [d, d2], r1, e =>
    obtain ⟨v, w, rfl, r2, r3⟩ := reps2 r1
    cases e
    exact ⟨v, w, rfl, p1 _ g1 H1 a1 Step.refl (((er.step s1).set i r2).set j r3)⟩
theorem s_par3 {i j l : Nat} {es : List E} {pt : Stmt} (h : PS X pt (tPar3 i j l (rdA cl bs W (fun env st => evs C bs env es st)))) : sS cl bs W C fl X pt (.par [.name i, .name j, .name l] es) := h.imp fun D σ H q => by
  obtain ⟨g, st, env, a, er, p⟩ := q
  refine ⟨g, st, env, a, er, to_post (Rep := RepDs N0) p er fun ds st1 vs g1 H1 a1 s1 r1 p1 => ?_⟩
  obtain ⟨env', e, p1⟩ := asgs_post p1
  match ds, r1, e with
  | [d, d2, d3], r1, e =>
    match vs, r1 with
    | [v, w, z], .cons r2 (.cons r3 (.cons r4 .nil)) =>
      cases e
      exact ⟨v, w, z, rfl, p1 _ g1 H1 a1 Step.refl ((((er.step s1).set i r2).set j r3).set l r4)⟩
/-! ### name = [..] on one line -/
theorem s_setLc {i : Nat} {e : E} {p : Stmt} {te : TE} (h : PS X p (tAsg te (gName i))) (k : ∀ σ H Q, rdC cl bs W (fun env st => ev C bs env e false st) σ H Q → te σ H Q) : sS cl bs W C fl X p (.asg (.name i) e) := h.imp fun D σ H q => by
  obtain ⟨g, st, env, a, er, p⟩ := q
  exact k σ H _ ⟨g, st, env, a, er, to_post (Rep := RepD N0) p er fun d st1 v g1 H1 a1 s1 r1 p1 => asg_post (K := X.K) a1 (er.step s1) r1 p1⟩
/-! ### o[i] = e -/
def rSet (cl : List (Addr × Option Str)) (bs : List Nat) : TSet := fun o i v H Q => ∃ g st env d x y D W σ, At N0 bs g H st ∧ EnvR g env σ ∧ RepD N0 g x o ∧ RepD N0 g y i ∧ RepD N0 g d v ∧ PostS cl bs g H st (setItem bs x y d env st) D W ∧ ∀ H', D.nx σ H' → Q H'
theorem s_setItem (hu : X.A.units + 9 < cLine) : PSet X (rSet cl bs) := by
  intro pins s σ H o i v ov iv u Q I ro ri rv h
  obtain ⟨g, st, env, d, x, y, D, W, σ', a, er, rx, ry, rd, p, k⟩ := h
  unfold Ev.setItem at p
  split at p
  · rename_i n kk
    have dicts : PostS cl bs g H st (match putD bs n (getS st n) kk d with | some o' => RS.nx env (st.set n o') | none => .stuck) D W → wpAny (model X.prog X.w) X.A (PySem.setItem ov iv u) (fun _ s' => ∃ H', Inv X pins σ H' s' ∧ Q H') X.xe s := fun p => by
      cases hp : putD bs n (getS st n) kk d with
      | none => rw [hp] at p; exact p.elim
      | some o' =>
        rw [hp] at p
        obtain ⟨b, hb, rfl⟩ := rx
        cases (show ov = Value.ref b from ro)
        exact s_putD hu I a hb hp ry rd ri rv fun H' s' I' a1 s1 => ⟨H', I', k _ (p σ' g _ a1 s1 (er.step s1))⟩
    cases hn : getS st n with
    | lst xs =>
      rw [hn] at p
      dsimp only at p
      cases kk with
      | int j =>
        dsimp only at p
        cases hm : Ev.ixN xs.length j with
        | none => rw [hm] at p; exact p.elim
        | some m =>
          rw [hm] at p
          dsimp only at p
          cases hw : okW bs n d with
          | false => rw [hw] at p; exact p.elim
          | true =>
            rw [hw] at p
            obtain ⟨b, ws, h1, h2, h3, h4⟩ := a.ok.lstAt hn
            obtain ⟨b', hb, rfl⟩ := rx
            have eb := Option.some.inj (hb.symm.trans h1)
            subst eb
            have e2 := dp_int ry
            subst e2
            have hmu : mutable (getS st n) = true := by rw [hn]; rfl
            have low : ∀ q ∈ bs, n < q → soLt q (.lst (xs.set m d)) := fun q hq hnq z hz => by
              rcases List.mem_or_eq_of_mem_set hz with hz | hz
              · have := (a.w q hq).2 n hnq
                rw [hn] at this
                exact this z hz
              · rw [hz]; exact okW_ok hw q hq hnq
            obtain ⟨a1, s1⟩ := at_write (so := .lst (xs.set m d)) (ho := .lst (ws.set m v)) a hmu hb rfl ⟨_, rfl, RepDs.set h4 m rd⟩ low
            refine set_list pins s σ H _ _ v ov iv u Q I ro ri rv ⟨b', ws, j, m, rfl, rfl, h3, ?_, k _ (p σ' g _ a1 s1 (er.step s1))⟩
            rw [← h4.len, ← ixN_eq]
            exact hm
      | _ => exact p.elim
    | _ => rw [hn] at p; exact dicts (by rw [hn]; exact p)
  · exact p.elim
theorem s_sub (hu : X.A.units + 9 < cLine) {po pi pe : Expr} {tpos : Pos} {o i e : E} (ho : sE' cl bs W C X po o) (hi : sE' cl bs W C X pi i) (he : sE' cl bs W C X pe e) (hn : swapsWithSole [.Subscript po pi tpos] pe pos.line X.env = pure false)
    (ha : ∀ v, assign (.Subscript po pi tpos) X.env v = (do
      let ov ← holding [v] (eval po X.env)
      let iv ← holding [v, ov] (eval pi X.env)
      standAt tpos
      holding [v, ov, iv] (PySem.setItem ov iv v)
      release [v, ov, iv] [])) : sS cl bs W C fl X (.Assign [.Subscript po pi tpos] pe pos) (.sub o i e) :=
  (ps_asg he (pg_sub ho hi (s_setItem (cl := cl) (bs := bs) hu) ha) hn (by rfl) (by rfl)).imp fun D σ H q => by
    obtain ⟨g, st, env, a, er, p⟩ := q
    refine ⟨g, st, env, a, er, to_post (Rep := RepD N0) p er fun d st1 v g1 H1 a1 s1 r1 p1 => ?_⟩
    refine ⟨g1, st1, env, a1, er.step s1, to_post (Rep := RepD N0) p1 (er.step s1) fun x st2 xv g2 H2 a2 s2 r2 p2 => ?_⟩
    refine ⟨g2, st2, env, a2, (er.step s1).step s2, to_post (Rep := RepD N0) p2 ((er.step s1).step s2) fun y st3 yv g3 H3 a3 s3 r3 p3 => ?_⟩
    exact ⟨g3, st3, env, d, x, y, D, W, σ, a3, ((er.step s1).step s2).step s3, s3.rep r2, r3, s3.rep (s2.rep r1), p3, fun H' q => q⟩
/-! ### for -/
def thenR (r : RS) (k : Env → Sto → RS) : RS := match r with | .nx e s => k e s | .ct e s => k e s | .bk e s => .nx e s | r => r
def forRest (tg : Tg) (body : Env → Sto → RS) (src : Src) (m i : Nat) (env : Env) (st : Sto) : RS :=
  match src with
  | .fix its => forLoop tg body (its.drop i) env st
  | .live en n => forLive tg body en n m i env st
inductive FoS (tg : Tg) (body : Env → Sto → RS) (src : Src) (m i : Nat) (env : Env) (st : Sto) : Prop
  | done : cur src i st = some none → forRest tg body src m i env st = .nx env st → FoS tg body src m i env st
  | row {row : List Ev.D} {m' : Nat} {env1 : Env} : cur src i st = some (some row) → m' < m → srcM src m' (i + 1) → asgItem tg row env = some env1 → forRest tg body src m i env st = thenR (body env1 st) (fun e s => forRest tg body src m' (i + 1) e s) → FoS tg body src m i env st
  | stuck : forRest tg body src m i env st = .stuck → FoS tg body src m i env st
theorem forRest_step {tg : Tg} {body : Env → Sto → RS} {src : Src} {m i : Nat} {env : Env} {st : Sto} (hm : srcM src m i) : FoS tg body src m i env st := by
  cases src with
  | fix its =>
    have hm : m = its.length - i := hm
    cases hi : its[i]? with
    | none =>
      refine .done (by show some its[i]? = _; rw [hi]) ?_
      show forLoop tg body (its.drop i) env st = _
      rw [List.drop_eq_nil_of_le (List.getElem?_eq_none_iff.mp hi)]
      rfl
    | some row =>
      obtain ⟨hl, he⟩ := List.getElem?_eq_some_iff.mp hi
      cases z : asgItem tg row env with
      | none =>
        refine .stuck ?_
        show forLoop tg body (its.drop i) env st = _
        rw [List.drop_eq_getElem_cons hl, he]
        unfold forLoop
        rw [z]
      | some env1 =>
        refine .row (m' := its.length - (i + 1)) (by show some its[i]? = _; rw [hi]) (by omega) rfl z ?_
        show forLoop tg body (its.drop i) env st = _
        rw [List.drop_eq_getElem_cons hl, he]
        show (match asgItem tg row env with
          | none => RS.stuck
          | some env1 => match body env1 st with
            | .nx env2 st2 => forLoop tg body (its.drop (i + 1)) env2 st2
            | .ct env2 st2 => forLoop tg body (its.drop (i + 1)) env2 st2
            | .bk env2 st2 => .nx env2 st2
            | r => r) = _
        rw [z]
        dsimp only
        cases body env1 st <;> rfl
  | live en n =>
    cases m with
    | zero => exact .stuck rfl
    | succ k =>
      cases h1 : listItems st (.ref n) with
      | none =>
        refine .stuck ?_
        show forLive tg body en n (k + 1) i env st = _
        unfold forLive
        rw [h1]
      | some xs =>
        have hc : cur (.live en n) i st = some (xs[i]?.map (rowOf en i)) := by
          show (match listItems st (.ref n) with | none => none | some xs => some (xs[i]?.map (rowOf en i))) = _
          rw [h1]
        cases h2 : xs[i]? with
        | none =>
          refine .done (by rw [hc, h2]; rfl) ?_
          show forLive tg body en n (k + 1) i env st = _
          unfold forLive
          rw [h1]
          dsimp only
          rw [h2]
        | some x =>
          cases z : asgItem tg (rowOf en i x) env with
          | none =>
            refine .stuck ?_
            show forLive tg body en n (k + 1) i env st = _
            unfold forLive
            rw [h1]
            dsimp only
            rw [h2]
            dsimp only
            rw [z]
          | some env1 =>
            refine .row (row := rowOf en i x) (m' := k) (by rw [hc, h2]; rfl) (Nat.lt_succ_self _) True.intro z ?_
            show forLive tg body en n (k + 1) i env st = thenR (body env1 st) (fun e s => forLive tg body en n k (i + 1) e s)
            conv => lhs; unfold forLive
            rw [h1]
            dsimp only
            rw [h2]
            dsimp only
            rw [z]
            dsimp only
            cases body env1 st <;> rfl
theorem thenR_post {r : RS} {k : Env → Sto → RS} {g : Gh} {H : Hp} {st : Sto} {D : Ends} {Nx : L2.St → Hp → Prop} (p : PostS cl bs g H st (thenR r k) D W)
    (h : ∀ env' st' σ' g' H', At N0 bs g' H' st' → Step g H st g' H' st' → EnvR g' env' σ' → PostS cl bs g' H' st' (k env' st') D W → Nx σ' H') : PostS cl bs g H st r { D with nx := Nx, ct := Nx, bk := D.nx } W := by
  cases r with
  | nx env st' => exact fun σ' g' H' a s e => h env st' σ' g' H' a s e (PostS.later p s)
  | ct env st' => exact fun σ' g' H' a s e => h env st' σ' g' H' a s e (PostS.later p s)
  | bk env st' => exact p
  | rt d st' => exact p
  | exn c x env st' => exact p
  | stuck => exact p
theorem s_for {tg : Tg} {kd : Nat} {src : List E} {body : List S} {ptg pit : Expr} {pb : List Stmt} (hp : PassesOwn (model X.prog X.w) X.A X.env X.xe) (hc : X.calm = true) (hi : PI X ptg pit (rdJ cl bs W C X.K kd src)) (hg : PG X ptg (gT X.K tg)) (hb : sSs cl bs W C fl X pb body) (hn : noSet pit = true) :
    sS cl bs W C fl X (.For ptg pit pb [] pos) (.for tg kd src body) := (ps_for hp hc hi hg hb (noSet_ok hn X.env)).imp fun D σ H q => by
  obtain ⟨g, st, env, a, er, p⟩ := q
  have p : PostS cl bs g H st ((evs C bs env src st).to env fun ds st1 => match walkF kd ds st1 with
    | none => .stuck
    | some its => forRun tg (fun env' st' => execs C bs fl body env' st') its.1 env its.2) D W := p
  refine ⟨g, st, env, a, er, to_post (Rep := RepDs N0) p er fun ds st1 vs g1 H1 a1 s1 r1 p1 => ?_⟩
  cases hw : walkF kd ds st1 with
  | none => rw [hw] at p1; exact p1.elim
  | some zz =>
    rw [hw] at p1
    obtain ⟨srcs, stz⟩ := zz
    dsimp only at p1
    refine walkF_fed (K := X.K) a1 r1 hw _ fun gz Hz J az sz fed => ?_
    have p1 := PostS.later p1 sz
    have s1 := s1.trans sz
    clear hw sz a1 r1
    have a1 := az
    dsimp only at a1 s1 p1 fed
    clear az
    refine ⟨fun i m σ H => srcM srcs m i ∧ ∃ g st env, At N0 bs g H st ∧ Step gz Hz stz g H st ∧ EnvR g env σ ∧ PostS cl bs g H st (forRest tg (fun env' st' => execs C bs fl body env' st') srcs m i env st) D W, ?_, ?_⟩
    · cases srcs with
      | fix its => exact ⟨its.length, (by show its.length = its.length - 0; omega), gz, stz, env, a1, Step.refl, er.step s1, p1⟩
      | live en n => exact ⟨TURNS, True.intro, gz, stz, env, a1, Step.refl, er.step s1, p1⟩
    · rintro i m σ2 H2 ⟨hm, g2, st2, env2, a2, s2, er2, p2⟩
      cases (forRest_step hm : FoS tg (fun env' st' => execs C bs fl body env' st') srcs m i env2 st2) with
      | done h1 h2 =>
        rw [h2] at p2
        exact .inl ⟨fed i g2 H2 st2 a2 s2 none h1, p2 σ2 g2 H2 a2 Step.refl er2⟩
      | @row row m' env3 h1 h2 h3 h4 h5 =>
        obtain ⟨go, yl⟩ := fed i g2 H2 st2 a2 s2 (some row) h1
        refine .inr ⟨go, _, fun σ' H' h => ⟨m', h2, h⟩, fun x H3 y => ?_⟩
        obtain ⟨g3, a3, s3, tgt⟩ := row_ok (K := X.K) (yl x H3 y) a2
        refine gT_mono (g := g2) (H := H2) tg x σ2 H3 _ _ (tgt tg env2 env3 σ2 h4 er2) fun σ4 H4 ⟨eH, er4, _⟩ => ?_
        subst eH
        rw [h5] at p2
        refine ⟨g3, st2, env3, a3, er4, thenR_post (p2.later s3) fun env' st' σ' g' H' a' s' er' p' => ?_⟩
        exact ⟨h3, g', st', env', a', (s2.trans s3).trans s', er', p'⟩
      | stuck h1 => rw [h1] at p2; exact p2.elim
/-! ### while -/
theorem s_whl {c : E} {pc : Expr} {body : List S} {pb : List Stmt} (hp : PassesOwn (model X.prog X.w) X.A X.env X.xe) (hc : sE cl bs W C X pc c) (hb : sSs cl bs W C fl X pb body) : sS cl bs W C fl X (.While pc pb [] pos) (.whl c body) := (ps_while hp hc.t hb).imp fun D σ H q => by
  obtain ⟨g, st, env, a, er, p⟩ := q
  refine ⟨fun m σ H => ∃ g st env, At N0 bs g H st ∧ EnvR g env σ ∧ PostS cl bs g H st (whileLoop (fun env' st' => ev C bs env' c true st') (fun env' st' => execs C bs fl body env' st') m env st) D W, ⟨fl, g, st, env, a, er, p⟩, ?_⟩
  rintro m σ2 H2 ⟨g2, st2, env2, a2, er2, p2⟩
  cases m with
  | zero => exact p2.elim
  | succ k =>
    refine ⟨g2, st2, env2, a2, er2, toB_post p2 er2 fun t st3 g3 H3 a3 s3 p3 => ?_⟩
    cases t with
    | false =>
      rw [if_neg Bool.false_ne_true]
      exact p3 σ2 g3 H3 a3 Step.refl (er2.step s3)
    | true =>
      rw [if_pos rfl]
      refine ⟨_, fun σ' H' h => ⟨k, Nat.lt_succ_self _, h⟩, g3, st3, env2, a3, er2.step s3, ?_⟩
      refine thenR_post (k := fun e s => whileLoop (fun env' st' => ev C bs env' c true st') (fun env' st' => execs C bs fl body env' st') k e s) ?_ fun env' st' σ' g' H' a' s' er' p' => ⟨g', st', env', a', er', p'⟩
      have e : (match execs C bs fl body env2 st3 with
        | .nx env2 st2 => whileLoop (fun env' st' => ev C bs env' c true st') (fun env' st' => execs C bs fl body env' st') k env2 st2
        | .ct env2 st2 => whileLoop (fun env' st' => ev C bs env' c true st') (fun env' st' => execs C bs fl body env' st') k env2 st2
        | .bk env2 st2 => .nx env2 st2
        | r => r) = thenR (execs C bs fl body env2 st3) (fun e s => whileLoop (fun env' st' => ev C bs env' c true st') (fun env' st' => execs C bs fl body env' st') k e s) := by
        cases execs C bs fl body env2 st3 <;> rfl
      rw [← e]
      exact p3
end
end Ev

/-! EvP: name op= e, o[i] op= e, a, b = a tuple or a list whatever it holds. -/
namespace Ev
variable [FnTab] [CnTab]
open PySem PySem.Spec PyProof.Rows L2
section
variable {cl : List (Addr × Option Str)} {bs : List Nat} {W : WX} {C : Cl} {fl : Nat} {X : Cx} {pos : Pos}
theorem s_addI : PIp X .Add (fun x y => rO cl bs (opS .addI) [x, y]) := s_int2 (f := inplaceOp .Add) (h := fun i j => some (.int (i + j))) (fun _ _ => rfl) fun i j d e => by
  injection e with e; subst e
  exact ⟨.int (i + j), fun _ => .int _, fun pins s σ H a b Q I ra rb q => ip_add pins s σ H _ _ a b Q I ra rb ⟨i, j, rfl, rfl, q⟩⟩
theorem s_subI : PIp X .Sub (fun x y => rO cl bs (opS .subI) [x, y]) := s_int2 (f := inplaceOp .Sub) (h := fun i j => some (.int (i - j))) (fun _ _ => rfl) fun i j d e => by
  injection e with e; subst e
  exact ⟨.int (i - j), fun _ => .int _, fun pins s σ H a b Q I ra rb q => ip_sub pins s σ H _ _ a b Q I ra rb ⟨i, j, rfl, rfl, q⟩⟩
def augB (op : Operator) : Op → Bool
  | .addI => isAdd op
  | .subI => isSubt op
  | _ => false
theorem augB_ok {op : Operator} {o : Op} (h : augB op o = true) : PIp X op (fun x y => rO cl bs (opS o) [x, y]) := by
  cases o with
  | addI => rw [isAdd_ok h]; exact s_addI
  | subI => rw [isSubt_ok h]; exact s_subI
  | _ => exact absurd h Bool.false_ne_true
/-! ### name op= e -/
theorem s_augN {i : Nat} {x : Str} {op : Operator} {o : Op} {pe : Expr} {e : E} {p' : Pos} (hN : X.N.Nodup) (hi : X.N[i]? = some x) (hx : Loc X.env.scope x) (hf : X.fn x = true) (he : sE' cl bs W C X pe e) (ho : PIp X op (fun x y => rO cl bs (opS o) [x, y])) :
    sS cl bs W C fl X (.AugAssign (.Name x p') op pe pos) (.asg (.name i) (.op o [.var i, e])) := (ps_aug hN hi hx he ho (.inl hf)).imp fun D σ H q => by
  obtain ⟨g, st, env, a, er, p⟩ := q
  have p : PostS cl bs g H st ((((match getE env i with | some d => R.ok d st | none => .stuck : R Ev.D).bind fun d st1 => ((ev C bs env e false st1).bind fun w st2 => (R.ok [] st2 : R (List Ev.D)).bind fun ds st3 => .ok (w :: ds) st3).bind fun ds st2 => .ok (d :: ds) st2).bind fun ds st1 => opS o ds st1).to env fun d st1 => nxt (Ev.asg (.name i) d env) st1) D W := p
  cases hv : getE env i with
  | none => rw [hv] at p; exact p.elim
  | some d =>
    rw [hv] at p
    obtain ⟨v, hs, rv⟩ := er.val i d hv
    refine ⟨v, hs, g, st, env, a, er, ?_⟩
    have gen : ∀ r : R Ev.D, PostS cl bs g H st ((((r.bind fun w st2 => (R.ok [] st2 : R (List Ev.D)).bind fun ds st3 => .ok (w :: ds) st3).bind fun ds st2 => .ok (d :: ds) st2).bind fun ds st1 => opS o ds st1).to env fun d st1 => nxt (Ev.asg (.name i) d env) st1) D W →
        PostS cl bs g H st (r.to env fun w st1 => (opS o [d, w] st1).to env fun z st2 => nxt (Ev.asg (.name i) z env) st2) D W := fun r p => by
      cases r with
      | ok w st1 => exact p
      | exn c x st1 => exact p
      | stuck => exact p
    have p2 := gen _ p
    exact to_post (Rep := RepD N0) p2 er fun w st1 wv g1 H1 a1 s1 r1 p1 => ⟨g1, st1, [d, w], _, a1, .cons (s1.rep rv) (.cons r1 .nil), to_post (Rep := RepD N0) p1 (er.step s1) fun z st2 zv g2 H2 a2 s2 r2 p2 =>
      asg_post (K := X.K) a2 ((er.step s1).step s2) r2 p2⟩
/-! ### o[i] op= e -/
def rGet (cl : List (Addr × Option Str)) (bs : List Nat) : V → V → Hp → VK → Prop := fun o i H Q => ∃ g st x y W, At N0 bs g H st ∧ RepD N0 g x o ∧ RepD N0 g y i ∧ PostD cl bs g H st (getSub x y st) Q W
theorem get_lst {pins : List (Addr × Obj)} {s : Shared} {σ : L2.St} {H : Hp} {b : Addr} {vs : List V} {i : Int} {z : V} {t : Tok} {Q : VK} (I : Inv X pins σ H s) (hq : SqL X.K H b vs) (he : L2.atI vs i = some z) (q : Q z H) :
    wpAny (model X.prog X.w) X.A (getItem (.ref b) (.int i t)) (EP X pins σ Q) X.xe s := by
  obtain ⟨its, r, pl, hz⟩ := I.list hq
  obtain ⟨j, h1, h2, h3, h4, h5⟩ := atI_get he
  obtain ⟨w, ew, rw'⟩ := r.get h2
  have hl := r.length
  have hn := line63
  have fin : EP X pins σ Q w s := ⟨z, H, I, rw', q⟩
  by_cases h0 : 0 ≤ i
  · have hj : i.toNat = j := by
      rw [seqIndex_of h0 h5] at h1
      exact Option.some.inj h1
    exact wpAny_mono (wpAny_getItem_list (Q := fun r s' => r = w ∧ EP X pins σ Q r s') pl.isList h0 (by omega) (by rw [hj]; simpa using ew) ⟨rfl, fin⟩) (fun _ _ h => h.2) fun _ _ h => h
  · have hj : (i + (its.toArray.size : Int)).toNat = j := by
      rw [seqIndex_neg (by omega) h4] at h1
      rw [List.size_toArray, ← hl]
      exact Option.some.inj h1
    exact wpAny_mono (wpAny_getItem_list_neg (Q := fun r s' => r = w ∧ EP X pins σ Q r s') pl.isList (by omega) (by rw [List.size_toArray] <;> omega) (by omega) (by rw [hj]; simpa using ew) ⟨rfl, fin⟩) (fun _ _ h => h.2) fun _ _ h => h
theorem s_get (hu : X.A.units + 9 < cLine) : PGet X (rGet cl bs) := by
  intro pins s σ H o i ov iv Q I ro ri h
  obtain ⟨g, st, x, y, W, a, rx, ry, p⟩ := h
  unfold getSub at p
  split at p
  · rename_i n kk
    have dicts : PostD cl bs g H st (dicIdx st (getS st n) kk) Q W → wpAny (model X.prog X.w) X.A (getItem ov iv) (EP X pins σ Q) X.xe s := fun p => by
      unfold dicIdx at p
      cases hn : dicOf (getS st n) with
      | none => rw [hn] at p; exact p.elim
      | some kvs =>
        rw [hn] at p
        obtain ⟨hk, p⟩ := chk_post p
        cases hz : dGet kvs kk with
        | none => rw [hz] at p; exact p.elim
        | some z =>
          rw [hz] at p
          obtain ⟨b, ho, h1, h2, h3⟩ := a.ok.dicAt hn
          obtain ⟨b', hb, rfl⟩ := rx
          rw [hb] at h1; cases h1
          cases (show ov = Value.ref b from ro)
          exact dic_get hu I a.ok.sub h2 h3 hk ry ri hz fun w w' s3 I3 rw3 rd => ⟨w, H, I3, rw3, Post.fin p a rd⟩
    cases hn : getS st n with
    | lst xs =>
      rw [hn] at p
      dsimp only at p
      cases kk with
      | int j =>
        dsimp only at p
        cases hz : Ev.atI xs j with
        | none => rw [hz] at p; exact p.elim
        | some z =>
          rw [hz] at p
          obtain ⟨b, ws, h1, h2, h3, h4⟩ := a.ok.lstAt hn
          obtain ⟨b', hb, rfl⟩ := rx
          have eb := Option.some.inj (hb.symm.trans h1)
          subst eb
          have e2 := dp_int ry
          subst e2
          cases (show ov = Value.ref b' from ro)
          obtain ⟨t, rfl⟩ := ri
          obtain ⟨w, hw, rw'⟩ := atI_rel (Rr := RepD N0 g) h4.len (fun j x h => h4.get h) hz
          exact get_lst I (.inl (.inl h3)) hw (Post.fin p a rw')
      | _ => exact p.elim
    | _ => rw [hn] at p; exact dicts (by rw [hn]; exact p)
  · exact p.elim
theorem s_subAug (hu : X.A.units + 9 < cLine) {po pi pe : Expr} {tpos : Pos} {o i e : E} {op : Operator} {oo : Op} (ho : sE' cl bs W C X po o) (hi : sE' cl bs W C X pi i) (he : sE' cl bs W C X pe e) (hop : augB op oo = true)
    (ha : ∀ ov iv new, augStore pi ov iv new = (do holding [new, ov, iv] (PySem.setItem ov iv new); release [new, ov, iv] []; pure .next)) : sS cl bs W C fl X (.AugAssign (.Subscript po pi tpos) op pe pos) (.subAug o i oo e) :=
  (ps_augS ho hi (s_get (cl := cl) (bs := bs) hu) he (augB_ok (cl := cl) (bs := bs) hop) (s_setItem (cl := cl) (bs := bs) hu) ha).imp fun D σ H q => by
    obtain ⟨g, st, env, a, er, p⟩ := q
    refine ⟨g, st, env, a, er, to_post (Rep := RepD N0) p er fun x st1 xv g1 H1 a1 s1 r1 p1 => ?_⟩
    refine ⟨g1, st1, env, a1, er.step s1, to_post (Rep := RepD N0) p1 (er.step s1) fun y st2 yv g2 H2 a2 s2 r2 p2 => ?_⟩
    have er2 := (er.step s1).step s2
    refine ⟨g2, st2, x, y, _, a2, s2.rep r1, r2, to_post (Rep := RepD N0) p2 er2 fun z st3 zv g3 H3 a3 s3 r3 p3 => ?_⟩
    refine ⟨g3, st3, env, a3, er2.step s3, to_post (Rep := RepD N0) p3 (er2.step s3) fun w st4 wv g4 H4 a4 s4 r4 p4 => ?_⟩
    have er4 := (er2.step s3).step s4
    refine ⟨g4, st4, [z, w], _, a4, .cons (s4.rep r3) (.cons r4 .nil), to_post (Rep := RepD N0) p4 er4 fun d st5 dv g5 H5 a5 s5 r5 p5 => ?_⟩
    exact ⟨g5, st5, env, d, x, y, D, W, σ, a5, er4.step s5, s5.rep (s4.rep (s3.rep (s2.rep r1))), s5.rep (s4.rep (s3.rep r2)), r5, p5, fun H' q => q⟩
/-! ### a, b = e -/
theorem s_unp {ts : List Tg} {e : E} {pts : List Expr} {pe : Expr} {k : Nat} {tp : Pos} (hc : X.calm = true) (hg : PGs X pts (gTs X.K ts)) (hl : (assignEach pts X.env).length = ts.length) (hst : (assignEach pts X.env).findIdx? (·.1) = none) (h : sE' cl bs W C X pe e)
    (hs : swapsWithSole [.Tuple pts k tp] pe pos.line X.env = pure false) (hw : swappedStores [.Tuple pts k tp] pe X.env = pure none) : sS cl bs W C fl X (.Assign [.Tuple pts k tp] pe pos) (.unp ts e) := by
  have pt : PG X (.Tuple pts k tp) (fun v σ H Q => gTup X.K ts.length (gTs X.K ts) v σ H Q ∨ gLst X.K ts.length (gTs X.K ts) v σ H Q) := ⟨fun pins s σ H v u Q I r hh => by
    rcases hh with hh | hh
    · exact (pg_tup hc hg hl hst).run pins s σ H v u Q I r hh
    · exact (pg_lst hc hg hl hst).run pins s σ H v u Q I r hh⟩
  refine (ps_asg h pt hs hw (by rfl)).imp fun D σ H q => ?_
  obtain ⟨g, st, env, a, er, p⟩ := q
  refine ⟨g, st, env, a, er, to_post (Rep := RepD N0) p er fun d st1 v g1 H1 a1 s1 r1 p1 => ?_⟩
  cases hz : items st1 d with
  | none => rw [hz] at p1; exact p1.elim
  | some ds =>
    rw [hz] at p1
    obtain ⟨env', z, p1⟩ := asgs_post p1
    obtain ⟨b, vs, rfl, hq, hr⟩ := a1.ok.items hz r1
    obtain ⟨hlen, tgt⟩ := asgs_ok (K := X.K) ts ds vs env env' σ hr (er.step s1) z a1.ok.sub
    have fin : gTs X.K ts vs σ H1 D.nx := gTs_mono (g := g1) (H := H1) ts vs σ _ _ _ tgt fun σ2 H2 ⟨eH, er2, _⟩ => by
      subst eH
      exact p1 σ2 g1 _ a1 Step.refl er2
    have hvl : vs.length = ts.length := by rw [← RepDs.len hr, hlen]
    rcases hq with hq | hq
    · exact .inr ⟨b, vs, rfl, sql_k hq, hvl, fin⟩
    · exact .inl ⟨b, vs, rfl, sqt_k hq, hvl, fin⟩
end
end Ev

set_option maxHeartbeats 2000000
/-! Ev16: raise; try with several clauses, named or not. -/
namespace Ev
variable [FnTab] [CnTab]
open PySem PySem.Spec PyProof.Rows L2

/-! ### raise of an own class without arguments -/
section
variable {X : Cx} {C : Addr} {bmB : List Value} {B newId initId : String}
theorem pmk_own0 {x : Str} {p pos : Pos} (F : ExcBaseFacts B newId initId bmB) (q : PySem.W.excIn X.K C bmB newId = true) (gC : X.mg x = some (.ref C)) (kC : PySem.W.keepIn X.K (.ref C) = true) (r : Raises X (.ref C)) (hg : Gl X x)
    (hdb : (x == ("__debug__" : Str)) = false) : PMk X (.Call (.Name x p) [] [] pos) (fun _ H Q => Q (.ref C) none H) := by
  intro pins s σ H Q I h
  refine wpAny_Call_Name_kw (ld_glob I hg gC ?_ hdb)
  refine PySem.W.callWith_K0 I.kIn kC ?_
  obtain ⟨bm, N, nm, qn, bs, hdct, sn, sub, ab, col, dd, k0, k1, k2, k3, k5, mN, hC, hN, hni, T⟩ := exc_obj I.kIn q
  refine wpAny_call_exc_subT F T hC hN hni (fun h' e hm => ?_) (by show 0 ≤ sizeLine; exact Nat.zero_le _)
  exact mk_of I hm r h (I.hok.gone hm.new)
end
section
variable {cl : List (Addr × Option Str)} {bs : List Nat} {W : WX} {C : Cl} {fl : Nat} {X : Cx} {pos : Pos}
theorem s_raise0 {c : Nat} {A : Addr} {p : Expr} (hc : X.calm = true) (tk : Takes X W) (hm : PMk X p (fun _ H Q => Q (.ref A) none H)) (e : cl[c]? = some (A, none)) : sS cl bs W C fl X (.Raise (some p) none pos) (.raise c none) := (ps_raise hc tk hm).imp fun D σ H q => by
  obtain ⟨g, st, env, a, er, p⟩ := q
  exact p (.ref A) none σ g H a Step.refl er ⟨A, none, e, rfl, rfl⟩
/-- .. of a class with one field -/
theorem s_raise1 {c : Nat} {A : Addr} {f : Str} {p : Expr} {e : E} (hc : X.calm = true) (tk : Takes X W) (hm : PMk X p (fun σ H Q => rdC cl bs W (fun env st => ev C bs env e false st) σ H fun v H1 => ∀ d, H1 d = none → Q (.ref A) (some d) (upd H1 d (.xd [(f, v)])))) (e1 : cl[c]? = some (A, some f)) :
    sS cl bs W C fl X (.Raise (some p) none pos) (.raise c (some e)) := (ps_raise hc tk hm).imp fun D σ H q => by
  obtain ⟨g, st, env, a, er, p⟩ := q
  refine ⟨g, st, env, a, er, to_post (Rep := RepD N0) p er fun d st1 v g1 H1 a1 s1 r1 p1 dx hdx => ?_⟩
  cases z : frz DEEP d st1 with
  | none => rw [z] at p1; exact p1.elim
  | some w =>
    obtain ⟨x, st2⟩ := w
    rw [z] at p1
    obtain ⟨g2, a2, s2, d2⟩ := frz_ok DEEP a1 r1 z
    obtain ⟨a3, s3⟩ := at_froz (ho := .xd [(f, v)]) a2 hdx
    refine p1 (.ref A) (some dx) σ _ _ a3 (s2.trans s3) (((er.step s1).step s2).step s3) ⟨A, some f, e1, rfl, dx, v, rfl, upd_same, s3.dp d2⟩
end

/-! ### try: several clauses, each with a name or without -/
abbrev Clause : Type := Value × Option Nat × (Addr → Value → Option Addr → TS)
def wMix (K : PySem.W.Frag) (Wout : WX) (D : Ends) : List Clause → WX
  | [] => Wout
  | (c, nm, ts) :: r => fun cls d σ H => ∃ b, PySem.W.exmOne K cls c = some b ∧ (b = true → ∀ a, H a = none → match nm with
      | none => ts a cls d D σ H
      | some i => ts a cls d { nx := fun σ' H' => D.nx (σ'.set i none) H', rt := D.rt, bk := fun σ' H' => D.bk (σ'.set i none) H', ct := fun σ' H' => D.ct (σ'.set i none) H' } (σ.set i (some (.ref a))) H) ∧ (b = false → wMix K Wout D r cls d σ H)
inductive HdM (X : Cx) : List ExceptHandler → List Clause → Prop
  | nil : HdM X [] []
  | plain {x : Str} {c : Value} {ts : Addr → Value → Option Addr → TS} {b₀ : Stmt} {suite : List Stmt} {np pos' : Pos} {hds : List ExceptHandler} {l : List Clause} (hc : Names X x c)
      (hsu : ∀ (a : Addr) (oe : Obj) (cls : Value) (d : Option Addr) (pn : List (Addr × Obj)), Zc cls d oe → (∃ vs, oe.data = .fields vs) → PSs (X.suite a ((a, oe) :: pn)) (b₀ :: suite) (ts a cls d)) (r : HdM X hds l) :
      HdM X (.ExceptHandler (some (.Name x np)) none (b₀ :: suite) pos' :: hds) ((c, none, ts) :: l)
  | named {x n : Str} {i : Nat} {c : Value} {ts : Addr → Value → Option Addr → TS} {b₀ : Stmt} {suite : List Stmt} {np pos' : Pos} {hds : List ExceptHandler} {l : List Clause} (hc : Names X x c) (hi : X.N[i]? = some n) (hln : X.env.kindOf n = some .local)
      (hsu : ∀ (a : Addr) (oe : Obj) (cls : Value) (d : Option Addr) (pn : List (Addr × Obj)), Zc cls d oe → (∃ vs, oe.data = .fields vs) → PSs (X.suite a ((a, oe) :: pn)) (b₀ :: suite) (ts a cls d)) (r : HdM X hds l) :
      HdM X (.ExceptHandler (some (.Name x np)) (some n) (b₀ :: suite) pos' :: hds) ((c, some i, ts) :: l)
section
variable {X : Cx} {body : List Stmt} {h₀ : ExceptHandler} {hds : List ExceptHandler} {l : List Clause} {pos : Pos} {tb : WX → TS} {Wout : WX}
theorem ps_try_mix (hs : X.stack = X.env :: X.outer) (hf : X.env.frame = some X.env.locals) (hN : X.N.Nodup) (tk : Takes X Wout)
    (hb : ∀ (W : WX) (pn : List (Addr × Obj)) (xe : Value → Shared → Prop), Takes (X.tr pn xe) W → PassesOwn (model X.prog X.w) X.A X.env xe → PSs (X.tr pn xe) body (tb W))
    (hh : HdM X (h₀ :: hds) l) : PS X (.Try body (h₀ :: hds) [] [] pos) (fun D σ H => tb (wMix X.K Wout D l) D σ H) := by
  refine ⟨fun pins s σ H D I h => ?_⟩
  have ok := I.ok
  have hfr : X.A.frames = some (X.env :: X.outer) := by rw [ok.frames, hs]
  refine wpAny_Try_except ?_
  refine wpAny_mono ((hb (wMix X.K Wout D l) (X.pn ++ pins) (fun e s₁ => wpAny (model X.prog X.w) X.A (noteFrame e X.env) (fun _ s₂ => wpAny (model X.prog X.w) X.A (setFlight e none) (fun _ s₃ =>
    wpAny (model X.prog X.w) X.A (handleBy e X.env (h₀ :: hds)) (SP X pins D) X.xe s₃) X.xe s₂) X.xe s₁) (fun u s' xx => ?_) PassesOwn.looking).run [] s σ H D (I.toTry _) h) (fun f s1 hsp => ?_) (fun e s1 he => he)
  · -- the catch
    obtain ⟨a, B, sI, pins', σ', H', cls, d, rfl, J', nb, up, sky, na, os, ag, w⟩ := xx
    have J : Inv X pins σ' H' sI := J'.ofTry ok
    have sky' : Sky B (X.env :: X.outer) a (Zc cls d) X.env.locals s'.heap := by rw [← hs]; exact sky
    show wpAny (model X.prog X.w) X.A (noteFrame (.ref a) X.env) _ _ _
    refine Sky.land Zc.steady hfr hf sky' fun h3 fl3 up3 => ?_
    have J3 : Inv X pins σ' H' { s' with heap := h3 } := J.landed nb fl3.1 (up.trans up3) os ag
    obtain ⟨oe3, vs3, he3, hz3, hd3⟩ := fl3.there
    have notFr : ∀ {h : Heap} {o : Obj} {vs : Array Value}, h.FunFrames B (X.env :: X.outer) → h.get? a = some o → o.data = .fields vs → a ∉ frs (X.env :: X.outer) := fun {h o vs} ff e dd hm => by
      obtain ⟨_, o', e', hnf⟩ := ff.mem hm
      rw [e] at e'; cases e'
      exact hnf _ dd
    have nfr := notFr fl3.2.2.1 he3 hd3
    have nL : a ≠ X.env.locals := fun z => nfr (List.mem_filterMap.mpr ⟨X.env, List.mem_cons_self, by rw [hf, z]⟩)
    have nF : a ∉ X.fs := fun hm => by
      obtain ⟨e, he, q⟩ := List.mem_filterMap.mp hm
      exact nfr (List.mem_filterMap.mpr ⟨e, List.mem_cons_of_mem _ he, q⟩)
    have S3 := J3.suite he3 hd3 na nL nF
    have LT : PySem.W.Looks (model X.prog X.w) h3 (typeOf (.ref a)) cls := fun A Q E s k q => wpAny_typeOf_ref (k _ _ he3) (by rw [hz3.1]; exact q)
    have test : ∀ {x : Str} {c : Value} {np : Pos} {Q : Value → Shared → Prop} {E : Value → Shared → Prop}, Names X x c → Q c { s' with heap := h3 } → wpAny (model X.prog X.w) (X.A.mark (some (.ref a))) (eval (.Name x np) X.env) Q E { s' with heap := h3 } := fun {x c np Q E} hc q => by
      obtain ⟨hg, hdbg, hm | ⟨hm, hv, hnn⟩⟩ := hc
      · exact ld_glob (X := X.suite a ((a, oe3) :: (X.pn ++ pins))) S3 hg hm q hdbg
      · exact ld_blt (X := X.suite a ((a, oe3) :: (X.pn ++ pins))) S3 hg hm hv q hnn hdbg
    have go : ∀ {hds' : List ExceptHandler} {l' : List Clause}, HdM X hds' l' → wMix X.K Wout D l' cls d σ' H' →
        wpAny (model X.prog X.w) X.A (handleBy (.ref a) X.env hds') (SP X pins D) X.xe { s' with heap := h3 } := by
      intro hds' l' hk
      induction hk with
      | nil =>
        intro w
        refine wpAny_handleBy_nil ?_
        obtain ⟨k1, k2, k3, oe, vs, T, oT, ts', he, hz, hd, h1, hr⟩ := id fl3
        unfold PySem.passOn
        refine wpAny_bind (wpAny_field he hd h1 ?_)
        rw [if_neg (show ¬ ((Value.ref T == Value.none) = true) from by simp)]
        have fin : wpAny (model X.prog X.w) X.A (setFlight (.ref a) X.env.frame) (fun _ s4 => wpAny (model X.prog X.w) X.A (throw (.ref a) : Sem Flow) (SP X pins D) X.xe s4) X.xe { s' with heap := h3 } := by
          rw [hf]
          refine HandSPX.setFlight_upZ fl3 fun h4 hh4 up4 => wpAny_throw (tk _ _ ?_)
          exact ⟨a, B, sI, pins, σ', H', cls, d, rfl, J, nb, (up.trans up3).trans up4, .inr (.inr (by rw [hs]; exact hh4)), na, os, ag, w⟩
        first
          | exact wpAny_bind (wpAny_pure (wpAny_bind fin))
          | exact wpAny_bind fin
      | @plain x c ts b₀ suite np pos' hds2 l2 hc hsu r ih =>
        intro w
        obtain ⟨b, hb1, hyes, hno⟩ := w
        refine wpAny_handleBy_cons (codeAny_handlers_test ?_) (by intro q; cases q)
        have LM := PySem.W.exm_one (M := model X.prog X.w) (J3.kIn) LT hb1
        refine test hc (LM.here ?_)
        cases b with
        | true =>
          refine codeAny_handlers_suite ?_
          refine HandSPX.lands_againZ fl3 fun h4 fl4 up4 => ?_
          have J4 : Inv X pins σ' H' { s' with heap := h4 } := J.landed nb fl4.1 ((up.trans up3).trans up4) os ag
          obtain ⟨oe4, vs4, he4, hz4, hd4⟩ := fl4.there
          have S4 := J4.suite he4 hd4 na nL nF
          refine wpAny_mono ((hsu a oe4 cls d (X.pn ++ pins) hz4 ⟨_, hd4⟩).run [] _ _ H' _ S4 (hyes rfl a na)) (fun f s6 hsp => ?_) (fun _ _ z => False.elim z)
          cases f with
          | next =>
            obtain ⟨σ6, H6, S6, q6⟩ := hsp
            exact ⟨_, _, S6.unsuite ok, q6⟩
          | brk =>
            obtain ⟨σ6, H6, S6, q6⟩ := hsp
            exact ⟨_, _, S6.unsuite ok, q6⟩
          | cont =>
            obtain ⟨σ6, H6, S6, q6⟩ := hsp
            exact ⟨_, _, S6.unsuite ok, q6⟩
          | ret u =>
            obtain ⟨v6, σ6, H6, S6, r6, q6⟩ := hsp
            exact ⟨_, _, _, S6.unsuite ok, r6, q6⟩
        | false =>
          show wpAny _ X.A (handleBy (.ref a) X.env hds2) _ _ _
          exact ih (hno rfl)
      | @named x n i c ts b₀ suite np pos' hds2 l2 hc hi hln hsu r ih =>
        intro w
        obtain ⟨b, hb1, hyes, hno⟩ := w
        have hloc : Loc X.env.scope n := .inl hln
        refine wpAny_handleBy_cons (codeAny_handlers_test ?_) (by intro q; cases q)
        have LM := PySem.W.exm_one (M := model X.prog X.w) (J3.kIn) LT hb1
        refine test hc (LM.here ?_)
        cases b with
        | true =>
          refine codeAny_handlers_suite_as ?_
          refine HandSPX.lands_againZ fl3 fun h4 fl4 up4 => ?_
          have J4 : Inv X pins σ' H' { s' with heap := h4 } := J.landed nb fl4.1 ((up.trans up3).trans up4) os ag
          obtain ⟨oe4, vs4, he4, hz4, hd4⟩ := fl4.there
          have S4 := J4.suite he4 hd4 na nL nF
          refine store_ok (X := X.suite a ((a, oe4) :: (X.pn ++ pins))) (v := .ref a) S4 hN hi hloc rfl (fun s5 S5 => ?_) (.inr hln)
          refine wpAny_mono ((hsu a oe4 cls d (X.pn ++ pins) hz4 ⟨_, hd4⟩).run [] s5 _ H' _ S5 (hyes rfl a na)) (fun f s6 hsp => ?_) (fun _ _ z => False.elim z)
          have end_ : ∀ {σ6 : L2.St} {H6 : Hp} {Q : Shared → Prop}, Inv (X.suite a ((a, oe4) :: (X.pn ++ pins))) [] σ6 H6 s6 → (∀ s7, Inv X pins (σ6.set i none) H6 s7 → Q s7) →
              wpAny (model X.prog X.w) X.A (do bindName X.env n .none; unbindBehindTheSuite X.env n pos') (fun _ s7 => Q s7) X.xe s6 := fun {σ6 H6 Q} S6 hq => gone_ok (S6.unsuite ok) hN hi hln hq
          cases f with
          | next =>
            obtain ⟨σ6, H6, S6, q6⟩ := hsp
            exact end_ S6 fun s7 J7 => ⟨_, _, J7, q6⟩
          | brk =>
            obtain ⟨σ6, H6, S6, q6⟩ := hsp
            exact end_ S6 fun s7 J7 => ⟨_, _, J7, q6⟩
          | cont =>
            obtain ⟨σ6, H6, S6, q6⟩ := hsp
            exact end_ S6 fun s7 J7 => ⟨_, _, J7, q6⟩
          | ret u =>
            obtain ⟨v6, σ6, H6, S6, r6, q6⟩ := hsp
            exact end_ S6 fun s7 J7 => ⟨_, _, _, J7, r6, q6⟩
        | false =>
          show wpAny _ X.A (handleBy (.ref a) X.env hds2) _ _ _
          exact ih (hno rfl)
    exact go hh w
  · cases f with
    | next =>
      obtain ⟨σ', H', J', q⟩ := hsp
      exact wpAny_execs_nil ⟨σ', H', J'.ofTry ok, q⟩
    | brk =>
      obtain ⟨σ', H', J', q⟩ := hsp
      exact ⟨σ', H', J'.ofTry ok, q⟩
    | cont =>
      obtain ⟨σ', H', J', q⟩ := hsp
      exact ⟨σ', H', J'.ofTry ok, q⟩
    | ret u =>
      obtain ⟨v, σ', H', J', r, q⟩ := hsp
      exact ⟨v, σ', H', J'.ofTry ok, r, q⟩
end
end Ev

set_option maxHeartbeats 2000000
/-! Ev17: except suites; what a try does. -/
namespace Ev
variable [FnTab] [CnTab]
open PySem PySem.Spec PyProof.Rows L2

/-! ### what an except suite says -/
def rdH (cl : List (Addr × Option Str)) (bs : List Nat) (a : Addr) (cls : Value) (d : Option Addr) (c : Nat) (i : Option Nat) (h : Hx) : TE := fun σ H Q => ∃ v g st x, At N0 bs g H st ∧ ExnR cl g c v cls d ∧ (∀ j, i = some j → j < σ.length → σ[j]? = some (some (.ref a))) ∧ hxV v h = some x ∧
  ∀ w g' H', At N0 bs g' H' st → Step g H st g' H' st → Dp N0 g'.G w x → Q w H'
def rdHs (cl : List (Addr × Option Str)) (bs : List Nat) (a : Addr) (cls : Value) (d : Option Addr) (c : Nat) (i : Option Nat) (hs : List Hx) : TA := fun σ H Q => ∃ v g st xs, At N0 bs g H st ∧ ExnR cl g c v cls d ∧ (∀ j, i = some j → j < σ.length → σ[j]? = some (some (.ref a))) ∧ hxVs v hs = some xs ∧
  ∀ ws g' H', At N0 bs g' H' st → Step g H st g' H' st → DpAll N0 g'.G ws xs → Q ws H'
def baseS : Bool → Str
  | true => "ValueError"
  | false => "LookupError"
def baseT : Bool → String
  | true => "ValueError"
  | false => "LookupError"
theorem base_boot : ∀ b, bootBuiltins (baseS b) = some (.type (baseT b)) ∧ baseS b ≠ "__name__" ∧ (baseS b == ("__debug__" : Str)) = false ∧ baseS b ∈ bltNames
  | true => ⟨by decide +kernel, by decide, by decide, by decide⟩
  | false => ⟨by decide +kernel, by decide, by decide, by decide⟩
/-- isinstance(y, t) of the exception y of the class cx -/
def isiB (sc : Scope) (cx : Str) (nm : Option (Nat × Str)) (fo : Option Str) (f y t : Str) (b : Bool) : Bool :=
  f == ("isinstance" : Str) && (match nm with | some (_, n) => y == n | none => false) && okN y && (glB sc f && glB sc t) && (CnTab.xb.any fun z => z.1 == cx && (t == baseS z.2.1 && z.2.2 == b))
/-- the class A says what CnTab.xb says of the name cx -/
def XiOk (K : PySem.W.Frag) (cx : Str) (A : Addr) : Prop := ∀ z ∈ CnTab.xb, z.1 = cx → ExcC K A ∧ PySem.W.kitOne K (.ref A) (.type (baseT z.2.1)) = some z.2.2
/-- isinstance of an exception that has a dict -/
theorem call_isX {X : Cx} {a D dd : Addr} {oe : Obj} {pn : List (Addr × Obj)} (C : ExcC X.K D) (hz : Zc (.ref D) (some dd) oe) (hf : ∃ vs, oe.data = .fields vs) :
    CallR (X.suite a ((a, oe) :: pn)) (.builtin "isinstance") (fun xs H Q => (∃ fs, H dd = some (.xd fs)) ∧ rIsE X.K D a xs H Q) := by
  intro pins s σ H xs us Q I r h
  obtain ⟨⟨fs, hd⟩, c, cv, b, rfl, hcv, e, q⟩ := h
  obtain ⟨u1, u2, rfl, rx, rt⟩ : ∃ u1 u2, us = [u1, u2] ∧ RelV (.ref a) u1 ∧ RelV c u2 := by
    cases r with
    | cons p q => cases q with
      | cons p' q' => cases q'; exact ⟨_, _, rfl, p, p'⟩
  obtain rfl : u1 = Value.ref a := rx
  have ec := hcv _ rt
  subst ec
  obtain ⟨ha, _⟩ := I.pin (a, oe) (List.mem_append_left _ List.mem_cons_self)
  obtain ⟨vs, hv⟩ := hf
  obtain ⟨mA, hns, hr⟩ := (show ObjOk X.prog X.w H s.heap dd (.xd fs) from I.hok dd _ hd)
  obtain ⟨od, ho, hl⟩ := lookIn_ns hns
  have J : PySem.W.InstAt s.heap a oe D (some od) := ⟨ha, hz.1, by unfold PySem.W.notCls; rw [hv] <;> rfl, by rw [hz.2]; exact ho⟩
  have hcl : (PySem.W.clsIn X.K D).isSome = true := by
    obtain ⟨cd, hc, _⟩ := PySem.W.any_some C.hd
    rw [hc]; rfl
  exact PySem.W.kia_one (PySem.W.kitx_exc hcl C.hg C.hk C.hs C.ha C.hn C.ht C.hm) I.kIn J e (fun z => nomatch z) fun tk => ⟨.bl b, H, I.kept (t' := tk) fun _ _ z => z, rfl, q⟩
mutual
/-- nm: the slot and the name of the exception; fo: its field -/
def chkX (sc : Scope) (cx : Str) (nm : Option (Nat × Str)) (fo : Option Str) : Hx → Expr → Bool
  | .cst d, pe => match pe with
    | .Constant c _ _ => cstC d c
    | .Call (.Name f _) [.Name y _, .Name t _] [] _ => match d with | .bool b => isiB sc cx nm fo f y t b | _ => false
    | _ => false
  | .fld, pe => match pe with
    | .Attribute (.Name y _) f _ => (match nm with | some (_, n) => y == n | none => false) && (match fo with | some f' => f == f' | none => false) && okN y
    | _ => false
  | .lst hs, pe => match pe with | .List es _ => decide (hs.length ≤ 1000) && chkXs sc cx nm fo hs es | _ => false
termination_by structural x => x
def chkXs (sc : Scope) (cx : Str) (nm : Option (Nat × Str)) (fo : Option Str) : List Hx → List Expr → Bool
  | [], pes => match pes with | [] => true | _ :: _ => false
  | h :: hs, pes => match pes with | pe :: pes => noStar pe && (chkX sc cx nm fo h pe && chkXs sc cx nm fo hs pes) | [] => false
termination_by structural x => x
end
theorem ExnR.step {cl : List (Addr × Option Str)} {g g1 : Gh} {H H1 : Hp} {st st1 : Sto} {c : Nat} {v : Option PyData} {cls : Value} {d : Option Addr} (e : ExnR cl g c v cls d) (s : Step g H st g1 H1 st1) : ExnR cl g1 c v cls d := by
  obtain ⟨C, f, h1, h2, h3⟩ := e
  refine ⟨C, f, h1, h2, ?_⟩
  cases f with
  | none => cases v with
    | none => exact h3
    | some x => exact h3
  | some f => cases v with
    | none => exact h3
    | some x =>
      obtain ⟨a, w, k1, k2, k3⟩ := h3
      exact ⟨a, w, k1, s.fro _ _ k2, s.dp k3⟩
theorem hxVs_len {v : Option PyData} : ∀ {hs : List Hx} {xs : List PyData}, hxVs v hs = some xs → xs.length = hs.length
  | [], xs, h => by cases h; rfl
  | h :: hs, xs, e => by
    have e' : (match hxV v h, hxVs v hs with | some x, some xs => some (x :: xs) | _, _ => none) = some xs := e
    cases e1 : hxV v h with
    | none => rw [e1] at e'; cases e'
    | some x =>
      cases e2 : hxVs v hs with
      | none => rw [e1, e2] at e'; cases e'
      | some ys =>
        rw [e1, e2] at e'
        cases e'
        rw [List.length_cons, List.length_cons, hxVs_len e2]
section
variable {cl : List (Addr × Option Str)} {bs : List Nat} {X : Cx} {a : Addr} {oe : Obj} {cls : Value} {d : Option Addr} {pn : List (Addr × Obj)} {c : Nat} {nm : Option (Nat × Str)} {fo : Option Str} {sc : Scope} {cx : Str}
mutual
theorem hx_ok (hz : Zc cls d oe) (hf : ∃ vs, oe.data = .fields vs) (hn : ∀ j n, nm = some (j, n) → X.N[j]? = some n ∧ X.env.kindOf n = some .local) (hfo : ∀ f, fo = some f → ∃ A, cl[c]? = some (A, some f) ∧ XfC X.K A ∧ PySem.W.findIn X.K (.ref A) f = some none) (hsc : X.env.scope = sc) (bl : ∀ x ∈ bltNames, X.mg x = none) (hcn : ∃ A, cl[c]? = some (A, fo) ∧ XiOk X.K cx A) :
    ∀ (h : Hx) (pe : Expr), chkX sc cx nm fo h pe = true → PE (X.suite a ((a, oe) :: pn)) pe (rdH cl bs a cls d c (nm.map (·.1)) h)
  | .cst x, pe, h => by
    unfold chkX at h
    split at h
    · rename_i k j p
      have go : ∀ v, (∀ G, Dp N0 G v x) → PE (X.suite a ((a, oe) :: pn)) (.Constant k j p) (tC v) → PE (X.suite a ((a, oe) :: pn)) (.Constant k j p) (rdH cl bs a cls d c (nm.map (·.1)) (.cst x)) := fun v hv h => h.imp fun σ H Q q => by
        obtain ⟨v', g, st, y, o, _, _, e, q⟩ := q
        cases e
        exact q v g H o Step.refl (hv _)
      unfold cstC at h
      split at h
      · exact go .non (fun _ => .non) pe_non
      · have e := eq_of_beq h
        subst e
        exact go (.bl _) (fun _ => .bl _) pe_bl
      · have e := of_decide_eq_true h
        subst e
        exact go (.int _) (fun _ => .int _) pe_int
      · have e := eq_of_beq h
        subst e
        exact go (.str _) (fun _ => .str _) pe_str
      · cases h
    · rename_i fn fp y yp t tp cp
      split at h
      · rename_i b
        unfold isiB at h
        simp only [Bool.and_eq_true] at h
        obtain ⟨⟨⟨⟨h1, h2⟩, h4⟩, h5, h6⟩, h7⟩ := h
        obtain ⟨n1, n2⟩ := okN_ok h4
        obtain ⟨z, z1, z2⟩ := List.any_eq_true.mp h7
        simp only [Bool.and_eq_true] at z2
        obtain ⟨z2, z3, z4⟩ := z2
        have ef := eq_of_beq h1
        subst ef
        have et := eq_of_beq z3
        subst et
        have eb := eq_of_beq z4
        subst eb
        cases nm with
        | none => cases h2
        | some jn =>
          obtain ⟨j, n⟩ := jn
          have e1 : y = n := eq_of_beq h2
          subst e1
          obtain ⟨k1, k2⟩ := hn j y rfl
          obtain ⟨A, m1, m2⟩ := hcn
          obtain ⟨EC, hk⟩ := m2 z z1 (eq_of_beq z2)
          obtain ⟨b1, b2, b3, b4⟩ := base_boot z.2.1
          have he : PE (X.suite a ((a, oe) :: pn)) (.Name y yp) (tVar j) := pe_var (X := X.suite a ((a, oe) :: pn)) k1 (.inl k2) n1 n2
          have ht : PE (X.suite a ((a, oe) :: pn)) (.Name (baseS z.2.1) tp) (tC (.ty (baseT z.2.1))) := pe_bltn (X := X.suite a ((a, oe) :: pn)) (glB_ok (X := X) hsc h6) (bl _ b4) b1 rfl b2 b3
          refine ⟨fun pins s σ H Q I q => ?_⟩
          obtain ⟨v', g, st, x, o, ex, hj, e, q⟩ := q
          cases e
          have hlt : j < σ.length := by
            have := (List.getElem?_eq_some_iff.mp k1).1
            rw [I.len]; exact this
          obtain ⟨A', fo', x1, x2, x3⟩ := ex
          rw [m1] at x1
          cases x1
          subst x2
          cases fo with
          | none =>
            cases v' with
            | some _ => exact x3.elim
            | none =>
              have x3 : d = none := x3
              subst x3
              have run := pe_callB (X := X.suite a ((a, oe) :: pn)) (pos := cp) (p := fp) (call_isE EC hz hf) (glB_ok (X := X) hsc h5) (bl _ (by decide)) PyProof.Rows.boot_isinstance (pa_cons he (pa_cons ht pa_nil (star_cons rfl _ _)) (star_cons rfl _ _)) (by decide) (by decide) (star_cons rfl _ _) (by rfl)
              exact run.run pins s σ H Q I ⟨.ref a, hj j rfl hlt, .ty (baseT z.2.1), .type (baseT z.2.1), z.2.2, rfl, fun u hu => hu, hk, q (.bl _) g H o Step.refl (.bl _)⟩
          | some f =>
            cases v' with
            | none => exact x3.elim
            | some y =>
              obtain ⟨dd, w, y1, y2, y3⟩ := x3
              subst y1
              have run := pe_callB (X := X.suite a ((a, oe) :: pn)) (pos := cp) (p := fp) (call_isX EC hz hf) (glB_ok (X := X) hsc h5) (bl _ (by decide)) PyProof.Rows.boot_isinstance (pa_cons he (pa_cons ht pa_nil (star_cons rfl _ _)) (star_cons rfl _ _)) (by decide) (by decide) (star_cons rfl _ _) (by rfl)
              exact run.run pins s σ H Q I ⟨.ref a, hj j rfl hlt, ⟨_, o.ok.sub _ _ y2⟩, .ty (baseT z.2.1), .type (baseT z.2.1), z.2.2, rfl, fun u hu => hu, hk, q (.bl _) g H o Step.refl (.bl _)⟩
      · cases h
    · cases h
  | .fld, pe, h => by
    unfold chkX at h
    split at h
    · rename_i y p f p2
      simp only [Bool.and_eq_true] at h
      obtain ⟨⟨h1, h2⟩, h3⟩ := h
      obtain ⟨n1, n2⟩ := okN_ok h3
      cases nm with
      | none => cases h1
      | some jn =>
        obtain ⟨j, n⟩ := jn
        cases fo with
        | none => cases h2
        | some f' =>
          have e1 : y = n := eq_of_beq h1
          have e2 : f = f' := eq_of_beq h2
          subst e1; subst e2
          obtain ⟨k1, k2⟩ := hn j y rfl
          obtain ⟨A, m1, m2, m3⟩ := hfo f rfl
          have he : PE (X.suite a ((a, oe) :: pn)) (.Name y p) (tVar j) := pe_var (X := X.suite a ((a, oe) :: pn)) k1 (.inl k2) n1 n2
          refine ⟨fun pins s σ H Q I q => (pe_xf (C := A) m2 m3 hz hf he).run pins s σ H Q I ?_⟩
          obtain ⟨v', g, st, x, o, ex, hj, e, q⟩ := q
          have hlt : j < σ.length := by
            have := (List.getElem?_eq_some_iff.mp k1).1
            rw [I.len]; exact this
          refine ⟨.ref a, hj j rfl hlt, rfl, ?_⟩
          obtain ⟨A', fo', x1, x2, x3⟩ := ex
          rw [m1] at x1
          cases x1
          refine ⟨x2, ?_⟩
          have e : v' = some x := e
          subst e
          obtain ⟨dd, w, y1, y2, y3⟩ := x3
          exact ⟨dd, _, w, y1, o.ok.sub _ _ y2, by simp [List.lookup], q w g H o Step.refl y3⟩
    · cases h
  | .lst hs, pe, h => by
    unfold chkX at h
    split at h
    · rename_i es p
      obtain ⟨h1, h2⟩ := Bool.and_eq_true_iff.mp h
      have h1 := of_decide_eq_true h1
      refine (pe_lst (hxs_ok hz hf hn hfo hsc bl hcn hs es h2)).imp fun σ H Q q => ?_
      obtain ⟨v', g, st, x, o, ex, hj, e, q⟩ := q
      have e' : (hxVs v' hs).map PyData.list = some x := e
      cases e2 : hxVs v' hs with
      | none => rw [e2] at e'; cases e'
      | some xs =>
        rw [e2] at e'
        cases e'
        refine ⟨v', g, st, xs, o, ex, hj, e2, fun ws g' H' o' s' d' => ⟨?_, fun p hp => ?_⟩⟩
        · rw [dpl_len d', hxVs_len e2, line_eq]
          exact Nat.le_trans h1 (by decide)
        · obtain ⟨o2, s2⟩ := at_froz (ho := .lst ws) o' hp
          exact q _ _ _ o2 (s'.trans s2) (.lst (.inl (.inl upd_same)) (dpAll_mono (Sub.new (o'.ok.sub.free hp)) _ _ d'))
    · cases h
theorem hxs_ok (hz : Zc cls d oe) (hf : ∃ vs, oe.data = .fields vs) (hn : ∀ j n, nm = some (j, n) → X.N[j]? = some n ∧ X.env.kindOf n = some .local) (hfo : ∀ f, fo = some f → ∃ A, cl[c]? = some (A, some f) ∧ XfC X.K A ∧ PySem.W.findIn X.K (.ref A) f = some none) (hsc : X.env.scope = sc) (bl : ∀ x ∈ bltNames, X.mg x = none) (hcn : ∃ A, cl[c]? = some (A, fo) ∧ XiOk X.K cx A) :
    ∀ (hs : List Hx) (pes : List Expr), chkXs sc cx nm fo hs pes = true → PA (X.suite a ((a, oe) :: pn)) pes (rdHs cl bs a cls d c (nm.map (·.1)) hs)
  | [], pes, h => by
    unfold chkXs at h
    split at h
    · refine pa_nil.imp fun σ H Q q => ?_
      obtain ⟨v', g, st, x, o, ex, hj, e, q⟩ := q
      cases e
      exact q [] g H o Step.refl .nil
    · cases h
  | k :: hs, pes, h => by
    unfold chkXs at h
    split at h
    · rename_i pe pes
      simp only [Bool.and_eq_true] at h
      obtain ⟨h1, h2, h3⟩ := h
      refine (pa_cons (hx_ok hz hf hn hfo hsc bl hcn k pe h2) (hxs_ok hz hf hn hfo hsc bl hcn hs pes h3) (star_cons h1 pes _)).imp fun σ H Q q => ?_
      obtain ⟨v', g, st, xs, o, ex, hj, e, q⟩ := q
      have e' : (match hxV v' k, hxVs v' hs with | some x, some xs => some (x :: xs) | _, _ => none) = some xs := e
      cases e1 : hxV v' k with
      | none => rw [e1] at e'; cases e'
      | some y =>
        cases e2 : hxVs v' hs with
        | none => rw [e1, e2] at e'; cases e'
        | some ys =>
          rw [e1, e2] at e'
          cases e'
          refine ⟨v', g, st, y, o, ex, hj, e1, fun w g1 H1 o1 s1 d1 => ?_⟩
          refine ⟨v', g1, st, ys, o1, ex.step s1, hj, e2, fun ws g2 H2 o2 s2 d2 => ?_⟩
          exact q (w :: ws) g2 H2 o2 (s1.trans s2) (.cons (s2.dp d1) d2)
    · cases h
end
end
/-! ### the clauses -/
theorem EnvR.caught {g : Gh} {env : Env} {σ : L2.St} (r : EnvR g env σ) (i j : Nat) {o : Option V} {d : D} {w : V} (rd : RepD N0 g d w) : EnvR g (setE (setE env j (some d)) i none) (((σ.set i o).set j (some w)).set i none) := by
  have r1 := (r.drop i (o := o)).set j rd
  have r2 := r1.drop i (o := none)
  refine ⟨by rw [len_setE, len_setE, List.length_set, List.length_set, List.length_set]; exact r.len, fun k e h => r2.val k e ?_⟩
  have key : setE (setE (setE env i none) j (some d)) i none = setE (setE env j (some d)) i none := by
    by_cases hij : i = j
    · subst hij
      rw [setE_setE, setE_setE, setE_setE]
    · rw [setE_comm hij, setE_setE]
  rw [key]; exact h
where
  setE_setE : ∀ {env : Env} {i : Nat} {a b : Option D}, setE (setE env i a) i b = setE env i b
    | [], _, _, _ => rfl
    | x :: r, 0, _, _ => rfl
    | x :: r, i + 1, _, _ => congrArg (x :: ·) (setE_setE (env := r))
  setE_comm : ∀ {env : Env} {i j : Nat} {a b : Option D}, i ≠ j → setE (setE env i a) j b = setE (setE env j b) i a
    | [], _, _, _, _, _ => rfl
    | x :: r, 0, 0, _, _, h => absurd rfl h
    | x :: r, 0, j + 1, _, _, _ => rfl
    | x :: r, i + 1, 0, _, _, _ => rfl
    | x :: r, i + 1, j + 1, _, _, h => congrArg (x :: ·) (setE_comm (env := r) fun e => h (congrArg Nat.succ e))
/-- a clause as the hand layer takes it -/
def clauseOf (cl : List (Addr × Option Str)) (bs : List Nat) (A : Nat → Addr) : Hd → Clause
  | .ret c nm h => (.ref (A c), nm, fun a cls d D σ H => rdH cl bs a cls d c nm h σ H D.rt)
  | .set c nm j h => (.ref (A c), nm, fun a cls d D σ H => rdH cl bs a cls d c nm h σ H fun w H' => D.nx (σ.set j (some w)) H')
def hdC : Hd → Nat
  | .ret c _ _ => c
  | .set c _ _ _ => c
theorem handle_mix {n : Nat} {K : PySem.W.Frag} {cl : List (Addr × Option Str)} {bs : List Nat} {A : Nat → Addr} {W : WX} {D : Ends}
    (hcl : ∀ c C fo, cl[c]? = some (C, fo) → C = A c) (hex : ∀ c h C fo, cl[c]? = some (C, fo) → h < n → PySem.W.exmOne K (.ref C) (.ref (A h)) = some (Nat.beq c h)) :
    ∀ (hs : List Hd) (_ : ∀ h ∈ hs, hdC h < n) {g : Gh} {H : Hp} {st : Sto} {env : Env} {σ : L2.St} {c : Nat} {v : Option PyData} {cls : Value} {dx : Option Addr}, At N0 bs g H st → EnvR g env σ → ExnR cl g c v cls dx →
      PostS cl bs g H st (handle c v env st hs) D W → wMix K W D (hs.map (clauseOf cl bs A)) cls dx σ H
  | [], _, g, H, st, env, σ, c, v, cls, dx, a, er, ex, p => p cls dx σ g H a Step.refl er ex
  | .ret h nm x :: hs, hl, g, H, st, env, σ, c, v, cls, dx, a, er, ex, p => by
    obtain ⟨C, fo, x1, x2, x3⟩ := id ex
    subst x2
    have p0 : PostS cl bs g H st (match Nat.beq c h with
      | true => match hxV v x with
        | some d => .rt (.p d) st
        | none => .stuck
      | false => handle c v env st hs) D W := p
    clear p
    refine ⟨Nat.beq c h, hex c h C fo x1 (hl _ List.mem_cons_self), fun hb b hbn => ?_, fun hb => ?_⟩
    · rw [hb] at p0
      have ec := Nat.eq_of_beq_eq_true hb
      subst ec
      cases z : hxV v x with
      | none => rw [z] at p0; exact p0.elim
      | some y =>
        rw [z] at p0
        cases nm with
        | none => exact ⟨v, g, st, y, a, ex, (fun _ e => by cases e), z, fun w g' H' a' s' d' => p0 w g' H' a' s' d'⟩
        | some i =>
          refine ⟨v, g, st, y, a, ex, fun j e hj => ?_, z, fun w g' H' a' s' d' => p0 w g' H' a' s' d'⟩
          cases e
          rw [List.length_set] at hj
          exact List.getElem?_set_self hj
    · rw [hb] at p0
      exact handle_mix hcl hex hs (fun z hz => hl z (List.mem_cons_of_mem _ hz)) a er ex p0
  | .set h nm j x :: hs, hl, g, H, st, env, σ, c, v, cls, dx, a, er, ex, p => by
    obtain ⟨C, fo, x1, x2, x3⟩ := id ex
    subst x2
    have p0 : PostS cl bs g H st (match Nat.beq c h with
      | true => match hxV v x with
        | some d => .nx (setH env j (.p d) nm) st
        | none => .stuck
      | false => handle c v env st hs) D W := p
    clear p
    refine ⟨Nat.beq c h, hex c h C fo x1 (hl _ List.mem_cons_self), fun hb b hbn => ?_, fun hb => ?_⟩
    · rw [hb] at p0
      have ec := Nat.eq_of_beq_eq_true hb
      subst ec
      cases z : hxV v x with
      | none => rw [z] at p0; exact p0.elim
      | some y =>
        rw [z] at p0
        cases nm with
        | none => exact ⟨v, g, st, y, a, ex, (fun _ e => by cases e), z, fun w g' H' a' s' d' => p0 _ g' H' a' s' ((er.step s').set j (show Dp N0 _ _ _ from d'))⟩
        | some i =>
          refine ⟨v, g, st, y, a, ex, fun j e hj => ?_, z, fun w g' H' a' s' d' => p0 _ g' H' a' s' ((er.step s').caught i j (show Dp N0 _ _ _ from d'))⟩
          cases e
          rw [List.length_set] at hj
          exact List.getElem?_set_self hj
    · rw [hb] at p0
      exact handle_mix hcl hex hs (fun z hz => hl z (List.mem_cons_of_mem _ hz)) a er ex p0
end Ev

set_option maxHeartbeats 2000000
/-! Ev18: the text of statements beside the reckoner's: a check, and what it gives. -/
namespace Ev
variable [FnTab] [CnTab]
open PySem PySem.Spec PyProof.Rows L2

/-- an own class with one field: its making -/
def MkF (K : PySem.W.Frag) (mg : Str → Option Value) (x f : Str) (A : Addr) : Prop := ∀ (X : Cx), X.K = K → X.mg = mg → Room 2 X.A → ∀ (pe : Expr) (te : TE) (p pos : Pos), PE X pe te → noStar pe = true → Gl X x →
  PMk X (.Call (.Name x p) [pe] [] pos) (fun σ H Q => te σ H fun v H1 => ∀ d, H1 d = none → Q (.ref A) (some d) (upd H1 d (.xd [(f, v)])))
/-- .. without: -/
def MkP0 (K : PySem.W.Frag) (A : Addr) : Prop := PySem.W.keepIn K (.ref A) = true ∧ PySem.W.subIn K (.ref A) (.type "BaseException") = some true ∧ PySem.W.typeIn K (.ref A) = some (.type "type") ∧ ∃ B newId initId bmB, ExcBaseFacts B newId initId bmB ∧ PySem.W.excIn K A bmB newId = true
/-- the exception classes: names and fields; where they stand -/
structure XC (K : PySem.W.Frag) (mg : Str → Option Value) (cl : List (Addr × Option Str)) (XN : List (Str × Option Str)) (A : Nat → Addr) : Prop where
  len : ∀ c C fo, cl[c]? = some (C, fo) → C = A c
  at_ : ∀ c x fo, XN[c]? = some (x, fo) → cl[c]? = some (A c, fo) ∧ mg x = some (.ref (A c)) ∧ match fo with
    | none => MkP0 K (A c)
    | some f => MkF K mg x f (A c) ∧ XfC K (A c) ∧ PySem.W.findIn K (.ref (A c)) f = some none
  xi : ∀ c x fo, XN[c]? = some (x, fo) → XiOk K x (A c)
  exm : ∀ c h C fo, cl[c]? = some (C, fo) → h < XN.length → PySem.W.exmOne K (.ref C) (.ref (A h)) = some (Nat.beq c h)
structure GS (X : Cx) (cl : List (Addr × Option Str)) (W : WX) (C : Cl) (F : List FnN) (k : Nat) (XN : List (Str × Option Str)) (A : Nat → Addr) : Prop where
  x : GX X cl W C F k
  k2 : 2 ≤ k
  own : PassesOwn (model X.prog X.w) X.A X.env X.xe
  fnT : ∀ y, X.fn y = true
  stk : X.stack = X.env :: X.outer
  frm : X.env.frame = some X.env.locals
  kind : X.env.scope.kind = .function
  xc : XC X.K X.mg cl XN A
theorem GS.tr {X : Cx} {cl : List (Addr × Option Str)} {W W' : WX} {C : Cl} {F : List FnN} {k : Nat} {XN : List (Str × Option Str)} {A : Nat → Addr} (G : GS X cl W C F k XN A) (pn : List (Addr × Obj)) (xe : Value → Shared → Prop) (tk : Takes (X.tr pn xe) W') (hp : PassesOwn (model X.prog X.w) X.A X.env xe) :
    GS (X.tr pn xe) cl W' C F k XN A := ⟨⟨G.x.calm, G.x.nd, G.x.room, tk, G.x.fn, G.x.bl, G.x.cn, G.x.ft⟩, G.k2, hp, G.fnT, G.stk, G.frm, G.kind, G.xc⟩

/-! ### swapped stores -/
def isLoc (sc : Scope) (x : Str) : Bool := match sc.names.lookup x with | some .local => true | _ => false
theorem isLoc_ok {sc : Scope} {x : Str} (h : isLoc sc x = true) : sc.names.lookup x = some .local := by
  unfold isLoc at h
  split at h
  · assumption
  · cases h
/-- what swappedStores tells, without effects; none outside: not served -/
def swQ (sc : Scope) (ts vs : List Expr) : Option (Option (List Str)) :=
  if (!(ts.length == 2 || ts.length == 3) || vs.length != ts.length) = true then some none
  else if (vs.any fun | .Starred .. => true | _ => false) = true then some none
  else if ((ts.filterMap fun | .Name id pos => if (sc.names.lookup id == some .local && pos.line == (ts.head?.map (·.pos.line)).getD 0) = true then some id else none | _ => none).length != ts.length ||
      (ts.filterMap fun | .Name id pos => if (sc.names.lookup id == some .local && pos.line == (ts.head?.map (·.pos.line)).getD 0) = true then some id else none | _ => none).eraseDups.length !=
        (ts.filterMap fun | .Name id pos => if (sc.names.lookup id == some .local && pos.line == (ts.head?.map (·.pos.line)).getD 0) = true then some id else none | _ => none).length) = true then some none
  else if vs.all (foldedForSure 8) = true then some none
  else if vs.all (constantsAlone 8) = true then none
  else some (some (ts.filterMap fun | .Name id pos => if (sc.names.lookup id == some .local && pos.line == (ts.head?.map (·.pos.line)).getD 0) = true then some id else none | _ => none))
theorem swQ_ok {env : PySem.Env} {sc : Scope} (hsc : env.scope = sc) (hk : sc.kind = .function) {ts vs : List Expr} {k k2 : Nat} {p p2 : Pos} {r : Option (List Str)} (h : swQ sc ts vs = some r) : swappedStores [.Tuple ts k p] (.Tuple vs k2 p2) env = pure r := by
  have hb : env.blockKind = .function := by unfold Env.blockKind; rw [hsc, hk]; rfl
  have hko : ∀ id, env.kindOf id = sc.names.lookup id := fun id => by unfold Env.kindOf; rw [hsc]
  unfold swQ at h
  unfold swappedStores
  simp only [hb, hko]
  by_cases c1 : (!(ts.length == 2 || ts.length == 3) || vs.length != ts.length) = true
  · rw [if_pos c1] at h
    cases h
    have c1' : (!(ts.length == 2 || ts.length == 3) || vs.length != ts.length || ScopeKind.function != ScopeKind.function) = true := by rw [c1]; rfl
    simp only [c1', if_true]
  · rw [if_neg c1] at h
    have c1' : ¬ (!(ts.length == 2 || ts.length == 3) || vs.length != ts.length || ScopeKind.function != ScopeKind.function) = true := by
      rw [Bool.eq_false_iff.mpr c1]; decide
    simp only [c1', Bool.false_eq_true, if_false]
    clear c1 c1'
    split
    · rename_i c2
      have e := (if_pos c2).symm.trans h
      cases e; rfl
    · rename_i c2
      have h := (if_neg c2).symm.trans h
      split
      · rename_i c3
        have e := (if_pos c3).symm.trans h
        cases e; rfl
      · rename_i c3
        have h := (if_neg c3).symm.trans h
        split
        · rename_i c4
          have e := (if_pos c4).symm.trans h
          cases e; rfl
        · rename_i c4
          have h := (if_neg c4).symm.trans h
          split
          · rename_i c5
            have e := (if_pos c5).symm.trans h
            cases e
          · rename_i c5
            have e := (if_neg c5).symm.trans h
            cases e; rfl

/-! ### comprehensions that are assigned -/
def swT (sc : Scope) : Expr → Bool
  | .Name x _ => !isLoc sc x
  | _ => true
def swF (sc : Scope) (pt pe : Expr) : Bool := noComp pe || swT sc pt
theorem swF_ok {env : PySem.Env} {sc : Scope} (hsc : env.scope = sc) {pt pe : Expr} {l : Nat} (h : swF sc pt pe = true) : swapsWithSole [pt] pe l env = pure false := by
  unfold swapsWithSole
  unfold swF at h
  cases hn : noComp pe with
  | true => exact noComp_ok hn _ _ _
  | false =>
    rw [hn] at h
    have h : swT sc pt = true := h
    have go : ∀ scope : Scope, (match (some pt : Option Expr) with
        | none => do
          if env.scope.kind == .class then unsupported "comprehension:value-dropped-in-a-class-body"
          if pe.pos.line != l then unsupported "comprehension:value-dropped:on-another-line"
          return true
        | some (.Name t pos) =>
          return env.blockKind == .function && env.kindOf t == some .local && pos.line == pe.pos.line && !(scope.names.any fun (n, k) => n == t && (k == .local || k == .cell))
        | some _ => return false : Sem Bool) = pure false := fun scope => by
      cases pt with
      | Name x p =>
        have h : (!isLoc sc x) = true := h
        have hl : (env.kindOf x == some .local) = false := by
          show (env.scope.names.lookup x == some .local) = false
          rw [hsc]
          unfold isLoc at h
          cases e : sc.names.lookup x with
          | none => rfl
          | some k => cases k <;> first | rfl | (rw [e] at h; cases h)
        show (pure (env.blockKind == .function && env.kindOf x == some .local && p.line == pe.pos.line && !(scope.names.any fun (n, k) => n == x && (k == .local || k == .cell))) : Sem Bool) = pure false
        rw [hl, Bool.and_false, Bool.false_and, Bool.false_and]
      | _ => rfl
    cases pe with
    | ListComp e g s p => exact go s
    | SetComp e g s p => exact go s
    | DictComp a b g s p => exact go s
    | _ => cases hn
def swN (sc : Scope) (pt pe : Expr) : Bool := match pt, pe with
  | .Tuple ts _ _, .Tuple vs _ _ => (match swQ sc ts vs with | some none => true | _ => false)
  | .Tuple _ _ _, _ => true
  | .Name _ _, _ => true
  | _, _ => false
theorem swN_ok {env : PySem.Env} {sc : Scope} (hsc : env.scope = sc) (hk : sc.kind = .function) {pt pe : Expr} (h : swN sc pt pe = true) : swappedStores [pt] pe env = pure none := by
  cases pt with
  | Name x p => cases pe <;> rfl
  | Tuple ts k p =>
    cases pe with
    | Tuple vs k2 p2 =>
      have h : (match swQ sc ts vs with | some none => true | _ => false) = true := h
      split at h
      · rename_i e
        exact swQ_ok hsc hk e
      · cases h
    | _ => rfl
  | _ => cases pe <;> cases h
section
variable {cl : List (Addr × Option Str)} {bs : List Nat} {W : WX} {C : Cl} {F : List FnN} {N : List Str} {k : Nat} {X : Cx}
/-- the parts of a checked comprehension -/
theorem lc_parts (G : GX X cl W C F k) (hN : X.N = N) {sc : Scope} (hsc : X.env.scope = sc) {al : Bool} {own : List Nat} {tg : Tg} {kd : Nat} {src ifs : List E} {elt : E} {pelt : Expr} {gens : List Comprehension} {scope : Scope} {pos : Pos}
    (h : chkE F N sc (.lc al own tg kd src ifs elt) (.ListComp pelt gens scope pos) = true) : ∃ ptg pit pifs, gens = [⟨ptg, pit, pifs, 0⟩] ∧ BlkOk X.N X.env.scope scope (ownN X.N own) ∧ (ownN X.N own).map (·.2) = own ∧ (∀ i ∈ slots tg, i ∈ own) ∧
      PI X ptg pit (rdJ cl bs W C X.K kd src) ∧ noSet pit = true ∧
      (∀ (s : Shared) (H : Hp) (D : Addr) (c : List (Str × Addr)) (fp : List Addr), PG (X.blk s H scope (compEnvC scope c D X.env) fp) ptg (gT X.K tg)) ∧
      (∀ (s : Shared) (H : Hp) (D : Addr) (c : List (Str × Addr)) (fp : List Addr), PTs (X.blk s H scope (compEnvC scope c D X.env) fp) pifs (rdQ cl bs WF (fun env st => evAll C bs env ifs st))) ∧
      (∀ (s : Shared) (H : Hp) (D : Addr) (c : List (Str × Addr)) (fp : List Addr), PE (X.blk s H scope (compEnvC scope c D X.env) fp) pelt (rdC cl bs WF (fun env st => ev C bs env elt false st))) := by
  unfold chkE at h
  split at h
  · rename_i pelt' ptg pit pifs scope' _ heq
    cases heq
    simp only [Bool.and_eq_true] at h
    obtain ⟨⟨⟨h1, h2⟩, h3, h4⟩, h5, h6, h7⟩ := h
    unfold blkB at h1
    obtain ⟨b1, b2⟩ := Bool.and_eq_true_iff.mp h1
    have b2 := of_decide_eq_true b2
    have hin : ∀ i ∈ slots tg, i ∈ own := fun i hi => by
      have := List.all_eq_true.mp h2 i hi
      simpa using this
    split at h5
    · rename_i pes hs
      have hsrc := srcArgs_ok (bs := bs) G hsc hs (chkEs_ok src pes X W sc G hN hsc h5)
      have hsc2 : ∀ (s : Shared) (H : Hp) (D : Addr) (c : List (Str × Addr)) (fp : List Addr), (X.blk s H scope (compEnvC scope c D X.env) fp).env.scope = relS scope sc := fun s H D c fp => by
        show relS scope X.env.scope = _
        rw [hsc]
      refine ⟨ptg, pit, pifs, rfl, by rw [hN, hsc]; exact blkOk_by b1, by rw [hN]; exact b2, hin, hsrc, h4, fun s H D c fp => (chkT_ok (X := X.blk s H scope (compEnvC scope c D X.env) fp) G.calm G.nd tg ptg ?_).1, fun s H D c fp => ?_, fun s H D c fp => ?_⟩
      · rw [hsc2 s H D c fp]
        show chkT X.N _ _ tg ptg = true
        rw [hN]; exact h3
      · exact chkI_ok ifs pifs (X.blk s H scope (compEnvC scope c D X.env) fp) WF (relS scope sc) (G.blk s H scope _ fp) hN (hsc2 s H D c fp) h6
      · exact (chkE_ok elt pelt (X.blk s H scope (compEnvC scope c D X.env) fp) WF (relS scope sc) (G.blk s H scope _ fp) hN (hsc2 s H D c fp) h7).v
    · cases h5
  · cases h
end

/-! ### the checks -/
def asgB (sc : Scope) (pt pe : Expr) : Bool := noStar pt && (swF sc pt pe && swN sc pt pe)
def setB (N : List Str) (sc : Scope) (i : Nat) (pt pe : Expr) : Bool := match pt, pe with
  | .Name y py, .ListComp _ _ scope pos => decide (N[i]? = some y) && isLoc sc y && ((py.line == pos.line) && !(scope.names.any fun (n, k) => n == y && (k == .local || k == .cell)))
  | _, _ => false
def isLc : E → Bool
  | .lc _ _ _ _ _ _ _ => true
  | _ => false
def nmOk (N : List Str) (sc : Scope) : Option Nat → Option Str → Bool
  | none, none => true
  | some i, some n => decide (N[i]? = some n) && isLoc sc n
  | _, _ => false
def nmOf : Option Nat → Option Str → Option (Nat × Str)
  | some i, some n => some (i, n)
  | _, _ => none
def locB (sc : Scope) (x : Str) : Bool := match sc.names.lookup x with | some .local => true | some .cell => true | _ => false
def chkHd (N : List Str) (sc : Scope) (XN : List (Str × Option Str)) (h : Hd) (p : ExceptHandler) : Bool := match h, p with
  | .ret c nm x, .ExceptHandler (some (.Name y _)) n [.Return (some pe) _] _ => (match XN[c]? with | some (z, fo) => y == z && chkX sc y (nmOf nm n) fo x pe | none => false) && (glB sc y && okN y) && nmOk N sc nm n
  | .set c nm j x, .ExceptHandler (some (.Name y _)) n [.Assign [.Name w _] pe _] _ => (match XN[c]? with | some (z, fo) => y == z && chkX sc y (nmOf nm n) fo x pe | none => false) && (glB sc y && okN y) && nmOk N sc nm n && (decide (N[j]? = some w) && (locB sc w && noComp pe))
  | _, _ => false
def chkHds (N : List Str) (sc : Scope) (XN : List (Str × Option Str)) : List Hd → List ExceptHandler → Bool
  | [], [] => true
  | h :: hs, p :: ps => chkHd N sc XN h p && chkHds N sc XN hs ps
  | _, _ => false
def parB (N : List Str) (sc : Scope) (ts : List Tg) (pts pes : List Expr) : Bool := match ts, pts with
  | [.name i, .name j], [.Name x _, .Name y _] => decide (N[i]? = some x) && decide (N[j]? = some y) && (!Nat.beq i j && (isLoc sc x && isLoc sc y)) && (match swQ sc pts pes with | some (some [x', y']) => x == x' && y == y' | _ => false) && Nat.beq pes.length 2
  | [.name i, .name j, .name l], [.Name x _, .Name y _, .Name z _] => decide (N[i]? = some x) && decide (N[j]? = some y) && decide (N[l]? = some z) && (!Nat.beq i j && !Nat.beq i l && !Nat.beq j l && (isLoc sc x && isLoc sc y && isLoc sc z)) &&
      (match swQ sc pts pes with | some (some [x', y', z']) => x == x' && y == y' && z == z' | _ => false) && Nat.beq pes.length 3
  | _, _ => false
/-- .. by a tuple that is made and taken apart -/
def parT (N : List Str) (sc : Scope) (ts : List Tg) (pts pes : List Expr) : Bool := (match swQ sc pts pes with | some none => true | _ => false) && chkTs N sc (fun _ => true) ts pts && (Nat.beq pes.length ts.length && decide (pes.length ≤ 1000))
def plainSub : Expr → Bool
  | .Slice _ _ _ _ => false
  | _ => true
mutual
def chkS (F : List FnN) (N : List Str) (sc : Scope) (XN : List (Str × Option Str)) : S → Stmt → Bool
  | .asg t e, p => match p with
    | .AugAssign (.Name x _) op pe _ => (match t, e with
        | .name i, .op o [.var j, e'] => Nat.beq i j && (decide (N[i]? = some x) && (locB sc x && augB op o)) && chkE F N sc e' pe
        | _, _ => false)
    | .Assign [pt] pe _ => (match t with
        | .name i => isLc e && setB N sc i pt pe
        | .tup _ => false) && chkE F N sc e pe || asgB sc pt pe && (chkT N sc (fun _ => true) t pt && chkE F N sc e pe)
    | _ => false
  | .par ts es, p => match p with
    | .Assign [.Tuple pts _ _] (.Tuple pes _ _) _ => (parB N sc ts pts pes || parT N sc ts pts pes) && chkEs F N sc es pes
    | _ => false
  | .sub o i e, p => match p with
    | .Assign [.Subscript po pi tp] pe _ => chkE F N sc o po && (chkE F N sc i pi && chkE F N sc e pe) && (swF sc (.Subscript po pi tp) pe && plainSub pi)
    | _ => false
  | .subAug o i oo e, p => match p with
    | .AugAssign (.Subscript po pi _) op pe _ => chkE F N sc o po && (chkE F N sc i pi && chkE F N sc e pe) && (augB op oo && plainSub pi)
    | _ => false
  | .unp ts e, p => match p with
    | .Assign [.Tuple pts k1 p1] pe _ => (swF sc (.Tuple pts k1 p1) pe && swN sc (.Tuple pts k1 p1) pe) && (chkTs N sc (fun _ => true) ts pts && chkE F N sc e pe)
    | _ => false
  | .ex e, p => match p with | .Expr pe _ => noComp pe && chkE F N sc e pe | _ => false
  | .ret e, p => match p with | .Return (some pe) _ => chkE F N sc e pe | _ => false
  | .retN, p => match p with | .Return none _ => true | _ => false
  | .ife c a b, p => match p with | .If pc pa pb _ => chkE F N sc c pc && (chkSs F N sc XN a pa && chkSs F N sc XN b pb) | _ => false
  | .for tg kd src body, p => match p with
    | .For ptg pit pb [] _ => chkT N sc (fun _ => true) tg ptg && noSet pit && (match srcArgs sc kd ptg pit with | some pes => chkEs F N sc src pes | none => false) && chkSs F N sc XN body pb
    | _ => false
  | .whl c body, p => match p with | .While pc pb [] _ => chkE F N sc c pc && chkSs F N sc XN body pb | _ => false
  | .brk, p => match p with | .Break _ => true | _ => false
  | .cnt, p => match p with | .Continue _ => true | _ => false
  | .pass, p => match p with | .Pass _ => true | _ => false
  | .nvr, _ => true
  | .raise c none, p => match p with | .Raise (some (.Call (.Name x _) [] [] _)) none _ => decide (XN[c]? = some (x, none)) && (glB sc x && okN x) | _ => false
  | .raise c (some e), p => match p with | .Raise (some (.Call (.Name x _) [pe] [] _)) none _ => (match XN[c]? with | some (y, some _) => x == y | _ => false) && (glB sc x && noStar pe) && chkE F N sc e pe | _ => false
  | .tri body hs, p => match p with
    | .Try pb (h₀ :: hds) [] [] _ => chkSs F N sc XN body pb && chkHds N sc XN hs (h₀ :: hds)
    | _ => false
termination_by structural x => x
def chkSs (F : List FnN) (N : List Str) (sc : Scope) (XN : List (Str × Option Str)) : List S → List Stmt → Bool
  | [], ps => match ps with | [] => true | _ :: _ => false
  | s :: ss, ps => match ps with | p :: ps => chkS F N sc XN s p && chkSs F N sc XN ss ps | [] => false
termination_by structural x => x
end
end Ev

set_option maxHeartbeats 2000000
/-! Ev19: a checked statement does what the reckoner says. -/
namespace Ev
variable [FnTab] [CnTab]
open PySem PySem.Spec PyProof.Rows L2
section
variable {cl : List (Addr × Option Str)} {bs : List Nat} {W : WX} {C : Cl} {fl : Nat} {F : List FnN} {N : List Str} {k : Nat} {X : Cx} {XN : List (Str × Option Str)} {A : Nat → Addr} {sc : Scope}
theorem GS.fnE (G : GS X cl W C F k XN A) : X.fn = fun _ => true := funext G.fnT
theorem tgt_ok (G : GS X cl W C F k XN A) (hN : X.N = N) (hsc : X.env.scope = sc) {t : Tg} {pt : Expr} (h : chkT N sc (fun _ => true) t pt = true) : PG X pt (gT X.K t) :=
  (chkT_ok (X := X) G.x.calm G.x.nd t pt (by rw [hN, hsc, G.fnE]; exact h)).1
theorem nmOk_ok (hN : X.N = N) (hsc : X.env.scope = sc) {nm : Option Nat} {n : Option Str} (h : nmOk N sc nm n = true) : (nm = none ∧ n = none) ∨ ∃ i x, nm = some i ∧ n = some x ∧ X.N[i]? = some x ∧ X.env.kindOf x = some .local := by
  unfold nmOk at h
  split at h
  · exact .inl ⟨rfl, rfl⟩
  · rename_i i x
    obtain ⟨h1, h2⟩ := Bool.and_eq_true_iff.mp h
    refine .inr ⟨i, x, rfl, rfl, by rw [hN]; exact of_decide_eq_true h1, ?_⟩
    show X.env.scope.names.lookup x = _
    rw [hsc]; exact isLoc_ok h2
  · cases h
/-- a clause checked -/
theorem hd_ok (G : GS X cl W C F k XN A) (hN : X.N = N) (hsc : X.env.scope = sc) {hds : List ExceptHandler} {l : List Clause} : ∀ {h : Hd} {p : ExceptHandler}, chkHd N sc XN h p = true → HdM X hds l → HdM X (p :: hds) (clauseOf cl bs A h :: l) := by
  intro h p hc r
  unfold chkHd at hc
  -- the class
  have cls : ∀ {c : Nat} {y : Str} {pe : Expr} {x : Hx} {nm : Option Nat} {n : Option Str}, (match XN[c]? with | some (z, fo) => y == z && chkX sc y (nmOf nm n) fo x pe | none => false) = true → glB sc y = true → okN y = true →
      Names X y (.ref (A c)) ∧ ∃ fo, chkX sc y (nmOf nm n) fo x pe = true ∧ (∀ f, fo = some f → ∃ B, cl[c]? = some (B, some f) ∧ XfC X.K B ∧ PySem.W.findIn X.K (.ref B) f = some none) ∧ (∃ B, cl[c]? = some (B, fo) ∧ XiOk X.K y B) := fun {c y pe x nm n} h1 h2 h3 => by
    cases e : XN[c]? with
    | none => rw [e] at h1; cases h1
    | some zf =>
      obtain ⟨z, fo⟩ := zf
      rw [e] at h1
      obtain ⟨k1, k2⟩ := Bool.and_eq_true_iff.mp (show (y == z && chkX sc y (nmOf nm n) fo x pe) = true from h1)
      have ey := eq_of_beq k1
      subst ey
      obtain ⟨m1, m2, m3⟩ := G.xc.at_ c y fo e
      refine ⟨⟨glB_ok hsc h2, (okN_ok h3).1, .inl m2⟩, fo, k2, fun f ef => ?_, ⟨A c, m1, G.xc.xi c y fo e⟩⟩
      subst ef
      exact ⟨A c, m1, m3.2.1, m3.2.2⟩
  split at hc
  · rename_i c nm x y np n pe rp hp
    simp only [Bool.and_eq_true] at hc
    obtain ⟨⟨h1, h2, h3⟩, h4⟩ := hc
    obtain ⟨hn, fo, k1, k2, k2c⟩ := cls h1 h2 h3
    rcases nmOk_ok hN hsc h4 with ⟨rfl, rfl⟩ | ⟨i, w, rfl, rfl, k3, k4⟩
    · exact .plain hn (fun a oe cls d pn hz hf => pss_one (ps_ret (hx_ok (nm := none) (bs := bs) hz hf (fun _ _ e => nomatch e) k2 hsc G.x.bl k2c x pe k1))) r
    · refine .named hn k3 k4 (fun a oe cls d pn hz hf => pss_one (ps_ret (hx_ok (nm := some (i, w)) (bs := bs) hz hf (fun j n e => ?_) k2 hsc G.x.bl k2c x pe k1))) r
      cases e
      exact ⟨k3, k4⟩
  · rename_i c nm j x y np n w wp pe ap hp
    simp only [Bool.and_eq_true, decide_eq_true_eq] at hc
    obtain ⟨⟨⟨h1, h2, h3⟩, h4⟩, h5, h6, h7⟩ := hc
    obtain ⟨hn, fo, k1, k2, k2c⟩ := cls h1 h2 h3
    have hw : Loc X.env.scope w := by
      unfold locB at h6
      rw [hsc]
      split at h6
      · rename_i e; exact .inl e
      · rename_i e; exact .inr e
      · cases h6
    have hj : X.N[j]? = some w := by rw [hN]; exact h5
    rcases nmOk_ok hN hsc h4 with ⟨rfl, rfl⟩ | ⟨i, w2, rfl, rfl, k3, k4⟩
    · exact .plain hn (fun a oe cls d pn hz hf => pss_one (ps_set (X := X.suite a ((a, oe) :: pn)) (i := j) G.x.nd hj hw (hx_ok (nm := none) (bs := bs) hz hf (fun _ _ e => nomatch e) k2 hsc G.x.bl k2c x pe k1) (noComp_ok h7 _ _ _) (.inl (G.fnT w)))) r
    · refine .named hn k3 k4 (fun a oe cls d pn hz hf => pss_one (ps_set (X := X.suite a ((a, oe) :: pn)) (i := j) G.x.nd hj hw (hx_ok (nm := some (i, w2)) (bs := bs) hz hf (fun j n e => ?_) k2 hsc G.x.bl k2c x pe k1) (noComp_ok h7 _ _ _) (.inl (G.fnT w)))) r
      cases e
      exact ⟨k3, k4⟩
  · cases hc
theorem hds_ok (G : GS X cl W C F k XN A) (hN : X.N = N) (hsc : X.env.scope = sc) : ∀ {hs : List Hd} {ps : List ExceptHandler}, chkHds N sc XN hs ps = true → HdM X ps (hs.map (clauseOf cl bs A))
  | [], [], _ => .nil
  | h :: hs, p :: ps, e => by
    obtain ⟨h1, h2⟩ := Bool.and_eq_true_iff.mp (show (chkHd N sc XN h p && chkHds N sc XN hs ps) = true from e)
    exact hd_ok G hN hsc h1 (hds_ok G hN hsc h2)
theorem chkHd_lt {h : Hd} {p : ExceptHandler} (e : chkHd N sc XN h p = true) : hdC h < XN.length := by
  unfold chkHd at e
  split at e
  · rename_i c nm x y np n pe rp hp
    simp only [Bool.and_eq_true] at e
    cases q : XN[c]? with
    | none => rw [q] at e; cases e.1.1
    | some z => exact (List.getElem?_eq_some_iff.mp q).1
  · rename_i c nm j x y np n w wp pe ap hp
    simp only [Bool.and_eq_true] at e
    cases q : XN[c]? with
    | none => rw [q] at e; cases e.1.1.1
    | some z => exact (List.getElem?_eq_some_iff.mp q).1
  · cases e
theorem chkHds_lt : ∀ {hs : List Hd} {ps : List ExceptHandler}, chkHds N sc XN hs ps = true → ∀ h ∈ hs, hdC h < XN.length
  | [], _, _, _, hz => nomatch hz
  | h :: hs, p :: ps, e, z, hz => by
    obtain ⟨h1, h2⟩ := Bool.and_eq_true_iff.mp (show (chkHd N sc XN h p && chkHds N sc XN hs ps) = true from e)
    rcases List.mem_cons.mp hz with e | hz
    · rw [e]; exact chkHd_lt h1
    · exact chkHds_lt h2 z hz
end
section
variable {cl : List (Addr × Option Str)} {bs : List Nat} {C : Cl} {fl : Nat} {F : List FnN} {N : List Str} {k : Nat} {XN : List (Str × Option Str)} {A : Nat → Addr}
theorem parB_ok {X : Cx} {W : WX} {sc : Scope} (G : GS X cl W C F k XN A) (hN : X.N = N) (hsc : X.env.scope = sc) {ts : List Tg} {es : List E} {pts pes : List Expr} {k1 k2 : Nat} {p1 p2 pos : Pos} (h : parB N sc ts pts pes = true) (ae : AE cl bs W C X es pes) :
    sS cl bs W C fl X (.Assign [.Tuple pts k1 p1] (.Tuple pes k2 p2) pos) (.par ts es) := by
  have hk := G.kind
  rw [hsc] at hk
  unfold parB at h
  split at h
  · rename_i i j x px y py
    simp only [Bool.and_eq_true, decide_eq_true_eq] at h
    obtain ⟨⟨⟨⟨h1, h2⟩, h3, h4, h5⟩, h6⟩, h7⟩ := h
    have hl := Nat.eq_of_beq_eq_true h7
    match pes, hl, ae, h6 with
    | [a, b], _, ae, h6 =>
      split at h6
      · rename_i x' y' e
        obtain ⟨e1, e2⟩ := Bool.and_eq_true_iff.mp h6
        have e1 := eq_of_beq e1
        have e2 := eq_of_beq e2
        subst e1; subst e2
        have hij : i ≠ j := fun e => by rw [e, Nat.beq_refl] at h3; cases h3
        exact s_par2 (ps_par G.x.calm G.x.nd (by rw [hN]; exact h1) (by rw [hN]; exact h2) hij (by rw [hsc]; exact isLoc_ok h4) (by rw [hsc]; exact isLoc_ok h5) ae.pa.1 (swQ_ok hsc hk e) (by unfold swapsWithSole; rfl))
      · cases h6
  · rename_i i j l x px y py z pz
    simp only [Bool.and_eq_true, decide_eq_true_eq] at h
    obtain ⟨⟨⟨⟨⟨h1, h2⟩, h2b⟩, ⟨⟨h3, h3b⟩, h3c⟩, ⟨h4, h5⟩, h5b⟩, h6⟩, h7⟩ := h
    have hl := Nat.eq_of_beq_eq_true h7
    match pes, hl, ae, h6 with
    | [a, b, c], _, ae, h6 =>
      split at h6
      · rename_i x' y' z' e
        simp only [Bool.and_eq_true] at h6
        obtain ⟨⟨e1, e2⟩, e3⟩ := h6
        have e1 := eq_of_beq e1
        have e2 := eq_of_beq e2
        have e3 := eq_of_beq e3
        subst e1; subst e2; subst e3
        have hij : i ≠ j := fun e => by rw [e, Nat.beq_refl] at h3; cases h3
        have hil : i ≠ l := fun e => by rw [e, Nat.beq_refl] at h3b; cases h3b
        have hjl : j ≠ l := fun e => by rw [e, Nat.beq_refl] at h3c; cases h3c
        exact s_par3 (ps_par3 G.x.calm G.x.nd (by rw [hN]; exact h1) (by rw [hN]; exact h2) (by rw [hN]; exact h2b) hij hil hjl (by rw [hsc]; exact isLoc_ok h4) (by rw [hsc]; exact isLoc_ok h5) (by rw [hsc]; exact isLoc_ok h5b) ae.pa.1 (swQ_ok hsc hk e) (by unfold swapsWithSole; rfl))
      · cases h6
  · cases h
theorem parT_ok {X : Cx} {W : WX} {sc : Scope} (G : GS X cl W C F k XN A) (hN : X.N = N) (hsc : X.env.scope = sc) {ts : List Tg} {es : List E} {pts pes : List Expr} {k1 k2 : Nat} {p1 p2 pos : Pos} (h : parT N sc ts pts pes = true) (ae : AE cl bs W C X es pes) :
    sS cl bs W C fl X (.Assign [.Tuple pts k1 p1] (.Tuple pes k2 p2) pos) (.par ts es) := by
  have hk := G.kind
  rw [hsc] at hk
  unfold parT at h
  simp only [Bool.and_eq_true] at h
  obtain ⟨⟨h1, h2⟩, h3, h4⟩ := h
  have h4 := of_decide_eq_true h4
  split at h1
  · rename_i e
    obtain ⟨g1, g2, g3, g4⟩ := chkTs_ok (X := X) G.x.calm G.x.nd ts pts (by rw [hN, hsc, G.fnE]; exact h2)
    have pt : PG X (.Tuple pts k1 p1) (gT X.K (.tup ts)) := pg_tup G.x.calm g1 (by rw [← g2]; exact g3) g4
    refine (ps_asg (pe_tup ae.pa.1) pt (by unfold swapsWithSole; rfl) (swQ_ok hsc hk e) (by rfl)).imp fun D σ H q => ?_
    obtain ⟨g, st, env, a, er, p⟩ := q
    refine ⟨g, st, env, a, er, to_post (Rep := RepDs N0) p er fun ds st1 vs g1 H1 a1 s1 r1 p1 => ?_⟩
    obtain ⟨env', z, p1⟩ := asgs_post p1
    have hlen : ds.length = ts.length := asgs_ok.asgs_len ts ds env env' z
    refine ⟨?_, fun p hp => ?_⟩
    · rw [← RepDs.len r1, hlen, line_eq, ← Nat.eq_of_beq_eq_true h3]
      exact Nat.le_trans h4 (by decide)
    · obtain ⟨a2, s2⟩ := at_laid (ho := .tup vs) a1 hp
      obtain ⟨_, tgt⟩ := asgs_ok (K := X.K) (H := upd H1 p (.tup vs)) ts ds vs env env' σ r1 (er.step s1) z a2.ok.sub
      refine ⟨p, vs, rfl, .inl (.inl upd_same), by rw [← RepDs.len r1, hlen], ?_⟩
      refine gTs_mono (g := g1) (H := H1) ts vs σ _ _ _ tgt fun σ2 H2 ⟨eH, er2, _⟩ => ?_
      subst eH
      exact p1 σ2 g1 _ a2 s2 er2
  · cases h1
theorem setB_ok {X : Cx} {W : WX} {sc : Scope} (G : GS X cl W C F k XN A) (hN : X.N = N) (hsc : X.env.scope = sc) {i : Nat} {e : E} {pt pe : Expr} {pos : Pos} (h : setB N sc i pt pe = true) (hlc : isLc e = true) (he : chkE F N sc e pe = true) : sS cl bs W C fl X (.Assign [pt] pe pos) (.asg (.name i) e) := by
  unfold setB at h
  split at h
  · rename_i y py pelt gens scope lp
    simp only [Bool.and_eq_true, decide_eq_true_eq] at h
    obtain ⟨⟨h1, h2⟩, h3, h4⟩ := h
    cases e with
    | lc al own tg kd src ifs elt =>
      obtain ⟨ptg, pit, pifs, rfl, b1, b2, b3, b4, b5, b6, b7, b8⟩ := lc_parts (bs := bs) G.x hN hsc he
      have hy : X.env.scope.names.lookup y = some .local := by rw [hsc]; exact isLoc_ok h2
      refine s_setLc (ps_setLc G.x.calm G.x.nd (by rw [hN]; exact h1) hy (sw_true G.kind hy h3 (by simpa using h4)) b4 b1 b6 b7 b8 (noSet_ok b5 X.env)) fun σ H Q q => ?_
      rw [b2]
      exact lc_rd b3 q
    | _ => cases hlc
  · cases h
mutual
theorem chkS_ok : ∀ (s : S) (p : Stmt) (X : Cx) (W : WX) (sc : Scope), GS X cl W C F k XN A → X.N = N → X.env.scope = sc → chkS F N sc XN s p = true → sS cl bs W C fl X p s
  | .asg t e, p, X, W, sc, G, hN, hsc, h => by
    unfold chkS at h
    split at h
    · rename_i x xp op pe pos
      split at h
      · rename_i i o j e'
        simp only [Bool.and_eq_true, decide_eq_true_eq] at h
        obtain ⟨⟨h1, h2, h3, h4⟩, h5⟩ := h
        have ej := Nat.eq_of_beq_eq_true h1
        subst ej
        have hx : Loc X.env.scope x := by
          unfold locB at h3
          rw [hsc]
          split at h3
          · rename_i e; exact .inl e
          · rename_i e; exact .inr e
          · cases h3
        exact s_augN G.x.nd (by rw [hN]; exact h2) hx (G.fnT x) (chkE_ok e' pe X W sc G.x hN hsc h5).v (augB_ok h4)
      · cases h
    · rename_i pt pe pos
      rcases (Bool.or_eq_true _ _).mp h with h | h
      · obtain ⟨h1, h2⟩ := Bool.and_eq_true_iff.mp h
        cases t with
        | name i =>
          obtain ⟨h3, h4⟩ := Bool.and_eq_true_iff.mp (show (isLc e && setB N sc i pt pe) = true from h1)
          exact setB_ok G hN hsc h4 h3 h2
        | tup ts => cases h1
      · simp only [Bool.and_eq_true] at h
        obtain ⟨h1, h2, h3⟩ := h
        unfold asgB at h1
        simp only [Bool.and_eq_true] at h1
        obtain ⟨k1, k2, k3⟩ := h1
        have hk := G.kind
        rw [hsc] at hk
        exact s_asg (tgt_ok G hN hsc h2) (chkE_ok e pe X W sc G.x hN hsc h3).v (swF_ok hsc k2) (swN_ok hsc hk k3) k1
    · cases h
  | .par ts es, p, X, W, sc, G, hN, hsc, h => by
    unfold chkS at h
    split at h
    · rename_i pts _ _ pes _ _ _
      obtain ⟨h1, h2⟩ := Bool.and_eq_true_iff.mp h
      have ae := chkEs_ok (bs := bs) es pes X W sc G.x hN hsc h2
      rcases (Bool.or_eq_true _ _).mp h1 with h1 | h1
      · exact parB_ok G hN hsc h1 ae
      · exact parT_ok G hN hsc h1 ae
    · cases h
  | .sub o i e, p, X, W, sc, G, hN, hsc, h => by
    have hun := G.x.room.un
    unfold chkS at h
    split at h
    · rename_i po pi _ pe _
      simp only [Bool.and_eq_true] at h
      obtain ⟨⟨h1, h2, h3⟩, h4, h5⟩ := h
      exact s_sub (by omega) (chkE_ok o po X W sc G.x hN hsc h1).v (chkE_ok i pi X W sc G.x hN hsc h2).v (chkE_ok e pe X W sc G.x hN hsc h3).v (swF_ok hsc h4) (fun _ => by cases pi <;> first | rfl | cases h5)
    · cases h
  | .subAug o i oo e, p, X, W, sc, G, hN, hsc, h => by
    have hun := G.x.room.un
    unfold chkS at h
    split at h
    · rename_i po pi _ op pe _
      simp only [Bool.and_eq_true] at h
      obtain ⟨⟨h1, h2, h3⟩, h4, h5⟩ := h
      exact s_subAug (by omega) (chkE_ok o po X W sc G.x hN hsc h1).v (chkE_ok i pi X W sc G.x hN hsc h2).v (chkE_ok e pe X W sc G.x hN hsc h3).v h4 (fun _ _ _ => by cases pi <;> first | rfl | cases h5)
    · cases h
  | .unp ts e, p, X, W, sc, G, hN, hsc, h => by
    have hk := G.kind
    rw [hsc] at hk
    unfold chkS at h
    split at h
    · rename_i pts k1 p1 pe _
      simp only [Bool.and_eq_true] at h
      obtain ⟨⟨h1, h2⟩, h3, h4⟩ := h
      obtain ⟨g1, g2, g3, g4⟩ := chkTs_ok (X := X) G.x.calm G.x.nd ts pts (by rw [hN, hsc, G.fnE]; exact h3)
      exact s_unp G.x.calm g1 (by rw [← g2]; exact g3) g4 (chkE_ok e pe X W sc G.x hN hsc h4).v (swF_ok hsc h1) (swN_ok hsc hk h2)
    · cases h
  | .ex e, p, X, W, sc, G, hN, hsc, h => by
    unfold chkS at h
    split at h
    · rename_i pe _
      obtain ⟨h1, h2⟩ := Bool.and_eq_true_iff.mp h
      exact s_ex (chkE_ok e pe X W sc G.x hN hsc h2).v h1
    · cases h
  | .ret e, p, X, W, sc, G, hN, hsc, h => by
    unfold chkS at h
    split at h
    · rename_i pe _
      exact s_ret (chkE_ok e pe X W sc G.x hN hsc h).v
    · cases h
  | .retN, p, X, W, sc, G, hN, hsc, h => by
    unfold chkS at h
    split at h
    · exact s_retN
    · cases h
  | .ife c a b, p, X, W, sc, G, hN, hsc, h => by
    unfold chkS at h
    split at h
    · rename_i pc pa pb _
      simp only [Bool.and_eq_true] at h
      obtain ⟨h1, h2, h3⟩ := h
      exact s_ife (chkE_ok c pc X W sc G.x hN hsc h1) (chkSs_ok a pa X W sc G hN hsc h2) (chkSs_ok b pb X W sc G hN hsc h3)
    · cases h
  | .for tg kd src body, p, X, W, sc, G, hN, hsc, h => by
    unfold chkS at h
    split at h
    · rename_i ptg pit pb _
      simp only [Bool.and_eq_true] at h
      obtain ⟨⟨⟨h1, h2⟩, h3⟩, h4⟩ := h
      split at h3
      · rename_i pes hs
        exact s_for G.own G.x.calm (srcArgs_ok G.x hsc hs (chkEs_ok src pes X W sc G.x hN hsc h3)) (tgt_ok G hN hsc h1) (chkSs_ok body pb X W sc G hN hsc h4) h2
      · cases h3
    · cases h
  | .whl c body, p, X, W, sc, G, hN, hsc, h => by
    unfold chkS at h
    split at h
    · rename_i pc pb _
      obtain ⟨h1, h2⟩ := Bool.and_eq_true_iff.mp h
      exact s_whl G.own (chkE_ok c pc X W sc G.x hN hsc h1) (chkSs_ok body pb X W sc G hN hsc h2)
    · cases h
  | .brk, p, X, W, sc, G, hN, hsc, h => by
    unfold chkS at h
    split at h
    · exact s_brk
    · cases h
  | .cnt, p, X, W, sc, G, hN, hsc, h => by
    unfold chkS at h
    split at h
    · exact s_cnt
    · cases h
  | .pass, p, X, W, sc, G, hN, hsc, h => by
    unfold chkS at h
    split at h
    · exact s_pass
    · cases h
  | .nvr, p, X, W, sc, G, hN, hsc, h => ⟨fun _ _ _ _ _ _ ⟨_, _, _, _, _, p⟩ => False.elim p⟩
  | .raise c none, p, X, W, sc, G, hN, hsc, h => by
    unfold chkS at h
    split at h
    · rename_i x _ _ _
      simp only [Bool.and_eq_true, decide_eq_true_eq] at h
      obtain ⟨h1, h2, h3⟩ := h
      obtain ⟨m1, m2, m3⟩ := G.xc.at_ c x none h1
      obtain ⟨q1, q2, q3, B, n1, n2, bm, q4, q5⟩ := m3
      exact s_raise0 G.x.calm G.x.tk (pmk_own0 q4 q5 m2 q1 (raises_own q2 q3) (glB_ok hsc h2) (okN_ok h3).1) m1
    · cases h
  | .raise c (some e), p, X, W, sc, G, hN, hsc, h => by
    unfold chkS at h
    split at h
    · rename_i x _ pe _ _
      simp only [Bool.and_eq_true] at h
      obtain ⟨⟨h1, h2, h3⟩, h4⟩ := h
      cases q : XN[c]? with
      | none => rw [q] at h1; cases h1
      | some yf =>
        obtain ⟨y, fo⟩ := yf
        rw [q] at h1
        cases fo with
        | none => cases h1
        | some f =>
          have ey : x = y := eq_of_beq h1
          subst ey
          obtain ⟨m1, m2, m3, m4, m5⟩ := G.xc.at_ c x (some f) q
          exact s_raise1 G.x.calm G.x.tk (m3 X rfl rfl (G.x.room.mono G.k2) pe _ _ _ (chkE_ok e pe X W sc G.x hN hsc h4).v h3 (glB_ok hsc h2)) m1
    · cases h
  | .tri body hs, p, X, W, sc, G, hN, hsc, h => by
    unfold chkS at h
    split at h
    · rename_i pb h₀ hds _
      obtain ⟨h1, h2⟩ := Bool.and_eq_true_iff.mp h
      refine (ps_try_mix (tb := fun W' => rdS cl bs W' (fun env st => execs C bs fl body env st)) G.stk G.frm G.x.nd G.x.tk (fun W' pn xe tk hp => chkSs_ok body pb (X.tr pn xe) W' sc (G.tr pn xe tk hp) hN hsc h1) (hds_ok (bs := bs) G hN hsc h2)).imp fun D σ H q => ?_
      obtain ⟨g, st, env, a, er, p⟩ := q
      refine ⟨g, st, env, a, er, ?_⟩
      have p0 : PostS cl bs g H st (match execs C bs fl body env st with
        | .exn c v env' st' => handle c v env' st' hs
        | r => r) D W := p
      show PostS cl bs g H st (execs C bs fl body env st) D _
      cases e : execs C bs fl body env st with
      | exn c v env' st' =>
        rw [e] at p0
        intro cls dx σ' g' H' a' s' er' ex
        exact handle_mix (n := XN.length) G.xc.len G.xc.exm hs (chkHds_lt h2) a' er' ex (p0.later s')
      | nx env' st' => rw [e] at p0; exact p0
      | rt d st' => rw [e] at p0; exact p0
      | bk env' st' => rw [e] at p0; exact p0
      | ct env' st' => rw [e] at p0; exact p0
      | stuck => rw [e] at p0; exact p0
    · cases h
theorem chkSs_ok : ∀ (ss : List S) (ps : List Stmt) (X : Cx) (W : WX) (sc : Scope), GS X cl W C F k XN A → X.N = N → X.env.scope = sc → chkSs F N sc XN ss ps = true → sSs cl bs W C fl X ps ss
  | [], ps, X, W, sc, G, hN, hsc, h => by
    unfold chkSs at h
    split at h
    · exact ss_nil
    · cases h
  | s :: ss, ps, X, W, sc, G, hN, hsc, h => by
    unfold chkSs at h
    split at h
    · rename_i p ps
      obtain ⟨h1, h2⟩ := Bool.and_eq_true_iff.mp h
      exact ss_cons (chkS_ok s p X W sc G hN hsc h1) (chkSs_ok ss ps X W sc G hN hsc h2)
    · cases h
end
end
end Ev

set_option maxHeartbeats 2000000
/-! Ev20: a checked def does what the reckoner says; the law's end. -/
namespace Ev
variable [FnTab] [CnTab]
open PySem PySem.Spec PyProof.Rows L2

/-! ### the store forgets what a def made -/
section
variable {bs : List Nat} {g g0 : Gh} {H H0 : Hp} {st st0 : Sto}
theorem low_all (o : Ok N0 g H st) : ∀ n, soLt st.length (getS st n) := fun n => by
  have rl : ∀ {d : D} {v : V}, RepD N0 g d v → refLt st.length d := fun {d v} r => by
    cases d with
    | p x => exact True.intro
    | ref m =>
      obtain ⟨a, h, _⟩ := r
      have := (List.getElem?_eq_some_iff.mp h).1
      rw [o.len] at this
      exact this
  have go : ∀ {kvs : List (PyData × D)} {ks : List (Key × V)}, RepKv N0 g kvs ks → ∀ p ∈ kvs, refLt st.length p.2 := by
    intro kvs ks r
    induction r with
    | nil => intro p hp; cases hp
    | cons r1 r2 ih =>
      intro p hp
      rcases List.mem_cons.mp hp with e | hp
      · rw [e]; exact rl r1.2
      · exact ih p hp
  have gon : ∀ {kvs : List (PyData × D)} {xs : List (NestedKey × Addr × Value)}, RepKn N0 g kvs xs → ∀ p ∈ kvs, refLt st.length p.2 := by
    intro kvs xs r
    induction r with
    | nil => intro p hp; cases hp
    | cons r1 r2 ih =>
      intro p hp
      rcases List.mem_cons.mp hp with e | hp
      · obtain ⟨_, _, _, v, _, rv⟩ := r1
        rw [e]; exact rl rv
      · exact ih p hp
  cases hn : getS st n with
  | lst xs =>
    obtain ⟨a, vs, _, _, _, h4⟩ := o.lstAt hn
    intro d hd
    obtain ⟨i, hi⟩ := List.mem_iff_getElem?.mp hd
    obtain ⟨v, _, rv⟩ := RepDs.get h4 hi
    exact rl rv
  | dct kvs =>
    obtain ⟨a, ks, _, _, _, h4⟩ := o.dctAt hn
    exact go h4
  | dtn kvs =>
    obtain ⟨a, w, xs, _, _, _, h4, _⟩ := o.dtnAt hn
    exact gon h4
  | fzd kvs =>
    obtain ⟨a, od, ho, _, _, h4⟩ := o.fzdAt hn
    rcases h4 with ⟨ks, _, h4⟩ | ⟨w, xs, _, h4, _⟩
    · exact go h4
    · exact gon h4
  | tpl xs =>
    obtain ⟨a, vs, _, _, h4⟩ := o.tplAt hn
    intro d hd
    obtain ⟨i, hi⟩ := List.mem_iff_getElem?.mp hd
    obtain ⟨v, _, rv⟩ := RepDs.get h4 hi
    exact rl rv
  | fnc f => exact True.intro
  | fz x => exact True.intro
  | dead => exact True.intro
theorem at_push (a : At N0 bs g H st) : At N0 (st.length :: bs) g H st := ⟨a.ok, fun b hb => by
  rcases List.mem_cons.mp hb with e | hb
  · rw [e]; exact ⟨Nat.le_refl _, fun n _ => low_all a.ok n⟩
  · exact a.w b hb⟩
theorem at_pop {m : Nat} (a : At N0 (m :: bs) g H st) (hb : ∀ b ∈ bs, b ≤ m) : At N0 bs ⟨g.G, g.mu.take m⟩ H (st.take m) := by
  obtain ⟨hm, hlow⟩ := a.w m List.mem_cons_self
  have hml : m ≤ g.mu.length := by rw [a.ok.len]; exact hm
  have gl : ∀ n, n < m → getS (st.take m) n = getS st n := fun n h => getS_take h
  have lt : ∀ n, mutable (getS (st.take m) n) = true → n < m := fun n h => by
    have := mut_lt h
    rw [List.length_take] at this
    omega
  have mt : ∀ n, n < m → (g.mu.take m)[n]? = g.mu[n]? := fun n h => List.getElem?_take_of_lt h
  have rt : ∀ {d : D} {v : V}, refLt m d → RepD N0 g d v → RepD N0 ⟨g.G, g.mu.take m⟩ d v := fun {d v} hl r => by
    cases d with
    | p x => exact r
    | ref n =>
      obtain ⟨b, h, e⟩ := r
      exact ⟨b, by show (g.mu.take m)[n]? = _; rw [mt n hl]; exact h, e⟩
  have rts : ∀ {ds : List D} {vs : List V}, (∀ d ∈ ds, refLt m d) → RepDs N0 g ds vs → RepDs N0 ⟨g.G, g.mu.take m⟩ ds vs := by
    intro ds vs hl r
    induction r with
    | nil => exact .nil
    | cons r1 r2 ih => exact .cons (rt (hl _ List.mem_cons_self) r1) (ih fun d hd => hl d (List.mem_cons_of_mem _ hd))
  have rtk : ∀ {ds : List (PyData × D)} {vs : List (Key × V)}, (∀ d ∈ ds, refLt m d.2) → RepKv N0 g ds vs → RepKv N0 ⟨g.G, g.mu.take m⟩ ds vs := by
    intro ds vs hl r
    induction r with
    | nil => exact .nil
    | cons r1 r2 ih => exact .cons ⟨r1.1, rt (hl _ List.mem_cons_self) r1.2⟩ (ih fun d hd => hl d (List.mem_cons_of_mem _ hd))
  have rtn : ∀ {ds : List (PyData × D)} {xs : List (NestedKey × Addr × Value)}, (∀ d ∈ ds, refLt m d.2) → RepKn N0 g ds xs → RepKn N0 ⟨g.G, g.mu.take m⟩ ds xs := by
    intro ds xs hl r
    induction r with
    | nil => exact .nil
    | cons r1 r2 ih =>
      obtain ⟨q1, q2, q3, v, q4, q5⟩ := r1
      exact .cons ⟨q1, q2, q3, v, q4, rt (hl _ List.mem_cons_self) q5⟩ (ih fun d hd => hl d (List.mem_cons_of_mem _ hd))
  refine ⟨⟨?_, a.ok.sub, fun n hn => ?_, fun n hn => ?_, fun n k b h1 h2 h3 h4 => ?_⟩, fun b hb' => ?_⟩
  · rw [List.length_take, List.length_take, a.ok.len]
  · have hl := lt n hn
    rw [gl n hl] at hn ⊢
    obtain ⟨b, u, h1, h2, h3, h4⟩ := a.ok.muts n hn
    refine ⟨b, u, by show (g.mu.take m)[n]? = _; rw [mt n hl]; exact h1, h2, h3, ?_⟩
    have low := hlow n hl
    cases q : getS st n with
    | lst xs =>
      rw [q] at h4 low
      obtain ⟨vs, e, r⟩ := h4
      exact ⟨vs, e, rts low r⟩
    | dct kvs =>
      rw [q] at h4 low
      obtain ⟨ks, e, r⟩ := h4
      exact ⟨ks, e, rtk low r⟩
    | dtn kvs =>
      rw [q] at h4 low
      obtain ⟨w, xs, e, r, ne⟩ := h4
      exact ⟨w, xs, e, rtn low r, ne⟩
    | _ => rw [q] at hn; cases hn
  · have hl : n < m := by
      have := getS_lt (st := st.take m) (n := n) (fun e => by rw [e] at hn; cases hn)
      rw [List.length_take] at this
      omega
    rw [gl n hl] at hn ⊢
    obtain ⟨b, h1, h2⟩ := a.ok.frz n hn
    refine ⟨b, by show (g.mu.take m)[n]? = _; rw [mt n hl]; exact h1, ?_⟩
    have low := hlow n hl
    cases q : getS st n with
    | fz x => rw [q] at h2; exact h2
    | fnc f => rw [q] at h2; exact h2
    | fzd kvs =>
      rw [q] at h2 low
      obtain ⟨od, ho, e, hd⟩ := h2
      refine ⟨od, ho, e, ?_⟩
      rcases hd with ⟨ks, e2, r⟩ | ⟨w, xs, e2, r, ne⟩
      · exact .inl ⟨ks, e2, rtk low r⟩
      · exact .inr ⟨w, xs, e2, rtn low r, ne⟩
    | tpl xs =>
      rw [q] at h2 low
      obtain ⟨vs, e, r⟩ := h2
      exact ⟨vs, e, rts low r⟩
    | _ => rw [q] at hn; cases hn
  · have l1 := lt n h1
    have l2 := lt k h2
    rw [gl n l1] at h1
    rw [gl k l2] at h2
    have h3 : (g.mu.take m)[n]? = some b := h3
    have h4 : (g.mu.take m)[k]? = some b := h4
    rw [mt n l1] at h3
    rw [mt k l2] at h4
    exact a.ok.inj n k b h1 h2 h3 h4
  · have hbm := hb b hb'
    refine ⟨by rw [List.length_take]; omega, fun n hn => ?_⟩
    rw [gl n (by omega)]
    exact (a.w b (List.mem_cons_of_mem _ hb')).2 n hn
theorem step_pop (s : Step g0 H0 st0 g H st) (h0 : g0.mu.length = st0.length) : Step g0 H0 st0 ⟨g.G, g.mu.take st0.length⟩ H (st.take st0.length) := by
  refine ⟨s.fro, fun n b h => ?_, fun b u h1 h2 h3 => ?_⟩
  · have hl : n < st0.length := by rw [← h0]; exact (List.getElem?_eq_some_iff.mp h).1
    show (g.mu.take st0.length)[n]? = _
    rw [List.getElem?_take_of_lt hl]
    exact s.mu n b h
  · obtain ⟨k1, k2, k3⟩ := s.frame b u h1 h2 h3
    refine ⟨k1, k2, fun n hn e => ?_⟩
    have hl : n < st0.length := by
      have := mut_lt hn
      rw [List.length_take] at this
      omega
    rw [getS_take hl] at hn
    have e : (g.mu.take st0.length)[n]? = some b := e
    rw [List.getElem?_take_of_lt hl] at e
    exact k3 n hn e
end
/-! ### a def's end -/
theorem back_post {cl : List (Addr × Option Str)} {bs : List Nat} {g : Gh} {H : Hp} {st : Sto} {r : RS} {Q : VK} {E : XK} {m : Nat} (h : PostD cl bs g H st (back (m + 1) 0 r) Q E) :
    PostS cl bs g H st r { nx := fun _ H' => Q .non H', rt := Q } (fun a b _ H' => E a b H') := by
  cases r with
  | rt d st' => exact h
  | nx env st' => exact fun σ' g' H' a s e => h .non g' H' a s (show Dp N0 _ _ _ from .non)
  | exn c x env st' => exact fun cls dx σ' g' H' a s e x => h cls dx g' H' a s x
  | bk env st' => exact False.elim h
  | ct env st' => exact False.elim h
  | stuck => exact h
theorem back0_post {cl : List (Addr × Option Str)} {bs : List Nat} {g : Gh} {H : Hp} {st : Sto} {r : RS} {Q : VK} {E : XK} (a0 : At N0 bs g H st) (h : PostD cl bs g H st (back 0 st.length r) Q E) :
    PostS cl (st.length :: bs) g H st r { nx := fun _ H' => Q .non H', rt := Q } (fun a b _ H' => E a b H') := by
  have hb : ∀ b ∈ bs, b ≤ st.length := fun b hb => (a0.w b hb).1
  cases r with
  | rt d st' =>
    have h : PostD cl bs g H st (match frz DEEP d st' with | some (x, st') => .ok (.p x) (st'.take st.length) | none => .stuck) Q E := h
    intro v g' H' a s rd
    cases z : frz DEEP d st' with
    | none => rw [z] at h; exact h.elim
    | some w =>
      obtain ⟨x, st2⟩ := w
      rw [z] at h
      obtain ⟨g2, a2, s2, d2⟩ := frz_ok DEEP a rd z
      exact h v _ H' (at_pop a2 hb) (step_pop (s.trans s2) a0.ok.len) d2
  | nx env st' => exact fun σ' g' H' a s e => h .non _ H' (at_pop a hb) (step_pop s a0.ok.len) (show Dp N0 _ _ _ from .non)
  | exn c x env st' => exact fun cls dx σ' g' H' a s e x => h cls dx _ H' (at_pop a hb) (step_pop s a0.ok.len) x
  | bk env st' => exact False.elim h
  | ct env st' => exact False.elim h
  | stuck => exact h
theorem start_env {g : Gh} {ds : List D} {vs : List V} {N : List Str} {n : Nat} (r : RepDs N0 g ds vs) (hn : n = N.length) : EnvR g (startE ds n) (L2.start N vs) := by
  have len_nones : ∀ k, (nones k).length = k := fun k => by
    induction k with
    | zero => rfl
    | succ k ih => exact congrArg Nat.succ ih
  have no_nones : ∀ k i d, getE (nones k) i ≠ some d := fun k => by
    induction k with
    | zero => intro i d e; cases e
    | succ k ih =>
      intro i d e
      cases i with
      | zero => cases e
      | succ i => exact ih i d e
  have hl := RepDs.len r
  refine ⟨?_, fun i d h => ?_⟩
  · unfold startE L2.start
    rw [List.length_append, List.length_append, List.length_map, List.length_map, len_nones, List.length_replicate, hl, hn]
  · have go : ∀ (ds : List D) (vs : List V) (i : Nat) (rest : Env) (R2 : L2.St), RepDs N0 g ds vs → (∀ i d, getE rest i ≠ some d) → getE (ds.map some ++ rest) i = some d → ∃ v, (vs.map some ++ R2)[i]? = some (some v) ∧ RepD N0 g d v := by
      intro ds
      induction ds with
      | nil => intro vs i rest R2 r hno h; exact absurd h (hno i d)
      | cons e es ih =>
        intro vs i rest R2 r hno h
        cases r with
        | cons r1 r2 =>
          cases i with
          | zero =>
            have h : some e = some d := h
            cases h
            exact ⟨_, rfl, r1⟩
          | succ i =>
            obtain ⟨v, h1, h2⟩ := ih _ i rest R2 r2 hno h
            exact ⟨v, h1, h2⟩
    exact go ds vs i _ _ r (no_nones _) h

/-! ### the defs -/
/-- a def of the text: its datum, its names, the reckoner's -/
structure Row where
  x : Str
  d : He.DefD
  N : List Str
  ps : List Str
  kw : List Kwp
  fn : Fn
def scB (N ps : List Str) (sc : Scope) : Bool := (match sc.kind with | .function => true | _ => false) && (!sc.isCoroutine && !sc.isGenerator) && (decide N.Nodup && decide (N.take ps.length = ps)) && ((ps.all fun x => locB sc x) && sc.names.all fun y => match y.2 with | .free => false | _ => true)
theorem scB_ok {N ps : List Str} {sc : Scope} (h : scB N ps sc = true) : FnScope N ps sc := by
  unfold scB at h
  simp only [Bool.and_eq_true, decide_eq_true_eq] at h
  obtain ⟨⟨⟨h1, h2, h3⟩, h4, h5⟩, h6, h7⟩ := h
  refine ⟨?_, by simpa using h2, by simpa using h3, h4, h5, fun x hx => ?_, fun y hy e => ?_⟩
  · split at h1
    · assumption
    · cases h1
  · have := List.all_eq_true.mp h6 x hx
    unfold locB at this
    split at this
    · rename_i e; exact .inl e
    · rename_i e; exact .inr e
    · cases this
  · have := List.all_eq_true.mp h7 y hy
    rw [e] at this
    cases this
def nilL {α : Type} : List α → Bool
  | [] => true
  | _ :: _ => false
def rowB (F : List FnN) (XN : List (Str × Option Str)) (r : Row) : Bool := scB r.N r.ps r.d.scope && (Nat.beq r.fn.np r.ps.length && Nat.beq r.fn.ns r.N.length) && (decide (r.d.at_ = (r.x, none)) && (nilL r.d.dfl && nilL r.d.kwd)) && chkSs F r.N r.d.scope XN r.fn.body r.d.body
/-- its parameters are bound one by one; by keywords -/
def RowPos (r : Row) : Prop := ∀ (kV doc pm : Value) (an : Option Addr) (cdv ct : Value) (us : List Value), us.length = r.ps.length → bindArgs (PySem.W.fnOf r.d.name r.d.qual r.d.params r.d.body r.d.scope .none kV doc pm an cdv ct) ⟨us, []⟩ = pure (r.ps.zip us)
def RowKw (r : Row) (q : Kwp) : Prop := ∀ (kV doc pm : Value) (an : Option Addr) (cdv ct : Value) (us ws : List Value), us.length = q.1 → ws.length = q.2.1.length →
  bindArgs (PySem.W.fnOf r.d.name r.d.qual r.d.params r.d.body r.d.scope .none kV doc pm an cdv ct) ⟨us, q.2.1.zip ws⟩ = pure (r.ps.zip (us ++ pickV q.2.2 ws))
def AllL {α : Type} (p : α → Prop) : List α → Prop
  | [] => True
  | r :: rs => p r ∧ AllL p rs
theorem AllL.all {α : Type} {p : α → Prop} : ∀ {rs : List α}, AllL p rs → ∀ r ∈ rs, p r
  | [], _, _, h => nomatch h
  | r :: rs, h, z, hz => by
    rcases List.mem_cons.mp hz with e | hz
    · rw [e]; exact h.1
    · exact AllL.all h.2 z hz
def RowBind (r : Row) : Prop := RowPos r ∧ AllL (RowKw r) r.kw
theorem nilL_ok {α : Type} {l : List α} (h : nilL l = true) : l = [] := by cases l <;> first | rfl | cases h
section
variable {P : Program} {w : World} {K : PySem.W.Frag} {mg : Str → Option Value} {base : Heap} {cl : List (Addr × Option Str)} {XN : List (Str × Option Str)} {A : Nat → Addr} {T : Tab} {F : List FnN}
theorem takes_def {N : List Str} {qual : Str} {scope : Scope} {f : Addr} {cd : Value} {A : Around} {outer : List PySem.Env} {s : Shared} {H : Hp} {E : XK} : Takes (cxOf (L2.CX P w) P w K mg base N qual scope f cd A outer s H E) (fun a b _ H' => E a b H') := takes_of rfl rfl rfl rfl
theorem def_ok {r : Row} {fd : FuncData} {k f : Nat} (hk : 2 ≤ k) (hrow : rowB F XN r = true) (hT : getF T f = some r.fn) (F0 : FunD K r.d.name r.d.qual r.d.params r.d.body r.d.scope (r.d.dvs K) (r.d.kws K) (He.fAd K r.d.at_) fd) (xc : XC K mg cl XN A) (bl : ∀ x ∈ bltNames, mg x = none) (cn : CnOk mg) (ft : FtOk F mg)
    (hF : ∀ (g : Nat) (x : Str) (kw : List Kwp), F[g]? = some (x, kw) → ∃ (fa : Addr) (fd : FuncData) (ps : List Str), mg x = some (.ref fa) ∧ FnOk P w K mg base (L2.CX P w) k fa fd ps (spF (callK T (k - 2)) cl g) ∧ PySem.W.keepIn K (.ref fa) = true ∧ Binds K fd ps [] ∧ ∀ q ∈ kw, KwOk K fd ps q) :
    FnOk P w K mg base (L2.CX P w) (k + 1) (He.fAd K r.d.at_) fd r.ps (spF (callK T (k - 2 + 1)) cl f) := by
  unfold rowB at hrow
  simp only [Bool.and_eq_true, decide_eq_true_eq] at hrow
  obtain ⟨⟨⟨h1, h2, h3⟩, h4, h5, h6⟩, h7⟩ := hrow
  have S := scB_ok h1
  have hnp := Nat.eq_of_beq_eq_true h2
  have hns := Nat.eq_of_beq_eq_true h3
  -- a call unfolded
  have call : ∀ bs ds st, callK T (k - 2 + 1) bs f ds st = match Nat.beq ds.length r.fn.np with
      | false => .stuck
      | true => match r.fn.md with
        | 0 => back 0 st.length (execs (callK T (k - 2)) (st.length :: bs) TURNS r.fn.body (startE ds r.fn.ns) st)
        | m => back m 0 (execs (callK T (k - 2)) bs TURNS r.fn.body (startE ds r.fn.ns) st) := fun bs ds st => by
    show (match getF T f with
      | none => R.stuck
      | some F => match Nat.beq ds.length F.np with
        | false => .stuck
        | true => match F.md with
          | 0 => back 0 st.length (execs (callK T (k - 2)) (st.length :: bs) TURNS F.body (startE ds F.ns) st)
          | m => back m 0 (execs (callK T (k - 2)) bs TURNS F.body (startE ds F.ns) st)) = _
    rw [hT]
  refine F0.ok S (fun vs H Q E h => ?_) (fun cdv A0 outer s H vs Q E hr h => ?_)
  · obtain ⟨bs, g, st, ds, a, rs, p⟩ := h
    rw [call] at p
    cases hl : Nat.beq ds.length r.fn.np with
    | false => rw [hl] at p; exact p.elim
    | true =>
      have := Nat.eq_of_beq_eq_true hl
      rw [← RepDs.len rs, this, hnp]
  · obtain ⟨bs, g, st, ds, a, rs, p⟩ := h
    rw [call] at p
    cases hl : Nat.beq ds.length r.fn.np with
    | false => rw [hl] at p; exact p.elim
    | true =>
      rw [hl] at p
      have er : EnvR g (startE ds r.fn.ns) (L2.start r.N vs) := start_env rs hns
      have G : GS (cxOf (L2.CX P w) P w K mg base r.N r.d.qual r.d.scope (He.fAd K r.d.at_) cdv A0 outer s H E) cl (fun a b _ H' => E a b H') (callK T (k - 2)) F k XN A :=
        ⟨⟨rfl, S.nd, hr, takes_def, hF, bl, cn, ft⟩, hk, passes_of rfl, fun _ => rfl, rfl, rfl, S.kind, xc⟩
      cases hm : r.fn.md with
      | zero =>
        rw [hm] at p
        exact ⟨_, chkSs_ok (bs := st.length :: bs) (fl := TURNS) r.fn.body r.d.body _ _ r.d.scope G rfl rfl h7, g, st, _, at_push a, er, back0_post a p⟩
      | succ m =>
        rw [hm] at p
        exact ⟨_, chkSs_ok (bs := bs) (fl := TURNS) r.fn.body r.d.body _ _ r.d.scope G rfl rfl h7, g, st, _, a, er, back_post p⟩
/-- all of them, to each depth -/
theorem defs_ok {rows : List Row} (hF : F = rows.map fun r => (r.x, r.kw)) (hT : T = rows.map (·.fn)) (hrow : rows.all (rowB F XN) = true) (hbind : ∀ r ∈ rows, RowBind r)
    (hfun : ∀ r ∈ rows, ∃ fd, FunD K r.d.name r.d.qual r.d.params r.d.body r.d.scope (r.d.dvs K) (r.d.kws K) (He.fAd K r.d.at_) fd) (hmg : ∀ r ∈ rows, mg r.x = some (.ref (He.fAd K r.d.at_))) (xc : XC K mg cl XN A) (bl : ∀ x ∈ bltNames, mg x = none) (cn : CnOk mg) (ft : FtOk F mg) :
    ∀ (k g : Nat) (x : Str) (kw : List Kwp), F[g]? = some (x, kw) → ∃ (fa : Addr) (fd : FuncData) (ps : List Str), mg x = some (.ref fa) ∧ FnOk P w K mg base (L2.CX P w) (k + 2) fa fd ps (spF (callK T k) cl g) ∧ PySem.W.keepIn K (.ref fa) = true ∧ Binds K fd ps [] ∧ ∀ q ∈ kw, KwOk K fd ps q
  | k, g, x, kw, h => by
    have hx : ∃ r, rows[g]? = some r ∧ r.x = x ∧ r.kw = kw := by
      rw [hF, List.getElem?_map] at h
      cases e : rows[g]? with
      | none => rw [e] at h; cases h
      | some r => rw [e] at h; cases h; exact ⟨r, rfl, rfl, rfl⟩
    obtain ⟨r, hr, rfl, rfl⟩ := hx
    have hmem := List.mem_of_getElem? hr
    obtain ⟨fd, F0⟩ := hfun r hmem
    have hrw := List.all_eq_true.mp hrow r hmem
    have hb : Binds K fd r.ps [] := by
      have hd : r.d.dvs K = [] := by
        unfold rowB at hrw
        simp only [Bool.and_eq_true] at hrw
        have e := nilL_ok hrw.1.2.2.1
        unfold He.DefD.dvs
        rw [e]; rfl
      rw [hd] at F0
      exact F0.bindsN (hbind r hmem).1
    have hkw : ∀ q ∈ r.kw, KwOk K fd r.ps q := fun q hq => by
      have hd : r.d.dvs K = [] := by
        unfold rowB at hrw
        simp only [Bool.and_eq_true] at hrw
        have e := nilL_ok hrw.1.2.2.1
        unfold He.DefD.dvs
        rw [e]; rfl
      rw [hd] at F0
      obtain ⟨oc, od, dV, kV, doc, pm, an, cdv, ct, osl, rfl, lk, hcd, hD, hK⟩ := F0.ex
      rcases hD with ⟨_, rfl⟩ | ⟨e, _⟩
      · exact fun s us ws _ l1 l2 => .of_eq ((hbind r hmem).2.all q hq kV doc pm an cdv ct us ws l1 l2)
      · exact absurd rfl e
    refine ⟨_, fd, r.ps, hmg r hmem, ?_, F0.kp, hb, hkw⟩
    cases k with
    | zero => exact ⟨fun vs H Q E h => by
        obtain ⟨_, _, _, _, _, _, p⟩ := h
        exact False.elim p, fun A outer s H args us vs Q E _ _ _ _ h => by
        obtain ⟨_, _, _, _, _, _, p⟩ := h
        exact False.elim p⟩
    | succ k =>
      have hTg : getF T g = some r.fn := by
        have go : ∀ (l : List Row) (i : Nat), l[i]? = some r → getF (l.map (·.fn)) i = some r.fn := by
          intro l
          induction l with
          | nil => intro i h; cases h
          | cons z zs ih =>
            intro i h
            cases i with
            | zero => cases h; rfl
            | succ i => exact ih i h
        rw [hT]; exact go rows g hr
      exact def_ok (k := k + 2) (f := g) (by omega) hrw hTg F0 xc bl cn ft (defs_ok hF hT hrow hbind hfun hmg xc bl cn ft k)
end
end Ev

set_option maxHeartbeats 4000000
/-! Ev21: own exception classes with one field, made by an own __init__, over ValueError or LookupError. -/
namespace EvF
open PySem PySem.W PySem.Calls PyProof.Rows PySem.HandSPX
/-- the fields that are served -/
def fldOk (f : Str) : Prop := f = "place" ∨ f = "line" ∨ f = "names"
def iA (f : Str) (p1 p2 : Pos) : Arguments := { posonlyargs := [], args := [{ arg := "self", annotation := none, pos := p1 }, { arg := f, annotation := none, pos := p2 }], vararg := none, kwonlyargs := [], kw_defaults := [], kwarg := none, defaults := [] }
def iB (f : Str) (q1 q2 q3 q4 : Pos) : List Stmt := [.Assign [.Attribute (.Name "self" q1) f q2] (.Name f q3) q4]
def iS (f : Str) : Scope := { kind := .function, names := [(PySem.Str.ofString "self", .local), (f, .local)], isGenerator := false, isCoroutine := false, more := [] }
/-- what the written part says of the class at C, and of its __init__, at fI -/
structure FTxt (K : Frag) (mg : Str → Option Value) (x f : Str) (C fI : Addr) : Prop where
  gC : mg x = some (.ref C)
  cls : ∃ B newId initId bm nm q N bs sn sub ab col dd k0 k1 k2 k3 k5, ExcBaseFacts B newId initId bm ∧ (∀ self, refuseLoop self "__setattr__" bm = pure ()) ∧ bm.contains (.type "object") = true ∧
    K.lookup C = some (excClassObj nm q C N bs bm true sn sub ab col dd k0 k1 k2 k3 k5 newId)
  sa : findIn K (.ref C) "__setattr__" = some (some (.builtin "object.__setattr__"))
  noN : findIn K (.ref C) f = some none
  iC : findIn K (.ref C) "__init__" = some (some (.ref fI))
  tC : typeIn K (.ref fI) = some (.type "function")
  kC : keepIn K (.ref C) = true
  exC : subIn K (.ref C) (.type "BaseException") = some true
  tyC : typeIn K (.ref C) = some (.type "type")
  fn : ∃ (oc : Value) (od : Option Addr) (kV doc pm : Value) (an : Option Addr) (cdv ct : Value) (osl : Array (Option Value)) (p1 p2 q1 q2 q3 q4 : Pos) (qual : Str),
    K.lookup fI = some ⟨oc, od, .func (fnOf "__init__" qual (iA f p1 p2) (iB f q1 q2 q3 q4) (iS f) .none kV doc pm an cdv ct), osl⟩ ∧ codeIn K cdv qual = true
theorem one_size (v : Value) : [v].length ≤ sizeLine := by
  rw [sizeLine_eq]
  exact (by decide : 1 ≤ 16777216)
theorem ldC {M : Model} {s : Shared} {name : Str} {scope : Scope} {L a : Addr} {cd : Value} {m : Str → Option Value} {x : Str} {pos : Pos} {v : Value} {Q : Value → Shared → Prop} {A : Around} {E : Value → Shared → Prop} (hn : s.heap.Ns L m) (hv : m x = some v) (h : Q v s)
    (hk : scope.kind = .function := by rfl) (hl : (envOfC name scope L a cd).kindOf x = some .local := by rfl) (hd : (x == ("__debug__" : Str)) = false := by decide) :
    wpAny M A (eval (.Name x pos) (envOfC name scope L a cd)) Q E s := wpAny_Name (wpAny_loadName_local hk hl hn hv h) hd
/-- what __init__ leaves of a fresh exception at x -/
structure InitEnd (f : Str) (h h' : Heap) (x C dx t1 : Addr) (v : Value) : Prop where
  keep : ∀ b o, b ≠ x → h.get? b = some o → h'.get? b = some o
  obj : h'.get? x = some { cls := .ref C, dict := some dx, data := .fields #[.ref t1, .none, .none, .none, .bool false, .none] }
  dbig : h.objs.size ≤ dx
  dne : dx ≠ x
  ns : h'.Ns1 dx (fun y => if y = f then some v else none)
structure OwnMade (f : Str) (h h' : Heap) (e C d : Addr) (v : Value) : Prop where
  keep : ∀ b o, h.get? b = some o → h'.get? b = some o
  new : h.objs.size ≤ e
  obj : ∃ oe vs, h'.get? e = some oe ∧ oe.cls = .ref C ∧ oe.dict = some d ∧ oe.data = .fields vs ∧ vs[1]? = some .none
  dbig : h.objs.size ≤ d
  dne : d ≠ e
  ns : h'.Ns1 d (fun y => if y = f then some v else none)
section
open Builtin Builtin.ObjectAttr
variable {prog : Program} {w : World} {A : Around} {E : Value → Shared → Prop} {R : Result → Shared → Prop} {hp : Heap} {g : Array GenState} {d : Drawn} {t : Nat} {os : OsState}
/-- self.f = v on a fresh exception (over any built-in class whose stores are the object's) -/
theorem osa {K : W.Frag} {name : Str} {tk : Tok} {v : Value} {x C : Addr} {fv : Array Value} {cd : ClassData}
    (X : K.In hp) (hx : hp.get? x = some { cls := .ref C, data := .fields fv }) (hcd : W.clsIn K C = some cd) (hpass : ∀ self, refuseLoop self "__setattr__" cd.mro = pure ()) (hob : cd.mro.contains (.type "object") = true) (ne : cd.mro.isEmpty = false) (hh : cd.hasDict = true) (ha : W.findIn K (.ref C) name = some none)
    (hq : ∀ h' tk' dx, (∀ b o, b ≠ x → hp.get? b = some o → h'.get? b = some o) → hp.objs.size ≤ dx → dx ≠ x → h'.get? x = some { cls := .ref C, dict := some dx, data := .fields fv } →
      h'.Ns1 dx (fun y => if y = name then some v else none) → R (.ok (.ret .none)) ⟨h', g, d, tk', os⟩) :
    codeAny (model prog w) A (.call (.builtin "object.__setattr__") ⟨[.ref x, .str name tk, v], []⟩) R ⟨hp, g, d, t, os⟩ := by
  have I : W.InstAt hp x { cls := .ref C, data := .fields fv } C none := ⟨hx, rfl, rfl, trivial⟩
  have SF := F.store_object
  have hxs : x ≠ hp.objs.size := Nat.ne_of_lt (Heap.lt_size hx)
  have sub : W.Looks (model prog w) hp (isInstance (.ref x) (.type "object")) true := I.type.andThen (W.looks_mroIn X (by unfold W.mroIn; rw [hcd, Option.bind_some, if_neg (by rw [ne]; decide), hob]))
  refine codeAny_call_builtin SF.slot.plain SF.entry (@W.check_slot (model prog w) _ _ ⟨hp, g, d, t, os⟩ "object.__setattr__" "object" "__setattr__" (.ref x) [.str name tk, v] [] _ SF.kind SF.split sub (SF.args (.ref x) (.str name tk) v) ?_)
  have hmr : W.Looks (model prog w) hp (mroOf (.ref C)) cd.mro := (W.looks_clsIn X hcd).andThen .now
  have L3 : W.Looks (model prog w) hp (storeTaker? none) none := .now
  have hcls : W.Looks (model prog w) hp (classData C) cd := W.looks_clsIn X hcd
  rw [W.osa_eq, refuse_eq]
  refine wpAny_bind (wpAny_bind (I.type.at (wpAny_bind (hmr.at ?_))))
  rw [hpass]
  refine wpAny_pure (wpAny_bind (I.type.at (wpAny_bind ((W.looks_findIn X ha).at (wpAny_bind (L3.at ?_))))))
  show wpAny _ _ (storeInOwnDict (.ref x) (.ref C) (.str name tk) name v false) _ _ _
  obtain ⟨nm, bs, mro, ns, qn, hd, sn, sb, ab, col, del⟩ := cd
  dsimp only at hh
  subst hh
  unfold storeInOwnDict ownDictForStores
  repeat (first | with_reducible refine store_in_new ?_ ?_ | with_reducible refine wpAny_loadPart_at hx ?_ | with_reducible refine hcls.at ?_ | wp_step)
  · exact ⟨_, #[], _, (Heap.get?_update_ne _ _ _ _ hxs.symm).trans (Heap.get?_push_at rfl rfl), rfl, fun e he => absurd he (by simp), fun _ => rfl⟩
  · intro h' tk' hn' hs
    have hx1 : (hp.push { cls := .type "dict", data := .dict #[] }).get? x = some { cls := .ref C, data := .fields fv } := Heap.get?_push_of_some _ hx
    refine hq h' tk' hp.objs.size (fun b o hb ho => ?_) (Nat.le_refl _) hxs.symm ?_ hn'
    · exact (hs.2 b (Nat.ne_of_lt (Heap.lt_size ho))).trans ((Heap.get?_update_ne _ _ _ _ hb).trans (Heap.get?_push_of_some _ ho))
    · exact (hs.2 x hxs).trans (Heap.get?_update_self _ hx1 rfl)
end
section
variable {prog : Program} {w : World} {A : Around} {E : Value → Shared → Prop} {R : Result → Shared → Prop} {s : Shared} {K : Frag} {mg : Str → Option Value} {C fI : Addr} {xn f : Str}
theorem f_init (hf : fldOk f) (T : FTxt K mg xn f C fI) {x t0 : Addr} {v : Value} (X : K.In s.heap) (hlim : s.heap.NoLimit) (hx : s.heap.get? x = some (excO C t0)) (hnx : K.lookup x = none) (hroom : A.depth < recursionLimit)
    (hq : ∀ h' tk dx, InitEnd f s.heap h' x C dx t0 v → R (.ok (.ret .none)) { s with heap := h', toks := tk }) :
    codeAny (model prog w) A (.call (.ref fI) ⟨[.ref x, v], []⟩) R s := by
  obtain ⟨oc, od, kV, doc, pm, an, cdv, ct, osl, p1, p2, q1, q2, q3, q4, qual, ho, hcd⟩ := T.fn
  obtain ⟨B, newId, initId, bm, nm, q, N, bs, sn, sub, ab, col, dd, k0, k1, k2, k3, k5, FB, hpass, hob, hC⟩ := T.cls
  have hcl : clsIn K C = some { name := nm, bases := bs, mro := .ref C :: bm, ns := N, qualname := q, hasDict := true, slotNames := sn, subclasses := sub, abstract := ab, collection := col, hasDel := false } := by unfold clsIn; rw [hC] <;> rfl
  have pass2 : ∀ self, refuseLoop self "__setattr__" (.ref C :: bm) = pure () := fun self => by rw [refuseLoop_ref]; exact hpass self
  have ob2 : (Value.ref C :: bm).contains (.type "object") = true := by rw [List.contains_cons, hob]; simp
  rcases hf with rfl | rfl | rfl <;>
  (refine Att.call_fn (binds := [("self", .ref x), (_, v)]) X hlim ho hcd hroom (BindsTo.of_eq (by first | rfl | with_unfolding_all rfl)) (by first | rfl | decide | with_unfolding_all rfl) (fun s₁ IC => ?_) rfl rfl rfl
   obtain ⟨h₁, tk₁, rfl⟩ := IC.toInCall.same
   have k : ∀ b o, s.heap.get? b = some o → h₁.get? b = some o := IC.toInCall.keep
   have hn := IC.toInCall.ns
   have X₁ : K.In h₁ := X.keeps k
   have hx₁ := k _ _ hx
   show wpAny _ _ (execs _ _) _ _ _
   refine wpAny_execs_cons (plainObj_wpAny_Assign_Attribute ?_)
   refine ldC (v := v) hn (by first | rfl | with_unfolding_all rfl | kernel_rfl) (ldC (v := .ref x) hn (by first | rfl | with_unfolding_all rfl | kernel_rfl) ?_)
   refine set_plain X₁ (ox := excO C t0) (od := none) ⟨hx₁, rfl, rfl, trivial⟩ T.sa ?_
   refine osa X₁ hx₁ hcl pass2 ob2 rfl rfl T.noN (fun h₃ tk₃ dx k₃ dn dne hx₃ hn₃ => ?_)
   show wpAny _ _ (execs _ _) _ _ _
   have z : s.heap.objs.size < h₁.objs.size := hn.lt
   exact wpAny_execs_nil (hq h₃ tk₃ dx ⟨fun b o hb e => k₃ b o hb (k b o e), hx₃, Nat.le_of_lt (Nat.lt_of_lt_of_le z dn), dne, hn₃⟩))
theorem f_made (hf : fldOk f) (T : FTxt K mg xn f C fI) {v : Value} (X : K.In s.heap) (hlim : s.heap.NoLimit) (hroom : A.depth + 1 < recursionLimit)
    (hq : ∀ h' tk e d, OwnMade f s.heap h' e C d v → R (.ok (.ret (.ref e))) { s with heap := h', toks := tk }) :
    codeAny (model prog w) A (.call (.ref C) ⟨[v], []⟩) R s := by
  obtain ⟨B, newId, initId, bm, nm, q, N, bs, sn, sub, ab, col, dd, k0, k1, k2, k3, k5, FB, hpass, hob, hC⟩ := T.cls
  obtain ⟨hp, g, dr, tk, os⟩ := s
  have k : ∀ b o, hp.get? b = some o → ((hp.push (kdv_tup [v])).push (excO C hp.objs.size)).get? b = some o := fun b o e => Heap.get?_push_of_some _ (Heap.get?_push_of_some _ e)
  have hget : ((hp.push (kdv_tup [v])).push (excO C hp.objs.size)).get? (hp.objs.size + 1) = some (excO C hp.objs.size) := by heap_get
  have hnx : K.lookup (hp.objs.size + 1) = none := by
    cases e : K.lookup (hp.objs.size + 1) with
    | none => rfl
    | some o =>
      have z : hp.get? (hp.objs.size + 1) = some o := X _ _ e
      exact absurd (Nat.lt_of_succ_lt (Heap.lt_size z)) (Nat.lt_irrefl _)
  refine call_own FB (fun X => rfl) (X _ _ hC) (looks_findIn X T.iC) (fun self => bind_fn X self T.tC) (one_size v) ?_
  refine f_init (s := ⟨(hp.push (kdv_tup [v])).push (excO C hp.objs.size), g, dr, tk, os⟩) hf T (X.keeps k) (hlim.keeps k) hget hnx ?_ fun h' tk' dx ⟨k', hx, dn, dne, hns⟩ => ?_
  · show A.depth + 1 < recursionLimit
    exact hroom
  · have old : ∀ b o, hp.get? b = some o → h'.get? b = some o := fun b o e => k' b o (Nat.ne_of_lt (Nat.lt_succ_of_lt (Heap.lt_size e))) (k b o e)
    have z : hp.objs.size + 1 + 1 ≤ dx := by
      first
        | (simpa only [Heap.size_push] using dn)
        | exact dn
        | (have q := dn; rw [Heap.size_push, Heap.size_push] at q; exact q)
    exact ⟨rfl, hq h' tk' (hp.objs.size + 1) dx ⟨old, Nat.le_succ _, ⟨_, _, hx, rfl, rfl, rfl, rfl⟩, Nat.le_trans (Nat.le_trans (Nat.le_succ _) (Nat.le_succ _)) z, dne, hns⟩⟩
end
end EvF
namespace Ev
variable [FnTab] [CnTab]
open PySem PySem.Spec PyProof.Rows L2
theorem relO_f {v : V} {v' : Value} (f : Str) (r : RelV v v') (y : Str) : RelO (List.lookup y [(f, v)]) (if y = f then some v' else none) := by
  by_cases hw : y = f
  · subst hw
    rw [if_pos rfl]
    have q : List.lookup y [(y, v)] = some v := by simp [List.lookup]
    rw [q]
    exact r
  · rw [if_neg hw]
    have qw : (y == f) = false := by simpa using hw
    have q2 : List.lookup y [(f, v)] = none := by simp [List.lookup, qw]
    rw [q2]
    trivial
section
variable {X : Cx} {C fI : Addr} {x f : Str}
theorem mk_f {p pos : Pos} {k : Nat} {pins : List (Addr × Obj)} {σ : L2.St} {H1 : Hp} {s1 : Shared} {v : V} {v' : Value} {Q : XK} (hf : EvF.fldOk f) (T : EvF.FTxt X.K X.mg x f C fI) (hr : Room k X.A) (I1 : Inv X pins σ H1 s1) (rv : RelV v v')
    (q1 : ∀ d, H1 d = none → Q (.ref C) (some d) (upd H1 d (.xd [(f, v)]))) : wpAny (model X.prog X.w) X.A (call (.ref C) [v']) (fun e s' => MkP X pins σ Q e s') X.xe s1 := by
  have hlim := I1.nolimit
  obtain ⟨hp, g, dr, tk, os⟩ := s1
  refine wpAny_call (EvF.f_made hf T I1.kIn hlim (by have := hr.dp; omega) fun h' tk' e d M => ?_)
  show MkP X pins σ Q (.ref e) ⟨h', g, dr, tk', os⟩
  obtain ⟨oe, fv, hoe, hc, hd, hdat, h1⟩ := M.obj
  have hns := M.ns
  obtain ⟨G', g1, g2⟩ := restrict h' fun b => decide (b ≠ e)
  have gk : ∀ b, b ≠ e → G'.get? b = h'.get? b := fun b hb => g1 b (decide_eq_true hb)
  have ge : G'.get? e = none := g2 e (by simp)
  have old : ∀ b o, hp.get? b = some o → G'.get? b = some o := fun b o q => (gk b (Nat.ne_of_lt (Nat.lt_of_lt_of_le (Heap.lt_size q) M.new))).trans (M.keep b o q)
  have ob : ObjOk X.prog X.w (upd H1 d (.xd [(f, v)])) G' d (.xd [(f, v)]) :=
    ⟨_, hns.at (fun o q => (gk d M.dne).trans q), fun y => relO_f f rv y⟩
  have J : Inv X pins σ (upd H1 d (.xd [(f, v)])) ⟨G', g, dr, tk', os⟩ := I1.laid (t' := tk') old M.dbig ob
  refine ⟨e, oe, fv, ⟨G', g, dr, tk', os⟩, _, .ref C, some d, rfl, J, fun b o q => ?_, ge, hoe, ⟨hc, hd⟩, hdat, h1, ?_, rfl, I1.bare, raises_own T.exC T.tyC, q1 d (I1.hok.fresh M.dbig)⟩
  · by_cases hb : b = e
    · have q' : G'.get? b = some o := q
      rw [hb, ge] at q'; cases q'
    · exact (gk b hb).symm.trans q
  · rw [upd_ne (Ne.symm M.dne)]
    exact I1.hok.fresh M.new
theorem pmk_f {a : Expr} {te : TE} {p pos : Pos} {k : Nat} (hf : EvF.fldOk f) (T : EvF.FTxt X.K X.mg x f C fI) (hr : Room k X.A) (ha : PE X a te) (hg : Gl X x) (hdb : (x == ("__debug__" : Str)) = false)
    (he : starEach (a :: []) X.env = (false, eval a X.env) :: starEach [] X.env) :
    PMk X (.Call (.Name x p) [a] [] pos) (fun σ H Q => te σ H fun v H1 => ∀ d, H1 d = none → Q (.ref C) (some d) (upd H1 d (.xd [(f, v)]))) := by
  intro pins s σ H Q I h
  refine wpAny_Call_Name_kw (ld_glob I hg T.gC ?_ hdb)
  have ha' : PA X [a] (fun σ H Q => ∃ R', te σ H R' ∧ ∀ x H1, R' x H1 → Q [x] H1) := ⟨fun pos pins s σ H Q I ⟨R', q1, q2⟩ => by
    rw [he]
    show wpAny _ _ (spliced ((false, eval a X.env) :: backTo pos (starEach [] X.env))) _ _ s
    exact Calls.spliced_cons (thn (ha.run pins s σ H _ I q1) fun u s1 ⟨x, H1, I1, r1, q⟩ => Calls.spliced_nil ⟨[x], H1, I1, .cons r1 .nil, q2 x H1 q⟩)⟩
  refine PySem.W.callWith_K (h₀ := X.base) I.ok.mod.kin T.kC (thn (ha'.run pos pins s σ H (fun vs H1 => ∃ v, vs = [v] ∧ ∀ d, H1 d = none → Q (.ref C) (some d) (upd H1 d (.xd [(f, v)]))) I ⟨_, h, fun x H1 q => ⟨x, rfl, q⟩⟩) fun us s1 hh => ?_) he rfl
  obtain ⟨vs, H1, I1, r1, v, ev, q1⟩ := hh
  subst ev
  refine ⟨I1.kIn, ?_⟩
  cases r1 with
  | cons rv rn =>
    rename_i v' us'
    cases rn
    exact mk_f (p := p) (pos := pos) hf T hr I1 rv q1
end
end Ev

set_option maxHeartbeats 2000000
/-! Ev22: from the head's facts to the law. -/
namespace Ev
variable [FnTab] [CnTab]
open PySem PySem.Spec PyProof.Rows L2

/-! ### facts of the head -/
def AllRow (p : Row → Prop) : List Row → Prop
  | [] => True
  | r :: rs => p r ∧ AllRow p rs
theorem AllRow.all {p : Row → Prop} : ∀ {rs : List Row}, AllRow p rs → ∀ r ∈ rs, p r
  | [], _, _, h => nomatch h
  | r :: rs, h, z, hz => by
    rcases List.mem_cons.mp hz with e | hz
    · rw [e]; exact h.1
    · exact AllRow.all h.2 z hz
/-- no list is part of what is written -/
def noLists (K : PySem.W.Frag) : Bool := K.all fun q => match q.2.cls with | .type t => !(t == "list") | _ => true
def leBase : List Value := [.type "LookupError", .type "Exception", .type "BaseException", .type "object"]
def clsB (K : PySem.W.Frag) (x : Str) : Bool := PySem.W.keepIn K (.ref (He.ga K x)) && (decide (PySem.W.subIn K (.ref (He.ga K x)) (.type "BaseException") = some true) && decide (PySem.W.typeIn K (.ref (He.ga K x)) = some (.type "type"))) &&
  (PySem.W.excIn K (He.ga K x) He.veBase "ValueError.__new__" || PySem.W.excIn K (He.ga K x) leBase "LookupError.__new__")
/-- a class with a field -/
def fldC (K : PySem.W.Frag) (C : Addr) : Bool := match K.lookup C with
  | some ⟨.type "type", _, .cls cd, sl⟩ => (match cd.mro, sl.toList with
    | .ref C' :: bm, [_, _, _, _, some (.builtin n), _] => C' == C && !cd.hasDel && cd.hasDict && ((decide (bm = He.veBase) && n == "ValueError.__new__") || (decide (bm = leBase) && n == "LookupError.__new__"))
    | _, _ => false)
  | _ => false
def fldOkB (f : Str) : Bool := decide (f = "place") || (decide (f = "line") || decide (f = "names"))
theorem fldOkB_ok {f : Str} (h : fldOkB f = true) : EvF.fldOk f := by
  unfold fldOkB at h
  simpa [EvF.fldOk] using h
def fldB (K : PySem.W.Frag) (x f : Str) : Bool := fldOkB f && !(x == ("__debug__" : Str)) && fldC K (He.ga K x) && (decide (PySem.W.findIn K (.ref (He.ga K x)) "__setattr__" = some (some (.builtin "object.__setattr__"))) &&
  (decide (PySem.W.findIn K (.ref (He.ga K x)) f = some none) && (decide (PySem.W.findIn K (.ref (He.ga K x)) "__init__" = some (some (.ref (He.ma K (He.ga K x) "__init__")))) && (decide (PySem.W.typeIn K (.ref (He.ma K (He.ga K x) "__init__")) = some (.type "function")) &&
  (PySem.W.keepIn K (.ref (He.ga K x)) && (decide (PySem.W.subIn K (.ref (He.ga K x)) (.type "BaseException") = some true) && (decide (PySem.W.typeIn K (.ref (He.ga K x)) = some (.type "type")) && xfB K (He.ga K x))))))))
def clsF (K : PySem.W.Frag) (p : Str × Option Str) : Bool := match p.2 with
  | none => clsB K p.1
  | some f => fldB K p.1 f
/-- the first def of a class -/
def clsFirst (s : Stmt) : Stmt := match s with
  | .ClassDef _ _ _ body _ _ _ _ _ _ _ => body.getD 0 s
  | _ => s
/-- the text of such a class's __init__ -/
structure IniD (x f : Str) (d : He.DefD) : Prop where
  at_ : d.at_ = (x, some ("__init__" : Str))
  name : d.name = "__init__"
  params : ∃ p1 p2, d.params = EvF.iA f p1 p2
  body : ∃ q1 q2 q3 q4, d.body = EvF.iB f q1 q2 q3 q4
  scope : d.scope = EvF.iS f
  dfl : d.dfl = []
def AllIni : List (Str × Option Str) → List He.DefD → Prop
  | [], _ => True
  | (_, none) :: xs, ds => AllIni xs ds
  | (x, some f) :: xs, ds => match ds with
    | [] => False
    | d :: ds => IniD x f d ∧ AllIni xs ds
theorem AllIni.all : ∀ {xs : List (Str × Option Str)} {ds : List He.DefD}, AllIni xs ds → ∀ x f, (x, some f) ∈ xs → ∃ d ∈ ds, IniD x f d
  | [], _, _, _, _, h => nomatch h
  | (y, none) :: xs, ds, h, x, f, m => by
    rcases List.mem_cons.mp m with e | m
    · cases e
    · exact AllIni.all (show AllIni xs ds from h) x f m
  | (y, some g) :: xs, [], h, x, f, m => h.elim
  | (y, some g) :: xs, d :: ds, h, x, f, m => by
    rcases List.mem_cons.mp m with e | m
    · cases e; exact ⟨d, List.mem_cons_self .., h.1⟩
    · obtain ⟨d', m', i⟩ := AllIni.all h.2 x f m
      exact ⟨d', List.mem_cons_of_mem _ m', i⟩
theorem fldC_ok {K : PySem.W.Frag} {C : Addr} (h : fldC K C = true) : ∃ B newId initId bm nm q N bs sn sub ab col dd k0 k1 k2 k3 k5, ExcBaseFacts B newId initId bm ∧ (∀ self, refuseLoop self "__setattr__" bm = pure ()) ∧ bm.contains (.type "object") = true ∧
    K.lookup C = some (excClassObj nm q C N bs bm true sn sub ab col dd k0 k1 k2 k3 k5 newId) := by
  unfold fldC at h
  split at h
  · rename_i dd cd sl ho
    split at h
    · rename_i C' bm k0 k1 k2 k3 n k5 hm hs
      simp only [Bool.and_eq_true, beq_iff_eq, Bool.not_eq_true', Bool.or_eq_true, decide_eq_true_eq] at h
      obtain ⟨⟨⟨rfl, hdel⟩, hdict⟩, hb⟩ := h
      obtain ⟨nm, bs, mro, ns, qn, hd, sn, sub, ab, col, del⟩ := cd
      dsimp only at hm hdel hdict
      subst hm hdel hdict
      have hsl : sl = #[k0, k1, k2, k3, some (.builtin n), k5] := by
        obtain ⟨l⟩ := sl
        simp only at hs
        rw [hs]
      subst hsl
      rcases hb with ⟨rfl, rfl⟩ | ⟨rfl, rfl⟩
      · exact ⟨_, _, _, _, nm, qn, ns, bs, sn, sub, ab, col, dd, k0, k1, k2, k3, k5, PySem.F.excBase_ValueError, fun self => by kernel_rfl, by decide +kernel, ho⟩
      · exact ⟨_, _, _, _, nm, qn, ns, bs, sn, sub, ab, col, dd, k0, k1, k2, k3, k5, PySem.F.excBase_LookupError, fun self => by kernel_rfl, by decide +kernel, ho⟩
    · cases h
  · cases h
theorem fld_txt {K : PySem.W.Frag} {mg : Str → Option Value} {x f : Str} {d : He.DefD} {fd : FuncData} (h : fldB K x f = true) (hg : mg x = some (.ref (He.ga K x))) (hi : IniD x f d) (F : FunD K d.name d.qual d.params d.body d.scope (d.dvs K) (d.kws K) (He.fAd K d.at_) fd) :
    EvF.FTxt K mg x f (He.ga K x) (He.ma K (He.ga K x) "__init__") ∧ EvF.fldOk f ∧ (x == ("__debug__" : Str)) = false ∧ XfC K (He.ga K x) := by
  unfold fldB at h
  simp only [Bool.and_eq_true, decide_eq_true_eq, Bool.not_eq_true'] at h
  obtain ⟨⟨⟨h0, hdb⟩, hc⟩, h1, h2, h3, h4, h5, h6, h7, h8⟩ := h
  obtain ⟨oc, od, dV, kV, doc, pm, an, cdv, ct, osl, rfl, lk, hcd, dv, _⟩ := F.ex
  obtain ⟨p1, p2, e1⟩ := hi.params
  obtain ⟨q1, q2, q3, q4, e2⟩ := hi.body
  have ed : d.dvs K = [] := by unfold He.DefD.dvs; rw [hi.dfl]; rfl
  have edV : dV = .none := by
    rcases dv with ⟨_, e⟩ | ⟨ne, _⟩
    · exact e
    · exact absurd ed ne
  subst edV
  rw [hi.name, e1, e2, hi.scope, hi.at_] at lk
  exact ⟨⟨hg, fldC_ok hc, h1, h2, h3, h4, h5, h6, h7, ⟨oc, od, kV, doc, pm, an, cdv, ct, osl, p1, p2, q1, q2, q3, q4, d.qual, lk, hcd⟩⟩, fldOkB_ok h0, hdb, xfB_ok h8⟩
/-- each of the classes is told from each by its place -/
def exmB (K : PySem.W.Frag) (xs : List (Nat × Str)) : Bool := xs.all fun p => xs.all fun q => decide (PySem.W.exmOne K (.ref (He.ga K p.2)) (.ref (He.ga K q.2)) = some (Nat.beq p.1 q.1))
def number : Nat → List Str → List (Nat × Str)
  | _, [] => []
  | n, x :: xs => (n, x) :: number (n + 1) xs
theorem number_get : ∀ {xs : List Str} {n c : Nat} {x : Str}, xs[c]? = some x → (n + c, x) ∈ number n xs
  | [], _, _, _, h => by cases h
  | y :: ys, n, 0, x, h => by cases h; exact List.mem_cons_self
  | y :: ys, n, c + 1, x, h => by
    have := number_get (n := n + 1) (show ys[c]? = some x from h)
    rw [show n + 1 + c = n + (c + 1) by omega] at this
    exact List.mem_cons_of_mem _ this
theorem cls_ok {K : PySem.W.Frag} {x : Str} (h : clsB K x = true) : MkP0 K (He.ga K x) := by
  unfold clsB at h
  simp only [Bool.and_eq_true, decide_eq_true_eq] at h
  obtain ⟨⟨h1, h2, h3⟩, h4⟩ := h
  refine ⟨h1, h2, h3, ?_⟩
  rcases (Bool.or_eq_true _ _).mp h4 with h | h
  · exact ⟨_, _, _, _, PySem.F.excBase_ValueError, h⟩
  · exact ⟨_, _, _, _, PySem.F.excBase_LookupError, h⟩
/-- what isinstance asks of a class -/
def excCB (K : PySem.W.Frag) (D : Addr) : Bool := decide (PySem.W.findIn K (.ref D) "__getattribute__" = some (some (.builtin "BaseException.__getattribute__"))) && (decide (PySem.W.findIn K (.ref D) "__getattr__" = some none) && (decide (PySem.W.subIn K (.ref D) (.type "BaseException") = some true) &&
  (PySem.W.hasDictIn K D && (decide (PySem.W.findIn K (.ref D) "__class__" = some (some (.builtin "object.__class__"))) && (decide (PySem.W.specialIn K (.builtin "object.__class__") "__get__" = some (some (.builtin "getset_descriptor.__get__"))) &&
  (decide (PySem.W.takesIn K (.builtin "object.__class__") = some true) && decide (PySem.W.mroIn K D (.type "object") = some true)))))))
theorem excCB_ok {K : PySem.W.Frag} {D : Addr} (h : excCB K D = true) : ExcC K D := by
  unfold excCB at h
  simp only [Bool.and_eq_true, decide_eq_true_eq] at h
  obtain ⟨h1, h2, h3, h4, h5, h6, h7, h8⟩ := h
  exact ⟨h1, h2, h3, h4, h5, h6, h7, h8⟩
def xiB (K : PySem.W.Frag) (xs : List (Str × Option Str)) : Bool := CnTab.xb.all fun z => xs.all fun p => !(p.1 == z.1) || (excCB K (He.ga K p.1) && decide (PySem.W.kitOne K (.ref (He.ga K p.1)) (.type (baseT z.2.1)) = some z.2.2))
theorem xiB_ok {K : PySem.W.Frag} {xs : List (Str × Option Str)} (h : xiB K xs = true) {x : Str} {fo : Option Str} (hx : (x, fo) ∈ xs) : XiOk K x (He.ga K x) := fun z hz e => by
  have q := List.all_eq_true.mp (List.all_eq_true.mp h z hz) _ hx
  subst e
  simp only [beq_self_eq_true, Bool.not_true, Bool.false_or, Bool.and_eq_true, decide_eq_true_eq] at q
  exact ⟨excCB_ok q.1, q.2⟩
/-- the module's names of plain data and of built-in functions -/
def cnC (K : PySem.W.Frag) : Bool := (CnTab.cn.all fun (p : Str × PyData) => match p.2 with | PyData.int i => (He.Fa.int p.1 i).ok K | PyData.str z => (He.Fa.str p.1 z).ok K | _ => false) && CnTab.bf.all fun p => decide (PySem.W.nsIn K mainGlobals p.1 = some (some (.builtin p.2)))
theorem cnC_ok {K : PySem.W.Frag} {mg : Str → Option Value} {h : Heap} (KX : K.In h) (G : h.Ns mainGlobals mg) (e : cnC K = true) : CnOk mg := by
  obtain ⟨h1, h2⟩ := Bool.and_eq_true_iff.mp e
  refine ⟨fun p hp => ?_, fun p hp => ?_⟩
  · have q := List.all_eq_true.mp h1 p hp
    split at q
    · rename_i i e
      obtain ⟨t, ht⟩ := He.int_ok KX G q
      exact ⟨_, V.int i, ht, ⟨t, rfl⟩, fun _ => by rw [e]; exact Dp.int i⟩
    · rename_i z e
      obtain ⟨t, ht⟩ := He.str_ok KX G q
      exact ⟨_, V.str z, ht, ⟨t, rfl⟩, fun _ => by rw [e]; exact Dp.str z⟩
    · cases q
  · exact PySem.W.mg_of KX G (of_decide_eq_true (List.all_eq_true.mp h2 p hp))
/-- what the head is asked beside its facts -/
def exB (xs : List (Str × Option Str)) (K : PySem.W.Frag) : Bool := (noLists K && (xs.all (clsF K) && exmB K (number 0 (xs.map (·.1))))) && (xiB K xs && cnC K)
/-- the classes -/
theorem xc_all {K : PySem.W.Frag} {mg : Str → Option Value} {xs : List (Str × Option Str)} (hc : xs.all (clsF K) = true) (he : exmB K (number 0 (xs.map (·.1))) = true) (hxi : xiB K xs = true) (hg : ∀ p ∈ xs, mg p.1 = some (.ref (He.ga K p.1)))
    (hi : ∀ x f, (x, some f) ∈ xs → ∃ (d : He.DefD) (fd : FuncData), IniD x f d ∧ FunD K d.name d.qual d.params d.body d.scope (d.dvs K) (d.kws K) (He.fAd K d.at_) fd) :
    XC K mg (xs.map fun p => (He.ga K p.1, p.2)) xs (fun c => ((xs.map fun p => He.ga K p.1)[c]?).getD 0) := by
  have get : ∀ c C fo, (xs.map fun p => (He.ga K p.1, p.2))[c]? = some (C, fo) → ∃ x, xs[c]? = some (x, fo) ∧ C = He.ga K x := fun c C fo h => by
    rw [List.getElem?_map] at h
    cases e : xs[c]? with
    | none => rw [e] at h; cases h
    | some p => rw [e] at h; cases h; exact ⟨p.1, e, rfl⟩
  have AA : ∀ c x fo, xs[c]? = some (x, fo) → ((xs.map fun p => He.ga K p.1)[c]?).getD 0 = He.ga K x := fun c x fo h => by
    rw [List.getElem?_map, h]; rfl
  refine ⟨fun c C fo h => ?_, fun c x fo h => ?_, fun c x fo h => by rw [AA c x fo h]; exact xiB_ok hxi (List.mem_of_getElem? h), fun c h C fo hc' hl => ?_⟩
  · obtain ⟨x, h1, h2⟩ := get c C fo h
    rw [h2, AA c x fo h1]
  · have hm := List.mem_of_getElem? h
    rw [AA c x fo h]
    have hcl := List.all_eq_true.mp hc _ hm
    refine ⟨by rw [List.getElem?_map, h]; rfl, hg _ hm, ?_⟩
    cases fo with
    | none => exact cls_ok hcl
    | some f =>
      obtain ⟨d, fd, i, F⟩ := hi x f hm
      obtain ⟨T, hf, hdb, xf⟩ := fld_txt (show fldB K x f = true from hcl) (hg _ hm) i F
      refine ⟨fun X hK hmg hr pe te p pos hpe hs hgl => ?_, xf, T.noN⟩
      subst hK hmg
      exact pmk_f hf T hr hpe hgl hdb (star_cons hs [] X.env)
  · obtain ⟨x, h1, h2⟩ := get c C fo hc'
    have h3 : xs[h]? = some xs[h] := List.getElem?_eq_getElem hl
    have h4 : xs[h]? = some ((xs[h]).1, (xs[h]).2) := h3
    rw [h2, AA h _ _ h4]
    have n1 : (xs.map (·.1))[c]? = some x := by rw [List.getElem?_map, h1]; rfl
    have n3 : (xs.map (·.1))[h]? = some (xs[h]).1 := by rw [List.getElem?_map, h3]; rfl
    have q1 := List.all_eq_true.mp he _ (number_get (n := 0) n1)
    have q2 := List.all_eq_true.mp q1 _ (number_get (n := 0) n3)
    have q3 := of_decide_eq_true q2
    rw [Nat.zero_add, Nat.zero_add] at q3
    exact q3

/-! ### the law's end -/
theorem fn_cx0 {P : Program} {w : World} {K : PySem.W.Frag} {mg : Str → Option Value} {base : Heap} {k : Nat} {f : Addr} {fd : FuncData} {ps : List Str} {sp : Sp} (F : FnOk P w K mg base (L2.CX P w) k f fd ps sp) :
    FnOk P w K mg base CX0 k f fd ps (fun vs H Q _ => sp vs H Q fun _ _ _ => False) := ⟨fun vs H Q E h => F.len vs H Q _ h, fun A outer s H args us vs Q E hr e0 hb r hsp => by
  refine codeAny_mono (F.run A outer s H args us vs Q (fun _ _ _ => False) hr e0 hb r hsp) fun res s' hq => ?_
  cases res with
  | error e =>
    obtain ⟨_, _, _, _, _, _, _, _, _, _, _, _, z⟩ := hq
    exact z.elim
  | ok fl => cases fl <;> exact hq⟩
theorem dp_ints {G : Hp} : ∀ ns : List Int, DpAll N0 G (ns.map V.int) (ns.map PyData.int)
  | [] => .nil
  | n :: ns => .cons (.int n) (dp_ints ns)
theorem script_rd {K : PySem.W.Frag} {H : Hp} {a : Addr} {xs : List V} (h : SqL K H a xs) (hk : noLists K = true) : Rd H a (.lst xs) := by
  rcases h with h | ⟨o, its, n, hl, hc, _⟩
  · exact h
  · have := List.all_eq_true.mp hk _ (He.lookup_mem hl)
    rw [hc] at this
    exact absurd this (by decide)
/-- what walk_ofE asks -/
theorem law_walk {P : Program} {w : World} {K : PySem.W.Frag} {mg : Str → Option Value} {cl : List (Addr × Option Str)} {XN : List (Str × Option Str)} {A : Nat → Addr} {T : Tab} {F : List FnN} {rows : List Row} (hF : F = rows.map fun r => (r.x, r.kw)) (hT : T = rows.map (·.fn))
    (hrow : rows.all (rowB F XN) = true) (hbind : ∀ r ∈ rows, RowBind r)
    (hfun : ∀ r ∈ rows, ∃ fd, FunD K r.d.name r.d.qual r.d.params r.d.body r.d.scope (r.d.dvs K) (r.d.kws K) (He.fAd K r.d.at_) fd) (hmg : ∀ r ∈ rows, mg r.x = some (.ref (He.fAd K r.d.at_))) (xc : XC K mg cl XN A) (bl : ∀ x ∈ bltNames, mg x = none) (cn : CnOk mg) (ft : FtOk F mg)
    (hk : noLists K = true) {k f : Nat} {rl : Row} {x : Str} (hl : rows[f]? = some rl) (hps : rl.ps = [x])
    (pure : ∀ ns : List Int, ns.length ≤ 63 → (∀ z ∈ ns, Builtin.Int.intBits z ≤ 1048576) → callK T (k + 1) [] f [.p (.list (ns.map .int))] [] = .ok (.p (.bool true)) []) :
    ∃ (fd : FuncData) (sp : Sp), (∀ (s : Shared) (u : Value), BindsTo s fd ⟨[u], []⟩ [(x, u)]) ∧
      (∀ (H : Hp) (a : Addr) (ns : List Int), ns.length ≤ 63 → (∀ z ∈ ns, Builtin.Int.intBits z ≤ 1048576) → Only H → SqL K H a (ns.map V.int) → sp [.ref a] H (fun v _ => v = .bl true) fun _ _ _ => False) ∧
      ∀ base : Heap, K.In base → base.Ns mainGlobals mg → FnOk P w K mg base CX0 (k + 3) (He.fAd K rl.d.at_) fd [x] sp := by
  have hmem := List.mem_of_getElem? hl
  obtain ⟨fd, F0⟩ := hfun rl hmem
  have hrw := List.all_eq_true.mp hrow rl hmem
  have hd : rl.d.dvs K = [] := by
    unfold rowB at hrw
    simp only [Bool.and_eq_true] at hrw
    have e := nilL_ok hrw.1.2.2.1
    unfold He.DefD.dvs
    rw [e]; rfl
  have hTg : getF T f = some rl.fn := by
    have go : ∀ (l : List Row) (i : Nat), l[i]? = some rl → getF (l.map (·.fn)) i = some rl.fn := by
      intro l
      induction l with
      | nil => intro i h; cases h
      | cons z zs ih =>
        intro i h
        cases i with
        | zero => cases h; rfl
        | succ i => exact ih i h
    rw [hT]; exact go rows f hl
  refine ⟨fd, fun vs H Q _ => spF (callK T (k + 1)) cl f vs H Q fun _ _ _ => False, fun s u => ?_, fun H a ns hn hz ho hS => ?_, fun base hb hg => ?_⟩
  · have F1 := F0
    rw [hd] at F1
    have b := FunD.bindsA (ps := rl.ps) F1 (hbind rl hmem).1 s [u] (by rw [hps]; rfl)
    rw [hps] at b
    exact b
  · refine ⟨[], ⟨H, []⟩, [], [.p (.list (ns.map .int))], ⟨⟨rfl, Sub.refl _, fun n hn => (by cases hn), fun n hn => (by cases hn), fun n m b h1 h2 h3 h4 => (by cases h3)⟩, fun b hb => (by cases hb)⟩, .cons ?_ .nil, ?_⟩
    · show Dp N0 H (.ref a) (.list (ns.map .int))
      exact .lst (.inl (script_rd hS hk)) (dp_ints ns)
    · rw [pure ns hn hz]
      intro v g' H' _ _ r
      exact dp_bl r
  · have h2 := defs_ok (P := P) (w := w) (base := base) hF hT hrow hbind hfun hmg xc bl cn ft k
    have ok := def_ok (P := P) (w := w) (base := base) (k := k + 2) (f := f) (by omega) hrw hTg F0 xc bl cn ft h2
    rw [hps] at ok
    exact fn_cx0 ok
end Ev
namespace Ev
variable [CnTab]
open PySem PySem.Spec PyProof.Rows L2
/-- .. from the head's facts -/
theorem law_facts {P : Program} {w : World} {K : PySem.W.Frag} {mg : Str → Option Value} {h : Heap} {rows : List Row} {xs : List (Str × Option Str)} {ini : List He.DefD} {fa : List He.Fa} {fn : List He.DefD} (KX : K.In h) (G : h.Ns mainGlobals mg) (c : He.SaysD fa fn K)
    (hfn : fn = rows.map (·.d) ++ ini) (hini : AllIni xs ini) (hfa : fa = (rows.map fun r => He.Fa.glo r.x) ++ (bltNames.map He.Fa.free ++ xs.map fun p => He.Fa.glo p.1)) (hex : exB xs K = true)
    {F : List FnN} {T : Tab} (hF : F = rows.map fun r => (r.x, r.kw)) (hT : T = rows.map (·.fn)) (hrow : rows.all (rowB F xs) = true) (hbind : AllRow RowBind rows) {k f : Nat} {rl : Row} {x : Str} (hl : rows[f]? = some rl) (hps : rl.ps = [x])
    {fL : Addr} (hfL : mg rl.x = some (.ref fL))
    (pure : ∀ ns : List Int, ns.length ≤ 63 → (∀ z ∈ ns, Builtin.Int.intBits z ≤ 1048576) → callK T (k + 1) [] f [.p (.list (ns.map .int))] [] = .ok (.p (.bool true)) []) :
    ∃ (fd : FuncData) (sp : Sp), (∀ (s : Shared) (u : Value), BindsTo s fd ⟨[u], []⟩ [(x, u)]) ∧
      (∀ (H : Hp) (a : Addr) (ns : List Int), ns.length ≤ 63 → (∀ z ∈ ns, Builtin.Int.intBits z ≤ 1048576) → Only H → SqL K H a (ns.map V.int) → sp [.ref a] H (fun v _ => v = .bl true) fun _ _ _ => False) ∧
      ∀ base : Heap, K.In base → base.Ns mainGlobals mg → FnOk P w K mg base CX0 (k + 3) fL fd [x] sp := by
  obtain ⟨hex, hex2⟩ := Bool.and_eq_true_iff.mp hex
  obtain ⟨hxi, hcn⟩ := Bool.and_eq_true_iff.mp hex2
  obtain ⟨h1, h23⟩ := Bool.and_eq_true_iff.mp hex
  letI : FnTab := ⟨fun f => match F[f]? with | some (x, _) => (match mg x with | some (.ref a) => some a | _ => none) | none => none⟩
  have ft : FtOk F mg := by
    refine ⟨fun f a h => ?_, fun f x kw a h1 h2 => ?_⟩
    · have h : (match F[f]? with | some (x, _) => (match mg x with | some (.ref a) => some a | _ => none) | none => none) = some a := h
      cases e : F[f]? with
      | none => rw [e] at h; cases h
      | some p =>
        obtain ⟨x, kw⟩ := p
        rw [e] at h
        dsimp only at h
        split at h
        · rename_i b hb
          cases h
          exact ⟨x, kw, rfl, hb⟩
        · cases h
    · show (match F[f]? with | some (x, _) => (match mg x with | some (.ref a) => some a | _ => none) | none => none) = some a
      rw [h1]
      dsimp only
      rw [h2]
  obtain ⟨h2, h3⟩ := Bool.and_eq_true_iff.mp h23
  have glo : ∀ y, He.Fa.glo y ∈ fa → mg y = some (.ref (He.ga K y)) := fun y hy => He.glo_ok KX G (c.facts hy)
  have at_ : ∀ r ∈ rows, He.fAd K r.d.at_ = He.ga K r.x := fun r hr => by
    have q := List.all_eq_true.mp hrow r hr
    unfold rowB at q
    simp only [Bool.and_eq_true, decide_eq_true_eq] at q
    rw [q.1.2.1]; rfl
  have hmg : ∀ r ∈ rows, mg r.x = some (.ref (He.fAd K r.d.at_)) := fun r hr => by
    rw [at_ r hr]
    refine glo _ ?_
    rw [hfa]
    exact List.mem_append_left _ (List.mem_map_of_mem hr)
  have xc := xc_all (mg := mg) h2 h3 hxi (fun p hp => glo p.1 (by
    rw [hfa]
    exact List.mem_append_right _ (List.mem_append_right _ (List.mem_map_of_mem (f := fun p : Str × Option Str => He.Fa.glo p.1) hp)))) fun x f hx => by
      obtain ⟨d, hd, i⟩ := hini.all x f hx
      obtain ⟨fd, F⟩ := c.defs (by rw [hfn]; exact List.mem_append_right _ hd)
      exact ⟨d, fd, i, F⟩
  have bl : ∀ y ∈ bltNames, mg y = none := fun y hy => He.free_ok KX G (c.facts (by
    rw [hfa]
    exact List.mem_append_right _ (List.mem_append_left _ (List.mem_map_of_mem hy))))
  have hmem := List.mem_of_getElem? hl
  have e := (hmg rl hmem).symm.trans hfL
  cases e
  exact law_walk hF hT hrow hbind.all (fun r hr => c.defs (by rw [hfn]; exact List.mem_append_left _ (List.mem_map_of_mem hr))) hmg xc bl (cnC_ok KX G hcn) ft h1 hl hps pure
/-- a law: as L2.walk_ofE, with the script's bits told (L2.walk_ofB) -/
theorem walk_ofEB {l : PySem.W.OpenLaw} {n k : Nat} {q : Program} {loose : List Str} {XP : (Str → Option Value) → Heap → Prop} {YP : World → Heap → Prop} {d : DefRec} {CX : CXT} {x : Str}
    (hn : l.most = some n) (hn2 : n ≤ sizeLine) (hdf : d.params.defaults = []) (hr : Room k callerA)
    (F : ∀ (w : World) (mg : Str → Option Value) (fa : Addr) (h : Heap), YP w h → h.Ns mainGlobals mg → mg d.name = some (.ref fa) →
      ∃ (K : PySem.W.Frag) (fd : FuncData) (sp : Sp), K.In h ∧ (∀ (s : Shared) (u : Value), BindsTo s fd ⟨[u], []⟩ [(x, u)]) ∧
        (∀ (H : Hp) (a : Addr) (ns : List Int), ns.length ≤ n → (∀ z ∈ ns, Builtin.Int.intBits z ≤ 1048576) → Only H → SqL K H a (ns.map V.int) → sp [.ref a] H (fun v _ => v = .bl true) fun _ _ _ => False) ∧
        ∀ base : Heap, K.In base → base.Ns mainGlobals mg → FnOk l.prog w K mg base CX k fa fd [x] sp)
    (hCX : ∀ (H : Hp) (s : Shared) (e : Value) (s' : Shared), CX [] H s (fun _ _ _ => False) e s' → False) :
    PySem.W.WalkO q loose XP YP l.row.toRowW d [] (fun f vs => PySem.call f vs) := by
  refine Att.attach_callB hn hdf fun w s₀ s₁ mg mb fa o pm cd doc a vs ns G Y ho hd hcd hmg hobj hints hlen hbits hg => ?_
  obtain ⟨K, fd, sp, KX, hb, hsp, hF⟩ := F w mg fa _ Y G.T.g hmg
  exact law_call KX G.T.g G.T.b G.T.builtins G.T.nolimit hg hobj hints (Nat.le_trans hlen hn2) hr hF hb (fun H hO hS => hsp H a ns hlen hbits hO hS) fun H e s' => hCX H s₁ e s'
end Ev

set_option maxHeartbeats 0
namespace Law
open Ev PySem
def top (i : Nat) : PySem.Stmt := PySem.Challenge.pw_unwound_k48_growth_by_hand_and_refused.main.body.getD i (.Pass ⟨0, 0, 0, 0⟩)

def r_0 : Ev.Row := ⟨"is_number", ⟨("is_number", none), "is_number", "is_number", L2.defArgs (top 5), L2.defBody (top 5), L2.defScope (top 5), [], []⟩, ["thing"], ["thing"], [], f_is_number⟩
theorem b_0 : Ev.RowBind r_0 := ⟨fun _ _ _ _ _ _ us hl => match us, hl with | [_], _ => rfl, True.intro⟩
def r_1 : Ev.Row := ⟨"tuple_of", ⟨("tuple_of", none), "tuple_of", "tuple_of", L2.defArgs (top 6), L2.defBody (top 6), L2.defScope (top 6), [], []⟩, ["thing", "part"], ["thing"], [], f_tuple_of⟩
theorem b_1 : Ev.RowBind r_1 := ⟨fun _ _ _ _ _ _ us hl => match us, hl with | [_], _ => rfl, True.intro⟩
def r_2 : Ev.Row := ⟨"is_tuple_of", ⟨("is_tuple_of", none), "is_tuple_of", "is_tuple_of", L2.defArgs (top 7), L2.defBody (top 7), L2.defScope (top 7), [], []⟩, ["thing", "many"], ["thing", "many"], [], f_is_tuple_of⟩
theorem b_2 : Ev.RowBind r_2 := ⟨fun _ _ _ _ _ _ us hl => match us, hl with | [_, _], _ => rfl, True.intro⟩
def r_3 : Ev.Row := ⟨"is_word", ⟨("is_word", none), "is_word", "is_word", L2.defArgs (top 9), L2.defBody (top 9), L2.defScope (top 9), [], []⟩, ["thing", "step"], ["thing"], [], f_is_word⟩
theorem b_3 : Ev.RowBind r_3 := ⟨fun _ _ _ _ _ _ us hl => match us, hl with | [_], _ => rfl, True.intro⟩
def r_4 : Ev.Row := ⟨"_put", ⟨("_put", none), "_put", "_put", L2.defArgs (top 11), L2.defBody (top 11), L2.defScope (top 11), [], []⟩, ["term", "found", "own"], ["term", "found"], [], f__put⟩
theorem b_4 : Ev.RowBind r_4 := ⟨fun _ _ _ _ _ _ us hl => match us, hl with | [_, _], _ => rfl, True.intro⟩
def r_5 : Ev.Row := ⟨"parts_in_order", ⟨("parts_in_order", none), "parts_in_order", "parts_in_order", L2.defArgs (top 12), L2.defBody (top 12), L2.defScope (top 12), [], []⟩, ["term", "found"], ["term"], [], f_parts_in_order⟩
theorem b_5 : Ev.RowBind r_5 := ⟨fun _ _ _ _ _ _ us hl => match us, hl with | [_], _ => rfl, True.intro⟩
def r_6 : Ev.Row := ⟨"calls_in", ⟨("calls_in", none), "calls_in", "calls_in", L2.defArgs (top 13), L2.defBody (top 13), L2.defScope (top 13), [], []⟩, ["term", "part"], ["term"], [], f_calls_in⟩
theorem b_6 : Ev.RowBind r_6 := ⟨fun _ _ _ _ _ _ us hl => match us, hl with | [_], _ => rfl, True.intro⟩
def r_7 : Ev.Row := ⟨"_leaves", ⟨("_leaves", none), "_leaves", "_leaves", L2.defArgs (top 15), L2.defBody (top 15), L2.defScope (top 15), [], []⟩, ["rule"], ["rule"], [], f__leaves⟩
theorem b_7 : Ev.RowBind r_7 := ⟨fun _ _ _ _ _ _ us hl => match us, hl with | [_], _ => rfl, True.intro⟩
def r_8 : Ev.Row := ⟨"leaves_of", ⟨("leaves_of", none), "leaves_of", "leaves_of", L2.defArgs (top 16), L2.defBody (top 16), L2.defScope (top 16), [], []⟩, ["rule"], ["rule"], [], f_leaves_of⟩
theorem b_8 : Ev.RowBind r_8 := ⟨fun _ _ _ _ _ _ us hl => match us, hl with | [_], _ => rfl, True.intro⟩
def r_9 : Ev.Row := ⟨"calls_of", ⟨("calls_of", none), "calls_of", "calls_of", L2.defArgs (top 17), L2.defBody (top 17), L2.defScope (top 17), [], []⟩, ["rules", "found", "rule", "calls", "leaf"], ["rules"], [], f_calls_of⟩
theorem b_9 : Ev.RowBind r_9 := ⟨fun _ _ _ _ _ _ us hl => match us, hl with | [_], _ => rfl, True.intro⟩
def r_10 : Ev.Row := ⟨"_sorted_out", ⟨("_sorted_out", none), "_sorted_out", "_sorted_out", L2.defArgs (top 18), L2.defBody (top 18), L2.defScope (top 18), [], []⟩, ["lists", "found", "there", "free", "one", "own"], ["lists"], [], f__sorted_out⟩
theorem b_10 : Ev.RowBind r_10 := ⟨fun _ _ _ _ _ _ us hl => match us, hl with | [_], _ => rfl, True.intro⟩
def r_11 : Ev.Row := ⟨"_still_lists", ⟨("_still_lists", none), "_still_lists", "_still_lists", L2.defArgs (top 19), L2.defBody (top 19), L2.defScope (top 19), [], []⟩, ["rules", "calls", "call"], ["rules"], [], f__still_lists⟩
theorem b_11 : Ev.RowBind r_11 := ⟨fun _ _ _ _ _ _ us hl => match us, hl with | [_], _ => rfl, True.intro⟩
def r_12 : Ev.Row := ⟨"still_order", ⟨("still_order", none), "still_order", "still_order", L2.defArgs (top 20), L2.defBody (top 20), L2.defScope (top 20), [], []⟩, ["program"], ["program"], [], f_still_order⟩
theorem b_12 : Ev.RowBind r_12 := ⟨fun _ _ _ _ _ _ us hl => match us, hl with | [_], _ => rfl, True.intro⟩
def r_13 : Ev.Row := ⟨"all_calls", ⟨("all_calls", none), "all_calls", "all_calls", L2.defArgs (top 24), L2.defBody (top 24), L2.defScope (top 24), [], []⟩, ["program", "found", "rule", "own", "leaf"], ["program"], [], f_all_calls⟩
theorem b_13 : Ev.RowBind r_13 := ⟨fun _ _ _ _ _ _ us hl => match us, hl with | [_], _ => rfl, True.intro⟩
def r_14 : Ev.Row := ⟨"spread", ⟨("spread", none), "spread", "spread", L2.defArgs (top 25), L2.defBody (top 25), L2.defScope (top 25), [], []⟩, ["calls", "names", "carried", "found", "left", "name", "pair", "other", "far"], ["calls", "names", "carried"], [], f_spread⟩
theorem b_14 : Ev.RowBind r_14 := ⟨fun _ _ _ _ _ _ us hl => match us, hl with | [_, _, _], _ => rfl, True.intro⟩
def r_15 : Ev.Row := ⟨"first_lot", ⟨("first_lot", none), "first_lot", "first_lot", L2.defArgs (top 26), L2.defBody (top 26), L2.defScope (top 26), [], []⟩, ["calls"], ["calls"], [], f_first_lot⟩
theorem b_15 : Ev.RowBind r_15 := ⟨fun _ _ _ _ _ _ us hl => match us, hl with | [_], _ => rfl, True.intro⟩
def r_16 : Ev.Row := ⟨"next_lot", ⟨("next_lot", none), "next_lot", "next_lot", L2.defArgs (top 27), L2.defBody (top 27), L2.defScope (top 27), [], []⟩, ["calls", "lot", "step", "names", "name", "rest"], ["calls", "lot", "step"], [], f_next_lot⟩
theorem b_16 : Ev.RowBind r_16 := ⟨fun _ _ _ _ _ _ us hl => match us, hl with | [_, _, _], _ => rfl, True.intro⟩
def r_17 : Ev.Row := ⟨"lot_on", ⟨("lot_on", none), "lot_on", "lot_on", L2.defArgs (top 28), L2.defBody (top 28), L2.defScope (top 28), [], []⟩, ["calls", "lot", "word", "step"], ["calls", "lot", "word"], [], f_lot_on⟩
theorem b_17 : Ev.RowBind r_17 := ⟨fun _ _ _ _ _ _ us hl => match us, hl with | [_, _, _], _ => rfl, True.intro⟩
def r_18 : Ev.Row := ⟨"lot_of", ⟨("lot_of", none), "lot_of", "lot_of", L2.defArgs (top 29), L2.defBody (top 29), L2.defScope (top 29), [], []⟩, ["program", "word", "calls"], ["program", "word"], [(0, ["word", "program"], [1, 0])], f_lot_of⟩
theorem b_18 : Ev.RowBind r_18 := ⟨fun _ _ _ _ _ _ us hl => match us, hl with | [_, _], _ => rfl, ⟨fun _ _ _ _ _ _ us ws l1 l2 => match us, ws, l1, l2 with | [], [_, _], _, _ => rfl, True.intro⟩⟩
def r_19 : Ev.Row := ⟨"steps_from", ⟨("steps_from", none), "steps_from", "steps_from", L2.defArgs (top 30), L2.defBody (top 30), L2.defScope (top 30), [], []⟩, ["lot", "_", "rest"], ["lot"], [], f_steps_from⟩
theorem b_19 : Ev.RowBind r_19 := ⟨fun _ _ _ _ _ _ us hl => match us, hl with | [_], _ => rfl, True.intro⟩
def r_20 : Ev.Row := ⟨"led_from", ⟨("led_from", none), "led_from", "led_from", L2.defArgs (top 31), L2.defBody (top 31), L2.defScope (top 31), [], []⟩, ["calls", "lot", "most", "found", "left", "here", "step", "_", "later"], ["calls", "lot", "most"], [], f_led_from⟩
theorem b_20 : Ev.RowBind r_20 := ⟨fun _ _ _ _ _ _ us hl => match us, hl with | [_, _, _], _ => rfl, True.intro⟩
def r_21 : Ev.Row := ⟨"table_of", ⟨("table_of", none), "table_of", "table_of", L2.defArgs (top 32), L2.defBody (top 32), L2.defScope (top 32), [], []⟩, ["program", "calls", "first"], ["program"], [], f_table_of⟩
theorem b_21 : Ev.RowBind r_21 := ⟨fun _ _ _ _ _ _ us hl => match us, hl with | [_], _ => rfl, True.intro⟩
def r_22 : Ev.Row := ⟨"reached_from", ⟨("reached_from", none), "reached_from", "reached_from", L2.defArgs (top 33), L2.defBody (top 33), L2.defScope (top 33), [], []⟩, ["table", "lot", "found", "line", "later", "here", "word", "step", "other"], ["table", "lot"], [], f_reached_from⟩
theorem b_22 : Ev.RowBind r_22 := ⟨fun _ _ _ _ _ _ us hl => match us, hl with | [_, _], _ => rfl, True.intro⟩
def r_23 : Ev.Row := ⟨"all_reached", ⟨("all_reached", none), "all_reached", "all_reached", L2.defArgs (top 34), L2.defBody (top 34), L2.defScope (top 34), [], []⟩, ["table", "lot"], ["table"], [], f_all_reached⟩
theorem b_23 : Ev.RowBind r_23 := ⟨fun _ _ _ _ _ _ us hl => match us, hl with | [_], _ => rfl, True.intro⟩
def r_24 : Ev.Row := ⟨"staying", ⟨("staying", none), "staying", "staying", L2.defArgs (top 35), L2.defBody (top 35), L2.defScope (top 35), [], []⟩, ["table", "reached", "lot", "step", "later"], ["table", "reached", "lot"], [], f_staying⟩
theorem b_24 : Ev.RowBind r_24 := ⟨fun _ _ _ _ _ _ us hl => match us, hl with | [_, _, _], _ => rfl, True.intro⟩
def r_25 : Ev.Row := ⟨"twice_led", ⟨("twice_led", none), "twice_led", "twice_led", L2.defArgs (top 36), L2.defBody (top 36), L2.defScope (top 36), [], []⟩, ["table", "reached", "lot"], ["table", "reached"], [], f_twice_led⟩
theorem b_25 : Ev.RowBind r_25 := ⟨fun _ _ _ _ _ _ us hl => match us, hl with | [_, _], _ => rfl, True.intro⟩
def r_26 : Ev.Row := ⟨"word_to", ⟨("word_to", none), "word_to", "word_to", L2.defArgs (top 37), L2.defBody (top 37), L2.defScope (top 37), [], []⟩, ["reached", "first", "lot"], ["reached", "first", "lot"], [], f_word_to⟩
theorem b_26 : Ev.RowBind r_26 := ⟨fun _ _ _ _ _ _ us hl => match us, hl with | [_, _, _], _ => rfl, True.intro⟩
def r_27 : Ev.Row := ⟨"two_rings", ⟨("two_rings", none), "two_rings", "two_rings", L2.defArgs (top 38), L2.defBody (top 38), L2.defScope (top 38), [], []⟩, ["program", "reached", "lot", "rings", "first", "table", "step", "later"], ["program"], [(0, ["program"], [0])], f_two_rings⟩
theorem b_27 : Ev.RowBind r_27 := ⟨fun _ _ _ _ _ _ us hl => match us, hl with | [_], _ => rfl, ⟨fun _ _ _ _ _ _ us ws l1 l2 => match us, ws, l1, l2 with | [], [_], _, _ => rfl, True.intro⟩⟩
def r_28 : Ev.Row := ⟨"are_two_rings", ⟨("are_two_rings", none), "are_two_rings", "are_two_rings", L2.defArgs (top 39), L2.defBody (top 39), L2.defScope (top 39), [], []⟩, ["program", "thing", "calls", "lot", "word", "one", "other"], ["program", "thing"], [(0, ["thing", "program"], [1, 0])], f_are_two_rings⟩
theorem b_28 : Ev.RowBind r_28 := ⟨fun _ _ _ _ _ _ us hl => match us, hl with | [_, _], _ => rfl, ⟨fun _ _ _ _ _ _ us ws l1 l2 => match us, ws, l1, l2 with | [], [_, _], _, _ => rfl, True.intro⟩⟩
def r_29 : Ev.Row := ⟨"best_rows", ⟨("best_rows", none), "best_rows", "best_rows", L2.defArgs (top 40), L2.defBody (top 40), L2.defScope (top 40), [], []⟩, ["table", "reached", "first", "rows", "_", "lot", "later", "best", "own", "other"], ["table", "reached", "first"], [], f_best_rows⟩
theorem b_29 : Ev.RowBind r_29 := ⟨fun _ _ _ _ _ _ us hl => match us, hl with | [_, _, _], _ => rfl, True.intro⟩
def r_30 : Ev.Row := ⟨"sure_power", ⟨("sure_power", none), "sure_power", "sure_power", L2.defArgs (top 41), L2.defBody (top 41), L2.defScope (top 41), [], []⟩, ["program", "reached", "first", "table"], ["program"], [], f_sure_power⟩
theorem b_30 : Ev.RowBind r_30 := ⟨fun _ _ _ _ _ _ us hl => match us, hl with | [_], _ => rfl, True.intro⟩
def r_31 : Ev.Row := ⟨"power_of", ⟨("power_of", none), "power_of", "power_of", L2.defArgs (top 42), L2.defBody (top 42), L2.defScope (top 42), [], []⟩, ["program"], ["program"], [(0, ["program"], [0])], f_power_of⟩
theorem b_31 : Ev.RowBind r_31 := ⟨fun _ _ _ _ _ _ us hl => match us, hl with | [_], _ => rfl, ⟨fun _ _ _ _ _ _ us ws l1 l2 => match us, ws, l1, l2 with | [], [_], _, _ => rfl, True.intro⟩⟩
def r_32 : Ev.Row := ⟨"ring_row", ⟨("ring_row", none), "ring_row", "ring_row", L2.defArgs (top 43), L2.defBody (top 43), L2.defScope (top 43), [], []⟩, ["program", "lot", "first", "reached", "row", "here", "found"], ["program"], [(0, ["program"], [0])], f_ring_row⟩
theorem b_32 : Ev.RowBind r_32 := ⟨fun _ _ _ _ _ _ us hl => match us, hl with | [_], _ => rfl, ⟨fun _ _ _ _ _ _ us ws l1 l2 => match us, ws, l1, l2 with | [], [_], _, _ => rfl, True.intro⟩⟩
def r_33 : Ev.Row := ⟨"is_ring_row", ⟨("is_ring_row", none), "is_ring_row", "is_ring_row", L2.defArgs (top 44), L2.defBody (top 44), L2.defScope (top 44), [], []⟩, ["program", "thing", "calls", "here", "earlier", "lead", "ring", "later", "lot", "pair"], ["program", "thing"], [(0, ["thing", "program"], [1, 0])], f_is_ring_row⟩
theorem b_33 : Ev.RowBind r_33 := ⟨fun _ _ _ _ _ _ us hl => match us, hl with | [_, _], _ => rfl, ⟨fun _ _ _ _ _ _ us ws l1 l2 => match us, ws, l1, l2 with | [], [_, _], _, _ => rfl, True.intro⟩⟩
def r_34 : Ev.Row := ⟨"many_called", ⟨("many_called", none), "many_called", "many_called", L2.defArgs (top 45), L2.defBody (top 45), L2.defScope (top 45), [], []⟩, ["lot", "_", "rest"], ["lot"], [], f_many_called⟩
theorem b_34 : Ev.RowBind r_34 := ⟨fun _ _ _ _ _ _ us hl => match us, hl with | [_], _ => rfl, True.intro⟩
def r_35 : Ev.Row := ⟨"sums_to", ⟨("sums_to", none), "sums_to", "sums_to", L2.defArgs (top 46), L2.defBody (top 46), L2.defScope (top 46), [], []⟩, ["first", "table", "most", "_", "now", "found", "total", "later", "lot", "ways", "other"], ["first", "table", "most"], [], f_sums_to⟩
theorem b_35 : Ev.RowBind r_35 := ⟨fun _ _ _ _ _ _ us hl => match us, hl with | [_, _, _], _ => rfl, True.intro⟩
def r_36 : Ev.Row := ⟨"told_far", ⟨("told_far", none), "told_far", "told_far", L2.defArgs (top 47), L2.defBody (top 47), L2.defScope (top 47), [], []⟩, ["points", "number", "place", "total", "factor", "row", "near", "far"], ["points", "number"], [], f_told_far⟩
theorem b_36 : Ev.RowBind r_36 := ⟨fun _ _ _ _ _ _ us hl => match us, hl with | [_, _], _ => rfl, True.intro⟩
def r_37 : Ev.Row := ⟨"period_of", ⟨("period_of", none), "period_of", "period_of", L2.defArgs (top 48), L2.defBody (top 48), L2.defScope (top 48), [], []⟩, ["reached", "row_lots", "found", "lot", "own"], ["reached", "row_lots"], [], f_period_of⟩
theorem b_37 : Ev.RowBind r_37 := ⟨fun _ _ _ _ _ _ us hl => match us, hl with | [_, _], _ => rfl, True.intro⟩
def r_38 : Ev.Row := ⟨"calls_within", ⟨("calls_within", none), "calls_within", "calls_within", L2.defArgs (top 49), L2.defBody (top 49), L2.defScope (top 49), [], []⟩, ["program", "n", "reached", "step", "behind", "sums", "first", "table", "start", "many", "place"], ["program", "n"], [(0, ["n", "program"], [1, 0])], f_calls_within⟩
theorem b_38 : Ev.RowBind r_38 := ⟨fun _ _ _ _ _ _ us hl => match us, hl with | [_, _], _ => rfl, ⟨fun _ _ _ _ _ _ us ws l1 l2 => match us, ws, l1, l2 with | [], [_, _], _, _ => rfl, True.intro⟩⟩
def r_39 : Ev.Row := ⟨"ways_within", ⟨("ways_within", none), "ways_within", "ways_within", L2.defArgs (top 50), L2.defBody (top 50), L2.defScope (top 50), [], []⟩, ["program", "n", "rows", "length", "calls", "order", "row", "name", "own", "other", "far"], ["program", "n"], [(0, ["n", "program"], [1, 0])], f_ways_within⟩
theorem b_39 : Ev.RowBind r_39 := ⟨fun _ _ _ _ _ _ us hl => match us, hl with | [_, _], _ => rfl, ⟨fun _ _ _ _ _ _ us ws l1 l2 => match us, ws, l1, l2 with | [], [_, _], _, _ => rfl, True.intro⟩⟩
def r_40 : Ev.Row := ⟨"_law_same", ⟨("_law_same", none), "_law_same", "_law_same", L2.defArgs (top 52), L2.defBody (top 52), L2.defScope (top 52), [], []⟩, ["_law_got", "_law_goal", "_law_its", "_law_own"], ["_law_got", "_law_goal"], [], f__law_same⟩
theorem b_40 : Ev.RowBind r_40 := ⟨fun _ _ _ _ _ _ us hl => match us, hl with | [_, _], _ => rfl, True.intro⟩
def r_41 : Ev.Row := ⟨"_law_lists", ⟨("_law_lists", none), "_law_lists", "_law_lists", L2.defArgs (top 53), L2.defBody (top 53), L2.defScope (top 53), [], []⟩, ["_law_matter", "_law_own"], ["_law_matter"], [], f__law_lists⟩
theorem b_41 : Ev.RowBind r_41 := ⟨fun _ _ _ _ _ _ us hl => match us, hl with | [_], _ => rfl, True.intro⟩
def r_42 : Ev.Row := ⟨"_law_rule", ⟨("_law_rule", none), "_law_rule", "_law_rule", L2.defArgs (top 54), L2.defBody (top 54), L2.defScope (top 54), [], []⟩, ["_law_name_so", "_law_calls_so", "_law_leaf_so", "_law_own"], ["_law_name_so", "_law_calls_so"], [], f__law_rule⟩
theorem b_42 : Ev.RowBind r_42 := ⟨fun _ _ _ _ _ _ us hl => match us, hl with | [_, _], _ => rfl, True.intro⟩
def r_43 : Ev.Row := ⟨"_law_row", ⟨("_law_row", none), "_law_row", "_law_row", L2.defArgs (top 55), L2.defBody (top 55), L2.defScope (top 55), [], []⟩, [], [], [], f__law_row⟩
theorem b_43 : Ev.RowBind r_43 := ⟨fun _ _ _ _ _ _ us hl => match us, hl with | [], _ => rfl, True.intro⟩
def r_44 : Ev.Row := ⟨"_law_fork", ⟨("_law_fork", none), "_law_fork", "_law_fork", L2.defArgs (top 56), L2.defBody (top 56), L2.defScope (top 56), [], []⟩, [], [], [], f__law_fork⟩
theorem b_44 : Ev.RowBind r_44 := ⟨fun _ _ _ _ _ _ us hl => match us, hl with | [], _ => rfl, True.intro⟩
def r_45 : Ev.Row := ⟨"_law_wedge", ⟨("_law_wedge", none), "_law_wedge", "_law_wedge", L2.defArgs (top 57), L2.defBody (top 57), L2.defScope (top 57), [], []⟩, [], [], [], f__law_wedge⟩
theorem b_45 : Ev.RowBind r_45 := ⟨fun _ _ _ _ _ _ us hl => match us, hl with | [], _ => rfl, True.intro⟩
def r_46 : Ev.Row := ⟨"_law_heard", ⟨("_law_heard", none), "_law_heard", "_law_heard", L2.defArgs (top 58), L2.defBody (top 58), L2.defScope (top 58), [], []⟩, ["_law_door_so", "_law_program_so", "_law_n", "error"], ["_law_door_so", "_law_program_so", "_law_n"], [], f__law_heard⟩
theorem b_46 : Ev.RowBind r_46 := ⟨fun _ _ _ _ _ _ us hl => match us, hl with | [_, _, _], _ => rfl, True.intro⟩
def r_47 : Ev.Row := ⟨"_law_counts_right", ⟨("_law_counts_right", none), "_law_counts_right", "_law_counts_right", L2.defArgs (top 59), L2.defBody (top 59), L2.defScope (top 59), [], []⟩, ["_law_heard_here", "_law_due", "_law_both_so", "_law_still_so", "_law_sums_so", "_law_lap", "_law_row_so", "_law_fork_so", "_law_wedge_so", "_law_lone_so", "_law_n"], [], [], f__law_counts_right⟩
theorem b_47 : Ev.RowBind r_47 := ⟨fun _ _ _ _ _ _ us hl => match us, hl with | [], _ => rfl, True.intro⟩
def r_48 : Ev.Row := ⟨"_law_rings_right", ⟨("_law_rings_right", none), "_law_rings_right", "_law_rings_right", L2.defArgs (top 60), L2.defBody (top 60), L2.defScope (top 60), [], []⟩, ["_law_heard_here", "_law_due", "_law_goods", "_law_bads", "_law_row_so", "_law_fork_so", "_law_wedge_so", "_law_lone_so", "_law_own", "_law_k"], [], [], f__law_rings_right⟩
theorem b_48 : Ev.RowBind r_48 := ⟨fun _ _ _ _ _ _ us hl => match us, hl with | [], _ => rfl, True.intro⟩
def r_49 : Ev.Row := ⟨"_law_names_right", ⟨("_law_names_right", none), "_law_names_right", "_law_names_right", L2.defArgs (top 61), L2.defBody (top 61), L2.defScope (top 61), [], []⟩, ["_law_heard_here", "_law_due", "_law_soft", "_law_fork_so"], [], [], f__law_names_right⟩
theorem b_49 : Ev.RowBind r_49 := ⟨fun _ _ _ _ _ _ us hl => match us, hl with | [], _ => rfl, True.intro⟩
def r_50 : Ev.Row := ⟨"law", ⟨("law", none), "law", "law", L2.defArgs (top 62), L2.defBody (top 62), L2.defScope (top 62), [], []⟩, ["_law_script"], ["_law_script"], [], f_law⟩
theorem b_50 : Ev.RowBind r_50 := ⟨fun _ _ _ _ _ _ us hl => match us, hl with | [_], _ => rfl, True.intro⟩
instance cnTab : Ev.CnTab := ⟨[("MOST_LOTS", .int 400), ("NEAR", .int 300)], [("gcd", "math.gcd")], [("CanNot", true, true), ("TooMuch", true, true)]⟩
def rows : List Ev.Row := ((r_0) :: (r_1) :: (r_2) :: (r_3) :: (r_4) :: (r_5) :: (r_6) :: (r_7) :: (r_8) :: (r_9) :: (r_10) :: (r_11) :: (r_12) :: (r_13) :: (r_14) :: (r_15) :: (r_16) :: (r_17) :: (r_18) :: (r_19) :: (r_20) :: (r_21) :: (r_22) :: (r_23) :: (r_24) :: (r_25) :: (r_26) :: [r_27, r_28, r_29, r_30, r_31, r_32, r_33, r_34, r_35, r_36, r_37, r_38, r_39, r_40, r_41, r_42, r_43, r_44, r_45, r_46, r_47, r_48, r_49, r_50])
theorem binds : Ev.AllRow Ev.RowBind rows := ⟨b_0, ⟨b_1, ⟨b_2, ⟨b_3, ⟨b_4, ⟨b_5, ⟨b_6, ⟨b_7, ⟨b_8, ⟨b_9, ⟨b_10, ⟨b_11, ⟨b_12, ⟨b_13, ⟨b_14, ⟨b_15, ⟨b_16, ⟨b_17, ⟨b_18, ⟨b_19, ⟨b_20, ⟨b_21, ⟨b_22, ⟨b_23, ⟨b_24, ⟨b_25, ⟨b_26, ⟨b_27, ⟨b_28, ⟨b_29, ⟨b_30, ⟨b_31, ⟨b_32, ⟨b_33, ⟨b_34, ⟨b_35, ⟨b_36, ⟨b_37, ⟨b_38, ⟨b_39, ⟨b_40, ⟨b_41, ⟨b_42, ⟨b_43, ⟨b_44, ⟨b_45, ⟨b_46, ⟨b_47, ⟨b_48, ⟨b_49, ⟨b_50, True.intro⟩⟩⟩⟩⟩⟩⟩⟩⟩⟩⟩⟩⟩⟩⟩⟩⟩⟩⟩⟩⟩⟩⟩⟩⟩⟩⟩⟩⟩⟩⟩⟩⟩⟩⟩⟩⟩⟩⟩⟩⟩⟩⟩⟩⟩⟩⟩⟩⟩⟩⟩
def exc : List (PySem.Str × Option PySem.Str) := [("CanNot", none), ("TooMuch", none)]
def ini : List He.DefD := []
theorem iniOk : Ev.AllIni exc ini := True.intro
end Law
namespace Law
open Ev PySem

theorem rowsOk : rows.all (Ev.rowB (rows.map fun r => (r.x, r.kw)) exc) = true := by kernel_rfl
theorem tabEq : tab = rows.map (·.fn) := rfl
def dds : List He.DefD := rows.map (·.d) ++ ini
def fas : List He.Fa := (rows.map fun r => He.Fa.glo r.x) ++ (Ev.bltNames.map He.Fa.free ++ exc.map fun p => He.Fa.glo p.1)
def ex (K : PySem.W.Frag) : Bool := Ev.exB exc K
abbrev R : PySem.W.OpenRow := PySem.W.OpenLaw.row PySem.Challenge.rw_unwound_k48_growth_by_hand_and_refused
abbrev hk : PySem.W.Hook := He.hookX 4 fas dds [] [] ex
def ob (s : PySem.W.SharedT) : He.AlX := He.obsX 4 fas dds [] [] ex (HandSHeadRun.getT s)
theorem ob_eq (s : PySem.W.SharedT) : ob s = hk.obs s.abs := He.obsX_eq (HandSHeadRun.getT_eq s)
def loose_0 : List PySem.Str := ["__name__", "CanNot", "TooMuch", "is_number", "tuple_of", "is_tuple_of", "is_word", "_put", "parts_in_order", "calls_in", "_leaves", "leaves_of", "calls_of", "_sorted_out", "_still_lists", "still_order", "MOST_LOTS", "NEAR", "all_calls", "spread", "first_lot", "next_lot", "lot_on", "lot_of"]
def loose_1 : List PySem.Str := ["steps_from", "led_from", "table_of", "reached_from", "all_reached", "staying", "twice_led", "word_to", "two_rings", "are_two_rings", "best_rows", "sure_power", "power_of", "ring_row", "is_ring_row", "many_called", "sums_to", "told_far", "period_of", "calls_within", "ways_within", "_law_same", "_law_lists", "_law_rule"]
def loose_2 : List PySem.Str := ["_law_row", "_law_fork", "_law_wedge", "_law_heard", "_law_counts_right", "_law_rings_right", "_law_names_right"]
def loose : List PySem.Str := loose_0 ++ loose_1 ++ loose_2
theorem run (w : PySem.World) : HandSHeadRun.RunEqI R (PySem.W.view R.prog [0, 62]) hk ob 3000 loose w := by
  unfold HandSHeadRun.RunEqI
  kernel_rfl

theorem pure : ∀ ns : List Int, ns.length ≤ 63 → (∀ z ∈ ns, Builtin.Int.intBits z ≤ 1048576) → callK tab 101 [] 50 [.p (.list (ns.map .int))] [] = .ok (.p (.bool true)) [] := P48.pure_law

end Law
open PySem PySem.W PySem.Calls PyProof.Rows
theorem PySem.Challenge.cw_unwound_k48_growth_by_hand_and_refused_holds : PySem.Challenge.rw_unwound_k48_growth_by_hand_and_refused.Holds := by
  w_on; o_law
  refine HandSHeadRun.head_imp (r := OpenLaw.row PySem.Challenge.rw_unwound_k48_growth_by_hand_and_refused) (q := view (OpenLaw.row PySem.Challenge.rw_unwound_k48_growth_by_hand_and_refused).prog [0, 62]) (H := Law.hk) (ob := Law.ob) (M := 3000) (loose := Law.loose) (d := HandSHeadRun.topDef (OpenLaw.row PySem.Challenge.rw_unwound_k48_growth_by_hand_and_refused).prog 62) (kwd := []) Law.ob_eq
    Law.run (by kernel_rfl) (by kernel_rfl) (by kernel_rfl) (by rfl) (by first | assumption | decide +kernel) (by decide +kernel) ⟨rfl, rfl, rfl, rfl, rfl, by decide +kernel⟩ ?hw ?hc
  case hw => w_witness2
  case hc =>
    refine Ev.walk_ofEB (l := PySem.Challenge.rw_unwound_k48_growth_by_hand_and_refused) (n := 63) (k := 103) (x := "_law_script") (CX := L2.CX0) rfl (by decide) (by kernel_rfl) ⟨rfl, by decide, by decide⟩ ?F (fun _ _ _ _ z => z)
    intro w mg fa h Y G hmg0
    obtain ⟨K, KX, c⟩ := Y
    have hmg : mg ("law" : PySem.Str) = some (.ref fa) := by
      have e : (HandSHeadRun.topDef (OpenLaw.row PySem.Challenge.rw_unwound_k48_growth_by_hand_and_refused).prog 62).name = ("law" : PySem.Str) := by kernel_rfl
      rw [← e]
      exact hmg0
    obtain ⟨fd, sp, h1, h2, h3⟩ := Ev.law_facts (P := (PySem.Challenge.rw_unwound_k48_growth_by_hand_and_refused).prog) (w := w) (rows := Law.rows) (xs := Law.exc) (k := 100) (f := 50) (rl := Law.r_50) (x := "_law_script") KX G c.t.d rfl Law.iniOk rfl c.more rfl Law.tabEq Law.rowsOk Law.binds rfl rfl hmg Law.pure
    exact ⟨K, fd, sp, KX, h1, h2, h3⟩

