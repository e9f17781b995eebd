import PyProof.Rows.All
import Wide.All
import OpenK.AllK
import Wide.FinOn
import KE.KStateDown
import Lean
import HandS.ForMost
import HandS.Iter
import KE.KeyNested
import KE.KDictKeyed
import KE.KDictDisplayH
import HandS.TupAny
import HandS.TupMul
import HandS.Deep
import HandS.Style
import HandS.Strs
import HandS.StrMore
import HandS.Wide
import HandS.IsInst
import HandS.Flow
import KE.SortData
import KE.DataCmp
import PyProof.P3In
import HandS.Walk
import HandS.Zip
import PyProof.EnumMake
import PyProof.Draws
import KE.GoesMore
import HandS.Conv
import HandS.TupLen
import HandS.More
import HandS.Replace
import HandS.Text
import HandS.SetFor
import PyProof.StrLawsIn
import PyProof.StrLawsFirst
import PyProof.Rows.TupDisplay
import KE.KDictPairs
import HandS.Defaults
import HandS.Ends
import HandS.HeadEnd
import HandS.HeadHook2
import PyProof.ReprRoads
import PyProof.StrLawsRepr
import HandS.RaiseMore
import KE.SortCalls
import PyProof.Rows.StrCountLaw
import HandS.Set
import HandS.TupSets
import HandS.Head0
import HandS.Head1
import HandS.Head2
import HandS.HeadHook1
import HandS.HeadHook4
import PySem.Challenge.RW_noghostleft_k44_whole_charges_and_levels
set_option Elab.async false
set_option linter.all false
section
set_option autoImplicit false
set_option maxRecDepth 10000
namespace NG

/-! ## Values -/
inductive D where
  | undef
  | non
  | bl (b : Bool)
  | int (i : Int)
  | str (s : List Nat)
  | tup (l : List D)
  | lst (l : List D)
  | dic (t : Bool) (l : List (D × D))
  | scr (l : List D)
  | ref (n : Nat)
  | exc (c : Nat) (v : D)
  | clo (k : Nat) (caps : List D)
  deriving Inhabited

inductive Cell where
  | lst (l : List D)
  | dic (t : Bool) (l : List (D × D))
  | ins (c : Nat) (fs : List (Nat × D))
  | dead

abbrev Env := List D
abbrev Store := List Cell

inductive R (α : Type) where
  | ok (a : α) (S : Store)
  | exc (c : Nat) (v : D) (S : Store)
  | bad

@[inline] def R.bind {α β : Type} (r : R α) (f : α → Store → R β) : R β :=
  match r with
  | .ok a S => f a S
  | .exc c v S => .exc c v S
  | .bad => .bad

/-! ## equality, order -/
mutual
def deq : D → D → Bool
  | .non, .non => true
  | .bl a, .bl b => a == b
  | .bl a, .int j => (if a then 1 else 0) == j
  | .int i, .bl b => i == (if b then 1 else 0)
  | .int i, .int j => i == j
  | .str x, .str y => x == y
  | .lst xs, .lst ys => deqs xs ys
  | .tup xs, .tup ys => deqs xs ys
  | _, _ => false
def deqs : List D → List D → Bool
  | [], [] => true
  | x :: xs, y :: ys => deq x y && deqs xs ys
  | _, _ => false
end

mutual
/-- data without references -/
def isPy : D → Bool
  | .non => true
  | .bl _ => true
  | .int _ => true
  | .str s => s.all fun c => decide (c < 1114112)
  | .lst xs => arePy xs
  | .tup xs => arePy xs
  | _ => false
def arePy : List D → Bool
  | [] => true
  | x :: xs => isPy x && arePy xs
end

mutual
def ddepth : D → Nat
  | .lst xs => ddepths xs + 1
  | .tup xs => ddepths xs + 1
  | _ => 0
def ddepths : List D → Nat
  | [] => 0
  | x :: xs => max (ddepth x) (ddepths xs)
end

/-- lexicographic order of code points -/
def cpsLt : List Nat → List Nat → Bool
  | [], [] => false
  | [], _ :: _ => true
  | _ :: _, [] => false
  | x :: xs, y :: ys => if x < y then true else if y < x then false else cpsLt xs ys

mutual
/-- a < b of alike data -/
def dlt : D → D → Bool
  | .bl a, .bl b => !a && b
  | .int i, .int j => decide (i < j)
  | .str x, .str y => cpsLt x y
  | .lst xs, .lst ys => dlts xs ys
  | .tup xs, .tup ys => dlts xs ys
  | _, _ => false
def dlts : List D → List D → Bool
  | [], [] => false
  | [], _ :: _ => true
  | _ :: _, [] => false
  | x :: xs, y :: ys => if deq x y then dlts xs ys else dlt x y
end

/-! ## what may be a key -/
mutual
def keyable : D → Bool
  | .non => true
  | .bl _ => true
  | .int _ => true
  | .str _ => true
  | .tup xs => keyables xs
  | _ => false
def keyables : List D → Bool
  | [] => true
  | x :: xs => keyable x && keyables xs
end
def isKey (t : Bool) (d : D) : Bool := match t, d with
  | true, .tup xs => keyables xs && decide (ddepths xs ≤ 7)
  | _, _ => false

mutual
def alike : D → D → Bool
  | .non, .non => true
  | .bl _, .bl _ => true
  | .int _, .int _ => true
  | .str _, .str _ => true
  | .lst xs, .lst ys => alikes xs ys
  | .tup xs, .tup ys => alikes xs ys
  | _, _ => false
def alikes : List D → List D → Bool
  | x :: xs, y :: ys => alike x y && alikes xs ys
  | [], _ => true
  | _ :: _, [] => true
end

/-! ## sequences -/
def LIM : Nat := 16777216

def normIx (i : Int) (n : Nat) : Option Nat :=
  if i < 0 then (if 0 ≤ i + n then some (i + n).toNat else none)
  else if i < n then some i.toNat else none

def atIx {α : Type} (l : List α) (i : Int) : Option α :=
  match normIx i l.length with
  | some k => l[k]?
  | none => none

/-- the bound of a slice -/
def clampIx (i : Int) (n : Nat) : Nat :=
  if i < 0 then (i + n).toNat else min i.toNat n

def slIx (n d : Nat) : Option Int → Nat
  | some i => clampIx i n
  | none => d
def cutL {α : Type} (l : List α) (lo hi : Option Int) : List α :=
  (l.drop (slIx l.length 0 lo)).take (slIx l.length l.length hi - slIx l.length 0 lo)
/-- the parts of a slice -/
def partE : List D → Option (Option Int)
  | [] => some none
  | [.int i] => some (some i)
  | _ => none

/-- what a reference stands for now -/
def vw (S : Store) : D → D
  | .ref n => match S[n]? with
    | some (.lst l) => .lst l
    | some (.dic t l) => .dic t l
    | _ => .undef
  | d => d

def truthy : D → Option Bool
  | .non => some false
  | .bl b => some b
  | .int i => some (i != 0)
  | .str s => if s.length ≤ LIM then some (!s.isEmpty) else none
  | .tup l => some (!l.isEmpty)
  | .lst l => some (!l.isEmpty)
  | _ => none

/-- the items of a thing that is walked -/
def itemsOf : D → Option (List D)
  | .tup l => some l
  | .lst l => some l
  | .str s => if s.length ≤ LIM then some (s.map fun c => .str [c]) else none
  | .dic _ l => if l.length ≤ LIM then some (l.map (·.1)) else none
  | _ => none

def seqOf : D → Option (List D)
  | .tup l => some l
  | .lst l => some l
  | _ => none

inductive BOp | add | sub | mul | fdiv | mod | pow
  deriving DecidableEq
inductive COp | lt | le | gt | ge | eq | ne | isin | notin | is | isnot
  deriving DecidableEq

def P64 : Int := 18446744073709551616

def B2000 : Nat := 2 ^ 2000
def mulOk (i j : Int) : Bool := (decide (-P64 < i) && decide (i < P64)) || (decide (-P64 < j) && decide (j < P64)) || (decide (i.natAbs < B2000) && decide (j.natAbs < B2000))
def divOk (j : Int) : Bool := (decide (j ≠ 0) && decide (j.natAbs < 1073741824)) || (decide (0 < j) && decide (j.natAbs < B2000))

def bopE (o : BOp) (a b : D) : Option D :=
  match o, a, b with
  | .add, .int i, .int j => some (.int (i + j))
  | .add, .str x, .str y => if x.length + y.length ≤ LIM then some (.str (x ++ y)) else none
  | .add, .lst x, .lst y => if x.length + y.length ≤ LIM then some (.lst (x ++ y)) else none
  | .add, .tup x, .tup y => if x.length + y.length ≤ LIM then some (.tup (x ++ y)) else none
  | .sub, .int i, .int j => some (.int (i - j))
  | .mul, .int i, .int j => if mulOk i j then some (.int (i * j)) else none
  | .mul, .lst x, .int j => if 0 ≤ j ∧ j ≤ LIM ∧ x.length * j.toNat ≤ LIM then some (.lst (List.replicate j.toNat x).flatten) else none
  | .mul, .tup x, .int j => if !x.isEmpty ∧ 2 ≤ j ∧ j ≤ 1000 ∧ x.length ≤ 1000 then some (.tup (List.replicate j.toNat x).flatten) else none
  | .mul, .str x, .int j => if 0 ≤ j ∧ j ≤ LIM ∧ x.length * j.toNat ≤ LIM then some (.str (List.replicate j.toNat x).flatten) else none
  | .fdiv, .int i, .int j => if divOk j then some (.int (i.fdiv j)) else none
  | .mod, .int i, .int j => if j ≠ 0 then some (.int (i.fmod j)) else none
  | .pow, .int i, .int j => if 0 ≤ j ∧ j ≤ 1000 ∧ i.natAbs < 2 ^ 256 then some (.int (i ^ j.toNat)) else none
  | _, _, _ => none

def dmem (x : D) : List D → Bool
  | [] => false
  | y :: ys => deq y x || dmem x ys

/-- the place of the first equal item -/
def dfind (x : D) : List D → Option Nat
  | [] => none
  | y :: ys => if deq y x then some 0 else (dfind x ys).map (· + 1)

def dget (k : D) : List (D × D) → Option D
  | [] => none
  | (k', v) :: r => if deq k k' then some v else dget k r

def dput (k v : D) : List (D × D) → List (D × D)
  | [] => [(k, v)]
  | (k', v') :: r => if deq k k' then (k', v) :: r else (k', v') :: dput k v r

def isPre : List Nat → List Nat → Bool
  | [], _ => true
  | _ :: _, [] => false
  | x :: xs, y :: ys => x == y && isPre xs ys
def subStr (x : List Nat) : List Nat → Bool
  | [] => x.isEmpty
  | y :: ys => isPre x (y :: ys) || subStr x ys

def okEq (a b : D) : Bool := isPy a && isPy b && decide (ddepth a ≤ 60) && decide (ddepth b ≤ 60)

def inE (x c : D) : Option Bool :=
  match c with
  | .tup l => if isPy x && arePy l && decide (ddepth x ≤ 60) && decide (ddepths l ≤ 60) then some (dmem x l) else none
  | .lst l => if isPy x && arePy l && decide (ddepth x ≤ 60) && decide (ddepths l ≤ 60) then some (dmem x l) else none
  | .dic t l => if isKey t x then some (dget x l).isSome else none
  | .str s => match x with
    | .str [c] => some (s.contains c)
    | _ => none
  | _ => none

def isE (a b : D) : Option Bool :=
  match b with
  | .non => match a with
    | .non => some true
    | .undef => none
    | _ => some false
  | .bl q => match a with
    | .bl p => some (p == q)
    | _ => none
  | _ => none

def ordOk (a b : D) : Bool := alike a b && isPy a && isPy b && decide (ddepth a ≤ 60) && decide (ddepth b ≤ 60) && (match a with | .non => false | _ => true)
def ltE (a b : D) : Option Bool :=
  match a, b with
  | .int i, .int j => some (decide (i < j))
  | _, _ => if ordOk a b then some (dlt a b) else none
def leE (a b : D) : Option Bool :=
  match a, b with
  | .int i, .int j => some (decide (i ≤ j))
  | _, _ => if ordOk a b then some (!dlt b a) else none
def cmpE (o : COp) (a b : D) : Option Bool :=
  match o with
  | .lt => ltE a b
  | .le => leE a b
  | .gt => ltE b a
  | .ge => leE b a
  | .eq => if okEq a b then some (deq a b) else none
  | .ne => if okEq a b then some (!deq a b) else none
  | .isin => inE a b
  | .notin => (inE a b).map (!·)
  | .is => isE a b
  | .isnot => (isE a b).map (!·)

/-! ## stable merge sort (insertion, as a function) -/
def insD (x : D) : List D → List D
  | [] => [x]
  | y :: ys => if dlt y x then y :: insD x ys else x :: y :: ys
def sortD : List D → List D
  | [] => []
  | x :: xs => insD x (sortD xs)

/-- all alike one another, none of them an empty tuple or None: what sorted takes -/
def sortable (l : List D) : Bool :=
  arePy l && decide (ddepths l ≤ 60) && l.all (fun x => l.all fun y => alike x y) &&
    (l.all (fun x => match x with | .tup (_ :: _) => true | _ => false) || l.all (fun x => match x with | .tup _ => false | .non => false | _ => true))

/-- without repetitions, first ones kept -/
def dedup : List D → List D
  | [] => []
  | x :: xs => x :: (dedup xs).filter fun y => !deq x y

/-! ## texts -/
def decNat (n : Nat) : List Nat := (Nat.toDigits 10 n).map fun c => c.toNat
def decInt (i : Int) : List Nat := if i < 0 then 45 :: decNat i.natAbs else decNat i.natAbs

def plainCp (c : Nat) : Bool := decide (32 ≤ c) && decide (c < 127) && c != 39 && c != 92

def joinS (sep : List Nat) : List (List Nat) → List Nat
  | [] => []
  | [x] => x
  | x :: y :: r => x ++ sep ++ joinS sep (y :: r)

mutual
def shown : D → List Nat
  | .non => [78, 111, 110, 101]
  | .bl true => [84, 114, 117, 101]
  | .bl false => [70, 97, 108, 115, 101]
  | .int i => decInt i
  | .str s => 39 :: s ++ [39]
  | .lst xs => 91 :: joinS [44, 32] (showns xs) ++ [93]
  | .tup xs => match xs with
    | [] => [40, 41]
    | [x] => 40 :: shown x ++ [44, 41]
    | x :: y :: r => 40 :: joinS [44, 32] (shown x :: showns (y :: r)) ++ [41]
  | _ => []
def showns : List D → List (List Nat)
  | [] => []
  | x :: xs => shown x :: showns xs
end

mutual
def showable : D → Bool
  | .int i => decide (i.natAbs < 2 ^ 1900)
  | .str s => s.all plainCp
  | .lst xs => showables xs
  | .tup xs => showables xs
  | .non => true
  | .bl _ => true
  | _ => false
def showables : List D → Bool
  | [] => true
  | x :: xs => showable x && showables xs
end

/-! ## built-ins -/
inductive Ty | int | bool | str | tuple | list
  deriving DecidableEq

def putAll (t : Bool) : List (D × D) → List D → Option (List (D × D))
  | l, [] => some l
  | l, k :: v :: r => if isKey t k then putAll t (dput k v l) r else none
  | _, _ => none
/-- the pairs of a list, one after another -/
def flatD : List D → Option (List D)
  | [] => some []
  | .tup [k, v] :: r => (flatD r).map fun l => k :: v :: l
  | _ => none
inductive Blt
  | len | tuple | list | dict | sorted | sortedSet | rev | lenSet | listRng | tupRng | all | any | sum | int | abs | repr | str | isinst (t : Ty) | max2 | min2 | max1 | min1
  deriving DecidableEq

def isInst (t : Ty) : D → Option Bool
  | .undef => none
  | .ref _ => none
  | .exc _ _ => some false
  | .clo _ _ => none
  | .int _ => some (t == .int)
  | .bl _ => some (t == .int || t == .bool)
  | .str _ => some (t == .str)
  | .tup _ => some (t == .tuple)
  | .lst _ => some (t == .list)
  | .dic _ _ => none
  | .scr _ => none
  | .non => some false

def allB : List D → Option Bool
  | [] => some true
  | .bl true :: r => allB r
  | .bl false :: _ => some false
  | _ => none
def anyB : List D → Option Bool
  | [] => some false
  | .bl false :: r => anyB r
  | .bl true :: _ => some true
  | _ => none
def areInts : List D → Option (List Int)
  | [] => some []
  | .int i :: r => (areInts r).map (i :: ·)
  | _ => none
def areBls : List D → Bool
  | [] => true
  | .bl _ :: r => areBls r
  | _ => false

def rngL (lo : Int) : Nat → List D
  | 0 => []
  | n + 1 => .int lo :: rngL (lo + 1) n

/-- what may stand in a set: tuples of ints -/
def setKey : D → Bool
  | .tup (x :: xs) => (areInts (x :: xs)).isSome
  | _ => false
def bltE (b : Blt) (args : List D) : Option D :=
  match b, args with
  | .len, [.str s] => if s.length ≤ LIM then some (.int s.length) else none
  | .len, [.tup l] => some (.int l.length)
  | .len, [.lst l] => some (.int l.length)
  | .len, [.dic _ l] => if l.length ≤ LIM then some (.int l.length) else none
  | .len, [.scr l] => some (.int l.length)
  | .tuple, [x] => (seqOf x).map .tup
  | .list, [.dic _ l] => if l.length ≤ LIM then some (.lst (l.map (·.1))) else none
  | .list, [x] => (seqOf x).map .lst
  | .dict, [.lst l] => match flatD l with
    | some fl => (putAll true [] fl).map (.dic true)
    | none => none
  | .sorted, [.dic _ l] => if sortable (l.map (·.1)) && decide (l.length ≤ LIM) then some (.lst (sortD (l.map (·.1)))) else none
  | .sorted, [.lst l] => if sortable l then some (.lst (sortD l)) else none
  | .sortedSet, [x] => match seqOf x with
    | some l => match areInts l with
      | some _ => if (dedup l).length < 64 ∧ l.length ≤ 4000 then some (.lst (sortD (dedup l))) else none
      | none => if l.all setKey && decide (l.length < 64) then some (.lst (sortD (dedup l))) else none
    | none => none
  | .rev, [x] => match x with
    | .tup l => some (.tup l.reverse)
    | .lst l => some (.lst l.reverse)
    | _ => none
  | .lenSet, [.lst l] => match areInts l with
    | some _ => if l.length ≤ 4000 then some (.int (dedup l).length) else none
    | none => none
  | .listRng, [.int n] => if -LIM ≤ n ∧ n ≤ LIM then some (.lst (rngL 0 n.toNat)) else none
  | .listRng, [.int a, .int b] => if -LIM ≤ a ∧ a ≤ LIM ∧ -LIM ≤ b ∧ b ≤ LIM ∧ b - a ≤ LIM then some (.lst (rngL a (b - a).toNat)) else none
  | .tupRng, [.int n] => if -LIM ≤ n ∧ n ≤ LIM then some (.tup (rngL 0 n.toNat)) else none
  | .tupRng, [.int a, .int b] => if -LIM ≤ a ∧ a ≤ LIM ∧ -LIM ≤ b ∧ b ≤ LIM ∧ b - a ≤ LIM then some (.tup (rngL a (b - a).toNat)) else none
  | .all, [.lst l] => if areBls l then (allB l).map .bl else none
  | .any, [.lst l] => if areBls l then (anyB l).map .bl else none
  | .sum, [.lst l] => (areInts l).map fun is => .int is.sum
  | .int, [.int i] => some (.int i)
  | .int, [.bl b] => some (.int (if b then 1 else 0))
  | .abs, [.int i] => some (.int (if i < 0 then -i else i))
  | .repr, [x] => if showable x && decide (ddepth x ≤ 60) && decide ((shown x).length ≤ LIM) then some (.str (shown x)) else none
  | .str, [.int i] => if i.natAbs < 2 ^ 1900 then some (.str (decInt i)) else none
  | .isinst t, [x] => (isInst t x).map .bl
  | .max2, [.int i, .int j] => some (.int (if j > i then j else i))
  | .min2, [.int i, .int j] => some (.int (if j < i then j else i))
  | .max1, [.lst l] => match areInts l with
    | some (i :: is) => some (.int (is.foldl (fun a b => if b > a then b else a) i))
    | _ => none
  | .min1, [.lst l] => match areInts l with
    | some (i :: is) => some (.int (is.foldl (fun a b => if b < a then b else a) i))
    | _ => none
  | _, _ => none

inductive Mth | index | gindex | count | split | join | get
  deriving DecidableEq

def splitS (sep : Nat) : List Nat → List (List Nat)
  | [] => [[]]
  | c :: r => if c == sep then [] :: splitS sep r else match splitS sep r with
    | [] => [[c]]
    | h :: t => (c :: h) :: t

def areStrs : List D → Option (List (List Nat))
  | [] => some []
  | .str s :: r => (areStrs r).map (s :: ·)
  | _ => none

def cntD (x : D) : List D → Nat
  | [] => 0
  | y :: ys => (if deq y x then 1 else 0) + cntD x ys

def mthE (m : Mth) (o : D) (args : List D) : Option D :=
  match m with
  | .index => match o, args with
    | .str s, [.str [c]] => (s.idxOf? c).map fun (k : Nat) => .int k
    | .lst l, [x] => if isPy x && arePy l && decide (ddepth x ≤ 60) && decide (ddepths l ≤ 60) then (dfind x l).map fun (k : Nat) => .int k else none
    | _, _ => none
  | .count => match o, args with
    | .str s, [.str [c]] => some (.int ((s.count c : Nat) : Int))
    | _, _ => none
  | .gindex => match o, args with
    | .tup l, [.str x] => match areStrs l with
      | some ss => (ss.idxOf? x).map fun (k : Nat) => .int k
      | none => none
    | _, _ => none
  | .join => match o, args with
    | .str sep, [x] => match seqOf x with
      | some l => match areStrs l with
        | some ss => if (ss.map List.length).sum + sep.length * ss.length ≤ LIM then some (.str (joinS sep ss)) else none
        | none => none
      | none => none
    | _, _ => none
  | .get => match o, args with
    | .dic t l, [k] => if isKey t k then some ((dget k l).getD .non) else none
    | .dic t l, [k, d] => if isKey t k then some ((dget k l).getD d) else none
    | _, _ => none
  | _ => none

/-! ## the language -/
inductive Tg where
  | one (i : Nat)
  | tup (l : List Tg)

/-- how sources are walked -/
inductive ItK | of | rng1 | rng2 | enum | zip2 | zip3 | items | keys | vals
  deriving DecidableEq

inductive CE where
  | var (i : Nat)
  | cst (d : D)
  | glob (d : D)
  | tup (es : List CE)
  | lst (es : List CE)
  | dic (t : Bool) (es : List CE)
  | bop (o : BOp) (a b : CE)
  | neg (a : CE)
  | not (a : CE)
  | cmp (o : COp) (a b : CE)
  | cmp2 (o o' : COp) (a b c : CE)
  | and (a b : CE)
  | or (a b : CE)
  | ite (c a b : CE)
  | ix (a i : CE)
  | sl (a : CE) (lo hi : List CE)
  | call (f : Nat) (md : Nat) (args : List CE)
  | callk (f : Nat) (md : Nat) (args : List CE) (perm : List Nat)
  | blt (b : Blt) (args : List CE)
  | mth (m : Mth) (o : CE) (args : List CE)
  | comp (elt : CE) (t : Tg) (own : List Nat) (k : ItK) (src : List CE) (cond : List CE)
  | mut (k : Nat) (i : Nat) (args : List CE)
  | alloc (a : CE)
  | frz (i : Nat)

inductive CS where
  | set (t : Tg) (e : CE)
  | setIx (o i e : CE)
  | expr (e : CE)
  | ite (c : CE) (a b : List CS)
  | for (t : Tg) (k : ItK) (src : List CE) (body : List CS)
  | while (c : CE) (body : List CS)
  | ret (e : CE)
  | pass
  | brk
  | cont
  | raise (c : Nat) (e : CE)
  | ghost (i : Nat)

inductive Fl where
  | nx (ρ : Env)
  | rt (d : D)
  | bk (ρ : Env)
  | ct (ρ : Env)

def lift {α : Type} (o : Option α) (S : Store) : R α :=
  match o with
  | some a => .ok a S
  | none => .bad

/-! ## targets -/
mutual
def asg : Tg → D → Env → Option Env
  | .one i, d, ρ => if i < ρ.length then some (ρ.set i d) else none
  | .tup ts, d, ρ => match d with
    | .tup ds => asgs ts ds ρ
    | _ => none
def asgs : List Tg → List D → Env → Option Env
  | [], [], ρ => some ρ
  | t :: ts, d :: ds, ρ => match asg t d ρ with
    | some ρ' => asgs ts ds ρ'
    | none => none
  | _, _, _ => none
end

def zip2 : List D → List D → List D
  | x :: xs, y :: ys => .tup [x, y] :: zip2 xs ys
  | _, _ => []
def zip3 : List D → List D → List D → List D
  | x :: xs, y :: ys, z :: zs => .tup [x, y, z] :: zip3 xs ys zs
  | _, _, _ => []
def enumF (n : Nat) : List D → List D
  | [] => []
  | x :: xs => .tup [.int n, x] :: enumF (n + 1) xs
def iterE (k : ItK) (ds : List D) : Option (List D) :=
  match k, ds with
  | .of, [d] => itemsOf d
  | .rng1, [.int n] => if -LIM ≤ n ∧ n ≤ LIM then some (rngL 0 n.toNat) else none
  | .rng2, [.int a, .int b] => if -LIM ≤ a ∧ a ≤ LIM ∧ -LIM ≤ b ∧ b ≤ LIM ∧ b - a ≤ LIM then some (rngL a (b - a).toNat) else none
  | .enum, [d] => (seqOf d).map (enumF 0)
  | .zip2, [.tup x, .tup y] => some (zip2 x y)
  | .zip2, [.lst x, .lst y] => some (zip2 x y)
  | .zip3, [.tup x, .tup y, .tup z] => some (zip3 x y z)
  | .zip3, [.lst x, .lst y, .lst z] => some (zip3 x y z)
  | .items, [.dic _ l] => if l.length ≤ LIM then some (l.map fun p => .tup [p.1, p.2]) else none
  | .keys, [.dic _ l] => if l.length ≤ LIM then some (l.map (·.1)) else none
  | .vals, [.dic _ l] => if l.length ≤ LIM then some (l.map (·.2)) else none
  | _, _ => none

def wipe (ρ : Env) : List Nat → Env
  | [] => ρ
  | i :: is => (wipe ρ is).set i .undef

def compL0 (t : Tg) (cond : Env → Store → R Bool) (elt : Env → Store → R D) (ρ : Env) : List D → Store → R (List D)
  | [], S => .ok [] S
  | d :: ds, S => match asg t d ρ with
    | none => .bad
    | some ρ1 => (cond ρ1 S).bind fun b S1 =>
      if b then (elt ρ1 S1).bind fun y S2 => (compL0 t cond elt ρ ds S2).bind fun ys S3 => .ok (y :: ys) S3
      else compL0 t cond elt ρ ds S1
@[irreducible] def compL := @compL0
theorem compL_nil {t : Tg} {cond : Env → Store → R Bool} {elt : Env → Store → R D} {ρ : Env} {S : Store} : compL t cond elt ρ [] S = .ok [] S := by unfold compL; rfl
theorem compL_cons {t : Tg} {cond : Env → Store → R Bool} {elt : Env → Store → R D} {ρ : Env} {d : D} {ds : List D} {S : Store} : compL t cond elt ρ (d :: ds) S = match asg t d ρ with
    | none => .bad
    | some ρ1 => (cond ρ1 S).bind fun b S1 =>
      if b then (elt ρ1 S1).bind fun y S2 => (compL t cond elt ρ ds S2).bind fun ys S3 => .ok (y :: ys) S3
      else compL t cond elt ρ ds S1 := by unfold compL; rfl

def forL0 (t : Tg) (body : Env → Store → R Fl) : List D → Env → Store → R Fl
  | [], ρ, S => .ok (.nx ρ) S
  | d :: ds, ρ, S => match asg t d ρ with
    | none => .bad
    | some ρ1 => (body ρ1 S).bind fun fl S1 => match fl with
      | .nx ρ2 => forL0 t body ds ρ2 S1
      | .ct ρ2 => forL0 t body ds ρ2 S1
      | .bk ρ2 => .ok (.nx ρ2) S1
      | .rt d => .ok (.rt d) S1
@[irreducible] def forL := @forL0
theorem forL_nil {t : Tg} {body : Env → Store → R Fl} {ρ : Env} {S : Store} : forL t body [] ρ S = .ok (.nx ρ) S := by unfold forL; rfl
theorem forL_cons {t : Tg} {body : Env → Store → R Fl} {d : D} {ds : List D} {ρ : Env} {S : Store} : forL t body (d :: ds) ρ S = match asg t d ρ with
    | none => .bad
    | some ρ1 => (body ρ1 S).bind fun fl S1 => match fl with
      | .nx ρ2 => forL t body ds ρ2 S1
      | .ct ρ2 => forL t body ds ρ2 S1
      | .bk ρ2 => .ok (.nx ρ2) S1
      | .rt d => .ok (.rt d) S1 := by unfold forL; rfl

def whileL0 (c : Env → Store → R Bool) (body : Env → Store → R Fl) : Nat → Env → Store → R Fl
  | 0, _, _ => .bad
  | n + 1, ρ, S => (c ρ S).bind fun b S1 => if b then (body ρ S1).bind fun fl S2 => match fl with
      | .nx ρ2 => whileL0 c body n ρ2 S2
      | .ct ρ2 => whileL0 c body n ρ2 S2
      | .bk ρ2 => .ok (.nx ρ2) S2
      | .rt d => .ok (.rt d) S2
    else .ok (.nx ρ) S1
@[irreducible] def whileL := @whileL0
theorem whileL_z {c : Env → Store → R Bool} {body : Env → Store → R Fl} {ρ : Env} {S : Store} : whileL c body 0 ρ S = .bad := by unfold whileL; rfl
theorem whileL_s {c : Env → Store → R Bool} {body : Env → Store → R Fl} {n : Nat} {ρ : Env} {S : Store} : whileL c body (n + 1) ρ S = ((c ρ S).bind fun b S1 => if b then (body ρ S1).bind fun fl S2 => match fl with
      | .nx ρ2 => whileL c body n ρ2 S2
      | .ct ρ2 => whileL c body n ρ2 S2
      | .bk ρ2 => .ok (.nx ρ2) S2
      | .rt d => .ok (.rt d) S2
    else .ok (.nx ρ) S1) := by unfold whileL; rfl

mutual
/-- without references and closures -/
def clean : D → Bool
  | .non => true
  | .bl _ => true
  | .int _ => true
  | .str _ => true
  | .lst xs => cleans xs
  | .tup xs => cleans xs
  | .dic _ l => cleanP l
  | .exc 0 .non => true
  | _ => false
def cleans : List D → Bool
  | [] => true
  | x :: xs => clean x && cleans xs
def cleanP : List (D × D) → Bool
  | [] => true
  | (k, v) :: r => clean k && clean v && cleanP r
end

abbrev Phi := Nat → List D → Store → R D

def pick {α : Type} (perm : List Nat) (l : List α) : List α := perm.filterMap fun i => l[i]?

@[irreducible] def callE (Φ : Phi) (f md : Nat) (ds : List D) (S : Store) : R D :=
  match md with
  | 0 => Φ f ds S
  | _ => if cleans ds then match Φ f ds [] with
      | .ok d _ => if clean d then .ok d S else .bad
      | .exc c v _ => if clean v then .exc c v S else .bad
      | .bad => .bad
    else .bad

/-- what changes a list or a dict in place: the result, the new cell -/
def mutE (k : Nat) (c : Cell) (args : List D) : Option (D × Cell) :=
  match k, c, args with
  | 0, .lst l, [x] => if l.length < LIM then some (.non, .lst (l ++ [x])) else none          -- append
  | 1, .lst l, [.lst r] => if l.length + r.length ≤ LIM then some (.non, .lst (l ++ r)) else none   -- extend
  | 2, .lst l, [] => (l[l.length - 1]?).map fun x => (x, .lst l.dropLast)                   -- pop()
  | 3, .lst l, [.int i] => if -16777216 ≤ i ∧ i ≤ 16777216 then match normIx i l.length with                                      -- pop(i)
    | some k => (l[k]?).map fun x => (x, .lst (l.eraseIdx k))
    | none => none
    else none
  | _, _, _ => none

def setIxE (c : Cell) (i d : D) : Option Cell :=
  match c with
  | .lst l => match i with
    | .int i => (normIx i l.length).map fun k => .lst (l.set k d)
    | _ => none
  | .dic t l => if isKey t i && decide (l.length < LIM) then some (.dic t (dput i d l)) else none
  | _ => none

def liveL (S : Store) (n : Nat) : Bool :=
  match S[n]? with
  | some (.lst _) => true
  | _ => false
def liveD (S : Store) (n : Nat) : Bool :=
  match S[n]? with
  | some (.dic _ _) => true
  | _ => false
def vws (S : Store) (ds : List D) : List D := ds.map (vw S)
/-- a receiver that stands -/
def rcvOk (m : Mth) (S : Store) : D → Bool
  | .ref n => if m == .get then liveD S n else liveL S n
  | _ => true
def mthA (m : Mth) (S : Store) (ds : List D) : List D := if m == .get then ds else vws S ds
def mutA (k : Nat) (S : Store) (ds : List D) : List D := if k = 1 then vws S ds else ds

/-- a display: keys and values in turn -/
def mkDic (t : Bool) (ds : List D) : Option (List (D × D)) := if ds.length ≤ 30 then putAll t [] ds else none
section
variable (W : Nat) (Φ : Phi)
mutual
def evE : CE → Env → Store → R D
  | .var i, ρ, S => match ρ[i]? with
    | some .undef => .bad
    | some d => .ok d S
    | none => .bad
  | .cst d, _, S => .ok d S
  | .glob d, _, S => .ok d S
  | .tup es, ρ, S => (evEs es ρ S).bind fun ds S1 => .ok (.tup ds) S1
  | .lst es, ρ, S => (evEs es ρ S).bind fun ds S1 => .ok (.lst ds) S1
  | .dic t es, ρ, S => (evEs es ρ S).bind fun ds S1 => lift ((mkDic t ds).map (.dic t)) S1
  | .bop o a b, ρ, S => (evE a ρ S).bind fun x S1 => (evE b ρ S1).bind fun y S2 => lift (bopE o (vw S2 x) (vw S2 y)) S2
  | .neg a, ρ, S => (evE a ρ S).bind fun x S1 => match x with
    | .int i => .ok (.int (-i)) S1
    | _ => .bad
  | .not a, ρ, S => (evE a ρ S).bind fun x S1 => match truthy (vw S1 x) with
    | some b => .ok (.bl (!b)) S1
    | none => .bad
  | .cmp o a b, ρ, S => (evE a ρ S).bind fun x S1 => (evE b ρ S1).bind fun y S2 => lift ((cmpE o (vw S2 x) (vw S2 y)).map .bl) S2
  | .cmp2 o o' a b c, ρ, S => (evE a ρ S).bind fun x S1 => (evE b ρ S1).bind fun y S2 => match cmpE o (vw S2 x) (vw S2 y) with
    | some true => (evE c ρ S2).bind fun z S3 => lift ((cmpE o' (vw S3 y) (vw S3 z)).map .bl) S3
    | some false => .ok (.bl false) S2
    | none => .bad
  | .and a b, ρ, S => (evE a ρ S).bind fun x S1 => match truthy (vw S1 x) with
    | some true => evE b ρ S1
    | some false => .ok x S1
    | none => .bad
  | .or a b, ρ, S => (evE a ρ S).bind fun x S1 => match truthy (vw S1 x) with
    | some true => .ok x S1
    | some false => evE b ρ S1
    | none => .bad
  | .ite c a b, ρ, S => (evE c ρ S).bind fun x S1 => match truthy (vw S1 x) with
    | some true => evE a ρ S1
    | some false => evE b ρ S1
    | none => .bad
  | .ix a i, ρ, S => (evE a ρ S).bind fun x S1 => (evE i ρ S1).bind fun y S2 => match vw S2 x with
    | .tup l => match y with
      | .int i => lift (atIx l i) S2
      | _ => .bad
    | .lst l => match y with
      | .int i => lift (atIx l i) S2
      | _ => .bad
    | .str l => match y with
      | .int i => if l.length ≤ LIM then lift ((atIx l i).map fun c => .str [c]) S2 else .bad
      | _ => .bad
    | .dic t l => if isKey t y then lift (dget y l) S2 else .bad
    | .scr l => match y with
      | .int i => lift (atIx l i) S2
      | _ => .bad
    | _ => .bad
  | .sl a lo hi, ρ, S => (evE a ρ S).bind fun x S1 => (evEs lo ρ S1).bind fun l S2 => (evEs hi ρ S2).bind fun h S3 =>
    match partE l, partE h with
    | some l', some h' => (match vw S3 x with
      | .tup xs => .ok (.tup (cutL xs l' h')) S3
      | .lst xs => .ok (.lst (cutL xs l' h')) S3
      | .scr xs => .ok (.lst (cutL xs l' h')) S3
      | .str xs => if xs.length ≤ LIM then .ok (.str (cutL xs l' h')) S3 else .bad
      | _ => .bad)
    | _, _ => .bad
  | .call f md args, ρ, S => (evEs args ρ S).bind fun ds S1 => callE Φ f md ds S1
  | .callk f md args perm, ρ, S => (evEs args ρ S).bind fun ds S1 => callE Φ f md (pick perm ds) S1
  | .blt b args, ρ, S => (evEs args ρ S).bind fun ds S1 => lift (bltE b (vws S1 ds)) S1
  | .mth m o args, ρ, S => (evE o ρ S).bind fun x S1 => if rcvOk m S1 x then (evEs args ρ S1).bind fun ds S2 => lift (mthE m (vw S2 x) (mthA m S2 ds)) S2 else .bad
  | .comp elt t own k src cond, ρ, S => (evEs src ρ S).bind fun ds S1 => match iterE k ds with
    | some its => (compL t (evC cond) (evE elt) (wipe ρ own) its S1).bind fun ys S2 => .ok (.lst ys) S2
    | none => .bad
  | .mut k i args, ρ, S => match ρ[i]? with
    | some (.ref n) => if liveL S n then (evEs args ρ S).bind fun ds S1 => match S1[n]? with
      | some c => match mutE k c (mutA k S1 ds) with
        | some (r, c') => .ok r (S1.set n c')
        | none => .bad
      | none => .bad
      else .bad
    | _ => .bad
  | .alloc a, ρ, S => (evE a ρ S).bind fun x S1 => match x with
    | .lst l => .ok (.ref S1.length) (S1 ++ [.lst l])
    | .dic t l => .ok (.ref S1.length) (S1 ++ [.dic t l])
    | _ => .bad
  | .frz i, ρ, S => match ρ[i]? with
    | some (.ref n) => match S[n]? with
      | some (.lst l) => .ok (.lst l) (S.set n .dead)
      | some (.dic t l) => .ok (.dic t l) (S.set n .dead)
      | _ => .bad
    | _ => .bad
termination_by structural e => e
def evEs : List CE → Env → Store → R (List D)
  | [], _, S => .ok [] S
  | e :: es, ρ, S => (evE e ρ S).bind fun x S1 => (evEs es ρ S1).bind fun xs S2 => .ok (x :: xs) S2
termination_by structural es => es
def evC : List CE → Env → Store → R Bool
  | [], _, S => .ok true S
  | e :: _, ρ, S => (evE e ρ S).bind fun x S1 => lift (truthy (vw S1 x)) S1
termination_by structural es => es
end
mutual
def evS : CS → Env → Store → R Fl
  | .set t e, ρ, S => (evE Φ e ρ S).bind fun x S1 => match asg t x ρ with
    | some ρ' => .ok (.nx ρ') S1
    | none => .bad
  | .setIx o i e, ρ, S => (evE Φ e ρ S).bind fun x S1 => (evE Φ o ρ S1).bind fun y S2 => (evE Φ i ρ S2).bind fun z S3 => match y with
    | .ref n => match S3[n]? with
      | some c => match setIxE c z x with
        | some c' => .ok (.nx ρ) (S3.set n c')
        | none => .bad
      | none => .bad
    | _ => .bad
  | .expr e, ρ, S => (evE Φ e ρ S).bind fun _ S1 => .ok (.nx ρ) S1
  | .ite c a b, ρ, S => (evE Φ c ρ S).bind fun x S1 => match truthy (vw S1 x) with
    | some true => evSs a ρ S1
    | some false => evSs b ρ S1
    | none => .bad
  | .for t k src body, ρ, S => (evEs Φ src ρ S).bind fun ds S1 => match iterE k ds with
    | some its => forL t (evSs body) its ρ S1
    | none => .bad
  | .while c body, ρ, S => whileL (fun ρ S => (evE Φ c ρ S).bind fun x S1 => lift (truthy (vw S1 x)) S1) (evSs body) W ρ S
  | .ret e, ρ, S => (evE Φ e ρ S).bind fun x S1 => .ok (.rt x) S1
  | .pass, ρ, S => .ok (.nx ρ) S
  | .brk, ρ, S => .ok (.bk ρ) S
  | .cont, ρ, S => .ok (.ct ρ) S
  | .raise c e, ρ, S => (evE Φ e ρ S).bind fun x S1 => .exc c x S1
  | .ghost i, ρ, S => match ρ[i]? with
    | some (.ref n) => match S[n]? with
      | some (.lst l) => .ok (.nx (ρ.set i (.lst l))) (S.set n .dead)
      | some (.dic t l) => .ok (.nx (ρ.set i (.dic t l))) (S.set n .dead)
      | _ => .bad
    | _ => .bad
termination_by structural s => s
def evSs : List CS → Env → Store → R Fl
  | [], ρ, S => .ok (.nx ρ) S
  | s :: ss, ρ, S => (evS s ρ S).bind fun fl S1 => match fl with
    | .nx ρ' => evSs ss ρ' S1
    | fl => .ok fl S1
termination_by structural ss => ss
end
end

structure Fn where
  np : Nat
  ns : Nat
  body : List CS

def runFn (W : Nat) (Φ : Phi) (fn : Fn) (ds : List D) (S : Store) : R D :=
  if ds.length = fn.np then
    (evSs W Φ fn.body (ds ++ List.replicate (fn.ns - fn.np) .undef) S).bind fun fl S1 => match fl with
      | .rt d => .ok d S1
      | .nx _ => .ok .non S1
      | _ => .bad
  else .bad

/-- calls, at most k deep -/
def phi (W : Nat) (T : Nat → Option Fn) : Nat → Phi
  | 0 => fun _ _ _ => .bad
  | k + 1 => fun f ds S => match T f with
    | some fn => runFn W (phi W T k) fn ds S
    | none => .bad
end NG
end

section
set_option autoImplicit false
set_option maxRecDepth 100000
set_option maxHeartbeats 1000000
namespace NG
open PySem PySem.Spec PyProof.Rows L2

/-! ## what stands for what -/
def toStr (s : List Nat) : Str := ⟨s.toArray⟩

/-- a tracked address: of a cell that lives -/
def Trk (m : List Addr) (S : Store) (a : Addr) : Prop := ∃ (n : Nat) (c : Cell), m[n]? = some a ∧ S[n]? = some c ∧ c ≠ Cell.dead
/-- an address that others hold, or tracked -/
def Tk (F : Addr → Prop) (m : List Addr) (S : Store) (a : Addr) : Prop := F a ∨ Trk m S a

def WrT (K : PySem.W.Frag) (a : Addr) (xs : List V) : Prop :=
  ∃ (o : Obj) (its : Array Value) (n : Nat), K.lookup a = some o ∧ o.cls = .type "tuple" ∧ o.data = .seq its n ∧ its.size ≤ sizeLine ∧ Vals xs its.toList

def WrL (K : PySem.W.Frag) (a : Addr) (xs : List V) : Prop :=
  ∃ (o : Obj) (its : Array Value) (n : Nat), K.lookup a = some o ∧ o.cls = .type "list" ∧ o.dict = none ∧ o.data = .seq its n ∧ its.size ≤ sizeLine ∧ Vals xs its.toList

/-- the world that all is said of -/
class HasW where
  w : World
mutual
def toKey : D → NestedKey
  | .bl b => .num (if b = true then 1 else 0)
  | .int i => .num i
  | .str s => .text (toStr s)
  | .tup xs => .tup (toKeys xs)
  | _ => .none
def toKeys : List D → List NestedKey
  | [] => []
  | x :: xs => toKey x :: toKeys xs
end
/-- at a stands a dict with these entries -/
def DicOk (w : World) (a : Addr) (es : List (NestedKey × V × V)) (h : Heap) : Prop := es.length ≤ sizeLine ∧ (a == sysModules) = false ∧
  ∃ (o : Obj) (ds : Array DictEntry) (ep : Nat), h.get? a = some o ∧ o.ExactDict ∧ o.data = .dict ds ep ∧
    Paired (fun (p : NestedKey × V × V) (e : DictEntry) => e.hash = p.1.hash w ∧ RelV p.2.1 e.key ∧ RelV p.2.2 e.val) es ds.toList ∧ (es.map (·.1)).Nodup
def DicO (w : World) (a : Addr) (es : List (NestedKey × V × V)) : HO := .ext (DicOk w a es)
theorem DicO.mut {w : World} {a : Addr} {es : List (NestedKey × V × V)} : Mut (some (DicO w a es)) := True.intro
theorem DicO.ne_lst {w : World} {a : Addr} {es : List (NestedKey × V × V)} {xs : List V} : DicO w a es ≠ .lst xs := fun z => by cases z
theorem DicO.ne_tup {w : World} {a : Addr} {es : List (NestedKey × V × V)} {xs : List V} : DicO w a es ≠ .tup xs := fun z => by cases z
variable [HasW]
mutual
inductive Rp (K : PySem.W.Frag) (H : Hp) (T : Addr → Prop) (m : List Addr) : D → V → Prop
  | non : Rp K H T m .non .non
  | bl (b : Bool) : Rp K H T m (.bl b) (.bl b)
  | int (i : Int) : Rp K H T m (.int i) (.int i)
  | str (s : List Nat) : Rp K H T m (.str s) (.str (toStr s))
  | tup {a : Addr} {xs : List V} {ds : List D} : Rd H a (.tup xs) → ¬ T a → Rps K H T m ds xs → Rp K H T m (.tup ds) (.ref a)
  | tupK {a : Addr} {xs : List V} {ds : List D} : WrT K a xs → Rps K H T m ds xs → Rp K H T m (.tup ds) (.ref a)
  | lst {a : Addr} {xs : List V} {ds : List D} : Rd H a (.lst xs) → ¬ T a → Rps K H T m ds xs → Rp K H T m (.lst ds) (.ref a)
  | scr {a : Addr} {xs : List V} {ds : List D} : (Rd H a (.lst xs) ∧ ¬ T a) ∨ WrL K a xs → Rps K H T m ds xs → Rp K H T m (.scr ds) (.ref a)
  | ref {n : Nat} {a : Addr} : m[n]? = some a → Rp K H T m (.ref n) (.ref a)
  | dic {a : Addr} {od : Obj} {l : List (D × D)} {es : List (NestedKey × V × V)} : H a = some (.frz od (DicO HasW.w a es)) → ¬ T a → es.map (·.1) = l.map (fun p => toKey p.1) → (∀ p ∈ l, isKey true p.1 = true) →
      Rps K H T m (l.map (·.1)) (es.map (·.2.1)) → Rps K H T m (l.map (·.2)) (es.map (·.2.2)) → Rp K H T m (.dic true l) (.ref a)
  | opq {a : Addr} {kvs : List (Key × V)} : H a = some (.dK kvs) → ¬ T a → Rp K H T m (.exc 0 .non) (.ref a)
inductive Rps (K : PySem.W.Frag) (H : Hp) (T : Addr → Prop) (m : List Addr) : List D → List V → Prop
  | nil : Rps K H T m [] []
  | cons {d : D} {v : V} {ds : List D} {vs : List V} : Rp K H T m d v → Rps K H T m ds vs → Rps K H T m (d :: ds) (v :: vs)
end

/-- what a tracked dict's entries are -/
structure DicR (K : PySem.W.Frag) (H : Hp) (T : Addr → Prop) (m : List Addr) (l : List (D × D)) (es : List (NestedKey × V × V)) : Prop where
  nk : es.map (·.1) = l.map (fun p => toKey p.1)
  ky : ∀ p ∈ l, isKey true p.1 = true
  ks : Rps K H T m (l.map (·.1)) (es.map (·.2.1))
  vs : Rps K H T m (l.map (·.2)) (es.map (·.2.2))
/-- the cells are held -/
structure Sto (K : PySem.W.Frag) (H : Hp) (F : Addr → Prop) (m : List Addr) (S : Store) : Prop where
  len : m.length = S.length
  nd : m.Nodup
  lst : ∀ (n : Nat) (a : Addr) (l : List D), m[n]? = some a → S[n]? = some (.lst l) → ∃ xs, H a = some (.lst xs) ∧ Rps K H (Tk F m S) m l xs
  dic : ∀ (n : Nat) (a : Addr) (l : List (D × D)), m[n]? = some a → S[n]? = some (.dic true l) → ∃ es, H a = some (DicO HasW.w a es) ∧ DicR K H (Tk F m S) m l es
  mem : ∀ a, a ∈ m → ∃ o, H a = some o
  plain : ∀ (n : Nat) (c : Cell), S[n]? = some c → (∃ l, c = .lst l) ∨ c = .dead ∨ ∃ l, c = .dic true l
  oth : ∀ a, F a → ∃ o, H a = some o
  off : ∀ a, F a → a ∉ m

/-- the frame's names -/
structure EnvR (K : PySem.W.Frag) (H : Hp) (T : Addr → Prop) (m : List Addr) (ρ : Env) (σ : L2.St) : Prop where
  len : ρ.length = σ.length
  at_ : ∀ (i : Nat) (d : D), ρ[i]? = some d → d ≠ .undef → ∃ v, σ[i]? = some (some v) ∧ Rp K H T m d v

/-- from one state to a later one -/
structure Ex (H : Hp) (m : List Addr) (S : Store) (H' : Hp) (m' : List Addr) (S' : Store) : Prop where
  pre : ∃ r, m' = m ++ r
  old : ∀ a o, H a = some o → ¬ Trk m S a → H' a = some o
  trk : ∀ a, Trk m' S' a → Trk m S a ∨ H a = none

/-- a later place: what T, m, H may become -/
structure Lt (H : Hp) (T : Addr → Prop) (m : List Addr) (H1 : Hp) (T1 : Addr → Prop) (m1 : List Addr) : Prop where
  pre : ∃ r, m1 = m ++ r
  old : ∀ a o, H a = some o → ¬ T a → H1 a = some o
  trk : ∀ a, T1 a → T a ∨ H a = none

section
variable {K : PySem.W.Frag} {H H1 H2 : Hp} {F : Addr → Prop} {T T1 : Addr → Prop} {m m1 m2 : List Addr} {S S1 S2 : Store} {d : D} {v : V} {ds : List D} {vs : List V} {ρ : Env} {σ : L2.St}

theorem Sto.apart (s : Sto K H F m S) : ∀ a, F a → ¬ Trk m S a := fun a f ⟨n, c, h, _⟩ => s.off a f (List.mem_of_getElem? h)
theorem Sto.has (s : Sto K H F m S) {a : Addr} (t : Tk F m S a) : ∃ o, H a = some o := by
  rcases t with t | ⟨n, c, h1, h2, h3⟩
  · exact s.oth a t
  · exact s.mem a (List.mem_of_getElem? h1)
theorem Sto.free (s : Sto K H F m S) {a : Addr} (h : H a = none) : ¬ Tk F m S a := fun t => by
  obtain ⟨o, e⟩ := s.has t
  rw [h] at e
  cases e

theorem Ex.refl : Ex H m S H m S := ⟨⟨[], by simp⟩, fun _ _ h _ => h, fun _ h => .inl h⟩
theorem Ex.trans (a : Ex H m S H1 m1 S1) (b : Ex H1 m1 S1 H2 m2 S2) : Ex H m S H2 m2 S2 := by
  obtain ⟨r1, e1⟩ := a.pre
  obtain ⟨r2, e2⟩ := b.pre
  refine ⟨⟨r1 ++ r2, by rw [e2, e1, List.append_assoc]⟩, fun c o h n => ?_, fun c t => ?_⟩
  · refine b.old c o (a.old c o h n) fun t => ?_
    rcases a.trk c t with q | q
    · exact n q
    · rw [q] at h; cases h
  · rcases b.trk c t with q | q
    · exact a.trk c q
    · by_cases tc : Trk m S c
      · exact .inl tc
      · refine .inr ?_
        cases h : H c with
        | none => rfl
        | some o =>
          rw [a.old c o h tc] at q
          cases q

theorem Ex.lt (a : Ex H m S H1 m1 S1) : Lt H (Tk F m S) m H1 (Tk F m1 S1) m1 :=
  ⟨a.pre, fun c o h n => a.old c o h fun t => n (.inr t), fun c t => by
    rcases t with t | t
    · exact .inl (.inl t)
    · exact (a.trk c t).imp .inr id⟩

theorem Ex.ltF {F' : Addr → Prop} (h : ∀ a, F' a → F a ∨ H a = none) (a : Ex H m S H1 m1 S1) : Lt H (Tk F m S) m H1 (Tk F' m1 S1) m1 :=
  ⟨a.pre, fun c o h n => a.old c o h fun t => n (.inr t), fun c t => by
    rcases t with t | t
    · exact (h c t).imp .inl id
    · exact (a.trk c t).imp .inr id⟩
theorem Rd.keep {a : Addr} {u : HO} (x : ∀ o, H a = some o → H1 a = some o) (r : Rd H a u) : Rd H1 a u := by
  rcases r with r | ⟨o, r⟩
  · exact .inl (x _ r)
  · exact .inr ⟨o, x _ r⟩
theorem Rd.some {a : Addr} {u : HO} (r : Rd H a u) : ∃ o, H a = some o := by
  rcases r with r | ⟨o, r⟩
  · exact ⟨_, r⟩
  · exact ⟨_, r⟩
theorem Lt.nt (l : Lt H T m H1 T1 m1) {a : Addr} {u : HO} (n : ¬ T a) (r : Rd H a u) : ¬ T1 a := fun t => (l.trk a t).elim n fun q => by
  obtain ⟨o, e⟩ := Rd.some r
  rw [q] at e
  cases e
mutual
theorem Rp.mono (l : Lt H T m H1 T1 m1) : ∀ {d : D} {v : V}, Rp K H T m d v → Rp K H1 T1 m1 d v
  | _, _, .non => .non
  | _, _, .bl b => .bl b
  | _, _, .int i => .int i
  | _, _, .str s => .str s
  | _, _, .tup h n r => .tup (Rd.keep (fun o e => l.old _ o e n) h) (l.nt n h) (Rps.mono l r)
  | _, _, .tupK h r => .tupK h (Rps.mono l r)
  | _, _, .lst h n r => .lst (Rd.keep (fun o e => l.old _ o e n) h) (l.nt n h) (Rps.mono l r)
  | _, _, .scr h r => .scr (h.imp (fun z => ⟨Rd.keep (fun o e => l.old _ o e z.2) z.1, l.nt z.2 z.1⟩) id) (Rps.mono l r)
  | _, _, .ref h => .ref (by
      obtain ⟨r, e⟩ := l.pre
      rw [e, List.getElem?_append_left (List.getElem?_eq_some_iff.mp h).1]
      exact h)
  | _, _, .dic h n q1 q2 r1 r2 => .dic (l.old _ _ h n) (fun t => (l.trk _ t).elim n fun q => by rw [q] at h; cases h) q1 q2 (Rps.mono l r1) (Rps.mono l r2)
  | _, _, .opq h n => .opq (l.old _ _ h n) (fun t => (l.trk _ t).elim n fun q => by rw [q] at h; cases h)
theorem Rps.mono (l : Lt H T m H1 T1 m1) : ∀ {ds : List D} {vs : List V}, Rps K H T m ds vs → Rps K H1 T1 m1 ds vs
  | _, _, .nil => .nil
  | _, _, .cons a b => .cons (Rp.mono l a) (Rps.mono l b)
end
theorem DicR.mono {l : List (D × D)} {es : List (NestedKey × V × V)} (t : Lt H T m H1 T1 m1) (r : DicR K H T m l es) : DicR K H1 T1 m1 l es := ⟨r.nk, r.ky, r.ks.mono t, r.vs.mono t⟩
theorem Rps.length : ∀ {ds : List D} {vs : List V}, Rps K H T m ds vs → ds.length = vs.length
  | _, _, .nil => rfl
  | _, _, .cons _ b => by rw [List.length_cons, List.length_cons, Rps.length b]
theorem Rps.get : ∀ {ds : List D} {vs : List V} {i : Nat} {d : D}, Rps K H T m ds vs → ds[i]? = some d → ∃ v, vs[i]? = some v ∧ Rp K H T m d v
  | _, _, i, d, .nil, h => by simp at h
  | _, _, 0, d, .cons a b, h => by
    simp at h
    subst h
    exact ⟨_, rfl, a⟩
  | _, _, i + 1, d, .cons a b, h => by
    obtain ⟨v, e, r⟩ := Rps.get (i := i) (d := d) b (by simpa using h)
    exact ⟨v, by simpa using e, r⟩
theorem Rps.getV : ∀ {ds : List D} {vs : List V} {i : Nat} {v : V}, Rps K H T m ds vs → vs[i]? = some v → ∃ d, ds[i]? = some d ∧ Rp K H T m d v
  | _, _, i, d, .nil, h => by simp at h
  | _, _, 0, d, .cons a b, h => by
    simp at h
    subst h
    exact ⟨_, rfl, a⟩
  | _, _, i + 1, v, .cons a b, h => by
    obtain ⟨d, e, r⟩ := Rps.getV (i := i) (v := v) b (by simpa using h)
    exact ⟨d, by simpa using e, r⟩
theorem Rps.app : ∀ {ds es : List D} {vs ws : List V}, Rps K H T m ds vs → Rps K H T m es ws → Rps K H T m (ds ++ es) (vs ++ ws)
  | _, _, _, _, .nil, q => q
  | _, _, _, _, .cons a b, q => .cons a (Rps.app b q)
theorem Rps.take : ∀ {ds : List D} {vs : List V} (n : Nat), Rps K H T m ds vs → Rps K H T m (ds.take n) (vs.take n)
  | _, _, 0, _ => .nil
  | _, _, _ + 1, .nil => .nil
  | _, _, n + 1, .cons a b => .cons a (Rps.take n b)
theorem Rps.drop : ∀ {ds : List D} {vs : List V} (n : Nat), Rps K H T m ds vs → Rps K H T m (ds.drop n) (vs.drop n)
  | _, _, 0, r => r
  | _, _, _ + 1, .nil => .nil
  | _, _, n + 1, .cons _ b => Rps.drop n b
theorem Rps.set {d : D} {v : V} (r : Rp K H T m d v) : ∀ {ds : List D} {vs : List V} (i : Nat), Rps K H T m ds vs → Rps K H T m (ds.set i d) (vs.set i v)
  | _, _, _, .nil => .nil
  | _, _, 0, .cons _ b => .cons r b
  | _, _, i + 1, .cons a b => .cons a (Rps.set r i b)
theorem Rps.erase : ∀ {ds : List D} {vs : List V} (i : Nat), Rps K H T m ds vs → Rps K H T m (ds.eraseIdx i) (vs.eraseIdx i)
  | _, _, _, .nil => .nil
  | _, _, 0, .cons _ b => b
  | _, _, i + 1, .cons a b => .cons a (Rps.erase i b)
theorem Rps.reverse {ds : List D} {vs : List V} (h : Rps K H T m ds vs) : Rps K H T m ds.reverse vs.reverse := by
  induction ds generalizing vs with
  | nil => cases h; exact .nil
  | cons d ds ih =>
    cases h with
    | cons a b =>
      rw [List.reverse_cons, List.reverse_cons]
      exact (ih b).app (.cons a .nil)
theorem Rps.rep {ds : List D} {vs : List V} (h : Rps K H T m ds vs) : ∀ k : Nat, Rps K H T m (List.replicate k ds).flatten (List.replicate k vs).flatten
  | 0 => .nil
  | k + 1 => by
    rw [List.replicate_succ, List.replicate_succ, List.flatten_cons, List.flatten_cons]
    exact h.app (Rps.rep h k)

mutual
theorem Rp.less {T T1 : Addr → Prop} (h : ∀ a, T1 a → T a) : ∀ {d : D} {v : V}, Rp K H T m d v → Rp K H T1 m d v
  | _, _, .non => .non
  | _, _, .bl b => .bl b
  | _, _, .int i => .int i
  | _, _, .str s => .str s
  | _, _, .tup a n r => .tup a (fun z => n (h _ z)) (Rps.less h r)
  | _, _, .tupK a r => .tupK a (Rps.less h r)
  | _, _, .lst a n r => .lst a (fun z => n (h _ z)) (Rps.less h r)
  | _, _, .scr a r => .scr (a.imp (fun z => ⟨z.1, fun q => z.2 (h _ q)⟩) id) (Rps.less h r)
  | _, _, .ref a => .ref a
  | _, _, .dic a n q1 q2 r1 r2 => .dic a (fun z => n (h _ z)) q1 q2 (Rps.less h r1) (Rps.less h r2)
  | _, _, .opq a n => .opq a (fun z => n (h _ z))
theorem Rps.less {T T1 : Addr → Prop} (h : ∀ a, T1 a → T a) : ∀ {ds : List D} {vs : List V}, Rps K H T m ds vs → Rps K H T1 m ds vs
  | _, _, .nil => .nil
  | _, _, .cons a b => .cons (Rp.less h a) (Rps.less h b)
end
theorem DicR.less {T T1 : Addr → Prop} {l : List (D × D)} {es : List (NestedKey × V × V)} (h : ∀ a, T1 a → T a) (r : DicR K H T m l es) : DicR K H T1 m l es := ⟨r.nk, r.ky, r.ks.less h, r.vs.less h⟩
theorem Tk.less {F F' : Addr → Prop} (h : ∀ a, F' a → F a) : ∀ a, Tk F' m S a → Tk F m S a := fun a t => t.imp (h a) id
theorem Sto.less {F' : Addr → Prop} (s : Sto K H F m S) (h : ∀ a, F' a → F a) : Sto K H F' m S :=
  ⟨s.len, s.nd, fun n a l h1 h2 => by
    obtain ⟨xs, h3, r⟩ := s.lst n a l h1 h2
    exact ⟨xs, h3, r.less (Tk.less h)⟩, fun n a l h1 h2 => by
    obtain ⟨xs, h3, r⟩ := s.dic n a l h1 h2
    exact ⟨xs, h3, r.less (Tk.less h)⟩, s.mem, s.plain, fun a f => s.oth a (h a f), fun a f => s.off a (h a f)⟩
theorem EnvR.less {T T1 : Addr → Prop} (e : EnvR K H T m ρ σ) (h : ∀ a, T1 a → T a) : EnvR K H T1 m ρ σ :=
  ⟨e.len, fun i d h1 n => by
    obtain ⟨v, h2, r⟩ := e.at_ i d h1 n
    exact ⟨v, h2, r.less h⟩⟩
/-- what others hold is written -/
theorem put_lt {D : Addr} {o : HO} (f : F D) : Lt H (Tk F m S) m (upd H D o) (Tk F m S) m :=
  ⟨⟨[], by simp⟩, fun a u h n => by rw [upd_ne (fun z => n (.inl (by rw [z]; exact f)))]; exact h, fun a t => .inl t⟩
theorem Sto.put {D : Addr} {o : HO} (s : Sto K H F m S) (f : F D) : Sto K (upd H D o) F m S where
  len := s.len
  nd := s.nd
  lst := fun n a l h1 h2 => by
    obtain ⟨xs, h3, r⟩ := s.lst n a l h1 h2
    exact ⟨xs, by rw [upd_ne (fun z => s.apart D f ⟨n, _, by rw [← z]; exact h1, h2, fun z => by cases z⟩)]; exact h3, r.mono (put_lt f)⟩
  dic := fun n a l h1 h2 => by
    obtain ⟨xs, h3, r⟩ := s.dic n a l h1 h2
    exact ⟨xs, by rw [upd_ne (fun z => s.apart D f ⟨n, _, by rw [← z]; exact h1, h2, fun z => by cases z⟩)]; exact h3, r.mono (put_lt f)⟩
  mem := fun a ha => by
    by_cases z : a = D
    · subst z
      exact ⟨_, upd_same⟩
    · rw [upd_ne z]
      exact s.mem a ha
  plain := s.plain
  oth := fun a h => by
    by_cases z : a = D
    · subst z
      exact ⟨_, upd_same⟩
    · rw [upd_ne z]
      exact s.oth a h
  off := s.off

/-- a new object -/
theorem Ex.laid {p : Addr} {o : HO} (hp : H p = none) : Ex H m S (upd H p o) m S :=
  ⟨⟨[], by simp⟩, fun a u h _ => by rw [upd_ne (ne_of_none h hp)]; exact h, fun _ h => .inl h⟩
theorem Sto.next (s : Sto K H F m S) (e : Ex H m S H1 m S) (keep : ∀ a, Trk m S a → H1 a = H a) : Sto K H1 F m S where
  len := s.len
  nd := s.nd
  lst := fun n a l h1 h2 => by
    obtain ⟨xs, h3, r⟩ := s.lst n a l h1 h2
    exact ⟨xs, by rw [keep a ⟨n, _, h1, h2, fun z => by cases z⟩]; exact h3, r.mono e.lt⟩
  dic := fun n a l h1 h2 => by
    obtain ⟨xs, h3, r⟩ := s.dic n a l h1 h2
    exact ⟨xs, by rw [keep a ⟨n, _, h1, h2, fun z => by cases z⟩]; exact h3, r.mono e.lt⟩
  mem := fun a ha => by
    obtain ⟨o, h⟩ := s.mem a ha
    by_cases t : Trk m S a
    · exact ⟨o, by rw [keep a t]; exact h⟩
    · exact ⟨o, e.old a o h t⟩
  plain := s.plain
  oth := fun a f => by
    obtain ⟨o, h⟩ := s.oth a f
    exact ⟨o, e.old a o h (s.apart a f)⟩
  off := s.off
theorem Sto.laid {p : Addr} {o : HO} (s : Sto K H F m S) (hp : H p = none) : Sto K (upd H p o) F m S :=
  s.next (Ex.laid hp) fun a t => upd_ne fun z => by
    obtain ⟨u, e⟩ := s.has (.inr t)
    rw [z, hp] at e
    cases e
theorem EnvR.mono (l : Lt H T m H1 T1 m1) (e : EnvR K H T m ρ σ) : EnvR K H1 T1 m1 ρ σ :=
  ⟨e.len, fun i d h n => by
    obtain ⟨v, h1, r⟩ := e.at_ i d h n
    exact ⟨v, h1, r.mono l⟩⟩
theorem EnvR.set (e : EnvR K H T m ρ σ) (r : Rp K H T m d v) (i : Nat) : EnvR K H T m (ρ.set i d) (σ.set i (some v)) :=
  ⟨by rw [List.length_set, List.length_set]; exact e.len, fun j d' h n => by
    by_cases hj : i = j
    · subst hj
      have hi : i < ρ.length := by
        have := (List.getElem?_eq_some_iff.mp h).1
        rwa [List.length_set] at this
      rw [List.getElem?_set_self hi] at h
      cases h
      exact ⟨v, by rw [List.getElem?_set_self (by rw [← e.len]; exact hi)], r⟩
    · rw [List.getElem?_set_ne hj] at h
      obtain ⟨v', h1, r'⟩ := e.at_ j d' h n
      exact ⟨v', by rw [List.getElem?_set_ne hj]; exact h1, r'⟩⟩
theorem EnvR.wipe (e : EnvR K H T m ρ σ) : ∀ is : List Nat, EnvR K H T m (NG.wipe ρ is) (L2.wipe σ is)
  | [] => e
  | i :: is => by
    have e1 := EnvR.wipe e is
    refine ⟨?_, fun j d' h n => ?_⟩
    · show ((NG.wipe ρ is).set i .undef).length = ((L2.wipe σ is).set i none).length
      rw [List.length_set, List.length_set]
      exact e1.len
    · have h' : ((NG.wipe ρ is).set i .undef)[j]? = some d' := h
      by_cases hj : i = j
      · subst hj
        have hi : i < (NG.wipe ρ is).length := by
          have := (List.getElem?_eq_some_iff.mp h').1
          rwa [List.length_set] at this
        rw [List.getElem?_set_self hi] at h'
        cases h'
        exact absurd rfl n
      · rw [List.getElem?_set_ne hj] at h'
        obtain ⟨v', h1, r'⟩ := e1.at_ j d' h' n
        refine ⟨v', ?_, r'⟩
        show ((L2.wipe σ is).set i none)[j]? = _
        rw [List.getElem?_set_ne hj]
        exact h1
/-- what a cell is at its address -/
def CellR (K : PySem.W.Frag) (H : Hp) (T : Addr → Prop) (m : List Addr) (a : Addr) : Cell → HO → Prop
  | .lst l, o => ∃ xs, o = .lst xs ∧ Rps K H T m l xs
  | .dic true l, o => ∃ es, o = DicO HasW.w a es ∧ DicR K H T m l es
  | _, _ => False
theorem CellR.live {a : Addr} {c : Cell} {o : HO} (r : CellR K H T m a c o) : c ≠ .dead := fun z => by subst z; exact r
theorem CellR.mut {a : Addr} {c : Cell} {o : HO} (r : CellR K H T m a c o) : Mut (some o) := by
  cases c with
  | lst l => obtain ⟨xs, rfl, _⟩ := r; exact True.intro
  | dic t l => cases t <;> first | exact r.elim | (obtain ⟨xs, rfl, _⟩ := r; exact True.intro)
  | ins c fs => exact r.elim
  | dead => exact r.elim
theorem CellR.mono {a : Addr} {c : Cell} {o : HO} (t : Lt H T m H1 T1 m1) (r : CellR K H T m a c o) : CellR K H1 T1 m1 a c o := by
  cases c with
  | lst l => obtain ⟨xs, e, q⟩ := r; exact ⟨xs, e, q.mono t⟩
  | dic b l => cases b <;> first | exact r.elim | (obtain ⟨xs, e, q⟩ := r; exact ⟨xs, e, q.mono t⟩)
  | ins c fs => exact r.elim
  | dead => exact r.elim
theorem CellR.plain {a : Addr} {c : Cell} {o : HO} (r : CellR K H T m a c o) : (∃ l, c = .lst l) ∨ c = .dead ∨ ∃ l, c = .dic true l := by
  cases c with
  | lst l => exact .inl ⟨l, rfl⟩
  | dic b l => cases b <;> first | exact r.elim | exact .inr (.inr ⟨l, rfl⟩)
  | ins c fs => exact r.elim
  | dead => exact r.elim
theorem Sto.cell {n : Nat} {a : Addr} {c : Cell} (s : Sto K H F m S) (h1 : m[n]? = some a) (h2 : S[n]? = some c) (h3 : c ≠ .dead) : ∃ o, H a = some o ∧ CellR K H (Tk F m S) m a c o := by
  rcases s.plain n c h2 with ⟨l, rfl⟩ | rfl | ⟨l, rfl⟩
  · obtain ⟨xs, e, r⟩ := s.lst n a l h1 h2
    exact ⟨_, e, xs, rfl, r⟩
  · exact absurd rfl h3
  · obtain ⟨xs, e, r⟩ := s.dic n a l h1 h2
    exact ⟨_, e, xs, rfl, r⟩
theorem Sto.of_cells {K : PySem.W.Frag} {H : Hp} {F : Addr → Prop} {m : List Addr} {S : Store} (len : m.length = S.length) (nd : m.Nodup) (cell : ∀ (n : Nat) (a : Addr) (c : Cell), m[n]? = some a → S[n]? = some c → c ≠ .dead → ∃ o, H a = some o ∧ CellR K H (Tk F m S) m a c o)
    (mem : ∀ a, a ∈ m → ∃ o, H a = some o) (oth : ∀ a, F a → ∃ o, H a = some o) (off : ∀ a, F a → a ∉ m) : Sto K H F m S where
  len := len
  nd := nd
  lst := fun n a l h1 h2 => by
    obtain ⟨o, e, xs, rfl, r⟩ := cell n a _ h1 h2 (fun z => by cases z)
    exact ⟨xs, e, r⟩
  dic := fun n a l h1 h2 => by
    obtain ⟨o, e, xs, rfl, r⟩ := cell n a _ h1 h2 (fun z => by cases z)
    exact ⟨xs, e, r⟩
  mem := mem
  plain := fun n c h2 => by
    by_cases hd : c = .dead
    · exact .inr (.inl hd)
    · have hl : n < m.length := by rw [len]; exact (List.getElem?_eq_some_iff.mp h2).1
      obtain ⟨o, _, r⟩ := cell n m[n] c (List.getElem?_eq_getElem hl) h2 hd
      exact r.plain
  oth := oth
  off := off
/-- a tracked cell is written -/
theorem st_writeC {n : Nat} {a : Addr} {c c' : Cell} {o' : HO} (s : Sto K H F m S) (h1 : m[n]? = some a) (h2 : S[n]? = some c) (h3 : c ≠ .dead) (r : CellR K H (Tk F m S) m a c' o') :
    Ex H m S (upd H a o') m (S.set n c') ∧ Sto K (upd H a o') F m (S.set n c') := by
  have tr : ∀ b, Trk m (S.set n c') b → Trk m S b := fun b ⟨k, c2, q1, q2, q3⟩ => by
    by_cases hk : n = k
    · subst hk
      exact ⟨n, _, q1, h2, h3⟩
    · rw [List.getElem?_set_ne hk] at q2
      exact ⟨k, c2, q1, q2, q3⟩
  have ta : Trk m S a := ⟨n, _, h1, h2, h3⟩
  have e : Ex H m S (upd H a o') m (S.set n c') :=
    ⟨⟨[], by simp⟩, fun b o h q => by rw [upd_ne (fun z => q (by rw [z]; exact ta))]; exact h, fun b t => .inl (tr b t)⟩
  have inj : ∀ k b, m[k]? = some b → b = a → k = n := fun k b q z => by
    subst z
    obtain ⟨x1, y1⟩ := List.getElem?_eq_some_iff.mp q
    obtain ⟨x2, y2⟩ := List.getElem?_eq_some_iff.mp h1
    exact (List.getElem_inj s.nd).mp (y1.trans y2.symm)
  have hl : n < S.length := (List.getElem?_eq_some_iff.mp h2).1
  refine ⟨e, Sto.of_cells (by rw [List.length_set]; exact s.len) s.nd (fun k b l1 q1 q2 q3 => ?_) (fun b hb => ?_) (fun b f => ?_) s.off⟩
  · by_cases hk : n = k
    · subst hk
      rw [h1] at q1
      cases q1
      rw [List.getElem?_set_self hl] at q2
      cases q2
      exact ⟨o', upd_same, r.mono e.lt⟩
    · rw [List.getElem?_set_ne hk] at q2
      obtain ⟨o, q4, r4⟩ := s.cell q1 q2 q3
      exact ⟨o, by rw [upd_ne (fun z => hk (inj k b q1 z).symm)]; exact q4, r4.mono e.lt⟩
  · by_cases hb : b = a
    · subst hb
      exact ⟨_, upd_same⟩
    · rw [upd_ne hb]
      exact s.mem b (by assumption)
  · obtain ⟨o, q⟩ := s.oth b f
    exact ⟨o, e.old b o q (s.apart b f)⟩
theorem st_write {n : Nat} {a : Addr} {l l' : List D} {xs' : List V} (s : Sto K H F m S) (h1 : m[n]? = some a) (h2 : S[n]? = some (.lst l)) (r : Rps K H (Tk F m S) m l' xs') :
    Ex H m S (upd H a (.lst xs')) m (S.set n (.lst l')) ∧ Sto K (upd H a (.lst xs')) F m (S.set n (.lst l')) :=
  st_writeC s h1 h2 (fun z => by cases z) ⟨xs', rfl, r⟩
/-- a cell is let go; what stands there may be locked -/
theorem st_free {n : Nat} {a : Addr} {c : Cell} {o' : HO} (s : Sto K H F m S) (h1 : m[n]? = some a) (h2 : S[n]? = some c) (h3 : c ≠ .dead) :
    Ex H m S (upd H a o') m (S.set n .dead) ∧ Sto K (upd H a o') F m (S.set n .dead) ∧ Lt H (Tk F m S) m (upd H a o') (Tk F m (S.set n .dead)) m ∧ ¬ Tk F m (S.set n .dead) a := by
  have hl : n < S.length := (List.getElem?_eq_some_iff.mp h2).1
  have tr : ∀ b, Trk m (S.set n .dead) b → Trk m S b ∧ b ≠ a := fun b ⟨k, c, q1, q2, q3⟩ => by
    by_cases hk : n = k
    · subst hk
      rw [List.getElem?_set_self hl] at q2
      cases q2
      exact absurd rfl q3
    · rw [List.getElem?_set_ne hk] at q2
      refine ⟨⟨k, c, q1, q2, q3⟩, fun z => hk ?_⟩
      subst z
      obtain ⟨x1, y1⟩ := List.getElem?_eq_some_iff.mp q1
      obtain ⟨x2, y2⟩ := List.getElem?_eq_some_iff.mp h1
      exact (List.getElem_inj s.nd).mp (y2.trans y1.symm)
  have ta : Trk m S a := ⟨n, _, h1, h2, h3⟩
  have e : Ex H m S (upd H a o') m (S.set n .dead) := ⟨⟨[], by simp⟩, fun b o h q => by rw [upd_ne (fun z => q (by rw [z]; exact ta))]; exact h, fun b t => .inl (tr b t).1⟩
  refine ⟨e, Sto.of_cells (by rw [List.length_set]; exact s.len) s.nd (fun k b l1 q1 q2 q3 => ?_) (fun b hb => ?_) (fun b f => ?_) s.off, e.lt, fun t => ?_⟩
  · by_cases hk : n = k
    · subst hk
      rw [List.getElem?_set_self hl] at q2
      cases q2
      exact absurd rfl q3
    · rw [List.getElem?_set_ne hk] at q2
      obtain ⟨o, q4, r4⟩ := s.cell q1 q2 q3
      have hb : b ≠ a := fun z => hk (by
        subst z
        obtain ⟨x1, y1⟩ := List.getElem?_eq_some_iff.mp q1
        obtain ⟨x2, y2⟩ := List.getElem?_eq_some_iff.mp h1
        exact (List.getElem_inj s.nd).mp (y2.trans y1.symm))
      exact ⟨o, by rw [upd_ne hb]; exact q4, r4.mono e.lt⟩
  · by_cases hb : b = a
    · subst hb
      exact ⟨_, upd_same⟩
    · rw [upd_ne hb]
      exact s.mem b (by assumption)
  · obtain ⟨o, q⟩ := s.oth b f
    exact ⟨o, e.old b o q (s.apart b f)⟩
  · rcases t with t | t
    · exact s.apart a t ta
    · exact (tr a t).2 rfl
theorem upd_self {H : Hp} {a : Addr} {o : HO} (h : H a = some o) : upd H a o = H := by
  funext b
  by_cases hb : b = a
  · subst hb; rw [upd_same, h]
  · rw [upd_ne hb]
/-- a cell is let go: its list is frozen from now on -/
theorem st_freeze {n : Nat} {a : Addr} {l : List D} (s : Sto K H F m S) (h1 : m[n]? = some a) (h2 : S[n]? = some (.lst l)) :
    Ex H m S H m (S.set n .dead) ∧ Sto K H F m (S.set n .dead) ∧ Rp K H (Tk F m (S.set n .dead)) m (.lst l) (.ref a) := by
  obtain ⟨xs, q4, r4⟩ := s.lst n a l h1 h2
  obtain ⟨e, st, lt, nt⟩ := st_free (o' := .lst xs) s h1 h2 (fun z => by cases z)
  rw [upd_self q4] at e st lt
  exact ⟨e, st, .lst (.inl q4) nt (r4.mono lt)⟩
/-- the same for a dict, which is locked -/
theorem st_freezeD {n : Nat} {a : Addr} {l : List (D × D)} (s : Sto K H F m S) (h1 : m[n]? = some a) (h2 : S[n]? = some (.dic true l)) :
    ∃ u, H a = some u ∧ Mut (some u) ∧ ∀ od, Ex H m S (upd H a (.frz od u)) m (S.set n .dead) ∧ Sto K (upd H a (.frz od u)) F m (S.set n .dead) ∧ Rp K (upd H a (.frz od u)) (Tk F m (S.set n .dead)) m (.dic true l) (.ref a) := by
  obtain ⟨es, q4, r4⟩ := s.dic n a l h1 h2
  refine ⟨_, q4, True.intro, fun od => ?_⟩
  obtain ⟨e, st, lt, nt⟩ := st_free (o' := .frz od (DicO HasW.w a es)) s h1 h2 (fun z => by cases z)
  exact ⟨e, st, .dic upd_same nt r4.nk r4.ky (r4.ks.mono lt) (r4.vs.mono lt)⟩
/-- what nobody else has becomes a cell -/
theorem st_allocC {p : Addr} {c : Cell} {o : HO} (s : Sto K H F m S) (hp : H p = none) (r : CellR K H (Tk F m S) m p c o) :
    Ex H m S (upd H p o) (m ++ [p]) (S ++ [c]) ∧ Sto K (upd H p o) F (m ++ [p]) (S ++ [c]) ∧ (m ++ [p])[S.length]? = some p := by
  have hlen := s.len
  have tr : ∀ b, Trk (m ++ [p]) (S ++ [c]) b → Trk m S b ∨ b = p := fun b ⟨k, c, q1, q2, q3⟩ => by
    by_cases hk : k < m.length
    · rw [List.getElem?_append_left hk] at q1
      rw [List.getElem?_append_left (by omega)] at q2
      exact .inl ⟨k, c, q1, q2, q3⟩
    · rw [List.getElem?_append_right (by omega)] at q1
      obtain ⟨x1, y1⟩ := List.getElem?_eq_some_iff.mp q1
      refine .inr ?_
      have : k - m.length = 0 := by simpa using x1
      simp [this] at y1
      exact y1.symm
  have np : p ∉ m := fun hm => by
    obtain ⟨o, h⟩ := s.mem p hm
    rw [hp] at h
    cases h
  have e : Ex H m S (upd H p o) (m ++ [p]) (S ++ [c]) :=
    ⟨⟨[p], rfl⟩, fun b o h _ => by rw [upd_ne (ne_of_none h hp)]; exact h, fun b t => (tr b t).imp id fun z => by rw [z]; exact hp⟩
  refine ⟨e, Sto.of_cells (by rw [List.length_append, List.length_append, s.len]; rfl) ?_ (fun k b l1 q1 q2 q3 => ?_) (fun b hb => ?_) (fun b f => ?_) (fun b f hb => ?_), ?_⟩
  · rw [List.nodup_append]
    refine ⟨s.nd, by simp, fun x hx y hy => ?_⟩
    rw [List.mem_singleton.mp hy]
    exact fun z => np (z ▸ hx)
  · by_cases hk : k < m.length
    · rw [List.getElem?_append_left hk] at q1
      rw [List.getElem?_append_left (by omega)] at q2
      obtain ⟨ys, q4, r4⟩ := s.cell q1 q2 q3
      exact ⟨ys, by rw [upd_ne (ne_of_none q4 hp)]; exact q4, r4.mono e.lt⟩
    · rw [List.getElem?_append_right (by omega)] at q1 q2
      obtain ⟨x1, y1⟩ := List.getElem?_eq_some_iff.mp q1
      have hz : k - m.length = 0 := by simpa using x1
      rw [hz] at q1
      rw [show k - S.length = 0 by omega] at q2
      simp at q1 q2
      subst q1 q2
      exact ⟨o, upd_same, r.mono e.lt⟩
  · rcases List.mem_append.mp hb with hb | hb
    · obtain ⟨o, h⟩ := s.mem b hb
      exact ⟨o, by rw [upd_ne (ne_of_none h hp)]; exact h⟩
    · rw [List.mem_singleton.mp hb]
      exact ⟨_, upd_same⟩
  · obtain ⟨o, h⟩ := s.oth b f
    exact ⟨o, by rw [upd_ne (ne_of_none h hp)]; exact h⟩
  · rcases List.mem_append.mp hb with z | z
    · exact s.off b f z
    · obtain ⟨o, h⟩ := s.oth b f
      rw [List.mem_singleton.mp z, hp] at h
      cases h
  · rw [List.getElem?_append_right (by omega), s.len]
    simp
/-- a list that nobody else has becomes a cell -/
theorem st_alloc {p : Addr} {l : List D} {xs : List V} (s : Sto K H F m S) (hp : H p = none) (r : Rps K H (Tk F m S) m l xs) :
    Ex H m S (upd H p (.lst xs)) (m ++ [p]) (S ++ [.lst l]) ∧ Sto K (upd H p (.lst xs)) F (m ++ [p]) (S ++ [.lst l]) ∧ (m ++ [p])[S.length]? = some p :=
  st_allocC s hp ⟨xs, rfl, r⟩
end

/-! ## readings at the evaluator's words -/
section
variable (Φ : Phi)
def tE (K : PySem.W.Frag) (c : CE) : TE := fun σ H Q => ∃ F m S ρ d S1, Sto K H F m S ∧ EnvR K H (Tk F m S) m ρ σ ∧ evE Φ c ρ S = .ok d S1 ∧
  ∀ v H1 m1, Ex H m S H1 m1 S1 → Sto K H1 F m1 S1 → Rp K H1 (Tk F m1 S1) m1 d v → Q v H1
def tA (K : PySem.W.Frag) (cs : List CE) : TA := fun σ H Q => ∃ F m S ρ ds S1, Sto K H F m S ∧ EnvR K H (Tk F m S) m ρ σ ∧ evEs Φ cs ρ S = .ok ds S1 ∧
  ∀ vs H1 m1, Ex H m S H1 m1 S1 → Sto K H1 F m1 S1 → Rps K H1 (Tk F m1 S1) m1 ds vs → Q vs H1
end

/-- the reading may be chosen where the state is known -/
theorem PE.pick {X : Cx} {e : Expr} {t : TE} (h : ∀ σ H Q, t σ H Q → ∃ t', PE X e t' ∧ t' σ H Q) : PE X e t :=
  ⟨fun pins s σ H Q I q => by
    obtain ⟨t', p, q'⟩ := h σ H Q q
    exact p.run pins s σ H Q I q'⟩
theorem PT.pick {X : Cx} {e : Expr} {t : TT} (h : ∀ σ H Q, t σ H Q → ∃ t', PT X e t' ∧ t' σ H Q) : PT X e t :=
  ⟨fun pins s σ H Q I q => by
    obtain ⟨t', p, q'⟩ := h σ H Q q
    exact p.run pins s σ H Q I q'⟩

theorem R.bind_ok {α β : Type} {r : R α} {f : α → Store → R β} {b : β} {S : Store} (h : r.bind f = .ok b S) : ∃ a S1, r = .ok a S1 ∧ f a S1 = .ok b S := by
  cases r with
  | ok a S1 => exact ⟨a, S1, rfl, h⟩
  | exc c v S1 => cases h
  | bad => cases h
theorem lift_ok {α : Type} {o : Option α} {S S1 : Store} {a : α} (h : lift o S = .ok a S1) : o = some a ∧ S1 = S := by
  cases o with
  | none => cases h
  | some b =>
    have h' : R.ok b S = R.ok a S1 := h
    cases h'
    exact ⟨rfl, rfl⟩

section
variable {Φ : Phi} {X : Cx} {K : PySem.W.Frag} {F : Addr → Prop} {H : Hp} {m : List Addr} {S S1 S2 S3 : Store} {ρ : Env} {σ : L2.St}
/-- one after another -/
theorem tE_one {a : CE} {x : D} {Q : VK} (s : Sto K H F m S) (e : EnvR K H (Tk F m S) m ρ σ) (ha : evE Φ a ρ S = .ok x S1)
    (k : ∀ v H1 m1, Ex H m S H1 m1 S1 → Sto K H1 F m1 S1 → EnvR K H1 (Tk F m1 S1) m1 ρ σ → Rp K H1 (Tk F m1 S1) m1 x v → Q v H1) : tE Φ K a σ H Q :=
  ⟨F, m, S, ρ, x, S1, s, e, ha, fun v H1 m1 ex s1 r => k v H1 m1 ex s1 (e.mono ex.lt) r⟩
theorem tE_two {a b : CE} {x y : D} {R : V → V → Hp → Prop} (s : Sto K H F m S) (e : EnvR K H (Tk F m S) m ρ σ) (ha : evE Φ a ρ S = .ok x S1) (hb : evE Φ b ρ S1 = .ok y S2)
    (k : ∀ v w H2 m2, Ex H m S H2 m2 S2 → Sto K H2 F m2 S2 → EnvR K H2 (Tk F m2 S2) m2 ρ σ → Rp K H2 (Tk F m2 S2) m2 x v → Rp K H2 (Tk F m2 S2) m2 y w → R v w H2) :
    tE Φ K a σ H fun v H1 => tE Φ K b σ H1 fun w H2 => R v w H2 :=
  tE_one s e ha fun v H1 m1 ex1 s1 e1 r1 => tE_one s1 e1 hb fun w H2 m2 ex2 s2 e2 r2 => k v w H2 m2 (ex1.trans ex2) s2 e2 (r1.mono ex2.lt) r2
theorem tA_one {a : List CE} {xs : List D} {Q : List V → Hp → Prop} (s : Sto K H F m S) (e : EnvR K H (Tk F m S) m ρ σ) (ha : evEs Φ a ρ S = .ok xs S1)
    (k : ∀ v H1 m1, Ex H m S H1 m1 S1 → Sto K H1 F m1 S1 → EnvR K H1 (Tk F m1 S1) m1 ρ σ → Rps K H1 (Tk F m1 S1) m1 xs v → Q v H1) : tA Φ K a σ H Q :=
  ⟨F, m, S, ρ, xs, S1, s, e, ha, fun v H1 m1 ex s1 r => k v H1 m1 ex s1 (e.mono ex.lt) r⟩

/-! ### what a view is -/
variable {d : D} {v : V}
theorem vw_cases (s : Sto K H F m S) (r : Rp K H (Tk F m S) m d v) : (vw S d = d ∧ ∀ n, d ≠ .ref n) ∨ ∃ n a, d = .ref n ∧ v = .ref a ∧ m[n]? = some a := by
  cases r <;> first | exact .inl ⟨rfl, fun _ z => by cases z⟩ | exact .inr ⟨_, _, rfl, rfl, by assumption⟩
theorem vw_lst {l : List D} (s : Sto K H F m S) (r : Rp K H (Tk F m S) m d v) (h : vw S d = .lst l) : ∃ a xs, v = .ref a ∧ Rd H a (.lst xs) ∧ Rps K H (Tk F m S) m l xs := by
  rcases vw_cases s r with ⟨e, n⟩ | ⟨n, a, rfl, rfl, hm⟩
  · rw [e] at h
    subst h
    cases r with
    | lst h1 h2 h3 => exact ⟨_, _, rfl, h1, h3⟩
  · simp only [vw] at h
    cases q : S[n]? with
    | none => rw [q] at h; cases h
    | some c =>
      rw [q] at h
      cases c with
      | lst l' =>
        have h' : D.lst l' = .lst l := h
        cases h'
        obtain ⟨xs, h1, h2⟩ := s.lst n a l hm q
        exact ⟨a, xs, rfl, .inl h1, h2⟩
      | _ => cases h
theorem vw_ne_ref {l : D} (h : vw S d = l) (n : l ≠ .undef ∧ (∀ x, l ≠ .lst x) ∧ ∀ t x, l ≠ .dic t x) : d = l := by
  cases d with
  | ref k =>
    exfalso
    simp only [vw] at h
    cases q : S[k]? with
    | none =>
      rw [q] at h
      exact n.1 h.symm
    | some c =>
      rw [q] at h
      cases c with
      | lst l' => exact n.2.1 l' h.symm
      | dic t l' => exact n.2.2 t l' h.symm
      | _ => exact n.1 h.symm
  | _ => exact h
def TupAt (K : PySem.W.Frag) (H : Hp) (T : Addr → Prop) (a : Addr) (xs : List V) : Prop := (Rd H a (.tup xs) ∧ ¬ T a) ∨ WrT K a xs
theorem TupAt.sq {T : Addr → Prop} {a : Addr} {xs : List V} (t : TupAt K H T a xs) : SqT K H a xs := by
  rcases t with ⟨t, _⟩ | ⟨o, its, n, a1, a2, a3, a4, a5⟩
  · exact .inl t
  · exact .inr ⟨o, its, n, a1, a2, a3, a4, a5⟩
theorem TupAt.rp {T : Addr → Prop} {a : Addr} {xs : List V} {ds : List D} (t : TupAt K H T a xs) (r : Rps K H T m ds xs) : Rp K H T m (.tup ds) (.ref a) := by
  rcases t with ⟨t, n⟩ | t
  · exact .tup t n r
  · exact .tupK t r
theorem vw_tup {l : List D} (r : Rp K H (Tk F m S) m d v) (h : vw S d = .tup l) : ∃ a xs, v = .ref a ∧ TupAt K H (Tk F m S) a xs ∧ Rps K H (Tk F m S) m l xs := by
  have e := vw_ne_ref h ⟨(fun z => by cases z), (fun _ z => by cases z), fun _ _ z => by cases z⟩
  subst e
  cases r with
  | tup h1 h2 h3 => exact ⟨_, _, rfl, .inl ⟨h1, h2⟩, h3⟩
  | tupK h1 h3 => exact ⟨_, _, rfl, .inr h1, h3⟩
theorem vw_scr {l : List D} (r : Rp K H (Tk F m S) m d v) (h : vw S d = .scr l) : ∃ a xs, v = .ref a ∧ SqL K H a xs ∧ Rps K H (Tk F m S) m l xs := by
  have e := vw_ne_ref h ⟨(fun z => by cases z), (fun _ z => by cases z), fun _ _ z => by cases z⟩
  subst e
  cases r with
  | scr h1 h3 =>
    refine ⟨_, _, rfl, ?_, h3⟩
    rcases h1 with h1 | ⟨o, its, n, a1, a2, a3, a4, a5, a6⟩
    · exact .inl h1.1
    · exact .inr ⟨o, its, n, a1, a2, a3, a4, a5, a6⟩
theorem vw_int {i : Int} (r : Rp K H (Tk F m S) m d v) (h : vw S d = .int i) : v = .int i := by
  have e := vw_ne_ref h ⟨(fun z => by cases z), (fun _ z => by cases z), fun _ _ z => by cases z⟩
  subst e
  cases r
  rfl
theorem vw_str {x : List Nat} (r : Rp K H (Tk F m S) m d v) (h : vw S d = .str x) : v = .str (toStr x) := by
  have e := vw_ne_ref h ⟨(fun z => by cases z), (fun _ z => by cases z), fun _ _ z => by cases z⟩
  subst e
  cases r
  rfl
theorem vw_bl {b : Bool} (r : Rp K H (Tk F m S) m d v) (h : vw S d = .bl b) : v = .bl b := by
  have e := vw_ne_ref h ⟨(fun z => by cases z), (fun _ z => by cases z), fun _ _ z => by cases z⟩
  subst e
  cases r
  rfl
theorem vw_non (r : Rp K H (Tk F m S) m d v) (h : vw S d = .non) : v = .non := by
  have e := vw_ne_ref h ⟨(fun z => by cases z), (fun _ z => by cases z), fun _ _ z => by cases z⟩
  subst e
  cases r
  rfl

/-! ### how a reading ends -/
/-- what is wanted at the end -/
def Fin (K : PySem.W.Frag) (H : Hp) (F : Addr → Prop) (m : List Addr) (S S1 : Store) (d : D) (Q : VK) : Prop :=
  ∀ v H1 m1, Ex H m S H1 m1 S1 → Sto K H1 F m1 S1 → Rp K H1 (Tk F m1 S1) m1 d v → Q v H1
theorem Fin.here {Q : VK} {H2 : Hp} {m2 : List Addr} (q : Fin K H F m S S2 d Q) (ex : Ex H m S H2 m2 S2) (s : Sto K H2 F m2 S2) (r : Rp K H2 (Tk F m2 S2) m2 d v) : Q v H2 := q v H2 m2 ex s r
/-- a new tuple, a new list -/
theorem Fin.tup {Q : VK} {H2 : Hp} {m2 : List Addr} {ds : List D} {xs : List V} {p : Addr} (q : Fin K H F m S S2 (.tup ds) Q) (ex : Ex H m S H2 m2 S2) (s : Sto K H2 F m2 S2) (r : Rps K H2 (Tk F m2 S2) m2 ds xs) (hp : H2 p = none) : Q (.ref p) (upd H2 p (.tup xs)) :=
  q _ _ m2 (ex.trans (Ex.laid hp)) (s.laid hp) (.tup (.inl upd_same) (s.free hp) (r.mono (Ex.laid hp).lt))
theorem Fin.lst {Q : VK} {H2 : Hp} {m2 : List Addr} {ds : List D} {xs : List V} {p : Addr} (q : Fin K H F m S S2 (.lst ds) Q) (ex : Ex H m S H2 m2 S2) (s : Sto K H2 F m2 S2) (r : Rps K H2 (Tk F m2 S2) m2 ds xs) (hp : H2 p = none) : Q (.ref p) (upd H2 p (.lst xs)) :=
  q _ _ m2 (ex.trans (Ex.laid hp)) (s.laid hp) (.lst (.inl upd_same) (s.free hp) (r.mono (Ex.laid hp).lt))
/-- a new list, that nobody else has: it may be frozen, or become a cell -/
def FinF (K : PySem.W.Frag) (H : Hp) (F : Addr → Prop) (m : List Addr) (S S1 : Store) (l : List D) (Q : VK) : Prop :=
  ∀ xs H2 m2 p, H p = none → Ex H m S H2 m2 S1 → Sto K H2 (fun a => F a ∨ a = p) m2 S1 → H2 p = some (.lst xs) → Rps K H2 (Tk (fun a => F a ∨ a = p) m2 S1) m2 l xs → Q (.ref p) H2
theorem Sto.addF {H2 : Hp} {m2 : List Addr} {p : Addr} {o : HO} (s : Sto K H2 F m2 S2) (hp : H2 p = none) : Sto K (upd H2 p o) (fun a => F a ∨ a = p) m2 S2 := by
  have s2 := s.laid (o := o) hp
  have hF : ∀ a, (F a ∨ a = p) → F a ∨ H2 a = none := fun a z => z.imp id fun z => by rw [z]; exact hp
  refine Sto.of_cells s2.len s2.nd (fun n a l z1 z2 z4 => ?_) s2.mem (fun a z => ?_) (fun a z hm => ?_)
  · obtain ⟨xs, z3, r⟩ := s.cell z1 z2 z4
    have ha : a ≠ p := fun z => by rw [z, hp] at z3; cases z3
    exact ⟨xs, by rw [upd_ne ha]; exact z3, r.mono ((Ex.laid hp).ltF hF)⟩
  · rcases z with z | z
    · exact s2.oth a z
    · rw [z]
      exact ⟨_, upd_same⟩
  · rcases z with z | z
    · exact s2.off a z hm
    · obtain ⟨o, z'⟩ := s.mem a hm
      rw [z, hp] at z'
      cases z'
theorem Ex.none {H2 : Hp} {m2 : List Addr} {p : Addr} (ex : Ex H m S H2 m2 S2) (s : Sto K H2 F m2 S2) (hp : H2 p = none) : H p = none := by
  cases h : H p with
  | none => rfl
  | some o =>
    exfalso
    by_cases t : Trk m S p
    · obtain ⟨n, c, h1, _⟩ := t
      obtain ⟨r, e⟩ := ex.pre
      obtain ⟨o', z⟩ := s.mem p (by rw [e]; exact List.mem_append_left _ (List.mem_of_getElem? h1))
      rw [hp] at z
      cases z
    · have := ex.old p o h t
      rw [hp] at this
      cases this
theorem FinF.new {Q : VK} {H2 : Hp} {m2 : List Addr} {l : List D} {xs : List V} {p : Addr} (q : FinF K H F m S S2 l Q) (ex : Ex H m S H2 m2 S2) (s : Sto K H2 F m2 S2) (r : Rps K H2 (Tk F m2 S2) m2 l xs) (hp : H2 p = none) : Q (.ref p) (upd H2 p (.lst xs)) :=
  q xs _ m2 p (ex.none s hp) (ex.trans (Ex.laid hp)) (s.addF hp) upd_same (r.mono ((Ex.laid hp).ltF fun a z => z.imp id fun z => by rw [z]; exact hp))
theorem Fin.frz {Q : VK} {l : List D} (hs : ∀ a, F a → ∃ o, H a = some o) (q : Fin K H F m S S2 (.lst l) Q) : FinF K H F m S S2 l Q := fun xs H2 m2 p hp ex s h r =>
  q _ H2 m2 ex (s.less fun a z => .inl z) (.lst (.inl h) (fun z => by
    rcases z with z | z
    · obtain ⟨o, z⟩ := hs p z
      rw [hp] at z
      cases z
    · exact s.apart p (.inr rfl) z) (r.less (Tk.less fun a z => .inl z)))
/-- a new thing, that nobody else has -/
def FinC (K : PySem.W.Frag) (H : Hp) (F : Addr → Prop) (m : List Addr) (S S1 : Store) (c : Cell) (Q : VK) : Prop :=
  ∀ o H2 m2 p, H p = none → Ex H m S H2 m2 S1 → Sto K H2 (fun a => F a ∨ a = p) m2 S1 → H2 p = some o → CellR K H2 (Tk (fun a => F a ∨ a = p) m2 S1) m2 p c o → Q (.ref p) H2
theorem FinC.new {Q : VK} {H2 : Hp} {m2 : List Addr} {c : Cell} {o : HO} {p : Addr} (q : FinC K H F m S S2 c Q) (ex : Ex H m S H2 m2 S2) (s : Sto K H2 F m2 S2) (r : CellR K H2 (Tk F m2 S2) m2 p c o) (hp : H2 p = none) : Q (.ref p) (upd H2 p o) :=
  q o _ m2 p (ex.none s hp) (ex.trans (Ex.laid hp)) (s.addF hp) upd_same (r.mono ((Ex.laid hp).ltF fun a z => z.imp id fun z => by rw [z]; exact hp))
theorem Fin.allocC {Q : VK} {c : Cell} (hs : ∀ a, F a → ∃ o, H a = some o) (q : Fin K H F m S (S2 ++ [c]) (.ref S2.length) Q) : FinC K H F m S S2 c Q := fun o H2 m2 p hp ex s h r => by
  have hlen := s.len
  have tr : ∀ b, Trk (m2 ++ [p]) (S2 ++ [c]) b → Trk m2 S2 b ∨ b = p := fun b ⟨k, c, q1, q2, q3⟩ => by
    by_cases hk : k < m2.length
    · rw [List.getElem?_append_left hk] at q1
      rw [List.getElem?_append_left (by omega)] at q2
      exact .inl ⟨k, c, q1, q2, q3⟩
    · rw [List.getElem?_append_right (by omega)] at q1
      obtain ⟨x1, y1⟩ := List.getElem?_eq_some_iff.mp q1
      refine .inr ?_
      have : k - m2.length = 0 := by simpa using x1
      simp [this] at y1
      exact y1.symm
  have e : Ex H m S H2 (m2 ++ [p]) (S2 ++ [c]) := by
    obtain ⟨r', hr⟩ := ex.pre
    exact ⟨⟨r' ++ [p], by rw [hr, List.append_assoc]⟩, ex.old, fun a t => by
      rcases tr a t with z | z
      · exact ex.trk a z
      · rw [z]
        exact .inr hp⟩
  have lt : Lt H2 (Tk (fun a => F a ∨ a = p) m2 S2) m2 H2 (Tk F (m2 ++ [p]) (S2 ++ [c])) (m2 ++ [p]) :=
    ⟨⟨[p], rfl⟩, fun a o z _ => z, fun a t => by
      rcases t with t | t
      · exact .inl (.inl (.inl t))
      · rcases tr a t with z | z
        · exact .inl (.inr z)
        · exact .inl (.inl (.inr z))⟩
  have np : p ∉ m2 := s.off p (.inr rfl)
  refine q _ H2 (m2 ++ [p]) e (Sto.of_cells (by rw [List.length_append, List.length_append, hlen]; rfl) ?_ (fun k b l1 q1 q2 q3 => ?_) (fun b hb => ?_) (fun b f => s.oth b (.inl f)) fun b f hb => ?_) (.ref (by rw [List.getElem?_append_right (by omega), hlen]; simp))
  · rw [List.nodup_append]
    refine ⟨s.nd, by simp, fun x hx y hy => ?_⟩
    rw [List.mem_singleton.mp hy]
    exact fun z => np (z ▸ hx)
  · by_cases hk : k < m2.length
    · rw [List.getElem?_append_left hk] at q1
      rw [List.getElem?_append_left (by omega)] at q2
      obtain ⟨ys, q4, r4⟩ := s.cell q1 q2 q3
      exact ⟨ys, q4, r4.mono lt⟩
    · rw [List.getElem?_append_right (by omega)] at q1 q2
      obtain ⟨x1, y1⟩ := List.getElem?_eq_some_iff.mp q1
      have hz : k - m2.length = 0 := by simpa using x1
      rw [hz] at q1
      rw [show k - S2.length = 0 by omega] at q2
      simp at q1 q2
      subst q1 q2
      exact ⟨o, h, r.mono lt⟩
  · rcases List.mem_append.mp hb with hb | hb
    · exact s.mem b hb
    · rw [List.mem_singleton.mp hb]
      exact ⟨_, h⟩
  · rcases List.mem_append.mp hb with z | z
    · exact s.off b (.inl f) z
    · obtain ⟨o, h'⟩ := s.oth b (.inl f)
      obtain ⟨o', h2⟩ := hs b f
      rw [List.mem_singleton.mp z, hp] at h2
      cases h2
theorem Fin.alloc {Q : VK} {l : List D} (hs : ∀ a, F a → ∃ o, H a = some o) (q : Fin K H F m S (S2 ++ [.lst l]) (.ref S2.length) Q) : FinF K H F m S S2 l Q := fun xs H2 m2 p hp ex s h r =>
  Fin.allocC hs q (.lst xs) H2 m2 p hp ex s h ⟨xs, rfl, r⟩
end
section
variable {Φ : Phi} {X : Cx}
/-- a reading whose value is a new list -/
def tF (Φ : Phi) (K : PySem.W.Frag) (c : CE) : TE := fun σ H Q => ∃ F m S ρ l S1, Sto K H F m S ∧ EnvR K H (Tk F m S) m ρ σ ∧ evE Φ c ρ S = .ok (.lst l) S1 ∧ FinF K H F m S S1 l Q
/-- its value is always a list -/
def isL (Φ : Phi) (c : CE) : Prop := ∀ ρ S d S1, evE Φ c ρ S = .ok d S1 → ∃ l, d = .lst l
theorem f_frz {e : Expr} {c : CE} (hc : isL Φ c) (h : PE X e (tF Φ X.K c)) : PE X e (tE Φ X.K c) :=
  PE.pick fun σ H Q ⟨F, m, S, ρ, d, S1, s, en, he, q⟩ => by
    obtain ⟨l, rfl⟩ := hc _ _ _ _ he
    exact ⟨_, h, F, m, S, ρ, l, S1, s, en, he, Fin.frz s.oth q⟩
theorem tF_alloc {c : CE} {σ : L2.St} {H : Hp} {Q : VK} {K : PySem.W.Frag} (h : tE Φ K (.alloc c) σ H Q) (hc : isL Φ c) : tF Φ K c σ H Q := by
  obtain ⟨F, m, S, ρ, d, S1, s, en, he, q⟩ := h
  simp only [evE] at he
  obtain ⟨x, S2, e1, he⟩ := R.bind_ok he
  obtain ⟨l, rfl⟩ := hc _ _ _ _ e1
  cases he
  exact ⟨F, m, S, ρ, l, S2, s, en, e1, Fin.alloc s.oth q⟩
theorem f_alloc {e : Expr} {c : CE} (hc : isL Φ c) (h : PE X e (tF Φ X.K c)) : PE X e (tE Φ X.K (.alloc c)) :=
  PE.pick fun σ H Q h' => ⟨_, h, tF_alloc h' hc⟩
/-! ## the same for dicts -/
def tFD (Φ : Phi) (K : PySem.W.Frag) (c : CE) : TE := fun σ H Q => ∃ F m S ρ l S1, Sto K H F m S ∧ EnvR K H (Tk F m S) m ρ σ ∧ evE Φ c ρ S = .ok (.dic true l) S1 ∧ FinC K H F m S S1 (.dic true l) Q
def isD (Φ : Phi) (c : CE) : Prop := ∀ ρ S d S1, evE Φ c ρ S = .ok d S1 → ∃ l, d = .dic true l
theorem fd_frz {e : Expr} {c : CE} (hc : isD Φ c) (h : PE X e (tFD Φ X.K c)) : PE X e (tE Φ X.K c) :=
  ⟨fun pins s σ H Q I ⟨F, m, S, ρ, d, S1, st, en, he, q⟩ => by
    obtain ⟨l, rfl⟩ := hc _ _ _ _ he
    refine thn (h.run pins s σ H (fun v H2 => ∃ p es m2, v = .ref p ∧ H p = none ∧ Ex H m S H2 m2 S1 ∧ Sto X.K H2 (fun a => F a ∨ a = p) m2 S1 ∧ H2 p = some (DicO HasW.w p es) ∧ DicR X.K H2 (Tk (fun a => F a ∨ a = p) m2 S1) m2 l es) I ⟨F, m, S, ρ, l, S1, st, en, he, fun o H2 m2 p hp ex s2 hv r => by
      obtain ⟨es, rfl, r⟩ := r
      exact ⟨p, es, m2, rfl, hp, ex, s2, hv, r⟩⟩) ?_
    rintro u s2 ⟨v, H2, I2, rv, p, es, m2, rfl, hp, ex, st2, hv, r⟩
    obtain ⟨od, I3⟩ := I2.lock hv DicO.mut
    have nF : ¬ F p := fun z => by
      obtain ⟨o, z⟩ := st.oth p z
      rw [hp] at z
      cases z
    have nT : ¬ Trk m2 S1 p := st2.apart p (.inr rfl)
    have lt : Lt H2 (Tk (fun a => F a ∨ a = p) m2 S1) m2 (upd H2 p (.frz od (DicO HasW.w p es))) (Tk F m2 S1) m2 :=
      ⟨⟨[], by simp⟩, fun a o z n => by rw [upd_ne (fun z' => n (.inl (.inr z')))]; exact z, fun a t => .inl (t.imp .inl id)⟩
    refine ⟨.ref p, _, I3, rv, q _ _ m2 ⟨ex.pre, fun a o z n => ?_, ex.trk⟩ (Sto.of_cells st2.len st2.nd (fun n a c z1 z2 z3 => ?_) (fun a z => ?_) (fun a z => ?_) fun a z => st2.off a (.inl z)) ?_⟩
    · have ha : a ≠ p := fun z' => by rw [z', hp] at z; cases z
      rw [upd_ne ha]
      exact ex.old a o z n
    · obtain ⟨o, z4, r4⟩ := st2.cell z1 z2 z3
      have ha : a ≠ p := fun z' => nT (z' ▸ ⟨n, c, z1, z2, z3⟩)
      exact ⟨o, by rw [upd_ne ha]; exact z4, r4.mono lt⟩
    · obtain ⟨o, z'⟩ := st2.mem a z
      by_cases ha : a = p
      · subst ha; exact ⟨_, upd_same⟩
      · exact ⟨o, by rw [upd_ne ha]; exact z'⟩
    · obtain ⟨o, z'⟩ := st2.oth a (.inl z)
      have ha : a ≠ p := fun z' => nF (z' ▸ z)
      exact ⟨o, by rw [upd_ne ha]; exact z'⟩
    · exact .dic upd_same (fun t => t.elim nF nT) r.nk r.ky (r.ks.mono lt) (r.vs.mono lt)⟩
theorem tFD_alloc {c : CE} {σ : L2.St} {H : Hp} {Q : VK} {K : PySem.W.Frag} (h : tE Φ K (.alloc c) σ H Q) (hc : isD Φ c) : tFD Φ K c σ H Q := by
  obtain ⟨F, m, S, ρ, d, S1, s, en, he, q⟩ := h
  simp only [evE] at he
  obtain ⟨x, S2, e1, he⟩ := R.bind_ok he
  obtain ⟨l, rfl⟩ := hc _ _ _ _ e1
  cases he
  exact ⟨F, m, S, ρ, l, S2, s, en, e1, Fin.allocC s.oth q⟩
theorem fd_alloc {e : Expr} {c : CE} (hc : isD Φ c) (h : PE X e (tFD Φ X.K c)) : PE X e (tE Φ X.K (.alloc c)) :=
  PE.pick fun σ H Q h' => ⟨_, h, tFD_alloc h' hc⟩
end
end NG
end

section
set_option autoImplicit false
set_option maxRecDepth 100000
set_option maxHeartbeats 1000000
namespace NG
open PySem PySem.Spec PyProof.Rows L2
variable [HasW]
section
variable {Φ : Phi} {X : Cx} {pos : Pos}

/-! ## names, constants, displays -/
theorem s_var {i : Nat} {x : Str} (hN : X.N[i]? = some x) (hv : Vis X.env.scope x) (hd : (x == ("__debug__" : Str)) = false) (hcd : (x == ("__classdict__" : Str)) = false) : PE X (.Name x pos) (tE Φ X.K (.var i)) :=
  PE.pick fun σ H Q ⟨F, m, S, ρ, d, S1, s, e, he, q⟩ => by
    simp only [evE] at he
    cases h : ρ[i]? with
    | none => rw [h] at he; cases he
    | some d' =>
      rw [h] at he
      have hu : d' ≠ .undef := fun z => by subst z; cases he
      have he' : d' = d ∧ S = S1 := by
        cases d' <;> first | exact absurd rfl hu | (cases he; exact ⟨rfl, rfl⟩)
      obtain ⟨rfl, rfl⟩ := he'
      obtain ⟨v, hv', r⟩ := e.at_ i d' h hu
      exact ⟨tVar i, pe_var hN hv hd hcd, v, hv', q v H m Ex.refl s r⟩
theorem cst_ok {d d' : D} {ρ : Env} {S S1 : Store} (h : evE Φ (.cst d) ρ S = .ok d' S1) : d' = d ∧ S1 = S := by
  simp only [evE] at h
  cases h
  exact ⟨rfl, rfl⟩
theorem s_int {i : Int} {j : Nat} : PE X (.Constant (.int i) j pos) (tE Φ X.K (.cst (.int i))) :=
  PE.pick fun σ H Q ⟨F, m, S, ρ, d, S1, s, e, he, q⟩ => by
    obtain ⟨rfl, rfl⟩ := cst_ok he
    exact ⟨_, pe_int, q _ H m Ex.refl s (.int i)⟩
theorem s_bl {b : Bool} {j : Nat} : PE X (.Constant (.bool b) j pos) (tE Φ X.K (.cst (.bl b))) :=
  PE.pick fun σ H Q ⟨F, m, S, ρ, d, S1, s, e, he, q⟩ => by
    obtain ⟨rfl, rfl⟩ := cst_ok he
    exact ⟨_, pe_bl, q _ H m Ex.refl s (.bl b)⟩
theorem s_non {j : Nat} : PE X (.Constant .none j pos) (tE Φ X.K (.cst .non)) :=
  PE.pick fun σ H Q ⟨F, m, S, ρ, d, S1, s, e, he, q⟩ => by
    obtain ⟨rfl, rfl⟩ := cst_ok he
    exact ⟨_, pe_non, q _ H m Ex.refl s .non⟩
theorem s_str {x : Str} {l : List Nat} {j : Nat} (hx : toStr l = x) : PE X (.Constant (.str x) j pos) (tE Φ X.K (.cst (.str l))) :=
  PE.pick fun σ H Q ⟨F, m, S, ρ, d, S1, s, e, he, q⟩ => by
    obtain ⟨rfl, rfl⟩ := cst_ok he
    subst hx
    exact ⟨_, pe_str, q _ H m Ex.refl s (.str l)⟩
/-- a module's constant -/
def ConV (K : PySem.W.Frag) (d : D) (v : V) : Prop := ∀ H T m, Rp K H T m d v
theorem s_glob {x : Str} {u : Value} {v : V} {d : D} (hg : Gl X x) (hm : X.mg x = some u) (r : RelV v u) (c : ConV X.K d v) (hd : (x == ("__debug__" : Str)) = false) : PE X (.Name x pos) (tE Φ X.K (.glob d)) :=
  PE.pick fun σ H Q ⟨F, m, S, ρ, d', S1, s, e, he, q⟩ => by
    have he' : d' = d ∧ S1 = S := by
      simp only [evE] at he
      cases he
      exact ⟨rfl, rfl⟩
    obtain ⟨rfl, rfl⟩ := he'
    exact ⟨_, pe_glob hg hm r hd, q _ H m Ex.refl s (c _ _ _)⟩
theorem a_nil : PA X [] (tA Φ X.K []) := by
  refine ⟨fun pos pins s σ H Q I h => ?_⟩
  obtain ⟨F, m, S, ρ, ds, S1, st, e, he, q⟩ := h
  simp only [evEs] at he
  cases he
  exact (pa_nil (X := X)).run pos pins s σ H Q I (q [] H m Ex.refl st .nil)
theorem a_cons {x : Expr} {xs : List Expr} {c : CE} {cs : List CE} (h1 : PE X x (tE Φ X.K c)) (h2 : PA X xs (tA Φ X.K cs)) (hs : starEach (x :: xs) X.env = (false, eval x X.env) :: starEach xs X.env) : PA X (x :: xs) (tA Φ X.K (c :: cs)) := by
  refine ⟨fun pos pins s σ H Q I h => ?_⟩
  obtain ⟨F, m, S, ρ, ds, S1, st, e, he, q⟩ := h
  simp only [evEs] at he
  obtain ⟨d, S2, ha, he⟩ := R.bind_ok he
  obtain ⟨ds', S3, hb, he⟩ := R.bind_ok he
  cases he
  refine (pa_cons h1 h2 hs).run pos pins s σ H Q I ?_
  refine tE_one st e ha fun v H1 m1 ex1 s1 e1 r1 => tA_one s1 e1 hb fun vs H2 m2 ex2 s2 e2 r2 => ?_
  exact q _ _ m2 (ex1.trans ex2) s2 (.cons (r1.mono ex2.lt) r2)
theorem Rps.lenV {K : PySem.W.Frag} {H : Hp} {T : Addr → Prop} {m : List Addr} {ds : List D} {vs : List V} (r : Rps K H T m ds vs) : vs.length = ds.length := r.length.symm
theorem evEs_len : ∀ {cs : List CE} {ρ : Env} {S S1 : Store} {ds : List D}, evEs Φ cs ρ S = .ok ds S1 → ds.length = cs.length
  | [], ρ, S, S1, ds, h => by
    simp only [evEs] at h
    cases h
    rfl
  | c :: cs, ρ, S, S1, ds, h => by
    simp only [evEs] at h
    obtain ⟨d, S2, _, h⟩ := R.bind_ok h
    obtain ⟨ds', S3, h3, h⟩ := R.bind_ok h
    cases h
    rw [List.length_cons, List.length_cons, evEs_len h3]
theorem s_tup {es : List Expr} {cs : List CE} {x1} (h : PA X es (tA Φ X.K cs)) (hl : cs.length ≤ 1000) : PE X (.Tuple es x1 pos) (tE Φ X.K (.tup cs)) :=
  PE.pick fun σ H Q ⟨F, m, S, ρ, d, S1, s, e, he, q⟩ => by
    simp only [evE] at he
    obtain ⟨ds, S2, ha, he⟩ := R.bind_ok he
    cases he
    refine ⟨_, pe_tup h, ?_⟩
    refine tA_one s e ha fun vs H1 m1 ex1 s1 e1 r1 => ⟨?_, fun p hp => ?_⟩
    · rw [← r1.length, evEs_len ha, sizeLine_eq]
      omega
    · exact Fin.tup q ex1 s1 r1 hp
theorem isL_lst {Φ : Phi} {cs : List CE} : isL Φ (.lst cs) := fun ρ S d S1 h => by
  simp only [evE] at h
  obtain ⟨ds, S2, ha, h⟩ := R.bind_ok h
  cases h
  exact ⟨_, rfl⟩
theorem f_lst {es : List Expr} {cs : List CE} (h : PA X es (tA Φ X.K cs)) (hl : cs.length ≤ 1000) : PE X (.List es pos) (tF Φ X.K (.lst cs)) :=
  PE.pick fun σ H Q ⟨F, m, S, ρ, d, S1, s, e, he, q⟩ => by
    simp only [evE] at he
    obtain ⟨ds, S2, ha, he⟩ := R.bind_ok he
    cases he
    refine ⟨_, pe_lst h, ?_⟩
    refine tA_one s e ha fun vs H1 m1 ex1 s1 e1 r1 => ⟨?_, fun p hp => ?_⟩
    · rw [← r1.length, evEs_len ha, sizeLine_eq]
      omega
    · exact FinF.new q ex1 s1 r1 hp
theorem s_lst {es : List Expr} {cs : List CE} (h : PA X es (tA Φ X.K cs)) (hl : cs.length ≤ 1000) : PE X (.List es pos) (tE Φ X.K (.lst cs)) := f_frz isL_lst (f_lst h hl)

/-! ## operators -/
theorem line_LIM : (LIM : Nat) = sizeLine := by rw [sizeLine_eq]; rfl
theorem op_catR : OpR X (binaryOp .Add) (fun x y H Q => ∃ l b xs zs, x = .ref l ∧ y = .ref b ∧ Rd H l (.lst xs) ∧ Rd H b (.lst zs) ∧ xs.length + zs.length ≤ sizeLine ∧ ∀ p, H p = none → Q (.ref p) (upd H p (.lst (xs ++ zs)))) := by
  intro pins s σ H x y v u Q I rx ry h
  obtain ⟨l, b, xs, zs, rfl, rfl, hH, hB, hz, q⟩ := h
  cases rx
  cases ry
  obtain ⟨z, its, n, r, e⟩ := hH.ok I.hok
  obtain ⟨z2, its2, n2, r2, e2⟩ := hB.ok I.hok
  have hl := r.length
  have hl2 := r2.length
  refine PySem.P.add_list e e2 ?_ (by rw [List.size_toArray, List.size_toArray]; omega)
  have ea : its.toArray ++ its2.toArray = (its ++ its2).toArray := by simp
  rw [ea]
  exact ⟨.ref _, _, I.lnew (t' := s.toks) (r.append r2) (by rw [List.length_append]; omega), rfl, q _ I.fresh⟩
theorem toStr_app (x y : List Nat) : toStr x ++ toStr y = toStr (x ++ y) := by
  show Str.append (toStr x) (toStr y) = _
  unfold toStr
  first | rfl | simp [Str.append]
theorem toStr_len (x : List Nat) : (toStr x).length = x.length := by
  unfold toStr
  first | rfl | simp [Str.length]
theorem s_bop_add {a b : Expr} {ca cb : CE} (ha : PE X a (tE Φ X.K ca)) (hb : PE X b (tE Φ X.K cb)) : PE X (.BinOp a .Add b pos) (tE Φ X.K (.bop .add ca cb)) :=
  PE.pick fun σ H Q ⟨F, m, S, ρ, d, S1, s, e, he, q⟩ => by
    simp only [evE] at he
    obtain ⟨x, S2, e1, he⟩ := R.bind_ok he
    obtain ⟨y, S3, e2, he⟩ := R.bind_ok he
    obtain ⟨h, rfl⟩ := lift_ok he
    generalize hx : vw S1 x = x' at h
    generalize hy : vw S1 y = y' at h
    cases x' <;> cases y' <;> first | (exfalso; cases h; done) | skip
    · simp only [bopE] at h
      cases h
      refine ⟨_, pe_op op_add ha hb, ?_⟩
      refine tE_two s e e1 e2 fun v w H2 m2 ex s2 e' r1 r2 => ?_
      exact ⟨_, _, vw_int r1 hx, vw_int r2 hy, q _ H2 m2 ex s2 (.int _)⟩
    · simp only [bopE] at h
      split at h
      · rename_i hz
        cases h
        refine ⟨_, pe_op op_add_str ha hb, ?_⟩
        refine tE_two s e e1 e2 fun v w H2 m2 ex s2 e' r1 r2 => ?_
        refine ⟨_, _, vw_str r1 hx, vw_str r2 hy, ?_, ?_⟩
        · rw [toStr_len, toStr_len, ← line_LIM]
          exact hz
        · rw [toStr_app]
          exact q _ H2 m2 ex s2 (.str _)
      · cases h
    · simp only [bopE] at h
      split at h
      · rename_i hz
        cases h
        refine ⟨_, pe_op op_catA ha hb, ?_⟩
        refine tE_two s e e1 e2 fun v w H2 m2 ex s2 e' r1 r2 => ?_
        obtain ⟨a1, xs, rfl, t1, q1⟩ := vw_tup r1 hx
        obtain ⟨a2, ys, rfl, t2, q2⟩ := vw_tup r2 hy
        refine ⟨a1, a2, xs, ys, rfl, rfl, t1.sq, t2.sq, ?_, fun z => ?_, fun z1 z2 => ?_, fun z1 z2 p hp => ?_⟩
        · rw [← q1.length, ← q2.length, ← line_LIM]
          exact hz
        · subst z
          cases q1
          exact q _ H2 m2 ex s2 (t2.rp q2)
        · subst z2
          cases q2
          rw [List.append_nil] at q
          exact q _ H2 m2 ex s2 (t1.rp q1)
        · exact Fin.tup q ex s2 (q1.app q2) hp
      · cases h
    · simp only [bopE] at h
      split at h
      · rename_i hz
        cases h
        refine ⟨_, pe_op op_catR ha hb, ?_⟩
        refine tE_two s e e1 e2 fun v w H2 m2 ex s2 e' r1 r2 => ?_
        obtain ⟨a1, xs, rfl, t1, q1⟩ := vw_lst s2 r1 hx
        obtain ⟨a2, ys, rfl, t2, q2⟩ := vw_lst s2 r2 hy
        refine ⟨a1, a2, xs, ys, rfl, rfl, t1, t2, ?_, fun p hp => ?_⟩
        · rw [← q1.length, ← q2.length, ← line_LIM]
          exact hz
        · exact Fin.lst q ex s2 (q1.app q2) hp
      · cases h

/-- two ints, an operator -/
theorem s_bop_int {o : BOp} {po : Operator} {a b : Expr} {ca cb : CE} {C : Int → Int → Prop} {g : Int → Int → Int} {p : Int → Int → Prop} [∀ i j, Decidable (p i j)] (ho : OpR X (binaryOp po) (rI C fun i j => .int (g i j)))
    (hb' : ∀ x y d, bopE o x y = some d → ∃ i j, x = .int i ∧ y = .int j ∧ C i j ∧ d = .int (g i j)) (ha : PE X a (tE Φ X.K ca)) (hb : PE X b (tE Φ X.K cb)) : PE X (.BinOp a po b pos) (tE Φ X.K (.bop o ca cb)) :=
  PE.pick fun σ H Q ⟨F, m, S, ρ, d, S1, s, e, he, q⟩ => by
    simp only [evE] at he
    obtain ⟨x, S2, e1, he⟩ := R.bind_ok he
    obtain ⟨y, S3, e2, he⟩ := R.bind_ok he
    obtain ⟨h, rfl⟩ := lift_ok he
    obtain ⟨i, j, hx, hy, hc, rfl⟩ := hb' _ _ _ h
    refine ⟨_, pe_op ho ha hb, ?_⟩
    refine tE_two s e e1 e2 fun v w H2 m2 ex s2 e' r1 r2 => ?_
    exact ⟨i, j, vw_int r1 hx, vw_int r2 hy, hc, q _ H2 m2 ex s2 (.int _)⟩
theorem op_subC : OpR X (binaryOp .Sub) (rI (fun _ _ => True) fun i j => .int (i - j)) := fun pins s σ H x y v u Q I rx ry h => by
  obtain ⟨i, j, a, b, _, q⟩ := h
  exact op_sub pins s σ H x y v u Q I rx ry ⟨i, j, a, b, q⟩
theorem s_bop_sub {a b : Expr} {ca cb : CE} (ha : PE X a (tE Φ X.K ca)) (hb : PE X b (tE Φ X.K cb)) : PE X (.BinOp a .Sub b pos) (tE Φ X.K (.bop .sub ca cb)) :=
  s_bop_int (p := fun _ _ => True) op_subC (fun x y d h => by
    cases x <;> cases y <;> first | (exfalso; cases h; done) | skip
    cases h
    exact ⟨_, _, rfl, rfl, trivial, rfl⟩) ha hb
theorem s_bop_mod {a b : Expr} {ca cb : CE} (ha : PE X a (tE Φ X.K ca)) (hb : PE X b (tE Φ X.K cb)) : PE X (.BinOp a .Mod b pos) (tE Φ X.K (.bop .mod ca cb)) :=
  s_bop_int (p := fun _ _ => True) op_modN (fun x y d h => by
    cases x <;> cases y <;> first | (exfalso; cases h; done) | skip
    simp only [bopE] at h
    split at h
    · rename_i hz
      cases h
      exact ⟨_, _, rfl, rfl, hz, rfl⟩
    · cases h) ha hb
theorem op_fdivA : OpR X (binaryOp .FloorDiv) (rI (fun _ j => divOk j = true) fun i j => .int (i.fdiv j)) := fun pins s σ H x y v u Q I rx ry h => by
  obtain ⟨i, j, a, b, hc, q⟩ := h
  unfold divOk at hc
  simp only [Bool.or_eq_true, Bool.and_eq_true, decide_eq_true_eq] at hc
  rcases hc with hc | hc
  · exact op_fdivN pins s σ H x y v u Q I rx ry ⟨i, j, a, b, hc, q⟩
  · refine op_fdivW pins s σ H x y v u Q I rx ry ⟨i, j, a, b, wide_div (b := 2000) hc.1 hc.2 (by decide) (by decide), ?_⟩
    show Q (V.int (i / j)) H
    rw [← Int.fdiv_eq_ediv_of_nonneg (b := j) i (Int.le_of_lt hc.1)]
    exact q
theorem s_bop_fdiv {a b : Expr} {ca cb : CE} (ha : PE X a (tE Φ X.K ca)) (hb : PE X b (tE Φ X.K cb)) : PE X (.BinOp a .FloorDiv b pos) (tE Φ X.K (.bop .fdiv ca cb)) :=
  s_bop_int (p := fun _ _ => True) op_fdivA (fun x y d h => by
    cases x <;> cases y <;> first | (exfalso; cases h; done) | skip
    simp only [bopE] at h
    split at h
    · rename_i hz
      cases h
      exact ⟨_, _, rfl, rfl, hz, rfl⟩
    · cases h) ha hb
theorem op_mulA : OpR X (binaryOp .Mult) (rI (fun i j => mulOk i j = true) fun i j => .int (i * j)) := fun pins s σ H x y v u Q I rx ry h => by
  obtain ⟨i, j, a, b, hc, q⟩ := h
  unfold mulOk P64 at hc
  simp only [Bool.or_eq_true, Bool.and_eq_true, decide_eq_true_eq] at hc
  rcases hc with hc | hc
  · exact op_mul pins s σ H x y v u Q I rx ry ⟨i, j, a, b, by unfold CMul; omega, q⟩
  · exact op_mulW pins s σ H x y v u Q I rx ry ⟨i, j, a, b, wide_mul (a := 2000) (b := 2000) hc.1 hc.2 (by decide) (by decide) (by decide), q⟩
theorem op_powA : OpR X (binaryOp .Pow) (rI (fun i j => 0 ≤ j ∧ j ≤ 1000 ∧ i.natAbs < 2 ^ 256) fun i j => .int (i ^ j.toNat)) := opI fun i j t u s Q E hc q => by
  refine pow_int hc.1 ?_ q
  have hb : Builtin.Int.intBits i ≤ 256 := intBits_le hc.2.2
  have h1 : (Builtin.Int.intBits i : Int) * j ≤ 256 * j := Int.mul_le_mul_of_nonneg_right (by omega) hc.1
  have := hc.2.1
  omega
theorem s_bop_pow {a b : Expr} {ca cb : CE} (ha : PE X a (tE Φ X.K ca)) (hb : PE X b (tE Φ X.K cb)) : PE X (.BinOp a .Pow b pos) (tE Φ X.K (.bop .pow ca cb)) :=
  s_bop_int (p := fun _ _ => True) op_powA (fun x y d h => by
    cases x <;> cases y <;> first | (exfalso; cases h; done) | skip
    simp only [bopE] at h
    split at h
    · rename_i hz
      cases h
      exact ⟨_, _, rfl, rfl, hz, rfl⟩
    · cases h) ha hb
theorem op_repR : OpR X (binaryOp .Mult) (fun x y H Q => ∃ l k xs, x = .ref l ∧ y = .int k ∧ Rd H l (.lst xs) ∧ -(2 ^ 63) ≤ k ∧ k < 2 ^ 63 ∧ xs.length * k.toNat ≤ sizeLine ∧
  ∀ p, H p = none → Q (.ref p) (upd H p (.lst (List.replicate k.toNat xs).flatten))) := by
  intro pins s σ H x y v u Q I rx ry h
  obtain ⟨l, k, xs, rfl, rfl, hH, h1, h2, hz, q⟩ := h
  cases rx
  obtain ⟨t, rfl⟩ := ry
  obtain ⟨z, its, n, r, e⟩ := hH.ok I.hok
  have hl := r.length
  have hlen : its.toArray.size * k.toNat ≤ sizeLine := by rw [List.size_toArray, ← hl]; exact hz
  have hcap : ¬ its.toArray.size * k.toNat > (2 ^ 63 - 1) / 8 := by
    have : (sizeLine : Nat) ≤ (2 ^ 63 - 1) / 8 := by decide
    omega
  have hfit : ¬ (!Builtin.List.listFitsIndex k) = true := by
    rw [fitsIndex_both h1 h2]
    exact Bool.false_ne_true
  have hlong : ¬ Builtin.List.listTooLong (its.toArray.size * k.toNat) = true := by
    rw [notLongL hlen]
    exact Bool.false_ne_true
  have hnew : List.foldl (fun x1 x2 => x1 ++ x2) #[] (List.replicate (if its.toArray.isEmpty = true then 0 else k.toNat) its.toArray) = (List.replicate k.toNat its).flatten.toArray := by
    have f0 : ∀ m : Nat, List.foldl (fun x1 x2 => x1 ++ x2) #[] (List.replicate m its.toArray) = (List.replicate m its).flatten.toArray := fun m => by
      have := foldl_rep its m []
      rw [List.nil_append] at this
      exact this
    rw [f0]
    cases its with
    | nil => simp
    | cons a r' => rw [if_neg (by simp)]
  refine wpAny_binaryOp_repeat_ref (T := "list") (U := "int") (by decide) ⟨_, e, rfl⟩ (fun s' => typeIs_int s' k t) noFill_list_mul F.fills_int_mul F.slot_int_rmul repeat_list F.slot_int_index.lookup
    (call_meets F.slot_int_rmul (typeIs_int s k t) F.entry_int_rmul (F.args_int_rmul_2 _ _) (int___rmul___int_list k t l its.toArray n)
      ⟨e, rfl, ⟨_, e, rfl⟩, call_meets F.slot_list_mul ⟨_, e, rfl⟩ F.entry_list_mul (F.args_list_mul_2 _ _) (AutoListH.list___mul___list_int_3 l its.toArray n k t hfit hcap hlong) ⟨e, ?_⟩⟩)
  rw [hnew]
  exact ⟨.ref _, _, I.lnew (t' := s.toks) (r.rep k.toNat) (by rw [PyProof.Rows.lm_len_rep_flat, Nat.mul_comm]; exact hz), rfl, q _ I.fresh⟩
theorem repStr (k : Nat) (x : List Nat) : (⟨(List.replicate k (toStr x).cps).foldl (· ++ ·) #[]⟩ : Str) = toStr (List.replicate k x).flatten := by
  have f : ∀ (k : Nat) (acc : Array Nat), (List.replicate k x.toArray).foldl (· ++ ·) acc = acc ++ (List.replicate k x).flatten.toArray := by
    intro k
    induction k with
    | zero => intro acc; simp
    | succ k ih =>
      intro acc
      rw [List.replicate_succ, List.foldl_cons, ih, List.replicate_succ, List.flatten_cons]
      simp
  unfold toStr
  rw [f k #[]]
  simp
theorem op_repS : OpR X (binaryOp .Mult) (fun x y H Q => ∃ (z : List Nat) (k : Int), x = .str (toStr z) ∧ y = .int k ∧ 0 ≤ k ∧ k ≤ LIM ∧ z.length * k.toNat ≤ LIM ∧ Q (.str (toStr (List.replicate k.toNat z).flatten)) H) := by
  intro pins s σ H x y v u Q I rx ry h
  obtain ⟨z, k, rfl, rfl, h1, h2, h3, q⟩ := h
  obtain ⟨t, rfl⟩ := rx
  obtain ⟨t', rfl⟩ := ry
  have hL : (LIM : Int) = 16777216 := rfl
  have hlen : (toStr z).length = z.length := toStr_len z
  refine PySem.P.mul_str ?_ (fun n1 n2 => ?_) (fun n1 n2 => ?_) ?_
  · rw [decide_eq_false (by omega), decide_eq_false (by omega)]
    rfl
  · rw [hlen]
    have h6 : ((z.length * k.toNat : Nat) : Int) ≤ 16777216 := by
      have : z.length * k.toNat ≤ 16777216 := h3
      omega
    rw [Int.natCast_mul, Int.toNat_of_nonneg h1] at h6
    exact Int.not_lt.mpr ((Int.le_ediv_iff_mul_le (by omega)).mpr (by omega))
  · rw [hlen]
    unfold Builtin.Str.tooLong
    rw [line_LIM] at h3
    exact decide_eq_false (by omega)
  · by_cases c1 : k < 1
    · rw [if_pos c1]
      have hk : k.toNat = 0 := by omega
      rw [hk] at q
      refine ⟨?_, .str (toStr []), H, I.tok _, ⟨_, rfl⟩, by simpa using q⟩
      decide
    · rw [if_neg c1]
      by_cases c2 : (k == 1 || (toStr z).length == 0) = true
      · rw [if_pos c2]
        refine ⟨.str (toStr z), H, I, ⟨_, rfl⟩, ?_⟩
        simp only [Bool.or_eq_true, beq_iff_eq] at c2
        rcases c2 with c2 | c2
        · subst c2
          simpa using q
        · rw [hlen] at c2
          have : z = [] := List.eq_nil_of_length_eq_zero c2
          subst this
          have e0 : (List.replicate k.toNat ([] : List Nat)).flatten = [] := by simp
          rw [e0] at q
          exact q
      · rw [if_neg c2]
        rw [repStr]
        refine ⟨?_, .str _, H, I.tok _, ⟨_, rfl⟩, q⟩
        rw [toStr_len, PyProof.Rows.lm_len_rep_flat, Nat.mul_comm, ← line_LIM]
        exact h3
theorem s_bop_mul {a b : Expr} {ca cb : CE} (ha : PE X a (tE Φ X.K ca)) (hb : PE X b (tE Φ X.K cb)) : PE X (.BinOp a .Mult b pos) (tE Φ X.K (.bop .mul ca cb)) :=
  PE.pick fun σ H Q ⟨F, m, S, ρ, d, S1, s, e, he, q⟩ => by
    simp only [evE] at he
    obtain ⟨x, S2, e1, he⟩ := R.bind_ok he
    obtain ⟨y, S3, e2, he⟩ := R.bind_ok he
    obtain ⟨h, rfl⟩ := lift_ok he
    generalize hx : vw S1 x = x' at h
    generalize hy : vw S1 y = y' at h
    cases x' <;> cases y' <;> first | (exfalso; cases h; done) | skip
    · simp only [bopE] at h
      split at h
      · rename_i hz
        cases h
        refine ⟨_, pe_op op_mulA ha hb, ?_⟩
        refine tE_two s e e1 e2 fun v w H2 m2 ex s2 e' r1 r2 => ?_
        exact ⟨_, _, vw_int r1 hx, vw_int r2 hy, hz, q _ H2 m2 ex s2 (.int _)⟩
      · cases h
    · simp only [bopE] at h
      split at h
      · rename_i hz
        cases h
        refine ⟨_, pe_op op_repS ha hb, ?_⟩
        refine tE_two s e e1 e2 fun v w H2 m2 ex s2 e' r1 r2 => ?_
        exact ⟨_, _, vw_str r1 hx, vw_int r2 hy, hz.1, hz.2.1, hz.2.2, q _ H2 m2 ex s2 (.str _)⟩
      · cases h
    · simp only [bopE] at h
      split at h
      · rename_i hz
        cases h
        refine ⟨_, pe_op op_repT ha hb, ?_⟩
        refine tE_two s e e1 e2 fun v w H2 m2 ex s2 e' r1 r2 => ?_
        obtain ⟨a1, xs, rfl, t1, q1⟩ := vw_tup r1 hx
        obtain ⟨z1, z2, z3, z4⟩ := hz
        refine ⟨a1, _, xs, rfl, vw_int r2 hy, t1.sq, fun z => ?_, z2, z3, by rw [← q1.length]; exact z4, fun p hp => Fin.tup q ex s2 (q1.rep _) hp⟩
        subst z
        cases q1
        simp at z1
      · cases h
    · simp only [bopE] at h
      split at h
      · rename_i hz
        cases h
        refine ⟨_, pe_op op_repR ha hb, ?_⟩
        refine tE_two s e e1 e2 fun v w H2 m2 ex s2 e' r1 r2 => ?_
        obtain ⟨a1, xs, rfl, t1, q1⟩ := vw_lst s2 r1 hx
        obtain ⟨z1, z2, z3⟩ := hz
        have hL : (LIM : Int) = 16777216 := rfl
        refine ⟨a1, _, xs, rfl, vw_int r2 hy, t1, by omega, by omega, by rw [← q1.length, ← line_LIM]; exact z3, fun p hp => Fin.lst q ex s2 (q1.rep _) hp⟩
      · cases h
end
end NG
end

section
set_option autoImplicit false
set_option maxRecDepth 100000
set_option maxHeartbeats 1000000
namespace NG
open PySem PySem.Spec PyProof.Rows L2
variable [HasW]

/-! ## data of the library -/
mutual
def toPy : D → PyData
  | .bl b => .bool b
  | .int i => .int i
  | .str s => .str (toStr s)
  | .lst l => .list (toPys l)
  | .tup l => .tuple (toPys l)
  | _ => .none
def toPys : List D → List PyData
  | [] => []
  | x :: xs => toPy x :: toPys xs
end
theorem toPys_map : ∀ l : List D, toPys l = l.map toPy
  | [] => rfl
  | x :: xs => by rw [toPys, toPys_map xs, List.map_cons]
theorem toStr_beq (x y : List Nat) : (toStr x == toStr y) = (x == y) := by
  by_cases h : x = y
  · subst h; simp
  · have h2 : toStr x ≠ toStr y := fun z => h (by
      unfold toStr at z
      simpa using z)
    rw [beq_eq_false_iff_ne.mpr h2, beq_eq_false_iff_ne.mpr h]
mutual
theorem eqv_deq : ∀ (a b : D), isPy a = true → isPy b = true → PyData.eqv (toPy a) (toPy b) = deq a b
  | a, b, ha, hb => by
    cases a <;> cases b <;> first
      | (simp [isPy] at ha; done)
      | (simp [isPy] at hb; done)
      | (simp only [toPy, PyData.eqv, deq]; done)
      | (simp only [toPy, PyData.eqv, deq]; exact toStr_beq _ _)
      | (simp only [toPy, PyData.eqv, deq]; exact eqv_deqs _ _ (by simpa [isPy] using ha) (by simpa [isPy] using hb))
theorem eqv_deqs : ∀ (a b : List D), arePy a = true → arePy b = true → PyData.eqvAll (toPys a) (toPys b) = deqs a b
  | [], [], _, _ => by simp only [toPys, PyData.eqvAll, deqs]
  | [], _ :: _, _, _ => by simp only [toPys, PyData.eqvAll, deqs]
  | _ :: _, [], _, _ => by simp only [toPys, PyData.eqvAll, deqs]
  | x :: xs, y :: ys, ha, hb => by
    have ha' : isPy x = true ∧ arePy xs = true := by simpa [arePy] using ha
    have hb' : isPy y = true ∧ arePy ys = true := by simpa [arePy] using hb
    simp only [toPys, PyData.eqvAll, deqs]
    rw [eqv_deq x y ha'.1 hb'.1, eqv_deqs xs ys ha'.2 hb'.2]
end
mutual
theorem py_depth : ∀ a : D, isPy a = true → (toPy a).depth = ddepth a
  | a, ha => by
    cases a <;> first
      | (simp [isPy] at ha; done)
      | (simp only [toPy, PyData.depth, ddepth]; done)
      | (simp only [toPy, PyData.depth, ddepth]; rw [py_depths _ (by simpa [isPy] using ha)])
theorem py_depths : ∀ a : List D, arePy a = true → PyData.depthAll (toPys a) = ddepths a
  | [], _ => by simp only [toPys, PyData.depthAll, ddepths]
  | x :: xs, ha => by
    have ha' : isPy x = true ∧ arePy xs = true := by simpa [arePy] using ha
    simp only [toPys, PyData.depthAll, ddepths]
    rw [py_depth x ha'.1, py_depths xs ha'.2]
end
mutual
theorem py_lay : ∀ a : D, isPy a = true → (toPy a).canLay0 = true
  | a, ha => by
    cases a <;> first
      | (simp [isPy] at ha; done)
      | (simp only [toPy, PyData.canLay0]; done)
      | (simp only [toPy, PyData.canLay0]; exact py_lays _ (by simpa [isPy] using ha))
      | (simp only [toPy, PyData.canLay0]
         have h : _ = true := ha
         unfold PyData.strOk toStr
         simp only [isPy, List.all_eq_true, decide_eq_true_eq] at h
         simp only [List.all_toArray, List.all_eq_true, decide_eq_true_eq]
         exact h)
theorem py_lays : ∀ a : List D, arePy a = true → PyData.canLayAll0 (toPys a) = true
  | [], _ => by simp only [toPys, PyData.canLayAll0]
  | x :: xs, ha => by
    have ha' : isPy x = true ∧ arePy xs = true := by simpa [arePy] using ha
    simp only [toPys, PyData.canLayAll0]
    rw [py_lay x ha'.1, py_lays xs ha'.2]
    rfl
end
theorem py_shaped {a : D} (h : isPy a = true) (hd : ddepth a ≤ 60) : SeqAt.shaped (toPy a) = true := by
  unfold SeqAt.shaped
  rw [py_lay a h, py_depth a h, decide_eq_true (by omega)]
  rfl
section
variable {K : PySem.W.Frag} {H : Hp} {T : Addr → Prop} {m : List Addr}
theorem sqL_of_rd {a : Addr} {xs : List V} (r : Rd H a (.lst xs)) : SqL K H a xs := .inl r
theorem sqT_of_rd {a : Addr} {xs : List V} (r : Rd H a (.tup xs)) : SqT K H a xs := .inl r
mutual
theorem Rp.dp : ∀ {d : D} {v : V}, Rp K H T m d v → isPy d = true → Dp K H v (toPy d)
  | _, _, .non, _ => .non
  | _, _, .bl b, _ => .bl b
  | _, _, .int i, _ => .int i
  | _, _, .str s, _ => .str _
  | _, _, .tup h n r, p => by
    rw [toPy]
    exact .tup (sqT_of_rd h) (Rps.dp r (by simpa [isPy] using p))
  | _, _, .tupK h r, p => by
    rw [toPy]
    exact .tup (.inr h) (Rps.dp r (by simpa [isPy] using p))
  | _, _, .lst h n r, p => by
    rw [toPy]
    exact .lst (sqL_of_rd h) (Rps.dp r (by simpa [isPy] using p))
  | _, _, .scr h r, p => by simp [isPy] at p
  | _, _, .ref h, p => by simp [isPy] at p
  | _, _, .dic _ _ _ _ _ _, p => by simp [isPy] at p
  | _, _, .opq _ _, p => by simp [isPy] at p
theorem Rps.dp : ∀ {ds : List D} {vs : List V}, Rps K H T m ds vs → arePy ds = true → DpAll K H vs (toPys ds)
  | _, _, .nil, _ => by
    rw [toPys]
    exact .nil
  | _, _, .cons a b, p => by
    have p' := (Bool.and_eq_true_iff.mp (by simpa only [arePy] using p))
    rw [toPys]
    exact .cons (Rp.dp a p'.1) (Rps.dp b p'.2)
end
end
section
variable {K : PySem.W.Frag} {H : Hp} {F : Addr → Prop} {m : List Addr} {S : Store} {d : D} {v : V}
/-- a view's data -/
theorem vw_dp (s : Sto K H F m S) (r : Rp K H (Tk F m S) m d v) (h : isPy (vw S d) = true) : Dp K H v (toPy (vw S d)) := by
  rcases vw_cases s r with ⟨e, n⟩ | ⟨n, a, rfl, rfl, hm⟩
  · rw [e] at h ⊢
    exact r.dp h
  · cases q : vw S (.ref n) with
    | lst l =>
      rw [q] at h
      obtain ⟨a', xs, e, h1, h2⟩ := vw_lst s r q
      cases e
      rw [toPy]
      exact .lst (sqL_of_rd h1) (h2.dp (by simpa [isPy] using h))
    | _ => 
      exfalso
      simp only [vw] at q
      split at q <;> first | (cases q; done) | (cases q; rename_i h0; rw [show vw S (.ref n) = _ from by simp only [vw]; exact rfl] at h; simp_all [isPy])
end

/-! ## order -/
mutual
theorem py_alike : ∀ (a b : D), isPy a = true → isPy b = true → PySem.W.alike (toPy a) (toPy b) = alike a b
  | a, b, ha, hb => by
    cases a <;> cases b <;> first
      | (simp [isPy] at ha; done)
      | (simp [isPy] at hb; done)
      | (simp only [toPy, PySem.W.alike, alike]; done)
      | (simp only [toPy, PySem.W.alike, alike]; exact py_alikes _ _ (by simpa [isPy] using ha) (by simpa [isPy] using hb))
theorem py_alikes : ∀ (a b : List D), arePy a = true → arePy b = true → PySem.W.alikeAll (toPys a) (toPys b) = alikes a b
  | [], b, _, _ => by simp only [toPys, PySem.W.alikeAll, alikes]
  | _ :: _, [], _, _ => by simp only [toPys, PySem.W.alikeAll, alikes]
  | x :: xs, y :: ys, ha, hb => by
    have ha' : isPy x = true ∧ arePy xs = true := by simpa [arePy] using ha
    have hb' : isPy y = true ∧ arePy ys = true := by simpa [arePy] using hb
    simp only [toPys, PySem.W.alikeAll, alikes]
    rw [py_alike x y ha'.1 hb'.1, py_alikes xs ys ha'.2 hb'.2]
end
theorem cpsLt_eq : ∀ x y : List Nat, cpsLt x y = decide (x < y)
  | [], [] => by simp [cpsLt]
  | [], _ :: _ => by simp [cpsLt]
  | _ :: _, [] => by simp [cpsLt]
  | x :: xs, y :: ys => by
    rw [cpsLt]
    by_cases h : x < y
    · rw [if_pos h]
      exact (decide_eq_true (List.cons_lt_cons_iff.mpr (.inl h))).symm
    · rw [if_neg h]
      by_cases h2 : y < x
      · rw [if_pos h2]
        refine (decide_eq_false fun z => ?_).symm
        rcases List.cons_lt_cons_iff.mp z with z | ⟨z, _⟩ <;> omega
      · rw [if_neg h2, cpsLt_eq xs ys]
        have e : x = y := by omega
        subst e
        by_cases h3 : xs < ys
        · rw [decide_eq_true h3, decide_eq_true (List.cons_lt_cons_iff.mpr (.inr ⟨rfl, h3⟩))]
        · rw [decide_eq_false h3]
          refine (decide_eq_false fun z => ?_).symm
          rcases List.cons_lt_cons_iff.mp z with z | ⟨_, z⟩
          · omega
          · exact h3 z
theorem lexAll_cons {x y : PyData} {xs ys : List PyData} (h : PySem.W.alike x y = true) : PyProof.Rows.lexLt PyProof.Rows.itemOrd (PySem.W.keyToksAll (x :: xs)) (PySem.W.keyToksAll (y :: ys)) =
    if PyData.eqv x y = true then PyProof.Rows.lexLt PyProof.Rows.itemOrd (PySem.W.keyToksAll xs) (PySem.W.keyToksAll ys) else PySem.W.dataLt x y := by
  by_cases e : PyData.eqv x y = true
  · rw [if_pos e]
    exact PySem.W.dataLt_all_yes h e
  · rw [if_neg e]
    exact PySem.W.dataLt_all_no h (by simpa using e)
mutual
theorem py_lt : ∀ (a b : D), isPy a = true → isPy b = true → alike a b = true → a ≠ .non → PySem.W.dataLt (toPy a) (toPy b) = dlt a b
  | a, b, ha, hb, hal, hn => by
    cases a <;> cases b <;> first
      | (simp [isPy] at ha; done)
      | (simp [isPy] at hb; done)
      | (simp [alike] at hal; done)
      | (exact absurd rfl hn)
      | (simp only [toPy, dlt]; rw [PySem.W.dataLt_int]; done)
      | (simp only [toPy, dlt]; rw [PySem.W.dataLt_bool]; rename_i p q; cases p <;> cases q <;> rfl)
      | (simp only [toPy, dlt]; rw [PySem.W.dataLt_str, cpsLt_eq]; rfl)
      | (simp only [toPy, dlt]; rw [PySem.W.dataLt_list]; exact py_lts _ _ (by simpa [isPy] using ha) (by simpa [isPy] using hb) (by simpa [alike] using hal))
      | (simp only [toPy, dlt]; rw [PySem.W.dataLt_tuple]; exact py_lts _ _ (by simpa [isPy] using ha) (by simpa [isPy] using hb) (by simpa [alike] using hal))
theorem py_lts : ∀ (a b : List D), arePy a = true → arePy b = true → alikes a b = true → PyProof.Rows.lexLt PyProof.Rows.itemOrd (PySem.W.keyToksAll (toPys a)) (PySem.W.keyToksAll (toPys b)) = dlts a b
  | [], [], _, _, _ => by simp only [toPys, dlts]; rfl
  | [], y :: ys, _, _, _ => by simp only [toPys, dlts]; rfl
  | x :: xs, [], _, _, _ => by simp only [toPys, dlts]; rfl
  | x :: xs, y :: ys, ha, hb, hal => by
    have ha' : isPy x = true ∧ arePy xs = true := by simpa [arePy] using ha
    have hb' : isPy y = true ∧ arePy ys = true := by simpa [arePy] using hb
    have hal' : alike x y = true ∧ alikes xs ys = true := by simpa [alikes] using hal
    simp only [toPys, dlts]
    rw [lexAll_cons (by rw [py_alike x y ha'.1 hb'.1]; exact hal'.1), eqv_deq x y ha'.1 hb'.1, py_lts xs ys ha'.2 hb'.2 hal'.2]
    by_cases e : deq x y = true
    · rw [if_pos e, if_pos e]
    · rw [if_neg e, if_neg e]
      refine py_lt x y ha'.1 hb'.1 hal'.1 fun z => ?_
      subst z
      cases y <;> simp [alike, deq] at hal' e
end
section
variable {Φ : Phi} {X : Cx} {pos : Pos}
/-- comparisons by the values' data -/
theorem op_ordD (hu : X.A.units + 64 < cLine) {co : CmpOp} {g : PyData → PyData → Bool}
    (rule : ∀ {A : Around} {E : Value → Shared → Prop} {s : Shared} {a b : Value} {da db : PyData} {as bs : List Addr} {Q : Value → Shared → Prop}, Reads s.heap a da as → Reads s.heap b db bs → PySem.W.alike da db = true → da ≠ .none →
      A.units + min da.depth db.depth < cLine → Q (.bool (g da db)) s → wpAny (model X.prog X.w) A (compareOp co a b) Q E s) :
    OpR X (compareOp co) (fun x y H Q => ∃ d e, Dp X.K H x d ∧ Dp X.K H y e ∧ PySem.W.alike d e = true ∧ d ≠ .none ∧ d.depth ≤ 60 ∧ Q (.bl (g d e)) H) := by
  intro pins s σ H x y v u Q I rx ry h
  obtain ⟨d, e, hd, he, hal, hn, h6, q⟩ := h
  obtain ⟨as, r1⟩ := Dp.reads I d x v hd rx
  obtain ⟨bs, r2⟩ := Dp.reads I e y u he ry
  exact rule r1 r2 hal hn (by omega) ⟨.bl _, H, I, rfl, q⟩
theorem toPy_ne_none {d : D} (h : isPy d = true) (n : d ≠ .non) : toPy d ≠ .none := fun z => by
  cases d <;> first | (simp [isPy] at h; done) | (exact n rfl) | (simp [toPy] at z; done)
theorem ordOk_cases {a b : D} (h : ordOk a b = true) : alike a b = true ∧ isPy a = true ∧ isPy b = true ∧ ddepth a ≤ 60 ∧ ddepth b ≤ 60 ∧ a ≠ .non := by
  unfold ordOk at h
  simp only [Bool.and_eq_true, decide_eq_true_eq] at h
  obtain ⟨⟨⟨⟨⟨h1, h2⟩, h3⟩, h4⟩, h5⟩, h6⟩ := h
  refine ⟨h1, h2, h3, h4, h5, fun z => ?_⟩
  subst z
  cases h6
theorem alike_symm_ne {a b : D} (h : alike a b = true) (n : a ≠ .non) : b ≠ .non := fun z => by
  subst z
  cases a <;> first | (exact n rfl) | (simp [alike] at h; done)
/-- an operator's rule, at the evaluator's words -/
structure CmpOk (X : Cx) (o : COp) (co : CmpOp) : Prop where
  ex : ∃ r : R2, OpR X (compareOp co) r ∧ ∀ {F : Addr → Prop} {H2 : Hp} {m2 : List Addr} {S2 : Store} {x y : D} {v w : V} {k : Bool} {Q : VK}, Sto X.K H2 F m2 S2 → Rp X.K H2 (Tk F m2 S2) m2 x v → Rp X.K H2 (Tk F m2 S2) m2 y w → cmpE o (vw S2 x) (vw S2 y) = some k → Q (.bl k) H2 → r v w H2 Q
theorem s_cmp {o : COp} {co : CmpOp} {a b : Expr} {ca cb : CE} (ok : CmpOk X o co) (hm : behindInMarks co b = false)
    (ha : PE X a (tE Φ X.K ca)) (hb : PE X b (tE Φ X.K cb)) : PE X (.Compare a [co] [b] pos) (tE Φ X.K (.cmp o ca cb)) :=
  PE.pick fun σ H Q ⟨F, m, S, ρ, d, S1, s, e, he, q⟩ => by
    obtain ⟨r, ho, hk⟩ := ok.ex
    simp only [evE] at he
    obtain ⟨x, S2, e1, he⟩ := R.bind_ok he
    obtain ⟨y, S3, e2, he⟩ := R.bind_ok he
    obtain ⟨h, rfl⟩ := lift_ok he
    obtain ⟨k, hk', rfl⟩ := Option.map_eq_some_iff.mp h
    refine ⟨_, pe_cmpR ho ha hb hm, ?_⟩
    refine tE_two s e e1 e2 fun v w H2 m2 ex s2 e' r1 r2 => ?_
    exact hk s2 r1 r2 hk' (q _ H2 m2 ex s2 (.bl k))
theorem okEq_cases {a b : D} (h : okEq a b = true) : isPy a = true ∧ isPy b = true ∧ ddepth a ≤ 60 ∧ ddepth b ≤ 60 := by
  unfold okEq at h
  simp only [Bool.and_eq_true, decide_eq_true_eq] at h
  obtain ⟨⟨⟨h2, h3⟩, h4⟩, h5⟩ := h
  exact ⟨h2, h3, h4, h5⟩
theorem c_eq (hu : X.A.units + 66 < cLine) : CmpOk X .eq .Eq :=
  ⟨_, op_eqD (by omega), fun s r1 r2 h q => by
    simp only [cmpE] at h
    split at h
    · rename_i hz
      cases h
      obtain ⟨h1, h2, h3, h4⟩ := okEq_cases hz
      exact ⟨_, _, vw_dp s r1 h1, vw_dp s r2 h2, py_shaped h1 h3, py_shaped h2 h4, by rw [eqv_deq _ _ h1 h2]; exact q⟩
    · cases h⟩
theorem c_ne (hu : X.A.units + 66 < cLine) : CmpOk X .ne .NotEq :=
  ⟨_, op_neD (by omega), fun s r1 r2 h q => by
    simp only [cmpE] at h
    split at h
    · rename_i hz
      cases h
      obtain ⟨h1, h2, h3, h4⟩ := okEq_cases hz
      exact ⟨_, _, vw_dp s r1 h1, vw_dp s r2 h2, py_shaped h1 h3, py_shaped h2 h4, by rw [eqv_deq _ _ h1 h2]; exact q⟩
    · cases h⟩
theorem ltE_cases {a b : D} {k : Bool} (h : ltE a b = some k) : (∃ i j, a = .int i ∧ b = .int j ∧ k = decide (i < j)) ∨ (ordOk a b = true ∧ k = dlt a b) := by
  unfold ltE at h
  split at h
  · cases h
    exact .inl ⟨_, _, rfl, rfl, rfl⟩
  · split at h
    · cases h
      exact .inr ⟨by assumption, rfl⟩
    · cases h
theorem leE_cases {a b : D} {k : Bool} (h : leE a b = some k) : (∃ i j, a = .int i ∧ b = .int j ∧ k = decide (i ≤ j)) ∨ (ordOk a b = true ∧ k = !dlt b a) := by
  unfold leE at h
  split at h
  · cases h
    exact .inl ⟨_, _, rfl, rfl, rfl⟩
  · split at h
    · cases h
      exact .inr ⟨by assumption, rfl⟩
    · cases h
mutual
theorem alike_symm : ∀ {a b : D}, alike a b = true → alike b a = true
  | a, b, h => by
    cases a <;> cases b <;> first
      | (simp [alike] at h; done)
      | (simp only [alike]; done)
      | (simp only [alike] at h ⊢; exact alikes_symm h)
theorem alikes_symm : ∀ {a b : List D}, alikes a b = true → alikes b a = true
  | [], [], _ => by simp [alikes]
  | [], _ :: _, _ => by simp [alikes]
  | _ :: _, [], _ => by simp [alikes]
  | x :: xs, y :: ys, h => by
    simp only [alikes, Bool.and_eq_true] at h ⊢
    exact ⟨alike_symm h.1, alikes_symm h.2⟩
end
theorem ord_sub {K : PySem.W.Frag} {F : Addr → Prop} {H2 : Hp} {m2 : List Addr} {S2 : Store} {x y : D} {v w : V} (s : Sto K H2 F m2 S2) (r1 : Rp K H2 (Tk F m2 S2) m2 x v) (r2 : Rp K H2 (Tk F m2 S2) m2 y w) (h : ordOk (vw S2 x) (vw S2 y) = true) :
    Dp K H2 v (toPy (vw S2 x)) ∧ Dp K H2 w (toPy (vw S2 y)) ∧ PySem.W.alike (toPy (vw S2 x)) (toPy (vw S2 y)) = true ∧ toPy (vw S2 x) ≠ .none ∧ (toPy (vw S2 x)).depth ≤ 60 ∧ PySem.W.dataLt (toPy (vw S2 x)) (toPy (vw S2 y)) = dlt (vw S2 x) (vw S2 y) ∧ PySem.W.dataLt (toPy (vw S2 y)) (toPy (vw S2 x)) = dlt (vw S2 y) (vw S2 x) := by
  obtain ⟨h1, h2, h3, h4, h5, h6⟩ := ordOk_cases h
  exact ⟨vw_dp s r1 h2, vw_dp s r2 h3, by rw [py_alike _ _ h2 h3]; exact h1, toPy_ne_none h2 h6, by rw [py_depth _ h2]; exact h4, py_lt _ _ h2 h3 h1 h6, py_lt _ _ h3 h2 (alike_symm h1) (alike_symm_ne h1 h6)⟩
theorem c_lt (hu : X.A.units + 66 < cLine) : CmpOk X .lt .Lt :=
  ⟨_, op_lt.or (op_ordD (by omega) PySem.W.lt_data), fun s r1 r2 h q => by
    simp only [cmpE] at h
    rcases ltE_cases h with ⟨i, j, h1, h2, rfl⟩ | ⟨hh, rfl⟩
    · exact .inl ⟨i, j, vw_int r1 h1, vw_int r2 h2, q⟩
    · obtain ⟨p1, p2, p3, p4, p5, p6, p7⟩ := ord_sub s r1 r2 hh
      exact .inr ⟨_, _, p1, p2, p3, p4, p5, by rw [p6]; exact q⟩⟩
theorem c_gt (hu : X.A.units + 66 < cLine) : CmpOk X .gt .Gt :=
  ⟨_, op_gt.or (op_ordD (by omega) PySem.W.gt_data), fun s r1 r2 h q => by
    simp only [cmpE] at h
    rcases ltE_cases h with ⟨i, j, h1, h2, rfl⟩ | ⟨hh, rfl⟩
    · exact .inl ⟨j, i, vw_int r1 h2, vw_int r2 h1, q⟩
    · obtain ⟨p1, p2, p3, p4, p5, p6, p7⟩ := ord_sub s r2 r1 hh
      have h' := ordOk_cases hh
      exact .inr ⟨_, _, p2, p1, by rw [py_alike _ _ h'.2.2.1 h'.2.1]; exact alike_symm h'.1, toPy_ne_none h'.2.2.1 (alike_symm_ne h'.1 h'.2.2.2.2.2), by rw [py_depth _ h'.2.2.1]; exact h'.2.2.2.2.1, by rw [p6]; exact q⟩⟩
theorem c_le (hu : X.A.units + 66 < cLine) : CmpOk X .le .LtE :=
  ⟨_, op_le.or (op_ordD (by omega) PySem.W.le_data), fun s r1 r2 h q => by
    simp only [cmpE] at h
    rcases leE_cases h with ⟨i, j, h1, h2, rfl⟩ | ⟨hh, rfl⟩
    · exact .inl ⟨i, j, vw_int r1 h1, vw_int r2 h2, q⟩
    · obtain ⟨p1, p2, p3, p4, p5, p6, p7⟩ := ord_sub s r1 r2 hh
      exact .inr ⟨_, _, p1, p2, p3, p4, p5, by rw [p7]; exact q⟩⟩
theorem c_ge (hu : X.A.units + 66 < cLine) : CmpOk X .ge .GtE :=
  ⟨_, op_ge.or (op_ordD (by omega) PySem.W.ge_data), fun s r1 r2 h q => by
    simp only [cmpE] at h
    rcases leE_cases h with ⟨i, j, h1, h2, rfl⟩ | ⟨hh, rfl⟩
    · exact .inl ⟨j, i, vw_int r1 h2, vw_int r2 h1, q⟩
    · obtain ⟨p1, p2, p3, p4, p5, p6, p7⟩ := ord_sub s r2 r1 hh
      have h' := ordOk_cases hh
      exact .inr ⟨_, _, p2, p1, by rw [py_alike _ _ h'.2.2.1 h'.2.1]; exact alike_symm h'.1, toPy_ne_none h'.2.2.1 (alike_symm_ne h'.1 h'.2.2.2.2.2), by rw [py_depth _ h'.2.2.1]; exact h'.2.2.2.2.1, by rw [p7]; exact q⟩⟩
end
end NG
end

section
set_option autoImplicit false
set_option maxRecDepth 100000
set_option maxHeartbeats 1000000
namespace NG
open PySem PySem.Spec PyProof.Rows L2
variable [HasW]

/-! ## keys -/
mutual
theorem deq_key : ∀ a b : D, keyable a = true → keyable b = true → (deq a b = true ↔ toKey a = toKey b)
  | a, b, ha, hb => by
    cases a <;> first | (simp [keyable] at ha; done) | skip
    all_goals cases b <;> first | (simp [keyable] at hb; done) | skip
    case non.non => simp [deq, toKey]
    case non.bl => simp [deq, toKey]
    case non.int => simp [deq, toKey]
    case non.str => simp [deq, toKey]
    case non.tup => simp [deq, toKey]
    case bl.non => simp [deq, toKey]
    case bl.bl x y => cases x <;> cases y <;> simp [deq, toKey]
    case bl.int x y => cases x <;> simp [deq, toKey] <;> constructor <;> intro h <;> exact h.symm ▸ rfl
    case bl.str => simp [deq, toKey]
    case bl.tup => simp [deq, toKey]
    case int.non => simp [deq, toKey]
    case int.bl x y => cases y <;> simp [deq, toKey]
    case int.int => simp [deq, toKey]
    case int.str => simp [deq, toKey]
    case int.tup => simp [deq, toKey]
    case str.non => simp [deq, toKey]
    case str.bl => simp [deq, toKey]
    case str.int => simp [deq, toKey]
    case str.str x y =>
      simp only [deq, toKey, beq_iff_eq, NestedKey.text.injEq]
      constructor
      · intro h; rw [h]
      · intro h
        have := congrArg (fun z : Str => z.cps.toList) h
        simpa [toStr] using this
    case str.tup => simp [deq, toKey]
    case tup.non => simp [deq, toKey]
    case tup.bl => simp [deq, toKey]
    case tup.int => simp [deq, toKey]
    case tup.str => simp [deq, toKey]
    case tup.tup x y =>
      simp only [deq, toKey, NestedKey.tup.injEq]
      exact deqs_key x y (by simpa [keyable] using ha) (by simpa [keyable] using hb)
theorem deqs_key : ∀ a b : List D, keyables a = true → keyables b = true → (deqs a b = true ↔ toKeys a = toKeys b)
  | [], [], _, _ => by simp [deqs, toKeys]
  | [], _ :: _, _, _ => by simp [deqs, toKeys]
  | _ :: _, [], _, _ => by simp [deqs, toKeys]
  | x :: xs, y :: ys, ha, hb => by
    simp only [keyables, Bool.and_eq_true] at ha hb
    simp only [deqs, toKeys, Bool.and_eq_true, List.cons.injEq]
    rw [deq_key x y ha.1 hb.1, deqs_key xs ys ha.2 hb.2]
end
mutual
theorem key_depth : ∀ a : D, (toKey a).depth ≤ ddepth a
  | .tup xs => by
    rw [toKey, ddepth, NestedKey.depth]
    exact Nat.succ_le_succ (keys_depth xs)
  | .non => Nat.zero_le _
  | .bl _ => Nat.zero_le _
  | .int _ => Nat.zero_le _
  | .str _ => Nat.zero_le _
  | .undef => Nat.zero_le _
  | .lst _ => Nat.zero_le _
  | .dic _ _ => Nat.zero_le _
  | .scr _ => Nat.zero_le _
  | .ref _ => Nat.zero_le _
  | .exc _ _ => Nat.zero_le _
  | .clo _ _ => Nat.zero_le _
theorem keys_depth : ∀ a : List D, NestedKey.depthAll (toKeys a) ≤ ddepths a
  | [] => Nat.le_refl _
  | x :: xs => by
    rw [toKeys, NestedKey.depthAll, ddepths]
    have h1 := key_depth x
    have h2 := keys_depth xs
    omega
end
theorem isKey_t {d : D} (h : isKey true d = true) : ∃ xs, d = .tup xs ∧ keyable d = true ∧ (toKey d).depth ≤ 8 := by
  cases d <;> first | (simp [isKey] at h; done) | skip
  rename_i xs
  simp only [isKey, Bool.and_eq_true, decide_eq_true_eq] at h
  refine ⟨xs, rfl, by simpa [keyable] using h.1, ?_⟩
  have := key_depth (.tup xs)
  rw [ddepth] at this
  omega
theorem deq_tk {a b : D} (ha : isKey true a = true) (hb : isKey true b = true) : deq a b = decide (toKey a = toKey b) := by
  obtain ⟨_, _, h1, _⟩ := isKey_t ha
  obtain ⟨_, _, h2, _⟩ := isKey_t hb
  have := deq_key a b h1 h2
  by_cases h : toKey a = toKey b
  · rw [decide_eq_true h]; exact this.mpr h
  · rw [decide_eq_false h]
    cases hd : deq a b with
    | false => rfl
    | true => exact absurd (this.mp hd) h

section
variable {X : Cx} {pins : List (Addr × Obj)} {σ : L2.St} {H : Hp} {s : Shared} {T : Addr → Prop} {m : List Addr}
mutual
/-- what stands for a key is one -/
theorem rp_nested (I : Inv X pins σ H s) : ∀ {d : D} {v : V} {u : Value}, Rp X.K H T m d v → keyable d = true → RelV v u → NestedIs s.heap (toKey d) u
  | _, _, u, .non, _, r => by
    have e : u = Value.none := r
    rw [e]
    exact .none
  | _, _, u, .bl b, _, r => by
    have e : u = Value.bool b := r
    rw [e]
    exact .bool rfl
  | _, _, u, .int i, _, r => by
    obtain ⟨t, e⟩ : ∃ t, u = Value.int i t := r
    rw [e]
    exact .int i t
  | _, _, u, .str x, _, r => by
    obtain ⟨t, e⟩ : ∃ t, u = Value.str (toStr x) t := r
    rw [e]
    exact .text _ t
  | _, _, u, .tup (a := a) (xs := xs) h n q, k, r => by
    have e : u = Value.ref a := r
    rw [e, toKey]
    obtain ⟨_, its, rv, o, h1, h2, n2, h3⟩ := (show ObjOk X.prog X.w H s.heap a (.tup xs) from h.ok I.hok)
    exact .tup h1 h2 h3 (by simpa using rps_nested I q (by simpa [keyable] using k) rv)
  | _, _, u, .tupK (a := a) (xs := xs) h q, k, r => by
    have e : u = Value.ref a := r
    rw [e, toKey]
    obtain ⟨o, its, n, h1, h2, h3, h4, rv⟩ := h
    exact .tup (I.kIn a o h1) h2 h3 (rps_nested I q (by simpa [keyable] using k) rv)
  | _, _, _, .lst _ _ _, k, _ => by simp [keyable] at k
  | _, _, _, .scr _ _, k, _ => by simp [keyable] at k
  | _, _, _, .ref _, k, _ => by simp [keyable] at k
  | _, _, _, .dic _ _ _ _ _ _, k, _ => by simp [keyable] at k
  | _, _, _, .opq _ _, k, _ => by simp [keyable] at k
theorem rps_nested (I : Inv X pins σ H s) : ∀ {ds : List D} {vs : List V} {us : List Value}, Rps X.K H T m ds vs → keyables ds = true → Vals vs us → NestedAll s.heap (toKeys ds) us
  | _, _, _, .nil, _, .nil => .nil
  | _, _, _, .cons a b, k, .cons r t => by
    simp only [keyables, Bool.and_eq_true] at k
    rw [toKeys]
    exact .cons (rp_nested I a k.1 r) (rps_nested I b k.2 t)
end
end

/-! ## entries, three ways -/
inductive Tri (K : PySem.W.Frag) (H : Hp) (T : Addr → Prop) (m : List Addr) : List (D × D) → List (NestedKey × V × V) → List (NestedKey × Addr × Value) → Prop
  | nil : Tri K H T m [] [] []
  | cons {k d : D} {b : Addr} {vv : V} {u : Value} {l : List (D × D)} {es : List (NestedKey × V × V)} {xs : List (NestedKey × Addr × Value)} : isKey true k = true → Rp K H T m k (.ref b) → Rp K H T m d vv → RelV vv u → Tri K H T m l es xs →
      Tri K H T m ((k, d) :: l) ((toKey k, .ref b, vv) :: es) ((toKey k, b, u) :: xs)
theorem key_ref {K : PySem.W.Frag} {H : Hp} {T : Addr → Prop} {m : List Addr} {k : D} {v : V} (h : isKey true k = true) (r : Rp K H T m k v) : ∃ b, v = .ref b := by
  obtain ⟨xs, rfl, _, _⟩ := isKey_t h
  cases r <;> exact ⟨_, rfl⟩
theorem tri_of {K : PySem.W.Frag} {H : Hp} {T : Addr → Prop} {m : List Addr} {w : World} : ∀ {l : List (D × D)} {es : List (NestedKey × V × V)} {ds : List DictEntry}, DicR K H T m l es →
    Paired (fun (p : NestedKey × V × V) (e : DictEntry) => e.hash = p.1.hash w ∧ RelV p.2.1 e.key ∧ RelV p.2.2 e.val) es ds →
    ∃ xs, Tri K H T m l es xs ∧ ds = xs.map fun x => ⟨x.1.hash w, .ref x.2.1, x.2.2⟩
  | [], es, ds, r, p => by
    have : es = [] := by simpa using r.nk
    subst this
    cases p
    exact ⟨[], .nil, rfl⟩
  | (k, d) :: l, es, ds, r, p => by
    obtain ⟨nk, ky, ks, vs⟩ := r
    cases es with
    | nil => simp at nk
    | cons e es =>
      obtain ⟨n1, kv, vv⟩ := e
      simp only [List.map_cons, List.cons.injEq] at nk
      obtain ⟨rfl, nk⟩ := nk
      cases p with
      | cons p1 p2 =>
        rename_i en ds
        cases ks with
        | cons ka kb =>
          cases vs with
          | cons va vb =>
            have hk := ky (k, d) (List.mem_cons_self ..)
            obtain ⟨b, rfl⟩ := key_ref hk ka
            obtain ⟨xs, t, e⟩ := tri_of (l := l) ⟨nk, fun q hq => ky q (List.mem_cons_of_mem _ hq), kb, vb⟩ p2
            refine ⟨(toKey k, b, en.val) :: xs, .cons hk ka va p1.2.2 t, ?_⟩
            rw [List.map_cons, ← e]
            congr 1
            have h2 : en.key = .ref b := p1.2.1
            cases en
            simp only at h2 p1
            rw [h2, p1.1]
section
variable {K : PySem.W.Frag} {H : Hp} {T : Addr → Prop} {m : List Addr}
theorem Tri.dicR : ∀ {l : List (D × D)} {es : List (NestedKey × V × V)} {xs : List (NestedKey × Addr × Value)}, Tri K H T m l es xs → DicR K H T m l es
  | _, _, _, .nil => ⟨rfl, fun _ h => (List.not_mem_nil h).elim, .nil, .nil⟩
  | _, _, _, .cons h1 h2 h3 _ t => by
    obtain ⟨a, b, c, d⟩ := Tri.dicR t
    exact ⟨by simp [a], fun p hp => (List.mem_cons.mp hp).elim (fun z => by rw [z]; exact h1) (b p), .cons h2 c, .cons h3 d⟩
theorem Tri.keys : ∀ {l : List (D × D)} {es : List (NestedKey × V × V)} {xs : List (NestedKey × Addr × Value)}, Tri K H T m l es xs → xs.map (·.1) = es.map (·.1)
  | _, _, _, .nil => rfl
  | _, _, _, .cons _ _ _ _ t => by simp [Tri.keys t]
theorem Tri.len : ∀ {l : List (D × D)} {es : List (NestedKey × V × V)} {xs : List (NestedKey × Addr × Value)}, Tri K H T m l es xs → xs.length = l.length ∧ es.length = l.length
  | _, _, _, .nil => ⟨rfl, rfl⟩
  | _, _, _, .cons _ _ _ _ t => by simp [Tri.len t]
theorem Tri.paired {w : World} : ∀ {l : List (D × D)} {es : List (NestedKey × V × V)} {xs : List (NestedKey × Addr × Value)}, Tri K H T m l es xs →
    Paired (fun (p : NestedKey × V × V) (e : DictEntry) => e.hash = p.1.hash w ∧ RelV p.2.1 e.key ∧ RelV p.2.2 e.val) es (xs.map fun x => ⟨x.1.hash w, .ref x.2.1, x.2.2⟩)
  | _, _, _, .nil => .nil
  | _, _, _, .cons _ _ _ r t => .cons ⟨rfl, rfl, r⟩ (Tri.paired t)
/-- each key of it is one, in the heap -/
theorem Tri.is {X : Cx} {pins : List (Addr × Obj)} {σ : L2.St} {s : Shared} (I : Inv X pins σ H s) : ∀ {l : List (D × D)} {es : List (NestedKey × V × V)} {xs : List (NestedKey × Addr × Value)}, Tri X.K H T m l es xs → ∀ x ∈ xs, (nestedKind X.prog X.w).is s.heap x.1 x.2.1
  | _, _, _, .nil, x, hx => (List.not_mem_nil hx).elim
  | _, _, _, .cons h1 h2 _ _ t, x, hx => by
    rcases List.mem_cons.mp hx with rfl | hx
    · obtain ⟨_, _, hk, hd⟩ := isKey_t h1
      exact ⟨rp_nested I h2 hk rfl, hd⟩
    · exact Tri.is I t x hx
theorem Tri.get {y : D} (hy : isKey true y = true) : ∀ {l : List (D × D)} {es : List (NestedKey × V × V)} {xs : List (NestedKey × Addr × Value)}, Tri K H T m l es xs →
    (∀ d, dget y l = some d → ∃ b u vv, atKey xs (toKey y) = some (b, u) ∧ RelV vv u ∧ Rp K H T m d vv) ∧ (dget y l = none → atKey xs (toKey y) = none)
  | _, _, _, .nil => ⟨fun _ h => by simp [dget] at h, fun _ => rfl⟩
  | _, _, _, .cons (k := k) (d := d0) (b := b) (u := u) h1 h2 h3 r t => by
    obtain ⟨g1, g2⟩ := Tri.get hy t
    have e : deq y k = decide (toKey k = toKey y) := by
      rw [deq_tk hy h1]
      congr 1
      exact propext ⟨Eq.symm, Eq.symm⟩
    by_cases hk : toKey k = toKey y
    · rw [decide_eq_true hk] at e
      refine ⟨fun d h => ?_, fun h => ?_⟩
      · simp only [dget, e, if_true, Option.some.injEq] at h
        subst h
        exact ⟨b, u, _, by simp [atKey, hk], r, h3⟩
      · simp [dget, e] at h
    · rw [decide_eq_false hk] at e
      refine ⟨fun d h => ?_, fun h => ?_⟩
      · simp only [dget, e, Bool.false_eq_true, if_false] at h
        obtain ⟨b', u', vv, q1, q2⟩ := g1 d h
        exact ⟨b', u', vv, by rw [← q1]; simp [atKey, List.find?_cons, hk], q2⟩
      · simp only [dget, e, Bool.false_eq_true, if_false] at h
        rw [← g2 h]
        simp [atKey, List.find?_cons, hk]
theorem Tri.mono {H1 : Hp} {T1 : Addr → Prop} {m1 : List Addr} (q : Lt H T m H1 T1 m1) : ∀ {l : List (D × D)} {es : List (NestedKey × V × V)} {xs : List (NestedKey × Addr × Value)}, Tri K H T m l es xs → Tri K H1 T1 m1 l es xs
  | _, _, _, .nil => .nil
  | _, _, _, .cons h1 h2 h3 r t => .cons h1 (h2.mono q) (h3.mono q) r (Tri.mono q t)
theorem Tri.snoc {k d : D} {b : Addr} {vv : V} {u : Value} (h1 : isKey true k = true) (h2 : Rp K H T m k (.ref b)) (h3 : Rp K H T m d vv) (h4 : RelV vv u) : ∀ {l : List (D × D)} {es : List (NestedKey × V × V)} {xs : List (NestedKey × Addr × Value)}, Tri K H T m l es xs →
    Tri K H T m (l ++ [(k, d)]) (es ++ [(toKey k, .ref b, vv)]) (xs ++ [(toKey k, b, u)])
  | _, _, _, .nil => .cons h1 h2 h3 h4 .nil
  | _, _, _, .cons a1 a2 a3 a4 t => .cons a1 a2 a3 a4 (Tri.snoc h1 h2 h3 h4 t)
/-- putting, where there is none -/
theorem dput_new {y d : D} : ∀ {l : List (D × D)}, dget y l = none → dput y d l = l ++ [(y, d)]
  | [], _ => rfl
  | (k, v) :: l, h => by
    simp only [dget] at h
    split at h
    · cases h
    · rename_i hd
      simp only [dput, hd, Bool.false_eq_true, if_false, dput_new h, List.cons_append]
theorem putAt_none {k : NestedKey} {u : Value} : ∀ {xs : List (NestedKey × Addr × Value)}, ¬ k ∈ xs.map (·.1) → xs.map (putAt k u) = xs
  | [], _ => rfl
  | x :: xs, h => by
    simp only [List.map_cons, List.mem_cons, not_or] at h
    rw [List.map_cons, putAt_none h.2]
    congr 1
    unfold putAt
    rw [if_neg fun z => h.1 z.symm]
/-- putting, where there is one -/
theorem Tri.put {y d : D} {vv : V} {u : Value} (hy : isKey true y = true) (h3 : Rp K H T m d vv) (h4 : RelV vv u) : ∀ {l : List (D × D)} {es : List (NestedKey × V × V)} {xs : List (NestedKey × Addr × Value)}, Tri K H T m l es xs → (xs.map (·.1)).Nodup → (dget y l).isSome = true →
    ∃ es', Tri K H T m (dput y d l) es' (xs.map (putAt (toKey y) u)) ∧ es'.map (·.1) = es.map (·.1)
  | _, _, _, .nil, _, h => by simp [dget] at h
  | _, _, _, .cons (k := k) (d := d0) (b := b) (vv := vv0) (u := u0) (es := es) (xs := xs) a1 a2 a3 a4 t, nd, h => by
    have e : deq y k = decide (toKey k = toKey y) := by
      rw [deq_tk hy a1]
      congr 1
      exact propext ⟨Eq.symm, Eq.symm⟩
    simp only [List.map_cons, List.nodup_cons] at nd
    by_cases hk : toKey k = toKey y
    · rw [decide_eq_true hk] at e
      refine ⟨(toKey k, .ref b, vv) :: es, ?_, rfl⟩
      have hn := putAt_none (k := toKey y) (u := u) (xs := xs) (by rw [← hk]; exact nd.1)
      rw [List.map_cons, hn]
      simp only [dput, e, if_true]
      have : putAt (toKey y) u (toKey k, b, u0) = (toKey k, b, u) := by
        unfold putAt
        rw [if_pos hk]
      rw [this]
      exact .cons a1 a2 h3 h4 t
    · rw [decide_eq_false hk] at e
      simp only [dget, e, Bool.false_eq_true, if_false] at h
      obtain ⟨es', t', ek⟩ := Tri.put hy h3 h4 t nd.2 h
      refine ⟨(toKey k, .ref b, vv0) :: es', ?_, by simp [ek]⟩
      simp only [dput, e, Bool.false_eq_true, if_false]
      rw [List.map_cons]
      have : putAt (toKey y) u (toKey k, b, u0) = (toKey k, b, u0) := by
        unfold putAt
        rw [if_neg hk]
      rw [this]
      exact .cons a1 a2 a3 a4 t'
end
/-! ## what stands there, in the library's words -/
section
variable {X : Cx} {pins : List (Addr × Obj)} {σ : L2.St} {H : Hp} {s : Shared} {a : Addr} {T : Addr → Prop} {m : List Addr} {l : List (D × D)} {es : List (NestedKey × V × V)}
theorem dic_is (I : Inv X pins σ H s) (e : Rd H a (DicO X.w a es)) (r : DicR X.K H T m l es) :
    es.length ≤ sizeLine ∧ (a == sysModules) = false ∧ ∃ xs, Tri X.K H T m l es xs ∧ s.heap.DictOfH (nestedKind X.prog X.w) a xs := by
  obtain ⟨⟨z, y, o, ds, ep, h1, h2, h3, h4, h5⟩, _⟩ := (show ObjOk X.prog X.w H s.heap a (DicO X.w a es) from e.ok I.hok)
  obtain ⟨xs, t, e⟩ := tri_of r h4
  exact ⟨z, y, xs, t, o, ds, ep, h1, h2, h3, e, t.is I, by rw [t.keys]; exact h5⟩
theorem dic_new {P : Program} {w : World} {H' : Hp} {h' : Heap} {xs : List (NestedKey × Addr × Value)} {K : PySem.W.Frag} (z : l.length ≤ sizeLine) (hd : (a == sysModules) = false) (t : Tri K H T m l es xs) (dd : h'.DictOfH (nestedKind P w) a xs) :
    ObjOk P w H' h' a (DicO w a es) := by
  obtain ⟨o, ds, ep, h1, h2, h3, h4, _, h5⟩ := dd
  have hp : Paired (fun (p : NestedKey × V × V) (e : DictEntry) => e.hash = p.1.hash w ∧ RelV p.2.1 e.key ∧ RelV p.2.2 e.val) es ds.toList := by
    rw [h4]
    exact t.paired
  refine ⟨⟨by rw [t.len.2]; exact z, hd, o, ds, ep, h1, h2, h3, hp, by rw [← t.keys]; exact h5⟩, ⟨o, h1⟩, fun g1 g2 q k => ?_⟩
  obtain ⟨q1, q2, o', ds', ep', q3, q4⟩ := q
  exact ⟨q1, q2, o', ds', ep', k _ q3, q4⟩
/-- d[y] = v -/
theorem dic_put {b : Addr} {y d : D} {vv : V} {u : Value} {Q : Unit → Shared → Prop} {A : Around} {E : Value → Shared → Prop} (hu : A.units + 9 < cLine) (I : Inv X pins σ H s) (e : H a = some (DicO X.w a es)) (r : DicR X.K H T m l es) (hl : l.length < sizeLine)
    (hy : isKey true y = true) (ry : Rp X.K H T m y (.ref b)) (rv : Rp X.K H T m d vv) (hv : RelV vv u)
    (q : ∀ es' s', Inv X pins σ (upd H a (DicO X.w a es')) s' → DicR X.K H T m (dput y d l) es' → Q () s') : wpAny (model X.prog X.w) A (setItem (.ref a) (.ref b) u) Q E s := by
  obtain ⟨z, hd, xs, t, dd⟩ := dic_is I (.inl e) r
  have nd : (xs.map (·.1)).Nodup := dd.nodup
  have hk : (nestedKind X.prog X.w).is s.heap (toKey y) b := by
    obtain ⟨_, _, hk, hd⟩ := isKey_t hy
    exact ⟨rp_nested I ry hk rfl, hd⟩
  refine wpAny_setItem_heap (hsz := by rw [t.len.1]; omega) (show A.in1.units + 8 < cLine by rw [Around.in1_units]; omega) hk dd fun h' dd' hs => ?_
  have he : ∃ q, h'.get? a = some q := let ⟨q, _, _, hq, _⟩ := dd'; ⟨q, hq⟩
  obtain ⟨g1, g2⟩ := t.get hy
  cases hg : dget y l with
  | none =>
    rw [storedH_new (g2 hg)] at dd'
    have t' := t.snoc hy ry rv hv
    rw [← dput_new hg] at t'
    refine q _ _ (d_write I (by rw [e]; exact True.intro) hs he (dic_new (by rw [dput_new hg, List.length_append]; exact hl) hd t' dd')) t'.dicR
  | some d0 =>
    obtain ⟨b', u', vv', h1, _⟩ := g1 d0 hg
    rw [storedH_old h1] at dd'
    obtain ⟨es', t', _⟩ := t.put hy rv hv nd (by rw [hg]; rfl)
    have hl' : (dput y d l).length = l.length := by
      rw [← t'.len.1, List.length_map, t.len.1]
    exact q _ _ (d_write I (by rw [e]; exact True.intro) hs he (dic_new (by omega) hd t' dd')) t'.dicR
/-- d[y] -/
theorem dic_get {b : Addr} {y d : D} {Q : Value → Shared → Prop} {A : Around} {E : Value → Shared → Prop} (hu : A.units + 9 < cLine) (I : Inv X pins σ H s) (e : Rd H a (DicO X.w a es)) (r : DicR X.K H T m l es)
    (hy : isKey true y = true) (ry : Rp X.K H T m y (.ref b)) (hg : dget y l = some d) (q : ∀ vv u s', Inv X pins σ H s' → Rp X.K H T m d vv → RelV vv u → Q u s') : wpAny (model X.prog X.w) A (getItem (.ref a) (.ref b)) Q E s := by
  obtain ⟨z, hd, xs, t, dd⟩ := dic_is I e r
  have hk : (nestedKind X.prog X.w).is s.heap (toKey y) b := by
    obtain ⟨_, _, hk, hd⟩ := isKey_t hy
    exact ⟨rp_nested I ry hk rfl, hd⟩
  obtain ⟨b', u', vv', h1, h2, h3⟩ := (t.get hy).1 d hg
  exact wpAny_getItem_heap (show A.in1.units + 8 < cLine by rw [Around.in1_units]; omega) hk dd h1 (q vv' u' _ (I.tok _) h3 h2)
theorem dic_at {b : Addr} {y : D} (t : ∃ xs, Tri X.K H T m l es xs ∧ s.heap.DictOfH (nestedKind X.prog X.w) a xs) (hy : isKey true y = true) : ∃ xs, Tri X.K H T m l es xs ∧ s.heap.DictOfH (nestedKind X.prog X.w) a xs ∧ (atKey xs (toKey y)).isSome = (dget y l).isSome := by
  obtain ⟨xs, t, dd⟩ := t
  refine ⟨xs, t, dd, ?_⟩
  obtain ⟨g1, g2⟩ := t.get hy
  cases hg : dget y l with
  | none => rw [g2 hg]; rfl
  | some d =>
    obtain ⟨_, _, _, h, _⟩ := g1 d hg
    rw [h]
    rfl
/-- y in d -/
theorem dic_in {b : Addr} {y : D} {Q : Value → Shared → Prop} {A : Around} {E : Value → Shared → Prop} (hu : A.units + 9 < cLine) (I : Inv X pins σ H s) (e : Rd H a (DicO X.w a es)) (r : DicR X.K H T m l es)
    (hy : isKey true y = true) (ry : Rp X.K H T m y (.ref b)) (q : ∀ s', Inv X pins σ H s' → Q (.bool (dget y l).isSome) s') : wpAny (model X.prog X.w) A (compareOp .In (.ref b) (.ref a)) Q E s := by
  obtain ⟨z, hd, t⟩ := dic_is I e r
  obtain ⟨xs, t, dd, ha⟩ := dic_at (b := b) t hy
  have hk : (nestedKind X.prog X.w).is s.heap (toKey y) b := by
    obtain ⟨_, _, hk, hd⟩ := isKey_t hy
    exact ⟨rp_nested I ry hk rfl, hd⟩
  refine wpAny_in_heap (show A.in1.units + 8 < cLine by rw [Around.in1_units]; omega) hk hd dd ?_
  rw [ha]
  exact q _ (I.tok _)
theorem dic_notIn {b : Addr} {y : D} {Q : Value → Shared → Prop} {A : Around} {E : Value → Shared → Prop} (hu : A.units + 9 < cLine) (I : Inv X pins σ H s) (e : Rd H a (DicO X.w a es)) (r : DicR X.K H T m l es)
    (hy : isKey true y = true) (ry : Rp X.K H T m y (.ref b)) (q : ∀ s', Inv X pins σ H s' → Q (.bool (!(dget y l).isSome)) s') : wpAny (model X.prog X.w) A (compareOp .NotIn (.ref b) (.ref a)) Q E s := by
  obtain ⟨z, hd, t⟩ := dic_is I e r
  obtain ⟨xs, t, dd, ha⟩ := dic_at (b := b) t hy
  have hk : (nestedKind X.prog X.w).is s.heap (toKey y) b := by
    obtain ⟨_, _, hk, hd⟩ := isKey_t hy
    exact ⟨rp_nested I ry hk rfl, hd⟩
  refine wpAny_notIn_heap (show A.in1.units + 8 < cLine by rw [Around.in1_units]; omega) hk hd dd ?_
  rw [ha]
  exact q _ (I.tok _)
theorem dic_type (I : Inv X pins σ H s) (e : Rd H a (DicO X.w a es)) : s.TypeIs (.ref a) "dict" := by
  obtain ⟨⟨z, y, o, ds, ep, h1, h2, h3, h4, h5⟩, _⟩ := (show ObjOk X.prog X.w H s.heap a (DicO X.w a es) from e.ok I.hok)
  exact ⟨o, h1, h2.1⟩
end
end NG
end

section
set_option autoImplicit false
set_option maxRecDepth 100000
set_option maxHeartbeats 1000000
namespace NG
open PySem PySem.Spec PyProof.Rows L2
variable [HasW]
section
variable {Φ : Phi} {X : Cx} {pos : Pos}

/-! ## in, is -/
theorem any_dmem (x : D) (hx : isPy x = true) : ∀ l : List D, arePy l = true → ((toPys l).any fun z => PyData.eqv z (toPy x)) = dmem x l
  | [], _ => rfl
  | y :: ys, h => by
    have h' : isPy y = true ∧ arePy ys = true := by simpa [arePy] using h
    rw [toPys, List.any_cons, dmem, eqv_deq y x h'.1 hx, any_dmem x hx ys h'.2]
theorem py_shapeds {l : List D} (h : arePy l = true) (hd : ddepths l ≤ 60) : SeqAt.shaped (.list (toPys l)) = true := by
  have := py_shaped (a := .lst l) (by simpa [isPy] using h) 
  unfold SeqAt.shaped
  have h1 : (PyData.list (toPys l)).canLay0 = true := by
    simp only [PyData.canLay0]
    exact py_lays l h
  have h2 : (PyData.list (toPys l)).depth ≤ 64 := by
    simp only [PyData.depth]
    rw [py_depths l h]
    omega
  rw [h1, decide_eq_true h2]
  rfl
/-- x in a tuple, a list of data -/
theorem op_inT (hu : X.A.units + 65 < cLine) : OpR X (compareOp .In) (fun x y H Q => ∃ d ds, Dp X.K H x d ∧ Dp X.K H y (.tuple ds) ∧ SeqAt.shaped d = true ∧ SeqAt.shaped (.list ds) = true ∧ Q (.bl (ds.any fun z => PyData.eqv z d)) H) := by
  intro pins s σ H x y v u Q I rx ry h
  obtain ⟨d, ds, hd, he, sd, se, q⟩ := h
  obtain ⟨as, r1⟩ := Dp.reads I d x v hd rx
  obtain ⟨bs, r2⟩ := Dp.reads I (.tuple ds) y u he ry
  exact SeqAt.in_tuple_reads r2 r1 (SeqAt.canLay_of_shaped se) (SeqAt.canLay_of_shaped sd) (room_in_shaped sd hu) ⟨.bl _, H, I, rfl, q⟩
theorem op_notInT (hu : X.A.units + 65 < cLine) : OpR X (compareOp .NotIn) (fun x y H Q => ∃ d ds, Dp X.K H x d ∧ Dp X.K H y (.tuple ds) ∧ SeqAt.shaped d = true ∧ SeqAt.shaped (.list ds) = true ∧ Q (.bl (!ds.any fun z => PyData.eqv z d)) H) := by
  intro pins s σ H x y v u Q I rx ry h
  obtain ⟨d, ds, hd, he, sd, se, q⟩ := h
  obtain ⟨as, r1⟩ := Dp.reads I d x v hd rx
  obtain ⟨bs, r2⟩ := Dp.reads I (.tuple ds) y u he ry
  exact SeqAt.notIn_tuple_reads r2 r1 (SeqAt.canLay_of_shaped se) (SeqAt.canLay_of_shaped sd) (room_in_shaped sd hu) ⟨.bl _, H, I, rfl, q⟩
theorem sign_len (c : Nat) : (toStr [c]).length = 1 := toStr_len [c]
theorem inE_cases {x c : D} {k : Bool} (h : inE x c = some k) : (∃ l, (c = .tup l ∨ c = .lst l) ∧ isPy x = true ∧ arePy l = true ∧ ddepth x ≤ 60 ∧ ddepths l ≤ 60 ∧ k = dmem x l) ∨ (∃ t l, c = .dic t l ∧ isKey t x = true ∧ k = (dget x l).isSome) ∨ (∃ s y, c = .str s ∧ x = .str [y] ∧ k = s.contains y) := by
  unfold inE at h
  split at h
  · split at h
    · rename_i hz
      simp only [Bool.and_eq_true, decide_eq_true_eq] at hz
      cases h
      exact .inl ⟨_, .inl rfl, hz.1.1.1, hz.1.1.2, hz.1.2, hz.2, rfl⟩
    · cases h
  · split at h
    · rename_i hz
      simp only [Bool.and_eq_true, decide_eq_true_eq] at hz
      cases h
      exact .inl ⟨_, .inr rfl, hz.1.1.1, hz.1.1.2, hz.1.2, hz.2, rfl⟩
    · cases h
  · split at h
    · rename_i hk
      cases h
      exact .inr (.inl ⟨_, _, rfl, hk, rfl⟩)
    · cases h
  · split at h
    · cases h
      exact .inr (.inr ⟨_, _, rfl, rfl, rfl⟩)
    · cases h
  · cases h
theorem vw_dpl {K : PySem.W.Frag} {H : Hp} {F : Addr → Prop} {m : List Addr} {S : Store} {d : D} {v : V} {l : List D} (s : Sto K H F m S) (r : Rp K H (Tk F m S) m d v) (h : arePy l = true) :
    (vw S d = .lst l → Dp K H v (.list (toPys l))) ∧ (vw S d = .tup l → Dp K H v (.tuple (toPys l))) := by
  refine ⟨fun e => ?_, fun e => ?_⟩
  · have := vw_dp s r (by rw [e]; simpa [isPy] using h)
    rw [e, toPy] at this
    exact this
  · have := vw_dp s r (by rw [e]; simpa [isPy] using h)
    rw [e, toPy] at this
    exact this
/-- a dict's view -/
theorem vw_dic {K : PySem.W.Frag} {H : Hp} {F : Addr → Prop} {m : List Addr} {S : Store} {d : D} {v : V} {t : Bool} {l : List (D × D)} (s : Sto K H F m S) (r : Rp K H (Tk F m S) m d v) (h : vw S d = .dic t l) :
    t = true ∧ ∃ a es, v = .ref a ∧ Rd H a (DicO HasW.w a es) ∧ DicR K H (Tk F m S) m l es := by
  rcases vw_cases s r with ⟨e, n⟩ | ⟨n, a, rfl, rfl, hm⟩
  · rw [e] at h
    subst h
    cases r with
    | dic h1 h2 h3 h4 h5 h6 => exact ⟨rfl, _, _, rfl, .inr ⟨_, h1⟩, h3, h4, h5, h6⟩
  · simp only [vw] at h
    cases q : S[n]? with
    | none => rw [q] at h; cases h
    | some c =>
      rw [q] at h
      rcases s.plain n c q with ⟨l', rfl⟩ | rfl | ⟨l', rfl⟩
      · cases h
      · cases h
      · cases h
        obtain ⟨es, h1, h2⟩ := s.dic n a _ hm q
        exact ⟨rfl, a, es, rfl, .inl h1, h2⟩
/-- a key's address -/
theorem vw_key {K : PySem.W.Frag} {H : Hp} {F : Addr → Prop} {m : List Addr} {S : Store} {d : D} {v : V} (s : Sto K H F m S) (r : Rp K H (Tk F m S) m d v) (h : isKey true (vw S d) = true) :
    ∃ b, v = .ref b ∧ Rp K H (Tk F m S) m (vw S d) (.ref b) := by
  obtain ⟨xs, e, _, _⟩ := isKey_t h
  have e' := vw_ne_ref e ⟨(fun z => by cases z), (fun _ z => by cases z), fun _ _ z => by cases z⟩
  subst e'
  obtain ⟨b, rfl⟩ := key_ref (by rw [← e]; exact h) r
  exact ⟨b, rfl, by rw [e]; exact r⟩
def rInDic (K : PySem.W.Frag) (neg : Bool) : R2 := fun x y H Q => ∃ (a b : Addr) (es : List (NestedKey × V × V)) (l : List (D × D)) (d : D) (T : Addr → Prop) (m : List Addr), x = .ref b ∧ y = .ref a ∧ Rd H a (DicO HasW.w a es) ∧ DicR K H T m l es ∧ isKey true d = true ∧ Rp K H T m d (.ref b) ∧ Q (.bl ((dget d l).isSome != neg)) H
theorem op_inDic (hu : X.A.units + 9 < cLine) (hw : X.w = HasW.w) : OpR X (compareOp .In) (rInDic X.K false) := fun pins s σ H x y v u Q I rx ry h => by
  obtain ⟨a, b, es, l, d, T, m, rfl, rfl, e, r, hk, rk, q⟩ := h
  rw [← hw] at e
  cases (show v = Value.ref b from rx)
  cases (show u = Value.ref a from ry)
  exact dic_in hu I e r hk rk fun s1 I1 => ⟨.bl (dget d l).isSome, H, I1, rfl, by simpa using q⟩
theorem op_notInDic (hu : X.A.units + 9 < cLine) (hw : X.w = HasW.w) : OpR X (compareOp .NotIn) (rInDic X.K true) := fun pins s σ H x y v u Q I rx ry h => by
  obtain ⟨a, b, es, l, d, T, m, rfl, rfl, e, r, hk, rk, q⟩ := h
  rw [← hw] at e
  cases (show v = Value.ref b from rx)
  cases (show u = Value.ref a from ry)
  exact dic_notIn hu I e r hk rk fun s1 I1 => ⟨.bl (!(dget d l).isSome), H, I1, rfl, by simpa using q⟩
theorem c_in (hu : X.A.units + 66 < cLine) (hw : X.w = HasW.w) : CmpOk X .isin .In :=
  ⟨_, ((op_inD (by omega)).or ((op_inT (by omega)).or op_in_sign)).or (op_inDic (by omega) hw), fun s r1 r2 h q => by
    simp only [cmpE] at h
    rcases inE_cases h with ⟨l, hl, h1, h2, h3, h4, rfl⟩ | ⟨t, l, hl, hk, rfl⟩ | ⟨s', y, h1, h2, rfl⟩
    · have hp := vw_dpl s r2 h2
      rcases hl with hl | hl
      · exact .inl (.inr (.inl ⟨_, _, vw_dp s r1 h1, hp.2 hl, py_shaped h1 h3, py_shapeds h2 h4, by rw [any_dmem _ h1 l h2]; exact q⟩))
      · exact .inl (.inl ⟨_, _, vw_dp s r1 h1, hp.1 hl, py_shaped h1 h3, py_shapeds h2 h4, by rw [any_dmem _ h1 l h2]; exact q⟩)
    · obtain ⟨rfl, a, es, rfl, h1, h2⟩ := vw_dic s r2 hl
      obtain ⟨b, rfl, rb⟩ := vw_key s r1 hk
      exact .inr ⟨a, b, es, l, _, _, _, rfl, rfl, h1, h2, hk, rb, by simpa using q⟩
    · refine .inl (.inr (.inr ⟨y, toStr s', vw_str r1 h2, vw_str r2 h1, ?_⟩))
      have e : decide (y ∈ (toStr s').cps.toList) = s'.contains y := by
        unfold toStr
        rw [List.contains_eq_mem]
      rw [e]
      exact q⟩
theorem c_notin (hu : X.A.units + 66 < cLine) (hw : X.w = HasW.w) : CmpOk X .notin .NotIn :=
  ⟨_, ((op_notInD (by omega)).or ((op_notInT (by omega)).or op_notIn_sign)).or (op_notInDic (by omega) hw), fun s r1 r2 h q => by
    simp only [cmpE] at h
    obtain ⟨k', hh, rfl⟩ := Option.map_eq_some_iff.mp h
    rcases inE_cases hh with ⟨l, hl, h1, h2, h3, h4, rfl⟩ | ⟨t, l, hl, hk, rfl⟩ | ⟨s', y, h1, h2, rfl⟩
    · have hp := vw_dpl s r2 h2
      rcases hl with hl | hl
      · exact .inl (.inr (.inl ⟨_, _, vw_dp s r1 h1, hp.2 hl, py_shaped h1 h3, py_shapeds h2 h4, by rw [any_dmem _ h1 l h2]; exact q⟩))
      · exact .inl (.inl ⟨_, _, vw_dp s r1 h1, hp.1 hl, py_shaped h1 h3, py_shapeds h2 h4, by rw [any_dmem _ h1 l h2]; exact q⟩)
    · obtain ⟨rfl, a, es, rfl, h1, h2⟩ := vw_dic s r2 hl
      obtain ⟨b, rfl, rb⟩ := vw_key s r1 hk
      exact .inr ⟨a, b, es, l, _, _, _, rfl, rfl, h1, h2, hk, rb, by simpa using q⟩
    · refine .inl (.inr (.inr ⟨y, toStr s', vw_str r1 h2, vw_str r2 h1, ?_⟩))
      have e : decide (y ∈ (toStr s').cps.toList) = s'.contains y := by
        unfold toStr
        rw [List.contains_eq_mem]
      rw [e]
      exact q⟩
/-- is, is not: of None, of True and False -/
theorem rp_non {K : PySem.W.Frag} {H : Hp} {T : Addr → Prop} {m : List Addr} {d : D} {v : V} (r : Rp K H T m d v) : v = .non ↔ d = .non := by
  cases r <;> simp
theorem isE_sub {K : PySem.W.Frag} {H2 : Hp} {F : Addr → Prop} {m2 : List Addr} {S2 : Store} {x y : D} {v w : V} {k : Bool} (s : Sto K H2 F m2 S2) (r1 : Rp K H2 (Tk F m2 S2) m2 x v) (r2 : Rp K H2 (Tk F m2 S2) m2 y w) (h : isE (vw S2 x) (vw S2 y) = some k) :
    (w = .non ∧ decide (v = .non) = k) ∨ ∃ a b : Bool, v = .bl a ∧ w = .bl b ∧ k = decide (a = b) := by
  unfold isE at h
  split at h
  · rename_i hy
    have hw := vw_non r2 hy
    refine .inl ⟨hw, ?_⟩
    split at h
    · rename_i hx
      cases h
      rw [vw_non r1 hx]
      rfl
    · cases h
    · rename_i hx hx2
      cases h
      refine decide_eq_false fun z => hx ?_
      have := (rp_non r1).mp z
      subst this
      rfl
  · rename_i hy
    have hw := vw_bl r2 hy
    split at h
    · rename_i hx
      cases h
      refine .inr ⟨_, _, vw_bl r1 hx, hw, ?_⟩
      rename_i q p
      cases p <;> cases q <;> rfl
    · cases h
  · cases h
theorem c_is : CmpOk X .is .Is :=
  ⟨_, op_isN.or op_isBl, fun {F H2 m2 S2 x y v w k Q} s r1 r2 h q => by
    simp only [cmpE] at h
    rcases isE_sub s r1 r2 h with ⟨h1, rfl⟩ | ⟨a, b, h1, h2, rfl⟩
    · exact .inl ⟨h1, q⟩
    · exact .inr ⟨a, b, h1, h2, q⟩⟩
theorem c_isnot : CmpOk X .isnot .IsNot :=
  ⟨_, op_notN.or op_notBl, fun {F H2 m2 S2 x y v w k Q} s r1 r2 h q => by
    simp only [cmpE] at h
    obtain ⟨k', hh, rfl⟩ := Option.map_eq_some_iff.mp h
    rcases isE_sub s r1 r2 hh with ⟨h1, rfl⟩ | ⟨a, b, h1, h2, rfl⟩
    · exact .inl ⟨h1, q⟩
    · exact .inr ⟨a, b, h1, h2, q⟩⟩

/-! ## truth, tests -/
theorem vw_tru {K : PySem.W.Frag} {H : Hp} {F : Addr → Prop} {m : List Addr} {S : Store} {d : D} {v : V} {b : Bool} (s : Sto K H F m S) (r : Rp K H (Tk F m S) m d v) (h : truthy (vw S d) = some b) : TruV K v H b := by
  generalize hx : vw S d = x at h
  cases x <;> first | (exfalso; cases h; done) | skip
  · cases h
    rw [vw_non r hx]
    rfl
  · cases h
    rw [vw_bl r hx]
    rfl
  · cases h
    rw [vw_int r hx]
    rfl
  · simp only [truthy] at h
    split at h
    · rename_i hz
      cases h
      rw [vw_str r hx]
      refine ⟨by rw [toStr_len, ← line_LIM]; exact hz, ?_⟩
      rw [toStr_len]
      rename_i l
      cases l <;> simp
      omega
    · cases h
  · cases h
    obtain ⟨a, xs, rfl, h1, h2⟩ := vw_tup r hx
    refine .inr (.inl ⟨xs, h1.sq, ?_⟩)
    cases h2 <;> rfl
  · cases h
    obtain ⟨a, xs, rfl, h1, h2⟩ := vw_lst s r hx
    refine .inl ⟨xs, sqL_of_rd h1, ?_⟩
    cases h2 <;> rfl
/-- a test's reading -/
def tT (Φ : Phi) (K : PySem.W.Frag) (c : CE) : TT := fun σ H Q => ∃ F m S ρ d S1 b, Sto K H F m S ∧ EnvR K H (Tk F m S) m ρ σ ∧ evE Φ c ρ S = .ok d S1 ∧ truthy (vw S1 d) = some b ∧
  ∀ H1 m1, Ex H m S H1 m1 S1 → Sto K H1 F m1 S1 → Q b H1
theorem tT_one {K : PySem.W.Frag} {F : Addr → Prop} {H : Hp} {m : List Addr} {S S1 : Store} {ρ : Env} {σ : L2.St} {a : CE} {x : D} {b : Bool} {Q : Bool → Hp → Prop} (s : Sto K H F m S) (e : EnvR K H (Tk F m S) m ρ σ) (ha : evE Φ a ρ S = .ok x S1) (hb : truthy (vw S1 x) = some b)
    (k : ∀ H1 m1, Ex H m S H1 m1 S1 → Sto K H1 F m1 S1 → EnvR K H1 (Tk F m1 S1) m1 ρ σ → Q b H1) : tT Φ K a σ H Q :=
  ⟨F, m, S, ρ, x, S1, b, s, e, ha, hb, fun H1 m1 ex s1 => k H1 m1 ex s1 (e.mono ex.lt)⟩
theorem t_plain {a : Expr} {c : CE} (ha : PE X a (tE Φ X.K c)) (he : ∀ whole, isTrue a X.env whole = (do let v ← whole; standAt a.pos; holding [v] (PySem.truthy v))) : PT X a (tT Φ X.K c) :=
  PT.pick fun σ H Q ⟨F, m, S, ρ, d, S1, b, s, e, hev, hb, q⟩ => by
    refine ⟨_, pt_truth ha he, ?_⟩
    exact tE_one s e hev fun v H1 m1 ex s1 e1 r1 => ⟨b, vw_tru s1 r1 hb, q H1 m1 ex s1⟩
theorem t_not {a : Expr} {c : CE} (ha : PT X a (tT Φ X.K c)) : PT X (.UnaryOp .Not a pos) (tT Φ X.K (.not c)) :=
  PT.pick fun σ H Q ⟨F, m, S, ρ, d, S1, b, s, e, hev, hb, q⟩ => by
    simp only [evE] at hev
    obtain ⟨x, S2, h1, hev⟩ := R.bind_ok hev
    cases hx : truthy (vw S2 x) with
    | none => rw [hx] at hev; cases hev
    | some k =>
      rw [hx] at hev
      cases hev
      cases hb
      refine ⟨_, pt_not ha, ?_⟩
      exact tT_one s e h1 hx fun H1 m1 ex s1 e1 => q H1 m1 ex s1
theorem s_not {a : Expr} {c : CE} (ha : PE X a (tE Φ X.K c)) : PE X (.UnaryOp .Not a pos) (tE Φ X.K (.not c)) :=
  PE.pick fun σ H Q ⟨F, m, S, ρ, d, S1, s, e, hev, q⟩ => by
    simp only [evE] at hev
    obtain ⟨x, S2, h1, hev⟩ := R.bind_ok hev
    cases hx : truthy (vw S2 x) with
    | none => rw [hx] at hev; cases hev
    | some k =>
      rw [hx] at hev
      cases hev
      refine ⟨_, pe_notT ha, ?_⟩
      exact tE_one s e h1 fun v H1 m1 ex s1 e1 r1 => ⟨k, vw_tru s1 r1 hx, q _ H1 m1 ex s1 (.bl _)⟩
theorem s_and {a b : Expr} {rest : List Expr} {ca cb : CE} (ha : PE X a (tE Φ X.K ca)) (hb : PE X (.BoolOp .And (b :: rest) pos) (tE Φ X.K cb)) : PE X (.BoolOp .And (a :: b :: rest) pos) (tE Φ X.K (.and ca cb)) :=
  PE.pick fun σ H Q ⟨F, m, S, ρ, d, S1, s, e, hev, q⟩ => by
    simp only [evE] at hev
    obtain ⟨x, S2, h1, hev⟩ := R.bind_ok hev
    cases hx : truthy (vw S2 x) with
    | none => rw [hx] at hev; cases hev
    | some k =>
      rw [hx] at hev
      refine ⟨_, pe_andT ha hb, ?_⟩
      refine tE_one s e h1 fun v H1 m1 ex s1 e1 r1 => ⟨k, vw_tru s1 r1 hx, ?_⟩
      cases k with
      | true =>
        rw [if_pos rfl]
        exact tE_one s1 e1 hev fun w H2 m2 ex2 s2 e2 r2 => q w H2 m2 (ex.trans ex2) s2 r2
      | false =>
        rw [if_neg Bool.false_ne_true]
        cases hev
        exact q v H1 m1 ex s1 r1
theorem s_or {a b : Expr} {rest : List Expr} {ca cb : CE} (ha : PE X a (tE Φ X.K ca)) (hb : PE X (.BoolOp .Or (b :: rest) pos) (tE Φ X.K cb)) : PE X (.BoolOp .Or (a :: b :: rest) pos) (tE Φ X.K (.or ca cb)) :=
  PE.pick fun σ H Q ⟨F, m, S, ρ, d, S1, s, e, hev, q⟩ => by
    simp only [evE] at hev
    obtain ⟨x, S2, h1, hev⟩ := R.bind_ok hev
    cases hx : truthy (vw S2 x) with
    | none => rw [hx] at hev; cases hev
    | some k =>
      rw [hx] at hev
      refine ⟨_, pe_orT ha hb, ?_⟩
      refine tE_one s e h1 fun v H1 m1 ex s1 e1 r1 => ⟨k, vw_tru s1 r1 hx, ?_⟩
      cases k with
      | false =>
        rw [if_neg Bool.false_ne_true]
        exact tE_one s1 e1 hev fun w H2 m2 ex2 s2 e2 r2 => q w H2 m2 (ex.trans ex2) s2 r2
      | true =>
        rw [if_pos rfl]
        cases hev
        exact q v H1 m1 ex s1 r1
/-- the tests and, or, whatever the whole is -/
theorem PW.pick {e : Expr} {t : TT} (h : ∀ σ H Q, t σ H Q → ∃ t', PW X e t' ∧ t' σ H Q) : PW X e t :=
  ⟨fun whole pins s σ H Q I q => by
    obtain ⟨t', p, q'⟩ := h σ H Q q
    exact p.run whole pins s σ H Q I q'⟩
theorem w_and {a b : Expr} {rest : List Expr} {ca cb : CE} (ha : PT X a (tT Φ X.K ca)) (hb : PW X (.BoolOp .And (b :: rest) pos) (tT Φ X.K cb)) : PW X (.BoolOp .And (a :: b :: rest) pos) (tT Φ X.K (.and ca cb)) :=
  PW.pick fun σ H Q ⟨F, m, S, ρ, d, S1, b, s, e, hev, hb', q⟩ => by
    simp only [evE] at hev
    obtain ⟨x, S2, h1, hev⟩ := R.bind_ok hev
    cases hx : truthy (vw S2 x) with
    | none => rw [hx] at hev; cases hev
    | some k =>
      rw [hx] at hev
      refine ⟨_, pw_and ha hb, ?_⟩
      refine tT_one s e h1 hx fun H1 m1 ex s1 e1 => ?_
      cases k with
      | true =>
        show if true = true then _ else _
        rw [if_pos rfl]
        exact tT_one s1 e1 hev hb' fun H2 m2 ex2 s2 e2 => q H2 m2 (ex.trans ex2) s2
      | false =>
        show if false = true then _ else _
        rw [if_neg Bool.false_ne_true]
        cases hev
        rw [hx] at hb'
        cases hb'
        exact q H1 m1 ex s1
theorem w_or {a b : Expr} {rest : List Expr} {ca cb : CE} (ha : PT X a (tT Φ X.K ca)) (hb : PW X (.BoolOp .Or (b :: rest) pos) (tT Φ X.K cb)) : PW X (.BoolOp .Or (a :: b :: rest) pos) (tT Φ X.K (.or ca cb)) :=
  PW.pick fun σ H Q ⟨F, m, S, ρ, d, S1, b, s, e, hev, hb', q⟩ => by
    simp only [evE] at hev
    obtain ⟨x, S2, h1, hev⟩ := R.bind_ok hev
    cases hx : truthy (vw S2 x) with
    | none => rw [hx] at hev; cases hev
    | some k =>
      rw [hx] at hev
      refine ⟨_, pw_or ha hb, ?_⟩
      refine tT_one s e h1 hx fun H1 m1 ex s1 e1 => ?_
      cases k with
      | false =>
        show if false = true then _ else _
        rw [if_neg Bool.false_ne_true]
        exact tT_one s1 e1 hev hb' fun H2 m2 ex2 s2 e2 => q H2 m2 (ex.trans ex2) s2
      | true =>
        show if true = true then _ else _
        rw [if_pos rfl]
        cases hev
        rw [hx] at hb'
        cases hb'
        exact q H1 m1 ex s1
theorem s_ite {c a b : Expr} {cc ca cb : CE} (hc : PT X c (tT Φ X.K cc)) (ha : PE X a (tE Φ X.K ca)) (hb : PE X b (tE Φ X.K cb)) : PE X (.IfExp c a b pos) (tE Φ X.K (.ite cc ca cb)) :=
  PE.pick fun σ H Q ⟨F, m, S, ρ, d, S1, s, e, hev, q⟩ => by
    simp only [evE] at hev
    obtain ⟨x, S2, h1, hev⟩ := R.bind_ok hev
    cases hx : truthy (vw S2 x) with
    | none => rw [hx] at hev; cases hev
    | some k =>
      rw [hx] at hev
      refine ⟨_, pe_ifExp hc ha hb, ?_⟩
      refine tT_one s e h1 hx fun H1 m1 ex s1 e1 => ?_
      cases k with
      | true =>
        show if true = true then _ else _
        rw [if_pos rfl]
        exact tE_one s1 e1 hev fun w H2 m2 ex2 s2 e2 r2 => q w H2 m2 (ex.trans ex2) s2 r2
      | false =>
        show if false = true then _ else _
        rw [if_neg Bool.false_ne_true]
        exact tE_one s1 e1 hev fun w H2 m2 ex2 s2 e2 r2 => q w H2 m2 (ex.trans ex2) s2 r2
theorem t_cmp {o : COp} {co : CmpOp} {a b : Expr} {ca cb : CE} (ok : CmpOk X o co) (hm : behindInMarks co b = false)
    (ha : PE X a (tE Φ X.K ca)) (hb : PE X b (tE Φ X.K cb)) : PT X (.Compare a [co] [b] pos) (tT Φ X.K (.cmp o ca cb)) :=
  PT.pick fun σ H Q ⟨F, m, S, ρ, d, S1, b, s, e, he, hb', q⟩ => by
    obtain ⟨r, ho, hk⟩ := ok.ex
    simp only [evE] at he
    obtain ⟨x, S2, e1, he⟩ := R.bind_ok he
    obtain ⟨y, S3, e2, he⟩ := R.bind_ok he
    obtain ⟨h, rfl⟩ := lift_ok he
    obtain ⟨k, hk', rfl⟩ := Option.map_eq_some_iff.mp h
    cases hb'
    refine ⟨_, pt_cmpR ho ha hb hm, ?_⟩
    refine tE_two s e e1 e2 fun v w H2 m2 ex s2 e' r1 r2 => ?_
    exact hk s2 r1 r2 hk' ⟨_, rfl, q H2 m2 ex s2⟩
end
end NG
end

section
set_option autoImplicit false
set_option maxRecDepth 100000
set_option maxHeartbeats 1000000
namespace NG
open PySem PySem.Spec PyProof.Rows L2
variable [HasW]
section
variable {Φ : Phi} {X : Cx} {pos : Pos}

theorem s_neg {a : Expr} {c : CE} (ha : PE X a (tE Φ X.K c)) : PE X (.UnaryOp .USub a pos) (tE Φ X.K (.neg c)) :=
  PE.pick fun σ H Q ⟨F, m, S, ρ, d, S1, s, e, hev, q⟩ => by
    simp only [evE] at hev
    obtain ⟨x, S2, h1, hev⟩ := R.bind_ok hev
    cases x <;> first | (exfalso; cases hev; done) | skip
    cases hev
    refine ⟨_, pe_un un_neg ha, ?_⟩
    exact tE_one s e h1 fun v H1 m1 ex s1 e1 r1 => ⟨_, vw_int (m := m1) (S := S1) r1 rfl, q _ H1 m1 ex s1 (.int _)⟩

/-! ## chains -/
theorem s_cmp2 {o o' : COp} {co co' : CmpOp} {a b c : Expr} {ca cb cc : CE} (ok : CmpOk X o co) (ok' : CmpOk X o' co') (hm : lastMarks [co, co'] [b, c] = false)
    (ha : PE X a (tE Φ X.K ca)) (hb : PE X b (tE Φ X.K cb)) (hc : PE X c (tE Φ X.K cc)) : PE X (.Compare a [co, co'] [b, c] pos) (tE Φ X.K (.cmp2 o o' ca cb cc)) :=
  PE.pick fun σ H Q ⟨F, m, S, ρ, d, S1, s, e, he, q⟩ => by
    obtain ⟨r, ho, hk⟩ := ok.ex
    obtain ⟨r', ho', hk'⟩ := ok'.ex
    simp only [evE] at he
    obtain ⟨x, S2, e1, he⟩ := R.bind_ok he
    obtain ⟨y, S3, e2, he⟩ := R.bind_ok he
    refine ⟨_, pe_chain ho ho' ha hb hc hm, ?_⟩
    refine tE_two s e e1 e2 fun v w H2 m2 ex s2 e' r1 r2 => ?_
    cases h : cmpE o (vw S3 x) (vw S3 y) with
    | none => rw [h] at he; cases he
    | some k =>
      rw [h] at he
      refine hk (Q := fun z H3 => ∃ k, z = .bl k ∧ (if k = true then tE Φ X.K cc σ H3 fun w' H4 => r' w w' H4 Q else Q (.bl false) H3)) s2 r1 r2 h ⟨k, rfl, ?_⟩
      cases k with
      | true =>
        rw [if_pos rfl]
        obtain ⟨z, S4, e3, he⟩ := R.bind_ok he
        obtain ⟨h4, rfl⟩ := lift_ok he
        obtain ⟨k', hk4, rfl⟩ := Option.map_eq_some_iff.mp h4
        exact tE_one s2 e' e3 fun w' H4 m4 ex4 s4 e4 r4 => hk' s4 (r2.mono ex4.lt) r4 hk4 (q _ H4 m4 (ex.trans ex4) s4 (.bl _))
      | false =>
        rw [if_neg Bool.false_ne_true]
        cases he
        exact q _ H2 m2 ex s2 (.bl false)
theorem t_cmp2 {o o' : COp} {co co' : CmpOp} {a b c : Expr} {ca cb cc : CE} (ok : CmpOk X o co) (ok' : CmpOk X o' co') (hm : lastMarks [co, co'] [b, c] = false)
    (ha : PE X a (tE Φ X.K ca)) (hb : PE X b (tE Φ X.K cb)) (hc : PE X c (tE Φ X.K cc)) : PT X (.Compare a [co, co'] [b, c] pos) (tT Φ X.K (.cmp2 o o' ca cb cc)) :=
  PT.pick fun σ H Q ⟨F, m, S, ρ, d, S1, b', s, e, he, hb', q⟩ => by
    obtain ⟨r, ho, hk⟩ := ok.ex
    obtain ⟨r', ho', hk'⟩ := ok'.ex
    simp only [evE] at he
    obtain ⟨x, S2, e1, he⟩ := R.bind_ok he
    obtain ⟨y, S3, e2, he⟩ := R.bind_ok he
    refine ⟨_, pt_chain ho ho' ha hb hc hm, ?_⟩
    refine tE_two s e e1 e2 fun v w H2 m2 ex s2 e' r1 r2 => ?_
    cases h : cmpE o (vw S3 x) (vw S3 y) with
    | none => rw [h] at he; cases he
    | some k =>
      rw [h] at he
      refine hk (Q := fun z H3 => ∃ k, z = .bl k ∧ (if k = true then tE Φ X.K cc σ H3 fun w' H4 => r' w w' H4 _ else _)) s2 r1 r2 h ⟨k, rfl, ?_⟩
      cases k with
      | true =>
        rw [if_pos rfl]
        obtain ⟨z, S4, e3, he⟩ := R.bind_ok he
        obtain ⟨h4, rfl⟩ := lift_ok he
        obtain ⟨k', hk4, rfl⟩ := Option.map_eq_some_iff.mp h4
        cases hb'
        exact tE_one s2 e' e3 fun w' H4 m4 ex4 s4 e4 r4 => hk' s4 (r2.mono ex4.lt) r4 hk4 ⟨_, rfl, q H4 m4 (ex.trans ex4) s4⟩
      | false =>
        rw [if_neg Bool.false_ne_true]
        cases he
        cases hb'
        exact ⟨_, rfl, q H2 m2 ex s2⟩

/-! ## places, slices -/
theorem ixN_norm (i : Int) (n : Nat) : ixN n i = normIx i n := by
  unfold ixN normIx
  by_cases h : i < 0
  · rw [if_neg (by omega), if_pos h]
    by_cases h2 : -(n : Int) ≤ i
    · rw [if_pos h2, if_pos (by omega)]
    · rw [if_neg h2, if_neg (by omega)]
  · rw [if_pos (by omega), if_neg h]
theorem atI_atIx {α : Type} (l : List α) (i : Int) : atI l i = atIx l i := by
  unfold atI atIx
  rw [ixN_norm]
  cases normIx i l.length <;> rfl
theorem atIx_rp {K : PySem.W.Frag} {H : Hp} {T : Addr → Prop} {m : List Addr} {l : List D} {xs : List V} {i : Int} {d : D} (r : Rps K H T m l xs) (h : atIx l i = some d) : ∃ v, atI xs i = some v ∧ Rp K H T m d v := by
  rw [atI_atIx]
  unfold atIx at h ⊢
  rw [← r.length]
  cases q : normIx i l.length with
  | none => rw [q] at h; cases h
  | some k =>
    rw [q] at h
    exact r.get h
def rIxDic (K : PySem.W.Frag) : R2 := fun x y H Q => ∃ (a b : Addr) (es : List (NestedKey × V × V)) (l : List (D × D)) (k d : D) (T : Addr → Prop) (m : List Addr), x = .ref a ∧ y = .ref b ∧ Rd H a (DicO HasW.w a es) ∧ DicR K H T m l es ∧ isKey true k = true ∧ Rp K H T m k (.ref b) ∧ dget k l = some d ∧ ∀ v, Rp K H T m d v → Q v H
theorem ix_dic (hu : X.A.units + 9 < cLine) (hw : X.w = HasW.w) : IxR X (rIxDic X.K) := by
  intro value slice pins s σ H x y v u Q I rx ry h hs
  obtain ⟨a, b, es, l, k, d, T, m, rfl, rfl, e, r, hk, rk, hg, q⟩ := h
  rw [← hw] at e
  cases (show v = Value.ref a from rx)
  cases (show u = Value.ref b from ry)
  have hT := dic_type I e
  have h₂ : wpAny (model X.prog X.w) X.A (getItem (.ref a) (.ref b)) (EP X pins σ Q) X.xe s := dic_get hu I e r hk rk hg fun vv u s' I' r' rv => ⟨vv, H, I', rv, q vv r'⟩
  unfold subscriptTail
  refine wpAny_bind ?_
  rw [getitemInPython_of_ne hT.not_modules]
  refine wpAny_bind (wpAny_specialOf hT PySem.F.slot_dict_getitem.lookup ?_)
  have fin : wpAny (model X.prog X.w) X.A (subscripted slice false (.ref a) (.ref b)) (fun r s₃ => wpAny (model X.prog X.w) X.A (letTemporaryGo value (.ref a) r >>= fun _ => pure r) (EP X pins σ Q) X.xe s₃) X.xe s := by
    rw [hs]
    exact wpAny_operating (wpAny_mono h₂ (fun r s₃ h₃ => wpAny_bind (wpAny_letTemporaryGo (wpAny_pure h₃))) fun _ _ x => x)
  first
    | exact wpAny_pure (wpAny_bind fin)
    | exact wpAny_bind (wpAny_pure (wpAny_bind fin))
    | exact wpAny_bind fin
theorem s_ix {a b : Expr} {ca cb : CE} (hu : X.A.units + 9 < cLine) (hw : X.w = HasW.w) (hs : PlainIx b) (ha : PE X a (tE Φ X.K ca)) (hb : PE X b (tE Φ X.K cb)) : PE X (.Subscript a b pos) (tE Φ X.K (.ix ca cb)) :=
  PE.pick fun σ H Q ⟨F, m, S, ρ, d, S1, s, e, he, q⟩ => by
    simp only [evE] at he
    obtain ⟨x, S2, e1, he⟩ := R.bind_ok he
    obtain ⟨y, S3, e2, he⟩ := R.bind_ok he
    refine ⟨_, pe_ix (ix_seq.or (ix_dic hu hw)) ha hb hs, ?_⟩
    refine tE_two s e e1 e2 fun v w H2 m2 ex s2 e' r1 r2 => ?_
    generalize hx : vw S3 x = x' at he
    cases x' <;> first | (exfalso; cases he; done) | skip
    · cases y <;> first | (exfalso; cases he; done) | skip
      rename_i l i
      have he : (if l.length ≤ LIM then lift ((atIx l i).map fun c => D.str [c]) S3 else R.bad) = .ok d S1 := he
      split at he
      · rename_i hz
        obtain ⟨h4, rfl⟩ := lift_ok he
        obtain ⟨c, hc, rfl⟩ := Option.map_eq_some_iff.mp h4
        refine .inl (.inr (.inr ⟨toStr l, i, c, vw_str r1 hx, vw_int (S := S1) (m := m2) r2 rfl, by rw [toStr_len, ← line_LIM]; exact hz, ?_, q _ H2 m2 ex s2 (.str [c])⟩))
        rw [atI_atIx]
        exact hc
      · cases he
    · cases y <;> first | (exfalso; cases he; done) | skip
      obtain ⟨h4, rfl⟩ := lift_ok he
      obtain ⟨a1, xs, rfl, t1, q1⟩ := vw_tup r1 hx
      obtain ⟨z, hz, rz⟩ := atIx_rp q1 h4
      exact .inl (.inr (.inl ⟨a1, xs, _, z, rfl, vw_int (S := S1) (m := m2) r2 rfl, t1.sq, hz, q z H2 m2 ex s2 rz⟩))
    · cases y <;> first | (exfalso; cases he; done) | skip
      obtain ⟨h4, rfl⟩ := lift_ok he
      obtain ⟨a1, xs, rfl, t1, q1⟩ := vw_lst s2 r1 hx
      obtain ⟨z, hz, rz⟩ := atIx_rp q1 h4
      exact .inl (.inl ⟨a1, xs, _, z, rfl, vw_int (S := S1) (m := m2) r2 rfl, sqL_of_rd t1, hz, q z H2 m2 ex s2 rz⟩)
    · rename_i t l
      have he : (if isKey t y = true then lift (dget y l) S3 else R.bad) = .ok d S1 := he
      split at he
      · rename_i hk
        obtain ⟨h4, rfl⟩ := lift_ok he
        obtain ⟨rfl, a1, es, rfl, t1, q1⟩ := vw_dic s2 r1 hx
        obtain ⟨b1, rfl⟩ := key_ref hk r2
        exact .inr ⟨a1, b1, es, l, y, d, _, _, rfl, rfl, t1, q1, hk, r2, h4, fun v rv => q v H2 m2 ex s2 rv⟩
      · cases he
    · cases y <;> first | (exfalso; cases he; done) | skip
      obtain ⟨h4, rfl⟩ := lift_ok he
      obtain ⟨a1, xs, rfl, t1, q1⟩ := vw_scr r1 hx
      obtain ⟨z, hz, rz⟩ := atIx_rp q1 h4
      exact .inl (.inl ⟨a1, xs, _, z, rfl, vw_int (S := S1) (m := m2) r2 rfl, t1, hz, q z H2 m2 ex s2 rz⟩)
def tP (Φ : Phi) (K : PySem.W.Frag) (cs : List CE) : TO := fun σ H Q => ∃ F m S ρ ds S1 o, Sto K H F m S ∧ EnvR K H (Tk F m S) m ρ σ ∧ evEs Φ cs ρ S = .ok ds S1 ∧ partE ds = some o ∧
  ∀ H1 m1, Ex H m S H1 m1 S1 → Sto K H1 F m1 S1 → Q o H1
theorem PO.pick {e : Option Expr} {t : TO} (h : ∀ σ H Q, t σ H Q → ∃ t', PO X e t' ∧ t' σ H Q) : PO X e t :=
  ⟨fun pins s σ H Q I q => by
    obtain ⟨t', p, q'⟩ := h σ H Q q
    exact p.run pins s σ H Q I q'⟩
theorem p_none : PO X none (tP Φ X.K []) :=
  PO.pick fun σ H Q ⟨F, m, S, ρ, ds, S1, o, s, e, he, ho, q⟩ => by
    simp only [evEs] at he
    cases he
    cases ho
    exact ⟨_, po_none, q H m Ex.refl s⟩
theorem p_some {a : Expr} {c : CE} (ha : PE X a (tE Φ X.K c)) : PO X (some a) (tP Φ X.K [c]) :=
  PO.pick fun σ H Q ⟨F, m, S, ρ, ds, S1, o, s, e, he, ho, q⟩ => by
    simp only [evEs] at he
    obtain ⟨x, S2, e1, he⟩ := R.bind_ok he
    cases he
    refine ⟨_, po_some ha, ?_⟩
    cases x <;> first | (exfalso; cases ho; done) | skip
    cases ho
    exact tE_one s e e1 fun v H1 m1 ex s1 e1 r1 => ⟨_, vw_int (S := S1) (m := m1) r1 rfl, q H1 m1 ex s1⟩
theorem sIx_clamp (n d : Nat) (o : Option Int) : HT.sIx n d o = slIx n d o := by
  cases o <;> rfl
theorem cutV_rp {K : PySem.W.Frag} {H : Hp} {T : Addr → Prop} {m : List Addr} {l : List D} {xs : List V} (lo hi : Option Int) (r : Rps K H T m l xs) : Rps K H T m (cutL l lo hi) (cutV xs lo hi) := by
  unfold cutV cutL
  rw [sIx_clamp, sIx_clamp, ← r.length]
  exact (r.drop _).take _
theorem cutS_eq (l : List Nat) (lo hi : Option Int) : cutS (toStr l) lo hi = toStr (cutL l lo hi) := by
  unfold cutS cutL
  rw [sIx_clamp, sIx_clamp, toStr_len]
  rfl
theorem cut_whole {α : Type} (l : List α) (lo hi : Option Int) (h : HT.sIx l.length 0 lo = 0 ∧ HT.sIx l.length l.length hi = l.length) : cutL l lo hi = l := by
  unfold cutL
  rw [sIx_clamp, sIx_clamp] at h
  rw [h.1, h.2]
  simp
theorem s_sl {a : Expr} {lo hi : Option Expr} {ca : CE} {cl ch : List CE} {p2 : Pos} (ha : PE X a (tE Φ X.K ca)) (hl : PO X lo (tP Φ X.K cl)) (hh : PO X hi (tP Φ X.K ch)) : PE X (.Subscript a (.Slice lo hi none p2) pos) (tE Φ X.K (.sl ca cl ch)) :=
  PE.pick fun σ H Q ⟨F, m, S, ρ, d, S1, s, e, he, q⟩ => by
    simp only [evE] at he
    obtain ⟨x, S2, e1, he⟩ := R.bind_ok he
    obtain ⟨l, S3, e2, he⟩ := R.bind_ok he
    obtain ⟨h, S4, e3, he⟩ := R.bind_ok he
    cases hl' : partE l with
    | none => rw [hl'] at he; cases he
    | some ol =>
      cases hh' : partE h with
      | none => rw [hl', hh'] at he; cases he
      | some oh =>
        rw [hl', hh'] at he
        refine ⟨_, pe_slice (sl_list.or (sl_tupA.or sl_str)) ha hl hh, ?_⟩
        refine tE_one s e e1 fun v H1 m1 ex1 s1 e1' r1 => ?_
        refine ⟨F, m1, S2, ρ, l, S3, ol, s1, e1', e2, hl', fun H2 m2 ex2 s2 => ?_⟩
        refine ⟨F, m2, S3, ρ, h, S4, oh, s2, e1'.mono ex2.lt, e3, hh', fun H3 m3 ex3 s3 => ?_⟩
        have r3 := (r1.mono ex2.lt).mono ex3.lt
        have exx := (ex1.trans ex2).trans ex3
        generalize hx : vw S4 x = x' at he
        cases x' <;> first | (exfalso; cases he; done) | skip
        · rename_i z
          have he : (if z.length ≤ LIM then R.ok (D.str (cutL z ol oh)) S4 else R.bad) = .ok d S1 := he
          split at he
          · rename_i hz
            cases he
            refine .inr (.inr ⟨toStr z, vw_str r3 hx, by rw [toStr_len, ← line_LIM]; exact hz, ?_⟩)
            rw [cutS_eq]
            exact q _ H3 m3 exx s3 (.str _)
          · cases he
        · rename_i zl
          cases he
          obtain ⟨a1, xs, rfl, t1, q1⟩ := vw_tup r3 hx
          refine .inr (.inl ⟨a1, xs, rfl, t1.sq, fun hw => ?_, fun hw p hp => ?_⟩)
          · have : Rp X.K H3 (Tk F m3 S1) m3 (.tup (cutL zl ol oh)) (.ref a1) := by
              rw [cut_whole _ ol oh (by rw [q1.length]; exact hw)]
              exact t1.rp q1
            exact q _ H3 m3 exx s3 this
          · exact Fin.tup q exx s3 (cutV_rp ol oh q1) hp
        · cases he
          obtain ⟨a1, xs, rfl, t1, q1⟩ := vw_lst s3 r3 hx
          exact .inl ⟨a1, xs, rfl, sqL_of_rd t1, fun p hp => Fin.lst q exx s3 (cutV_rp ol oh q1) hp⟩
        · cases he
          obtain ⟨a1, xs, rfl, t1, q1⟩ := vw_scr r3 hx
          exact .inl ⟨a1, xs, rfl, t1, fun p hp => Fin.lst q exx s3 (cutV_rp ol oh q1) hp⟩
end
end NG
end

section
set_option autoImplicit false
set_option maxRecDepth 100000
set_option maxHeartbeats 1000000
namespace NG
open PySem PySem.Spec PyProof.Rows L2
variable [HasW]
/-! ## a walk over a dict's keys -/
section
variable {X : Cx} {pins : List (Addr × Obj)} {σ : L2.St} {H : Hp} {s : Shared} {d : Addr} {o : Obj} {es : List (NestedKey × V × V)}
theorem frzDic {w : World} (I : Inv X pins σ H s) (h : H d = some (.frz o (DicO w d es))) : (d == sysModules) = false ∧ s.heap.get? d = some o ∧ o.ExactDict ∧ ∃ (ds : Array DictEntry) (ep : Nat), o.data = .dict ds ep ∧ ds.size = es.length ∧
    Paired (fun (p : NestedKey × V × V) (e : DictEntry) => e.hash = p.1.hash w ∧ RelV p.2.1 e.key ∧ RelV p.2.2 e.val) es ds.toList := by
  obtain ⟨hd, ⟨z, hs, o', ds, ep, h1, h2, h3, h4, h5⟩, _⟩ := I.hok d _ h
  rw [hd] at h1
  cases h1
  refine ⟨hs, hd, h2, ds, ep, h3, ?_, h4⟩
  have := Paired.length h4
  rw [Array.length_toList] at this
  exact this.symm
end
/-- the keys of the locked dict at d -/
def Itdic (w : World) (d : Addr) (o : Obj) (es : List (NestedKey × V × V)) : It :=
  ⟨fun i H => H d = some (.frz o (DicO w d es)) ∧ i < es.length, fun i H x H' => H' = H ∧ ∃ k v, es[i]? = some (k, x, v), fun i H => H d = some (.frz o (DicO w d es)) ∧ es.length ≤ i⟩
theorem turn_dic {P : Program} {w w' : World} {K : PySem.W.Frag} {tg : Expr} {d : Addr} {o : Obj} {ds : Array DictEntry} {ep : Nat} {es : List (NestedKey × V × V)} (it : Addr) (hod : o.data = .dict ds ep) : Turn P w K tg (Itdic w' d o es) [it] it (fun i h => h.IsKeyIter it d i es.length ep) where
  mem := by simp
  obj := fun i h st b hb => by
    have e : b = it := by simpa using hb
    subst e
    obtain ⟨oi, e, c, dd⟩ := st
    exact ⟨oi, e, fun v z => by rw [dd] at z; cases z⟩
  keep := fun i h h' st k => st.at fun oi e => k it (by simp) oi e
  item := by
    intro X hP hw hK hc i pins s σ H E I hf st hg
    subst hP hw hK
    obtain ⟨hd, hi⟩ := hg
    obtain ⟨f0, f1, f2, f3, f4, f5⟩ := hf it (by simp)
    obtain ⟨hs, hgd, hx, es', ep', hdt, hsz, ent⟩ := frzDic I hd
    obtain ⟨rfl, rfl⟩ := dict_ep hod hdt
    obtain ⟨⟨k, kv, v⟩, hkv⟩ : ∃ p, es[i]? = some p := ⟨es[i], List.getElem?_eq_getElem hi⟩
    obtain ⟨en, hen, _, hkey, _⟩ := paired_get ent hkv
    refine next_key_item st hgd hdt hsz (by rw [← Array.getElem?_toList]; exact hen) fun h' st' sb => ?_
    have I1 : Inv X pins σ H { s with heap := h' } := I.turned (t' := s.toks) (fun b ob hb e => (sb.2 b hb).trans e) f0 f1 f3 f4 f5
    obtain ⟨oi, e, c, dd⟩ := id st'
    exact ⟨en.key, rfl, go_of (s := { s with heap := h' }) e c dd (by decide) ⟨kv, H, I1, hkey, ⟨rfl, k, v, hkv⟩, st', fun b hb => (hf b hb).1⟩⟩
  done := by
    intro X hP hw hK hc i pins s σ H E I hf st hg
    subst hP hw hK
    obtain ⟨hd, hi⟩ := hg
    obtain ⟨f0, f1, f2, f3, f4, f5⟩ := hf it (by simp)
    obtain ⟨hs, hgd, hx, es', ep', hdt, hsz, ent⟩ := frzDic I hd
    obtain ⟨rfl, rfl⟩ := dict_ep hod hdt
    exact next_key_end (I.ok.hd hc) st hgd hdt hsz hi fun h' eb => ⟨rfl, I.turned (t' := s.toks) (fun b ob hb e => eb b ob hb e) f0 f1 f3 f4 f5⟩
  self := fun A i s Q E st h => by
    refine wpAny_pyIter_slot st.typeIs F.slot_dict_keyiterator_iter (wpAny_call_entry F.slot_dict_keyiterator_iter st.typeIs F.entry_dict_keyiterator_iter ?_ (F.args_dict_keyiterator_iter_1 _))
    show wpAny _ _ (ret (.ref it)) _ _ s
    exact wpAny_pure ⟨_, rfl, "dict_keyiterator", _, st.typeIs, F.slot_dict_keyiterator_next.lookup, h⟩
def iDic (w : World) (td : TE) : TI := fun σ H R => td σ H fun x H1 => ∃ d o es, x = .ref d ∧ H1 d = some (.frz o (DicO w d es)) ∧ R (Itdic w d o es) H1
theorem pi_dic {X : Cx} {tg e : Expr} {td : TE} {w : World} (he : PE X e td) : PI X tg e (iDic w td) := by
  refine ⟨fun pins s σ H R I h => ?_⟩
  refine thn (he.run pins s σ H _ I h) fun u s1 ⟨x, H1, I1, rx, d, o, es, ex, hd, q⟩ => ?_
  subst ex
  obtain rfl : u = Value.ref d := rx
  obtain ⟨hs, hgd, hx, ds, ep, hdt, hsz, ent⟩ := frzDic I1 hd
  refine iter_keys hs hgd hx hdt (pi_one (tk := s1.toks) I1 _ (turn_dic _ hdt) ⟨_, Heap.get?_push_size _ rfl, rfl, ?_⟩ q)
  rw [hsz] <;> rfl
theorem walk_dic {w : World} {d : Addr} {o : Obj} {es : List (NestedKey × V × V)} : Walk (Itdic w d o es) es.length (fun H => H d = some (.frz o (DicO w d es))) (fun i H x H' => H' = H ∧ ∃ k v, es[i]? = some (k, x, v)) :=
  ⟨fun _ _ hi q => ⟨q, hi⟩, fun _ q => ⟨q, Nat.le_refl _⟩, fun _ _ _ _ _ _ y => y⟩
theorem rp_dic {K : PySem.W.Frag} {H : Hp} {T : Addr → Prop} {m : List Addr} {t : Bool} {l : List (D × D)} {v : V} (r : Rp K H T m (.dic t l) v) : ∃ a od es, v = .ref a ∧ H a = some (.frz od (DicO HasW.w a es)) ∧ ¬ T a ∧ DicR K H T m l es := by
  cases r with
  | dic a b c d e f => exact ⟨_, _, _, rfl, a, b, c, d, e, f⟩
end NG
end

section
set_option autoImplicit false
set_option maxRecDepth 100000
set_option maxHeartbeats 1000000
namespace NG
open PySem PySem.Spec PyProof.Rows L2
variable [HasW]

/-! ## functions -/
/-- a def keeps a promise; nothing is being shown (no guard) -/
structure FnG (P : Program) (w : World) (K : PySem.W.Frag) (mg : Str → Option Value) (base : Heap) (k : Nat) (f : Addr) (fd : FuncData) (ps : List Str) (sp : Sp) : Prop where
  len : ∀ vs H Q E, sp vs H Q E → vs.length = ps.length
  run : ∀ (A : Around) (outer : List PySem.Env) (s : Shared) (H : Hp) (args : Args) (us : List Value) (vs : List V) (Q : VK), A.guards = some [] → Room k A → Env0 P w K mg base A outer s H → BindsTo s fd args (ps.zip us) → Vals vs us → sp vs H Q E0 →
    codeAny (model P w) A (.call (.ref f) args) (CR CX0 outer P w H s Q E0) s
theorem FnG.mono {P : Program} {w : World} {K : PySem.W.Frag} {mg : Str → Option Value} {base : Heap} {j k : Nat} {f : Addr} {fd : FuncData} {ps : List Str} {sp : Sp} (F : FnG P w K mg base j f fd ps sp) (h : j ≤ k) :
    FnG P w K mg base k f fd ps sp := ⟨F.len, fun A outer s H args us vs Q hg hr => F.run A outer s H args us vs Q hg (hr.mono h)⟩
section
variable {X : Cx} {k : Nat} {f : Addr} {fd : FuncData} {ps : List Str} {sp : Sp} {x : Str} {p pos : Pos} {e : Expr} {es : List Expr} {t : TA}
/-- the callee runs, however its arguments are bound -/
theorem runG {pins : List (Addr × Obj)} {σ : L2.St} {H : Hp} {s : Shared} {Q : VK} {us : List Value} {vs : List V} {args : Args} (F : FnG X.prog X.w X.K X.mg X.base k f fd ps sp) (hg : X.A.guards = some []) (hr : Room k X.A) (hb : BindsTo s fd args (ps.zip us))
    (I : Inv X pins σ H s) (r : Vals vs us) (h : sp vs H Q E0) : codeAny (model X.prog X.w) X.A (.call (.ref f) args) (fun r s' => match r with | .ok (.ret u) => EP X pins σ Q u s' | _ => False) s := by
  refine codeAny_mono (F.run X.A X.stack s H args us vs Q hg hr I.env0 hb r h) fun r s' hq => ?_
  cases r with
  | error e => exact False.elim hq
  | ok fl =>
    cases fl with
    | ret u => exact I.after hq
    | next => exact False.elim hq
    | brk => exact False.elim hq
    | cont => exact False.elim hq
theorem pe_callG (F : FnG X.prog X.w X.K X.mg X.base k f fd ps sp) (hg : X.A.guards = some []) (hr : Room k X.A) (hgl : Gl X x) (hm : X.mg x = some (.ref f)) (hk : PySem.W.keepIn X.K (.ref f) = true) (hb : Binds X.K fd ps [])
    (ha : PA X (e :: es) t) (hdb : (x == ("__debug__" : Str)) = false) (he : starEach (e :: es) X.env = (false, eval e X.env) :: starEach es X.env) (hpl : (backTo pos (starEach es X.env)).any (·.1) = false) :
    PE X (.Call (.Name x p) (e :: es) [] pos) (fun σ H Q => t σ H fun vs H1 => sp vs H1 Q E0) := by
  refine ⟨fun pins s σ H Q I h => ?_⟩
  refine wpAny_Call_Name_kw (ld_glob I hgl hm ?_ hdb)
  refine PySem.W.callWith_K (h₀ := X.base) I.ok.mod.kin hk (thn (ha.run pos pins s σ H _ I h) fun us s1 ⟨vs, H1, I1, r, q⟩ => ⟨I1.kIn, ?_⟩) he hpl
  have hl : us.length = ps.length := by rw [← r.length]; exact F.len _ _ _ _ q
  have hb1 := hb s1 us I1.kIn (by simpa using hl)
  rw [List.append_nil] at hb1
  refine wpAny_call (codeAny_mono (runG F hg hr hb1 I1 r q) fun r s' hq => ?_)
  cases r with
  | error e => exact False.elim hq
  | ok fl =>
    cases fl with
    | ret u => exact hq
    | next => exact False.elim hq
    | brk => exact False.elim hq
    | cont => exact False.elim hq
end

section
variable {Φ : Phi}
/-- what the evaluator's function promises -/
def spF (Φ : Phi) (K : PySem.W.Frag) (f : Nat) (np : Nat) : Sp := fun vs H Q _ => vs.length = np ∧ ∃ F m S ds d S1, Sto K H F m S ∧ Rps K H (Tk F m S) m ds vs ∧ Φ f ds S = .ok d S1 ∧
  ∀ v H1 m1, Ex H m S H1 m1 S1 → Sto K H1 F m1 S1 → Rp K H1 (Tk F m1 S1) m1 d v → Q v H1
theorem cleanP_of : ∀ {l : List (D × D)}, cleanP l = true → cleans (l.map (·.1)) = true ∧ cleans (l.map (·.2)) = true
  | [], _ => ⟨rfl, rfl⟩
  | (k, v) :: l, h => by
    simp only [cleanP, Bool.and_eq_true] at h
    obtain ⟨a, b⟩ := cleanP_of h.2
    simp [cleans, h.1.1, h.1.2, a, b]
mutual
theorem clean_mono {K : PySem.W.Frag} {H : Hp} {T T1 : Addr → Prop} {m m1 : List Addr} (h : ∀ a, T1 a → T a) : ∀ {d : D} {v : V}, clean d = true → Rp K H T m d v → Rp K H T1 m1 d v
  | _, _, _, .non => .non
  | _, _, _, .bl b => .bl b
  | _, _, _, .int i => .int i
  | _, _, _, .str s => .str s
  | _, _, c, .tup a n r => .tup a (fun z => n (h _ z)) (cleans_mono h (by simpa only [clean] using c) r)
  | _, _, c, .tupK a r => .tupK a (cleans_mono h (by simpa only [clean] using c) r)
  | _, _, c, .lst a n r => .lst a (fun z => n (h _ z)) (cleans_mono h (by simpa only [clean] using c) r)
  | _, _, c, .scr a r => by simp [clean] at c
  | _, _, c, .ref a => by simp [clean] at c
  | _, _, c, .dic a n q1 q2 r1 r2 => .dic a (fun z => n (h _ z)) q1 q2 (cleans_mono h (cleanP_of (by simpa only [clean] using c)).1 r1) (cleans_mono h (cleanP_of (by simpa only [clean] using c)).2 r2)
  | _, _, c, .opq a n => .opq a (fun z => n (h _ z))
theorem cleans_mono {K : PySem.W.Frag} {H : Hp} {T T1 : Addr → Prop} {m m1 : List Addr} (h : ∀ a, T1 a → T a) : ∀ {ds : List D} {vs : List V}, cleans ds = true → Rps K H T m ds vs → Rps K H T1 m1 ds vs
  | _, _, _, .nil => .nil
  | _, _, c, .cons a b => .cons (clean_mono h (Bool.and_eq_true_iff.mp (by simpa only [cleans] using c)).1 a) (cleans_mono h (Bool.and_eq_true_iff.mp (by simpa only [cleans] using c)).2 b)
end
theorem sto_nil {K : PySem.W.Frag} {H : Hp} {F : Addr → Prop} {m : List Addr} {S : Store} (s : Sto K H F m S) : Sto K H (Tk F m S) [] [] :=
  ⟨rfl, List.nodup_nil, fun n a l h => by simp at h, fun n a l h => by simp at h, fun a h => by simp at h, fun n c h => by simp at h, fun a h => s.has h, fun a _ h => by simp at h⟩
theorem tk_nil {F : Addr → Prop} {a : Addr} : Tk F [] [] a ↔ F a := ⟨fun h => h.elim id fun ⟨n, c, h, _⟩ => by simp at h, .inl⟩
/-- a call, at the evaluator's words -/
theorem call_fin {K : PySem.W.Frag} {H H2 : Hp} {F : Addr → Prop} {m m2 : List Addr} {S S2 S1 : Store} {f md : Nat} {ds : List D} {vs : List V} {d : D} {Q : VK} (s : Sto K H2 F m2 S2) (ex : Ex H m S H2 m2 S2) (r : Rps K H2 (Tk F m2 S2) m2 ds vs)
    (h : callE Φ f md ds S2 = .ok d S1) (q : Fin K H F m S S1 d Q) : spF Φ K f vs.length vs H2 Q E0 := by
  unfold callE at h
  split at h
  · exact ⟨rfl, F, m2, S2, ds, d, S1, s, r, h, fun v H1 m1 ex1 s1 r1 => q v H1 m1 (ex.trans ex1) s1 r1⟩
  · split at h
    · rename_i hc
      cases hp : Φ f ds [] with
      | ok d' S' =>
        rw [hp] at h
        have h : (if clean d' = true then R.ok d' S2 else R.bad) = .ok d S1 := h
        split at h
        · rename_i hd
          cases h
          refine ⟨rfl, Tk F m2 S2, [], [], ds, d, S', sto_nil s, cleans_mono (fun a h => tk_nil.mp h) hc r, hp, fun v H1 m1 ex1 s1 r1 => ?_⟩
          have e1 : Ex H2 m2 S2 H1 m2 S2 := ⟨⟨[], by simp⟩, fun a o h _ => ex1.old a o h fun ⟨n, c, z, _⟩ => by simp at z, fun a h => .inl h⟩
          have s2 : Sto K H1 F m2 S2 := s.next e1 fun a t => by
            obtain ⟨o, ho⟩ := s.has (.inr t)
            rw [ho]
            exact ex1.old a o ho fun ⟨n, c, z, _⟩ => by simp at z
          exact q v H1 m2 (ex.trans e1) s2 (clean_mono (fun a h => .inl h) hd r1)
        · cases h
      | exc c v S' =>
        rw [hp] at h
        have h : (if clean v = true then R.exc c v S2 else R.bad) = .ok d S1 := h
        split at h <;> cases h
      | bad => rw [hp] at h; cases h
    · cases h
section
variable {X : Cx} {pos p : Pos}
theorem s_call {k f md np : Nat} {fa : Addr} {fd : FuncData} {ps : List Str} {x : Str} {e : Expr} {es : List Expr} {cs : List CE} (G : FnG X.prog X.w X.K X.mg X.base k fa fd ps (spF Φ X.K f np)) (hg : X.A.guards = some []) (hr : Room k X.A) (hgl : Gl X x) (hm : X.mg x = some (.ref fa))
    (hk : PySem.W.keepIn X.K (.ref fa) = true) (hb : Binds X.K fd ps []) (ha : PA X (e :: es) (tA Φ X.K cs)) (hl : cs.length = np) (hdb : (x == ("__debug__" : Str)) = false) (he : starEach (e :: es) X.env = (false, eval e X.env) :: starEach es X.env)
    (hpl : (backTo pos (starEach es X.env)).any (·.1) = false) : PE X (.Call (.Name x p) (e :: es) [] pos) (tE Φ X.K (.call f md cs)) :=
  PE.pick fun σ H Q ⟨F, m, S, ρ, d, S1, s, en, hev, q⟩ => by
    simp only [evE] at hev
    obtain ⟨ds, S2, h1, hev⟩ := R.bind_ok hev
    refine ⟨_, pe_callG G hg hr hgl hm hk hb ha hdb he hpl, ?_⟩
    refine tA_one s en h1 fun vs H2 m2 ex s2 e2 r2 => ?_
    have := call_fin s2 ex r2 hev q
    rw [← r2.length, evEs_len h1, hl] at this
    exact this
end
end

/-! ## what is walked -/
/-- J yields the items its, wherever the cells stand -/
def WalkD (K : PySem.W.Frag) (F : Addr → Prop) (J : It) (its : List D) (H1 : Hp) (m1 : List Addr) (S1 : Store) : Prop :=
  ∃ (G : Hp → Prop) (Y : Nat → Hp → V → Hp → Prop), Walk J its.length G Y ∧
    ∀ (F' : Addr → Prop) (H2 : Hp) (m2 : List Addr) (S2 : Store), (∀ a, F' a → F a ∨ H1 a = none) → Ex H1 m1 S1 H2 m2 S2 → Sto K H2 F' m2 S2 → G H2 ∧
      ∀ (i : Nat) (x : V) (H3 : Hp), i < its.length → Y i H2 x H3 → Ex H2 m2 S2 H3 m2 S2 ∧ Sto K H3 F' m2 S2 ∧ ∃ d, its[i]? = some d ∧ Rp K H3 (Tk F' m2 S2) m2 d x
section
variable {Φ : Phi}
def tI (Φ : Phi) (K : PySem.W.Frag) (k : ItK) (src : List CE) : TI := fun σ H Z => ∃ F m S ρ ds S1 its, Sto K H F m S ∧ EnvR K H (Tk F m S) m ρ σ ∧ evEs Φ src ρ S = .ok ds S1 ∧ iterE k ds = some its ∧
  ∀ J H1 m1, Ex H m S H1 m1 S1 → Sto K H1 F m1 S1 → its.length ≤ LIM → WalkD K F J its H1 m1 S1 → Z J H1
variable {X : Cx} {pos p : Pos} {tg : Expr}
theorem PI.pick {e : Expr} {t : TI} (h : ∀ σ H R, t σ H R → ∃ t', PI X tg e t' ∧ t' σ H R) : PI X tg e t :=
  ⟨fun pins s σ H R I q => by
    obtain ⟨t', p, q'⟩ := h σ H R q
    exact p.run pins s σ H R I q'⟩
/-- what is held is of a size -/
def Bnd (K : PySem.W.Frag) (H : Hp) : Prop := ∀ a xs, (SqT K H a xs ∨ SqL K H a xs) → xs.length ≤ LIM
theorem inv_bnd {pins : List (Addr × Obj)} {σ : L2.St} {H : Hp} {s : Shared} (I : Inv X pins σ H s) : Bnd X.K H := fun a xs h => by
  rw [line_LIM]
  rcases h with h | h
  · exact (I.tuple h).choose_spec.2.2
  · exact (I.list h).choose_spec.2.2
theorem pe_bnd {e : Expr} {t : TE} (h : PE X e t) : PE X e (fun σ H Q => t σ H fun v H1 => Bnd X.K H1 → Q v H1) :=
  ⟨fun pins s σ H Q I q => thn (h.run pins s σ H _ I q) fun u s1 ⟨v, H1, I1, r1, q1⟩ => ⟨v, H1, I1, r1, q1 (inv_bnd I1)⟩⟩
theorem pa_bnd {es : List Expr} {t : TA} (h : PA X es t) : PA X es (fun σ H Q => t σ H fun v H1 => Bnd X.K H1 → Q v H1) :=
  ⟨fun pos pins s σ H Q I q => thn (h.run pos pins s σ H _ I q) fun u s1 ⟨v, H1, I1, r1, q1⟩ => ⟨v, H1, I1, r1, q1 (inv_bnd I1)⟩⟩
theorem walkD_at {K : PySem.W.Frag} {F : Addr → Prop} {J : It} {its : List D} {xs : List V} {H1 : Hp} {m1 : List Addr} {S1 : Store} {G : Hp → Prop} (r : Rps K H1 (Tk F m1 S1) m1 its xs) (w : Walk J its.length G (YAt xs)) (hG : ∀ H2 m2 S2, Ex H1 m1 S1 H2 m2 S2 → G H2) : WalkD K F J its H1 m1 S1 :=
  ⟨G, YAt xs, w, fun F' H2 m2 S2 hF ex s => ⟨hG H2 m2 S2 ex, fun i x H3 hi ⟨e, hx⟩ => by
    subst e
    obtain ⟨d, hd, rd⟩ := (r.mono (ex.ltF hF)).getV hx
    exact ⟨Ex.refl, s, d, hd, rd⟩⟩⟩
theorem TupAt.keep {K : PySem.W.Frag} {H H1 : Hp} {T T1 : Addr → Prop} {m m1 : List Addr} {a : Addr} {xs : List V} (l : Lt H T m H1 T1 m1) (t : TupAt K H T a xs) : TupAt K H1 T1 a xs := by
  rcases t with ⟨t, n⟩ | t
  · exact .inl ⟨Rd.keep (fun o e => l.old _ o e n) t, l.nt n t⟩
  · exact .inr t
theorem LstF.keep {H H1 : Hp} {T T1 : Addr → Prop} {m m1 : List Addr} {a : Addr} {xs : List V} (l : Lt H T m H1 T1 m1) (t : Rd H a (.lst xs)) (n : ¬ T a) : Rd H1 a (.lst xs) := Rd.keep (fun o e => l.old _ o e n) t
theorem rp_lst {K : PySem.W.Frag} {H : Hp} {T : Addr → Prop} {m : List Addr} {l : List D} {v : V} (r : Rp K H T m (.lst l) v) : ∃ a xs, v = .ref a ∧ Rd H a (.lst xs) ∧ ¬ T a ∧ Rps K H T m l xs := by
  cases r with
  | lst a b c => exact ⟨_, _, rfl, a, b, c⟩
theorem rp_tup {K : PySem.W.Frag} {H : Hp} {T : Addr → Prop} {m : List Addr} {l : List D} {v : V} (r : Rp K H T m (.tup l) v) : ∃ a xs, v = .ref a ∧ TupAt K H T a xs ∧ Rps K H T m l xs := by
  cases r with
  | tup a b c => exact ⟨_, _, rfl, .inl ⟨a, b⟩, c⟩
  | tupK a c => exact ⟨_, _, rfl, .inr a, c⟩
theorem rp_str {K : PySem.W.Frag} {H : Hp} {T : Addr → Prop} {m : List Addr} {l : List Nat} {v : V} (r : Rp K H T m (.str l) v) : v = .str (toStr l) := by
  cases r
  rfl
theorem rp_int {K : PySem.W.Frag} {H : Hp} {T : Addr → Prop} {m : List Addr} {i : Int} {v : V} (r : Rp K H T m (.int i) v) : v = .int i := by
  cases r
  rfl
theorem getElem?_rngL (lo : Int) : ∀ (n i : Nat), i < n → (rngL lo n)[i]? = some (.int (lo + i))
  | 0, i, h => by omega
  | n + 1, 0, _ => by simp [rngL]
  | n + 1, i + 1, h => by
    rw [rngL, List.getElem?_cons_succ, getElem?_rngL (lo + 1) n i (by omega)]
    congr 2
    omega
theorem length_rngL (lo : Int) : ∀ n : Nat, (rngL lo n).length = n
  | 0 => rfl
  | n + 1 => by rw [rngL, List.length_cons, length_rngL]
/-- a thing itself: a list, a tuple, a text -/
theorem i_of {e : Expr} {c : CE} (ha : PE X e (tE Φ X.K c)) : PI X tg e (tI Φ X.K .of [c]) :=
  PI.pick fun σ H Z ⟨F, m, S, ρ, ds, S1, its, s, en, hev, hi, q⟩ => by
    simp only [evEs] at hev
    obtain ⟨x, S2, e1, hev⟩ := R.bind_ok hev
    cases hev
    cases x <;> first | (exfalso; cases hi; done) | skip
    · rename_i z
      have hi : (if z.length ≤ LIM then some (z.map fun c => D.str [c]) else none) = some its := hi
      split at hi
      case isFalse => cases hi
      rename_i hz0
      cases hi
      refine ⟨_, pi_str ha, ?_⟩
      refine tE_one s en e1 fun v H1 m1 ex s1 en1 r1 => ⟨toStr z, rp_str r1, ?_⟩
      refine q _ H1 m1 ex s1 (by rw [List.length_map]; exact hz0) ⟨fun _ => True, fun i H v H' => H' = H ∧ ∃ c, (toStr z).cps[i]? = some c ∧ v = .str ⟨#[c]⟩, ?_, fun F' H2 m2 S2 hF ex2 s2 => ⟨trivial, fun i x H3 hi ⟨e3, c3, hc, hx⟩ => ?_⟩⟩
      · have w := walk_str (z := toStr z)
        have hz : (toStr z).cps.size = (z.map fun c => D.str [c]).length := by
          rw [List.length_map]
          rfl
        rw [hz] at w
        exact w
      · subst e3 hx
        refine ⟨Ex.refl, s2, .str [c3], ?_, .str [c3]⟩
        have hc' : z[i]? = some c3 := by
          unfold toStr at hc
          simpa using hc
        rw [List.getElem?_map, hc']
        rfl
    · cases hi
      refine ⟨_, pi_tup (pe_bnd ha), ?_⟩
      refine tE_one s en e1 fun v H1 m1 ex s1 en1 r1 hb => ?_
      obtain ⟨a, xs, rfl, ht, rs⟩ := rp_tup r1
      refine ⟨a, rfl, ⟨xs, ht.sq⟩, q _ H1 m1 ex s1 (by rw [rs.length]; exact hb a xs (.inl ht.sq)) ?_⟩
      exact walkD_at rs (by rw [rs.length]; exact walk_tup) fun H2 m2 S2 ex2 => (TupAt.keep (Ex.lt (F := F) ex2) ht).sq
    · cases hi
      refine ⟨_, pi_list (pe_bnd ha), ?_⟩
      refine tE_one s en e1 fun v H1 m1 ex s1 en1 r1 hb => ?_
      obtain ⟨a, xs, rfl, ht, hn, rs⟩ := rp_lst r1
      refine ⟨a, rfl, ⟨xs, sqL_of_rd ht⟩, q _ H1 m1 ex s1 (by rw [rs.length]; exact hb a xs (.inr (sqL_of_rd ht))) ?_⟩
      exact walkD_at rs (by rw [rs.length]; exact walk_list) fun H2 m2 S2 ex2 => sqL_of_rd (LstF.keep (Ex.lt (F := F) ex2) ht hn)
    · rename_i t l
      have hi : (if l.length ≤ LIM then some (l.map (·.1)) else none) = some its := hi
      split at hi
      case isFalse => cases hi
      rename_i hz0
      cases hi
      refine ⟨_, pi_dic (w := HasW.w) ha, ?_⟩
      refine tE_one s en e1 fun v H1 m1 ex s1 en1 r1 => ?_
      obtain ⟨a, od, es, rfl, h1, h2, h3⟩ := rp_dic r1
      have hl : es.length = (l.map (·.1)).length := by
        have := congrArg List.length h3.nk
        simpa using this
      refine ⟨a, od, es, rfl, h1, q _ H1 m1 ex s1 (by rw [List.length_map]; exact hz0) ⟨fun H => H a = some (.frz od (DicO HasW.w a es)), fun i H x H' => H' = H ∧ ∃ k v, es[i]? = some (k, x, v), by rw [← hl]; exact walk_dic, fun F' H2 m2 S2 hF ex2 s2 => ⟨?_, fun i x H3 hi ⟨e3, k, v, hk⟩ => ?_⟩⟩⟩
      · exact ex2.old a _ h1 fun z => h2 (.inr z)
      · subst e3
        have rk := h3.ks.mono (ex2.ltF hF)
        obtain ⟨dd, hd, rd⟩ := rk.getV (i := i) (v := x) (by rw [List.getElem?_map, hk]; rfl)
        exact ⟨Ex.refl, s2, dd, hd, rd⟩
theorem i_rng1 {a : Expr} {c : CE} (hg : Gl X "range") (hm : X.mg "range" = none) (ha : PA X [a] (tA Φ X.K [c])) (hs : starEach [a] X.env = [(false, eval a X.env)]) : PI X tg (.Call (.Name "range" p) [a] [] pos) (tI Φ X.K .rng1 [c]) :=
  PI.pick fun σ H Z ⟨F, m, S, ρ, ds, S1, its, s, en, hev, hi, q⟩ => by
    have hlen := evEs_len hev
    match ds, hlen with
    | [d], hq =>
      clear hq
      cases d <;> first | (exfalso; cases hi; done) | skip
      rename_i n
      simp only [iterE] at hi
      split at hi
      · rename_i hz
        cases hi
        have hL : (LIM : Int) = 16777216 := rfl
        refine ⟨_, pi_range1 hg hm ha hs, ?_⟩
        refine tA_one s en hev fun vs H1 m1 ex s1 en1 r1 => ?_
        cases r1 with
        | cons r rr =>
          cases rr
          refine ⟨n, by rw [rp_int r], by omega, by omega, q _ H1 m1 ex s1 (by rw [length_rngL]; omega) ?_⟩
          refine ⟨fun _ => True, YFn fun i => .int (0 + (i : Nat)), by rw [length_rngL]; exact walk_range, fun F' H2 m2 S2 hF ex2 s2 => ⟨trivial, fun i x H3 hi ⟨e3, hx⟩ => ?_⟩⟩
          rw [length_rngL] at hi
          subst e3 hx
          exact ⟨Ex.refl, s2, _, getElem?_rngL 0 _ i hi, .int _⟩
      · cases hi
theorem i_rng2 {a b : Expr} {c c' : CE} (hg : Gl X "range") (hm : X.mg "range" = none) (ha : PA X [a, b] (tA Φ X.K [c, c'])) (hs : starEach [a, b] X.env = [(false, eval a X.env), (false, eval b X.env)]) (hs2 : starEach [b] X.env = [(false, eval b X.env)]) : PI X tg (.Call (.Name "range" p) [a, b] [] pos) (tI Φ X.K .rng2 [c, c']) :=
  PI.pick fun σ H Z ⟨F, m, S, ρ, ds, S1, its, s, en, hev, hi, q⟩ => by
    have hlen := evEs_len hev
    match ds, hlen with
    | [d, d'], hq =>
      clear hq
      cases d <;> cases d' <;> first | (exfalso; cases hi; done) | skip
      rename_i n n'
      simp only [iterE] at hi
      split at hi
      · rename_i hz
        cases hi
        have hL : (LIM : Int) = 16777216 := rfl
        refine ⟨_, pi_range2 hg hm ha hs hs2, ?_⟩
        refine tA_one s en hev fun vs H1 m1 ex s1 en1 r1 => ?_
        cases r1 with
        | cons r rr =>
          cases rr with
          | cons r' rr =>
            cases rr
            refine ⟨n, n', by rw [rp_int r, rp_int r'], by omega, q _ H1 m1 ex s1 (by rw [length_rngL]; omega) ?_⟩
            refine ⟨fun _ => True, YFn fun i => .int (n + (i : Nat)), by rw [length_rngL]; exact walk_range, fun F' H2 m2 S2 hF ex2 s2 => ⟨trivial, fun i x H3 hi ⟨e3, hx⟩ => ?_⟩⟩
            rw [length_rngL] at hi
            subst e3 hx
            exact ⟨Ex.refl, s2, _, getElem?_rngL n _ i hi, .int _⟩
      · cases hi
theorem getElem?_enumF : ∀ (l : List D) (n i : Nat), (enumF n l)[i]? = l[i]?.map fun d => .tup [.int ((n + i : Nat) : Int), d]
  | [], n, i => by simp [enumF]
  | x :: xs, n, 0 => by simp [enumF]
  | x :: xs, n, i + 1 => by
    rw [enumF, List.getElem?_cons_succ, getElem?_enumF xs (n + 1) i, List.getElem?_cons_succ, show n + 1 + i = n + (i + 1) by omega]
theorem length_enumF : ∀ (l : List D) (n : Nat), (enumF n l).length = l.length
  | [], _ => rfl
  | x :: xs, n => by rw [enumF, List.length_cons, List.length_cons, length_enumF]
/-- a walk of new pairs -/
theorem walkD_pair {K : PySem.W.Frag} {F : Addr → Prop} {J : It} {its : List D} {f g : Nat → Option V} {H1 : Hp} {m1 : List Addr} {S1 : Store} {G : Hp → Prop} (w : Walk J its.length G (YPair f g)) (hG : ∀ H2 m2 S2, Ex H1 m1 S1 H2 m2 S2 → G H2)
    (hr : ∀ i x y, i < its.length → f i = some x → g i = some y → ∃ d e, its[i]? = some (.tup [d, e]) ∧ Rp K H1 (Tk F m1 S1) m1 d x ∧ Rp K H1 (Tk F m1 S1) m1 e y) : WalkD K F J its H1 m1 S1 :=
  ⟨G, YPair f g, w, fun F' H2 m2 S2 hF ex s => ⟨hG H2 m2 S2 ex, fun i v H3 hi ⟨T, x, y, e1, hT, e2, hf, hg⟩ => by
    subst e1 e2
    obtain ⟨d, e, hd, r1, r2⟩ := hr i x y hi hf hg
    have r1' := r1.mono (ex.ltF hF)
    have r2' := r2.mono (ex.ltF hF)
    refine ⟨Ex.laid hT, s.laid hT, _, hd, .tup (.inl upd_same) (s.free hT) ?_⟩
    exact .cons (r1'.mono (Ex.laid hT).lt) (.cons (r2'.mono (Ex.laid hT).lt) .nil)⟩⟩
end
end NG
end

section
set_option autoImplicit false
set_option maxRecDepth 100000
set_option maxHeartbeats 1000000
namespace NG
open PySem PySem.Spec PyProof.Rows L2 RZ
variable [HasW]
section
open AutoSeq1
theorem enum_newT (a : Addr) (items : Array Value) (n : Nat) (dc : Option Addr) (sl : Array (Option Value)) :
    Meets (Builtin.«enumerate.__new__» ⟨[.type "enumerate", .ref a], []⟩) (fun _ Z s => s.heap.get? a = some { cls := .type "tuple", dict := dc, data := .seq items n, slots := sl } ∧
      Z (.ok (.ret (.ref (s.heap.push { cls := .type "tuple_iterator", data := .fields #[.ref a, .int 0 0] }).objs.size)))
        { s with heap := (s.heap.push { cls := .type "tuple_iterator", data := .fields #[.ref a, .int 0 0] }).push { cls := .type "enumerate", data := .fields #[.none, .bool false, .ref s.heap.objs.size, rawInt 0, .none, .none] } }) :=
  .of_wp fun prog w A Z s h => by
    obtain ⟨hl, h⟩ := h
    have hL : s.heap.IsTuple a items := ⟨_, hl, rfl, n, rfl⟩
    obtain ⟨hp, g, d, tk, os⟩ := s
    have hsub := sub_enumerate
    wp_walk using wpAny_loadPart' hl
    refine wpAny_stack_any fun st => wpAny_pure ?_
    split
    · rename_i c _ _ _ _ _
      cases (c == Value.type "enumerate") <;>
        (wp_walk using wpAny_loadPart' hl, wpAny_pyIter_tuple hL
         exact ⟨_, rfl, h⟩)
    · wp_walk using wpAny_loadPart' hl, wpAny_pyIter_tuple hL
      exact ⟨_, rfl, h⟩
theorem call_enumT {prog : Program} {w : World} {A : Around} {E : Value → Shared → Prop} {s : Shared} {a : Addr} {items : Array Value} {Q : Value → Shared → Prop} (hL : s.heap.IsTuple a items)
    (h : ∀ h', IsEnum h' (s.heap.objs.size + 1) s.heap.objs.size 0 .none → h'.IsTupleIter s.heap.objs.size a 0 → h'.objs.size = s.heap.objs.size + 2 →
      (∀ b o, s.heap.get? b = some o → h'.get? b = some o) → Q (.ref (s.heap.objs.size + 1)) { s with heap := h' }) : wpAny (model prog w) A (call (.type "enumerate") [.ref a]) Q E s := by
  obtain ⟨⟨c, dct, dt, sl⟩, hl, hc, n, hd⟩ := hL
  simp only at hc hd
  subst hc hd
  refine callType_new F.called_enumerate (by decide) (F.typeCall_enumerate_1 _) (F.newCall_enumerate_1 _) (fun obj => F.args_object_init_2 obj _) F.entry_enumerate_new (enum_newT a items n dct sl) ⟨hl, ?_⟩
  have e1 := Heap.size_push s.heap { cls := .type "tuple_iterator", data := .fields #[.ref a, .int 0 0] }
  have e2 := Heap.get?_push_size (s.heap.push { cls := .type "tuple_iterator", data := .fields #[.ref a, .int 0 0] }) (o := { cls := .type "enumerate", data := .fields #[.none, .bool false, .ref s.heap.objs.size, rawInt 0, .none, .none] }) rfl
  have hi : ((s.heap.push { cls := .type "tuple_iterator", data := .fields #[.ref a, .int 0 0] }).push { cls := .type "enumerate", data := .fields #[.none, .bool false, .ref s.heap.objs.size, rawInt 0, .none, .none] }).IsTupleIter s.heap.objs.size a 0 :=
    ⟨_, Heap.get?_push_of_some _ (Heap.get?_push_size _ rfl), rfl, rfl⟩
  show _ ∧ _
  rw [e1] at e2 ⊢
  exact ⟨⟨_, e2, rfl⟩, h _ e2 hi (by rw [Heap.size_push, e1]) fun b o z => Heap.get?_push_of_some _ (Heap.get?_push_of_some _ z)⟩
end
/-- enumerate of the tuple at a -/
def ItD (K : PySem.W.Frag) (a : Addr) : It :=
  ⟨fun i H => ∃ (xs : List V) (x : V), SqT K H a xs ∧ xs[i]? = some x, fun i H v H' => ∃ (T : Addr) (x : V), v = .ref T ∧ H T = none ∧ H' = upd H T (.tup [.int (i : Nat), x]) ∧ ∀ xs, SqT K H a xs → xs[i]? = some x, fun i H => ∃ xs : List V, SqT K H a xs ∧ xs.length = i⟩
theorem turn_enumT {P : Program} {w : World} {K : PySem.W.Frag} {elts : List Expr} {kk : Nat} {tpos : Pos} (a e it : Addr) (ha1 : a ≠ e) (ha2 : a ≠ it) :
    Turn P w K (.Tuple elts kk tpos) (ItD K a) [e, it] e (fun i h => (∃ old, IsEnum h e it ((i : Nat) : Int) old) ∧ h.IsTupleIter it a i ∧ e ≠ it) where
  mem := by simp
  obj := fun i h st b hb => by
    obtain ⟨⟨old, he⟩, ⟨o, ho, hc, hd⟩, _⟩ := st
    rcases (show b = e ∨ b = it by simpa using hb) with z | z
    · rw [z]
      exact ⟨_, he, fun v q => nomatch q⟩
    · rw [z]
      exact ⟨o, ho, fun v q => by rw [hd] at q; cases q⟩
  keep := fun i h h' st k => by
    obtain ⟨⟨old, he⟩, hi, hne⟩ := st
    exact ⟨⟨old, k e (by simp) _ he⟩, hi.at fun o q => k it (by simp) o q, hne⟩
  item := by
    rintro X rfl rfl rfl hc i pins s σ H E I hf ⟨⟨old, he⟩, hit, hne⟩ ⟨xs, x, hq, hx⟩
    obtain ⟨its, rv, p, hz⟩ := I.tuple hq
    obtain ⟨u, hu, ru⟩ := rv.get hx
    have hel : e < s.heap.objs.size := Heap.lt_size he
    have hil : it < s.heap.objs.size := by
      obtain ⟨_, q, _⟩ := hit
      exact Heap.lt_size q
    have hlt : i < its.toArray.size := by
      have := (List.getElem?_eq_some_iff.mp hu).1
      simpa using this
    have D := Draws.tuple (prog := X.prog) (w := X.w) (A := X.A.in1) (I.ok.hd hc) it a ha2 its.toArray
    refine wpAny_pyNext_enum_itemD D he ⟨hit, p⟩ hlt hne (by simp [hne, Ne.symm ha1]) fun x' h' tk hx' ho hst hT hsz hk => ?_
    have ex : x' = u := by
      have q : its.toArray[i]? = some x' := hx'
      rw [List.getElem?_toArray, hu] at q
      exact (Option.some.inj q).symm
    subst ex
    refine ⟨_, rfl, wpAny_letOwnedTupleGo_enum (s := { s with heap := h', toks := tk + 1 }) ho fun h2 he2 sb => ?_⟩
    have hT2 : h2.get? s.heap.objs.size = some { cls := .type "tuple", data := .seq #[.int i tk, x'] } := (sb.2 _ (Nat.ne_of_gt hel)).trans hT
    have new : ObjOk X.prog X.w (upd H s.heap.objs.size (.tup [.int (i : Nat), x])) h2 s.heap.objs.size (.tup [.int (i : Nat), x]) :=
      ⟨by show 2 ≤ sizeLine; decide, [.int i tk, x'], .cons ⟨_, rfl⟩ (.cons ru .nil), ⟨_, hT2, rfl, _, rfl⟩⟩
    have I1 : Inv X pins σ (upd H s.heap.objs.size (.tup [.int (i : Nat), x])) { s with heap := h2, toks := tk + 1 } :=
      I.turnedNew (ch := [e, it]) (fun b ob hb q => (sb.2 b (fun z => hb (by simp [z]))).trans (hk b ob (fun z => hb (by simp [z])) (fun z => hb (by simp [z])) q)) hf (Nat.le_refl _) new
    refine ⟨.ref s.heap.objs.size, _, I1, rfl, ⟨_, x, rfl, I.hok.fresh (Nat.le_refl _), rfl, fun ys hy => by rw [I.tuple_inj hy hq]; exact hx⟩, ⟨⟨x', ?_⟩, hst.1.at fun o q => (sb.2 it (Ne.symm hne)).trans q, hne⟩, fun b hb => ?_⟩
    · have e1 : ((i + 1 : Nat) : Int) = (i : Int) + 1 := by omega
      rw [e1]
      exact he2
    · have hb' : b < s.heap.objs.size := by
        rcases (show b = e ∨ b = it by simpa using hb) with z | z <;> rw [z] <;> assumption
      rw [upd_ne (Nat.ne_of_lt hb')]
      exact (hf b hb).1
  done := by
    rintro X rfl rfl rfl hc i pins s σ H E I hf ⟨⟨old, he⟩, hit, hne⟩ ⟨xs, hq, hx⟩
    obtain ⟨its, rv, p, hz⟩ := I.tuple hq
    obtain ⟨f0, f1, f2, f3, f4, f5⟩ := hf it (by simp)
    have hl := rv.length
    have D := Draws.tuple (prog := X.prog) (w := X.w) (A := X.A.in1) (I.ok.hd hc) it a ha2 its.toArray
    have hn : i = its.toArray.size := by
      rw [List.size_toArray, ← hl, hx]
    subst hn
    exact wpAny_pyNext_enum_endD D he ⟨hit, p⟩ fun h' eb => ⟨rfl, I.turned (t' := s.toks) (fun b o hb q => eb b o hb q) f0 f1 f3 f4 f5⟩
  self := fun A i s Q E st h => by
    obtain ⟨⟨old, he⟩, hi, hne⟩ := st
    exact wpAny_pyIter_enum he h
section
variable {Φ : Phi} {X : Cx} {pos p : Pos}
def iEnumA (K : PySem.W.Frag) (ta : TA) : TI := fun σ H R => ta σ H fun vs H1 => ∃ a xs, vs = [.ref a] ∧ SqT K H1 a xs ∧ R (ItD K a) H1
theorem pi_enumT {e : Expr} {ta : TA} {tpos : Pos} {elts : List Expr} {kk : Nat} (hg : Gl X "enumerate") (hm : X.mg "enumerate" = none) (ha : PA X [e] ta) (hs : starEach [e] X.env = [(false, eval e X.env)]) :
    PI X (.Tuple elts kk tpos) (.Call (.Name "enumerate" p) [e] [] pos) (iEnumA X.K ta) := by
  refine ⟨fun pins s σ H R I h => ?_⟩
  refine Call_ (ld_blt I hg hm boot_enumerate (PyProof.Rows.callWith_type1 (thn (ha.run pos pins s σ H _ I h) fun us s1 ⟨vs, H1, I1, r1, q1⟩ => ?_) hs rfl))
  obtain ⟨a, xs, ex, hq, q⟩ := q1
  subst ex
  cases r1 with
  | cons r rr =>
    cases rr
    cases r
    obtain ⟨its, rv, p', hz⟩ := I1.tuple hq
    have hal : a < s1.heap.objs.size := by
      obtain ⟨o, ho, _⟩ := id p'
      exact Heap.lt_size ho
    refine call_enumT p' fun h' he hit hsz hk => wpAny_pyIter_enum he ?_
    have I2 : Inv X pins σ H1 { s1 with heap := h' } := I1.kept (t' := s1.toks) hk
    refine ⟨s1.heap.objs.size + 1, [s1.heap.objs.size + 1, s1.heap.objs.size], _, _, H1, rfl, I2, turn_enumT a (s1.heap.objs.size + 1) s1.heap.objs.size (Nat.ne_of_lt (Nat.lt_succ_of_lt hal)) (Nat.ne_of_lt hal), ⟨⟨.none, he⟩, hit, Nat.succ_ne_self _⟩, fun b hb => ?_, q⟩
    have hle : s1.heap.objs.size ≤ b := by
      rcases (show b = s1.heap.objs.size + 1 ∨ b = s1.heap.objs.size by simpa using hb) with z | z <;> rw [z]
      · exact Nat.le_succ _
      · exact Nat.le_refl _
    exact I1.fpOk hle (I1.hok.fresh hle)
theorem walk_enumT {K : PySem.W.Frag} {a : Addr} {xs : List V} : Walk (ItD K a) xs.length (fun H => SqT K H a xs) (YPair (fun i => some (.int (i : Nat))) (fun i => xs[i]?)) := by
  refine ⟨fun i _ hi q => ⟨xs, xs[i], q, by simp [hi]⟩, fun _ q => ⟨xs, q, rfl⟩, fun i H v H' _ q y => ?_⟩
  obtain ⟨T, x, h1, h2, h3, h4⟩ := y
  exact ⟨T, .int (i : Nat), x, h1, h2, h3, rfl, h4 xs q⟩
theorem walk_zipT {K : PySem.W.Frag} {a b : Addr} {xs ys : List V} {n : Nat} (hn : n = min xs.length ys.length) : Walk (ItzT K a b) n (fun H => SqT K H a xs ∧ SqT K H b ys) (YPair (fun i => xs[i]?) (fun i => ys[i]?)) := by
  subst hn
  refine ⟨fun i _ hi q => ?_, fun _ q => ⟨xs, ys, q.1, q.2, by omega⟩, fun i H v H' _ q y => ?_⟩
  · have h1 : i < xs.length := by omega
    have h2 : i < ys.length := by omega
    exact ⟨xs, ys, xs[i], ys[i], q.1, q.2, by simp [h1], by simp [h2]⟩
  · obtain ⟨T, x, z, h1, h2, h3, h4, h5⟩ := y
    exact ⟨T, x, z, h1, h2, h3, h4 xs q.1, h5 ys q.2⟩
theorem enum_pairs {K : PySem.W.Frag} {H : Hp} {T : Addr → Prop} {m : List Addr} {l : List D} {xs : List V} (rs : Rps K H T m l xs) (i : Nat) (x y : V) (hi : i < (enumF 0 l).length) (hx : some (V.int (i : Nat)) = some x) (hy : xs[i]? = some y) :
    ∃ d e, (enumF 0 l)[i]? = some (.tup [d, e]) ∧ Rp K H T m d x ∧ Rp K H T m e y := by
  obtain ⟨d, hd, r⟩ := rs.getV hy
  cases hx
  refine ⟨.int (i : Nat), d, ?_, .int _, r⟩
  rw [getElem?_enumF, hd, Nat.zero_add]
  rfl
theorem i_enum {a : Expr} {c : CE} {elts : List Expr} {kk : Nat} {tpos : Pos} (hg : Gl X "enumerate") (hm : X.mg "enumerate" = none) (ha : PA X [a] (tA Φ X.K [c])) (hs : starEach [a] X.env = [(false, eval a X.env)]) :
    PI X (.Tuple elts kk tpos) (.Call (.Name "enumerate" p) [a] [] pos) (tI Φ X.K .enum [c]) :=
  PI.pick fun σ H Z ⟨F, m, S, ρ, ds, S1, its, s, en, hev, hi, q⟩ => by
    have hlen := evEs_len hev
    match ds, hlen with
    | [d], hq =>
      clear hq
      cases d <;> first | (exfalso; cases hi; done) | skip
      · cases hi
        refine ⟨_, pi_enumT hg hm (pa_bnd ha) hs, ?_⟩
        refine tA_one s en hev fun vs H1 m1 ex s1 en1 r1 hb => ?_
        cases r1 with
        | cons r rr =>
          cases rr
          obtain ⟨b, xs, rfl, ht, rs⟩ := rp_tup r
          refine ⟨b, xs, rfl, ht.sq, q _ H1 m1 ex s1 (by rw [length_enumF, rs.length]; exact hb b xs (.inl ht.sq)) ?_⟩
          exact walkD_pair (by rw [length_enumF, rs.length]; exact walk_enumT) (fun H2 m2 S2 ex2 => (TupAt.keep (Ex.lt (F := F) ex2) ht).sq) (enum_pairs rs)
      · cases hi
        refine ⟨_, pi_enum hg hm (pa_bnd ha) hs, ?_⟩
        refine tA_one s en hev fun vs H1 m1 ex s1 en1 r1 hb => ?_
        cases r1 with
        | cons r rr =>
          cases rr
          obtain ⟨b, xs, rfl, ht, hn, rs⟩ := rp_lst r
          refine ⟨b, xs, rfl, sqL_of_rd ht, q _ H1 m1 ex s1 (by rw [length_enumF, rs.length]; exact hb b xs (.inr (sqL_of_rd ht))) ?_⟩
          exact walkD_pair (by rw [length_enumF, rs.length]; exact walk_enum) (fun H2 m2 S2 ex2 => sqL_of_rd (LstF.keep (Ex.lt (F := F) ex2) ht hn)) (enum_pairs rs)
theorem length_zip2 : ∀ l r : List D, (zip2 l r).length = min l.length r.length
  | [], r => by simp [zip2]
  | x :: xs, [] => by simp [zip2]
  | x :: xs, y :: ys => by
    rw [zip2, List.length_cons, length_zip2 xs ys, List.length_cons, List.length_cons]
    omega
theorem getElem?_zip2 : ∀ (l r : List D) (i : Nat) (d e : D), l[i]? = some d → r[i]? = some e → (zip2 l r)[i]? = some (.tup [d, e])
  | [], r, i, d, e, h, _ => by simp at h
  | x :: xs, [], i, d, e, _, h => by simp at h
  | x :: xs, y :: ys, 0, d, e, h, h' => by
    simp at h h'
    subst h h'
    simp [zip2]
  | x :: xs, y :: ys, i + 1, d, e, h, h' => by
    rw [zip2, List.getElem?_cons_succ]
    exact getElem?_zip2 xs ys i d e (by simpa using h) (by simpa using h')
theorem zip_pairs {K : PySem.W.Frag} {H : Hp} {T : Addr → Prop} {m : List Addr} {l r : List D} {xs ys : List V} (rs : Rps K H T m l xs) (rs' : Rps K H T m r ys) (i : Nat) (x y : V) (hi : i < (zip2 l r).length) (hx : xs[i]? = some x) (hy : ys[i]? = some y) :
    ∃ d e, (zip2 l r)[i]? = some (.tup [d, e]) ∧ Rp K H T m d x ∧ Rp K H T m e y := by
  obtain ⟨d, hd, r1⟩ := rs.getV hx
  obtain ⟨e, he, r2⟩ := rs'.getV hy
  exact ⟨d, e, getElem?_zip2 l r i d e hd he, r1, r2⟩
theorem i_zip2 {a b : Expr} {c c' : CE} {elts : List Expr} {kk : Nat} {tpos : Pos} (hg : Gl X "zip") (hm : X.mg "zip" = none) (ha : PA X [a, b] (tA Φ X.K [c, c'])) (hs : starEach [a, b] X.env = (false, eval a X.env) :: starEach [b] X.env)
    (hpl : (backTo pos (starEach [b] X.env)).any (·.1) = false) : PI X (.Tuple elts kk tpos) (.Call (.Name "zip" p) [a, b] [] pos) (tI Φ X.K .zip2 [c, c']) :=
  PI.pick fun σ H Z ⟨F, m, S, ρ, ds, S1, its, s, en, hev, hi, q⟩ => by
    have hlen := evEs_len hev
    refine ⟨_, pi_zipA hg hm (pa_bnd ha) hs hpl, ?_⟩
    match ds, hlen with
    | [d, e], hq =>
      clear hq
      refine tA_one s en hev fun vs H1 m1 ex s1 en1 r1 hb => ?_
      cases r1 with
      | cons r rr =>
        cases rr with
        | cons r' rr =>
          cases rr
          cases d <;> cases e <;> first | (exfalso; cases hi; done) | skip
          · cases hi
            obtain ⟨a1, xs, rfl, ht, rs⟩ := rp_tup r
            obtain ⟨a2, ys, rfl, ht', rs'⟩ := rp_tup r'
            refine ⟨a1, a2, xs, ys, rfl, .inr ⟨ht.sq, ht'.sq, q _ H1 m1 ex s1 (by have := hb a1 xs (.inl ht.sq); rw [length_zip2, rs.length]; omega) ?_⟩⟩
            exact walkD_pair (walk_zipT (by rw [length_zip2, rs.length, rs'.length])) (fun H2 m2 S2 ex2 => ⟨(TupAt.keep (Ex.lt (F := F) ex2) ht).sq, (TupAt.keep (Ex.lt (F := F) ex2) ht').sq⟩) (zip_pairs rs rs')
          · cases hi
            obtain ⟨a1, xs, rfl, ht, hn, rs⟩ := rp_lst r
            obtain ⟨a2, ys, rfl, ht', hn', rs'⟩ := rp_lst r'
            refine ⟨a1, a2, xs, ys, rfl, .inl ⟨sqL_of_rd ht, sqL_of_rd ht', q _ H1 m1 ex s1 (by have := hb a1 xs (.inr (sqL_of_rd ht)); rw [length_zip2, rs.length]; omega) ?_⟩⟩
            exact walkD_pair (walk_zip (by rw [length_zip2, rs.length, rs'.length])) (fun H2 m2 S2 ex2 => ⟨sqL_of_rd (LstF.keep (Ex.lt (F := F) ex2) ht hn), sqL_of_rd (LstF.keep (Ex.lt (F := F) ex2) ht' hn')⟩) (zip_pairs rs rs')
end
end NG
end

section
set_option autoImplicit false
set_option maxRecDepth 100000
set_option maxHeartbeats 1000000
namespace NG
open PySem PySem.Spec PyProof.Rows L2
variable [HasW]

/-! ## targets -/
mutual
def slots : Tg → List Nat
  | .one i => [i]
  | .tup ts => slotss ts
def slotss : List Tg → List Nat
  | [] => []
  | t :: ts => slots t ++ slotss ts
end
section
variable {X : Cx} {pos : Pos} {K : PySem.W.Frag}
def gT (K : PySem.W.Frag) (t : Tg) : TG := fun v σ H Q => ∃ T m ρ d ρ', EnvR K H T m ρ σ ∧ Rp K H T m d v ∧ asg t d ρ = some ρ' ∧
  ∀ σ', EnvR K H T m ρ' σ' → σ'.length = σ.length → (∀ i, i ∉ slots t → σ'[i]? = σ[i]?) → Q σ' H
def gTs (K : PySem.W.Frag) (ts : List Tg) : TGs := fun vs σ H Q => ∃ T m ρ ds ρ', EnvR K H T m ρ σ ∧ Rps K H T m ds vs ∧ asgs ts ds ρ = some ρ' ∧
  ∀ σ', EnvR K H T m ρ' σ' → σ'.length = σ.length → (∀ i, i ∉ slotss ts → σ'[i]? = σ[i]?) → Q σ' H
theorem PG.pick {e : Expr} {t : TG} (h : ∀ v σ H Q, t v σ H Q → ∃ t', PG X e t' ∧ t' v σ H Q) : PG X e t :=
  ⟨fun pins s σ H v u Q I r q => by
    obtain ⟨t', p, q'⟩ := h v σ H Q q
    exact p.run pins s σ H v u Q I r q'⟩
theorem PGs.pick {es : List Expr} {t : TGs} (h : ∀ vs σ H Q, t vs σ H Q → ∃ t', PGs X es t' ∧ t' vs σ H Q) : PGs X es t :=
  ⟨fun pins s σ H v u Q I r q => by
    obtain ⟨t', p, q'⟩ := h v σ H Q q
    exact p.run pins s σ H v u Q I r q'⟩
theorem g_one {i : Nat} {x : Str} (hN : X.N.Nodup) (hi : X.N[i]? = some x) (hx : Loc X.env.scope x) (hf : X.fn x = true ∨ X.env.scope.names.lookup x = some .local) : PG X (.Name x pos) (gT X.K (.one i)) :=
  PG.pick fun v σ H Q ⟨T, m, ρ, d, ρ', e, r, ha, q⟩ => by
    refine ⟨_, pg_name hN hi hx hf, ?_⟩
    simp only [asg] at ha
    split at ha
    · cases ha
      refine q _ (e.set r i) (by rw [List.length_set]) fun j hj => ?_
      rw [List.getElem?_set_ne]
      intro z
      subst z
      exact hj (by simp [slots])
    · cases ha
theorem asgs_len : ∀ {ts : List Tg} {ds : List D} {ρ ρ' : Env}, asgs ts ds ρ = some ρ' → ds.length = ts.length
  | [], [], _, _, _ => rfl
  | [], _ :: _, _, _, h => by simp [asgs] at h
  | _ :: _, [], _, _, h => by simp [asgs] at h
  | t :: ts, d :: ds, ρ, ρ', h => by
    simp only [asgs] at h
    split at h
    · rw [List.length_cons, List.length_cons, asgs_len h]
    · cases h
theorem g_tup {es : List Expr} {k : Nat} {ts : List Tg} (hc : X.calm = true) (h : PGs X es (gTs X.K ts)) (hn : (assignEach es X.env).length = ts.length) (hst : (assignEach es X.env).findIdx? (·.1) = none) : PG X (.Tuple es k pos) (gT X.K (.tup ts)) :=
  PG.pick fun v σ H Q ⟨T, m, ρ, d, ρ', e, r, ha, q⟩ => by
    refine ⟨_, pg_tup hc h hn hst, ?_⟩
    cases d <;> first | (exfalso; simp [asg] at ha; done) | skip
    simp only [asg] at ha
    obtain ⟨a, xs, rfl, t, rs⟩ := rp_tup r
    exact ⟨a, xs, rfl, t.sq, by rw [← rs.length]; exact asgs_len ha, T, m, ρ, _, ρ', e, rs, ha, q⟩
theorem g_nil : PGs X [] (gTs X.K []) :=
  PGs.pick fun vs σ H Q ⟨T, m, ρ, ds, ρ', e, r, ha, q⟩ => by
    refine ⟨_, pgs_nil, ?_⟩
    cases r with
    | nil =>
      cases ha
      exact ⟨rfl, q σ e rfl fun _ _ => rfl⟩
    | cons a b => simp [asgs] at ha
theorem g_cons {e : Expr} {es : List Expr} {t : Tg} {ts : List Tg} (h1 : PG X e (gT X.K t)) (h2 : PGs X es (gTs X.K ts)) (hs : (assignEach (e :: es) X.env).map (·.2) = assign e X.env :: (assignEach es X.env).map (·.2)) : PGs X (e :: es) (gTs X.K (t :: ts)) :=
  PGs.pick fun vs σ H Q ⟨T, m, ρ, ds, ρ', en, r, ha, q⟩ => by
    refine ⟨_, pgs_cons h1 h2 hs, ?_⟩
    cases r with
    | nil => simp [asgs] at ha
    | cons a b =>
      simp only [asgs] at ha
      split at ha
      · rename_i ρ1 h1
        refine ⟨_, _, rfl, T, m, ρ, _, ρ1, en, a, h1, fun σ1 e1 l1 k1 => ?_⟩
        refine ⟨T, m, ρ1, _, ρ', e1, b, ha, fun σ2 e2 l2 k2 => q σ2 e2 (l2.trans l1) fun i hi => ?_⟩
        simp only [slotss, List.mem_append, not_or] at hi
        rw [k2 i hi.2, k1 i hi.1]
      · cases ha
end

/-! ## comprehensions -/
theorem wipe_get (σ : L2.St) (i : Nat) : ∀ vs : List Nat, (L2.wipe σ vs)[i]? = if i ∈ vs ∧ i < σ.length then some none else σ[i]?
  | [] => by simp [L2.wipe]
  | v :: vs => by
    show ((L2.wipe σ vs).set v none)[i]? = _
    by_cases h : v = i
    · subst h
      by_cases hl : v < σ.length
      · rw [List.getElem?_set_self (by rw [L2.wipe_length]; exact hl), if_pos ⟨List.mem_cons_self .., hl⟩]
      · rw [if_neg (fun z => hl z.2), List.getElem?_eq_none (by rw [List.length_set, L2.wipe_length]; omega), List.getElem?_eq_none (by omega)]
    · rw [List.getElem?_set_ne h, wipe_get σ i vs]
      have : i ∈ v :: vs ↔ i ∈ vs := by
        rw [List.mem_cons]
        exact ⟨fun z => z.elim (fun q => absurd q.symm h) id, .inr⟩
      simp only [this]
theorem wipe_eq {σ τ : L2.St} {vs : List Nat} (hl : σ.length = τ.length) (h : ∀ i, i ∉ vs → σ[i]? = (L2.wipe τ vs)[i]?) : L2.wipe σ vs = L2.wipe τ vs := by
  refine List.ext_getElem? fun i => ?_
  by_cases hi : i ∈ vs
  · rw [wipe_get, wipe_get, hl]
    by_cases hi2 : i < τ.length
    · rw [if_pos ⟨hi, hi2⟩, if_pos ⟨hi, hi2⟩]
    · rw [if_neg (fun z => hi2 z.2), if_neg (fun z => hi2 z.2), List.getElem?_eq_none (by omega), List.getElem?_eq_none (by omega)]
  · rw [← h i hi, wipe_get, if_neg (fun z => hi z.1)]
section
variable {Φ : Phi} {X : Cx} {pos : Pos}
def tTs (Φ : Phi) (K : PySem.W.Frag) (cs : List CE) : TT := fun σ H Q => ∃ F m S ρ b S1, Sto K H F m S ∧ EnvR K H (Tk F m S) m ρ σ ∧ evC Φ cs ρ S = .ok b S1 ∧ ∀ H1 m1, Ex H m S H1 m1 S1 → Sto K H1 F m1 S1 → Q b H1
theorem PTs.pick {es : List Expr} {t : TT} (h : ∀ σ H Q, t σ H Q → ∃ t', PTs X es t' ∧ t' σ H Q) : PTs X es t :=
  ⟨fun pins s σ H Q I q => by
    obtain ⟨t', p, q'⟩ := h σ H Q q
    exact p.run pins s σ H Q I q'⟩
theorem ts_nil : PTs X [] (tTs Φ X.K []) :=
  PTs.pick fun σ H Q ⟨F, m, S, ρ, b, S1, s, e, h, q⟩ => by
    refine ⟨_, pts_nil, ?_⟩
    simp only [evC] at h
    cases h
    exact q H m Ex.refl s
theorem ts_one {e : Expr} {c : CE} (h : PT X e (tT Φ X.K c)) : PTs X [e] (tTs Φ X.K [c]) :=
  PTs.pick fun σ H Q ⟨F, m, S, ρ, b, S1, s, e, hev, q⟩ => by
    refine ⟨_, pts_one h, ?_⟩
    simp only [evC] at hev
    obtain ⟨x, S2, h1, hev⟩ := R.bind_ok hev
    obtain ⟨h2, rfl⟩ := lift_ok hev
    exact tT_one s e h1 h2 fun H1 m1 ex s1 e1 => q H1 m1 ex s1

theorem lc_tF {t : Tg} {k : ItK} {src cond : List CE} {c : CE} {own : List Nat} {K : PySem.W.Frag} (ht : ∀ i, i ∈ slots t → i ∈ own) {σ : L2.St} {H : Hp} {Q : VK} (h : tF Φ K (.comp c t own k src cond) σ H Q) : tLc (tI Φ K k src) (gT K t) (tTs Φ K cond) (tE Φ K c) own σ H Q := by
  obtain ⟨F, m, S, ρ, ys, S', s, e, hev, q⟩ := h
  simp only [evE] at hev
  obtain ⟨ds, S1, h1, hev⟩ := R.bind_ok hev
  cases hi : iterE k ds with
  | none => rw [hi] at hev; cases hev
  | some its =>
    rw [hi] at hev
    obtain ⟨ys', S2, h2, hev⟩ := R.bind_ok hev
    cases hev
    · refine ⟨F, m, S, ρ, ds, S1, its, s, e, h1, hi, fun J H1 m1 ex1 s1 hl w D hD => ?_⟩
      obtain ⟨G, Y, w, hw⟩ := w
      have e1 := e.mono ex1.lt
      have hF : ∀ a, (F a ∨ a = D) → F a ∨ H1 a = none := fun a z => z.imp id fun z => by rw [z]; exact hD
      have hD1 : ¬ Trk m1 S1 D := fun t => by
        obtain ⟨o, z⟩ := s1.has (.inr t)
        rw [hD] at z
        cases z
      refine lc_it w (fun i H2 => ∃ m2 S2' accD accV rest, Ex H1 m1 S1 H2 m2 S2' ∧ Sto K H2 (fun a => F a ∨ a = D) m2 S2' ∧ H2 D = some (.lst accV) ∧ Rps K H2 (Tk (fun a => F a ∨ a = D) m2 S2') m2 accD accV ∧ accV.length ≤ i ∧
        compL t (evC Φ cond) (evE Φ c) (NG.wipe ρ own) (its.drop i) S2' = .ok rest S' ∧ ys = accD ++ rest) ?_ ?_ ?_ ?_
      · exact ⟨m1, S1, [], [], ys, Ex.laid hD, s1.addF hD, upd_same, .nil, Nat.le_refl _, by rw [List.drop_zero]; exact h2, rfl⟩
      · rintro i H2 _ ⟨m2, S2', accD, accV, rest, ex2, s2, _⟩
        exact (hw _ H2 m2 S2' hF ex2 s2).1
      · rintro i x H2 H3 hi2 ⟨m2, S2', accD, accV, rest, ex2, s2, hHD, ra, hal, hc, hys⟩ hy
        obtain ⟨ex3, s3, dd, hdd, rd⟩ := (hw _ H2 m2 S2' hF ex2 s2).2 i x H3 hi2 hy
        have hdrop : its.drop i = dd :: its.drop (i + 1) := by
          obtain ⟨z1, z2⟩ := List.getElem?_eq_some_iff.mp hdd
          rw [List.drop_eq_getElem_cons z1, z2]
        rw [hdrop] at hc
        simp only [compL_nil, compL_cons] at hc
        cases ha : asg t dd (NG.wipe ρ own) with
        | none => rw [ha] at hc; cases hc
        | some ρ1 =>
          rw [ha] at hc
          obtain ⟨b, S3, hb, hc⟩ := R.bind_ok hc
          have ew := ((e1.mono ((ex2.trans ex3).ltF hF)).wipe own)
          refine ⟨_, m2, _, dd, ρ1, ew, rd, ha, fun σ2 eσ hlen hk => ⟨?_, ?_⟩⟩
          · refine (wipe_eq (by rw [hlen, L2.wipe_length]) fun i hi => hk i fun z => hi (ht i z))
          · refine ⟨_, m2, S2', ρ1, b, S3, s3, eσ, hb, fun H4 m4 ex4 s4 => ?_⟩
            have hHD3 : H3 D = some (.lst accV) := ex3.old D _ hHD (s2.apart D (.inr rfl))
            have hHD4 : H4 D = some (.lst accV) := ex4.old D _ hHD3 (s3.apart D (.inr rfl))
            have ra4 := (ra.mono (ex3.lt (F := fun a => F a ∨ a = D))).mono (ex4.lt (F := fun a => F a ∨ a = D))
            have exx := (ex2.trans ex3).trans ex4
            cases b with
            | true =>
              show if true = true then _ else _
              rw [if_pos rfl]
              rw [if_pos rfl] at hc
              obtain ⟨y, S5, hy5, hc⟩ := R.bind_ok hc
              obtain ⟨ys', S6, hc6, hc⟩ := R.bind_ok hc
              cases hc
              refine ⟨_, m4, S3, ρ1, y, S5, s4, eσ.mono ex4.lt, hy5, fun v H5 m5 ex5 s5 r5 => ?_⟩
              have hHD5 : H5 D = some (.lst accV) := ex5.old D _ hHD4 (s4.apart D (.inr rfl))
              have hLim : (LIM : Nat) = sizeLine := line_LIM
              refine ⟨accV, hHD5, by omega, ?_⟩
              have lt5 := put_lt (H := H5) (F := fun a => F a ∨ a = D) (m := m5) (S := S5) (D := D) (o := .lst (accV ++ [v])) (.inr rfl)
              have exf : Ex H1 m1 S1 (upd H5 D (.lst (accV ++ [v]))) m5 S5 := by
                have ex := exx.trans ex5
                refine ⟨ex.pre, fun a o z n => ?_, ex.trk⟩
                rw [upd_ne (fun q => by rw [q, hD] at z; cases z)]
                exact ex.old a o z n
              refine ⟨m5, S5, accD ++ [y], accV ++ [v], ys', exf, s5.put (.inr rfl), upd_same, ?_, ?_, hc6, ?_⟩
              · exact ((ra4.mono ex5.lt).mono lt5).app (.cons (r5.mono lt5) .nil)
              · rw [List.length_append]
                simp
                exact hal
              · rw [hys]
                simp
            | false =>
              show if false = true then _ else _
              rw [if_neg Bool.false_ne_true]
              rw [if_neg Bool.false_ne_true] at hc
              exact ⟨m4, S3, accD, accV, rest, exx, s4, hHD4, ra4, by omega, hc, hys⟩
      · rintro H2 ⟨m2, S2', accD, accV, rest, ex2, s2, hHD, ra, hal, hc, hys⟩
        rw [List.drop_length] at hc
        simp only [compL_nil, compL_cons] at hc
        cases hc
        rw [List.append_nil] at hys
        subst hys
        exact q accV H2 m2 D (ex1.none s1 hD) (ex1.trans ex2) s2 hHD ra
theorem isL_comp {c : CE} {t : Tg} {own : List Nat} {k : ItK} {src cond : List CE} : isL Φ (.comp c t own k src cond) := fun ρ S d S1 h => by
  simp only [evE] at h
  obtain ⟨ds, S2, ha, h⟩ := R.bind_ok h
  cases hi : iterE k ds with
  | none => rw [hi] at h; cases h
  | some its =>
    rw [hi] at h
    obtain ⟨ys, S3, h2, h⟩ := R.bind_ok h
    cases h
    exact ⟨_, rfl⟩
end
end NG
end

section
set_option autoImplicit false
set_option maxRecDepth 100000
set_option maxHeartbeats 1000000
namespace NG
open PySem PySem.Spec PyProof.Rows L2
variable [HasW]
section
variable {Φ : Phi} {X : Cx} {pos : Pos} {W : Nat}
theorem f_comp {elt tg iter : Expr} {ifs : List Expr} {scope : Scope} {own : List (Str × Nat)} {t : Tg} {k : ItK} {src cond : List CE} {c : CE} (hc : X.calm = true) (hN : X.N.Nodup) (hi : PI X tg iter (tI Φ X.K k src)) (ok : BlkOk X.N X.env.scope scope own)
    (hg : ∀ (s : Shared) (H : Hp) (C : Addr) (cl : List (Str × Addr)) (fp : List Addr), PG (X.blk s H scope (compEnvC scope cl C X.env) fp) tg (gT X.K t)) (ht : ∀ (s : Shared) (H : Hp) (C : Addr) (cl : List (Str × Addr)) (fp : List Addr), PTs (X.blk s H scope (compEnvC scope cl C X.env) fp) ifs (tTs Φ X.K cond))
    (he : ∀ (s : Shared) (H : Hp) (C : Addr) (cl : List (Str × Addr)) (fp : List Addr), PE (X.blk s H scope (compEnvC scope cl C X.env) fp) elt (tE Φ X.K c)) (hs : ∀ x, foldedSetIterable iter X.env x = pure x) (hsl : ∀ i, i ∈ slots t → i ∈ own.map (·.2)) :
    PE X (.ListComp elt [⟨tg, iter, ifs, 0⟩] scope pos) (tF Φ X.K (.comp c t (own.map (·.2)) k src cond)) :=
  PE.pick fun σ H Q h => ⟨_, pe_lc hc hN hi ok hg ht he hs, lc_tF hsl h⟩

/-- what is wanted behind statements -/
def EndF (K : PySem.W.Frag) (D : Ends) (H : Hp) (F : Addr → Prop) (m : List Addr) (S S1 : Store) : Fl → Prop
  | .nx ρ' => ∀ σ' H1 m1, Ex H m S H1 m1 S1 → Sto K H1 F m1 S1 → EnvR K H1 (Tk F m1 S1) m1 ρ' σ' → D.nx σ' H1
  | .rt d => ∀ v H1 m1, Ex H m S H1 m1 S1 → Sto K H1 F m1 S1 → Rp K H1 (Tk F m1 S1) m1 d v → D.rt v H1
  | .bk ρ' => ∀ σ' H1 m1, Ex H m S H1 m1 S1 → Sto K H1 F m1 S1 → EnvR K H1 (Tk F m1 S1) m1 ρ' σ' → D.bk σ' H1
  | .ct ρ' => ∀ σ' H1 m1, Ex H m S H1 m1 S1 → Sto K H1 F m1 S1 → EnvR K H1 (Tk F m1 S1) m1 ρ' σ' → D.ct σ' H1
theorem EndF.after {K : PySem.W.Frag} {D : Ends} {H H1 : Hp} {F : Addr → Prop} {m m1 : List Addr} {S S1 S2 : Store} {fl : Fl} (h : EndF K D H F m S S2 fl) (ex : Ex H m S H1 m1 S1) : EndF K D H1 F m1 S1 S2 fl := by
  cases fl <;> exact fun a H2 m2 ex2 s2 r2 => h a H2 m2 (ex.trans ex2) s2 r2
def tS (W : Nat) (Φ : Phi) (K : PySem.W.Frag) (c : CS) : TS := fun D σ H => ∃ F m S ρ fl S1, Sto K H F m S ∧ EnvR K H (Tk F m S) m ρ σ ∧ evS W Φ c ρ S = .ok fl S1 ∧ EndF K D H F m S S1 fl
def tSs (W : Nat) (Φ : Phi) (K : PySem.W.Frag) (cs : List CS) : TS := fun D σ H => ∃ F m S ρ fl S1, Sto K H F m S ∧ EnvR K H (Tk F m S) m ρ σ ∧ evSs W Φ cs ρ S = .ok fl S1 ∧ EndF K D H F m S S1 fl
theorem PS.pick {st : Stmt} {t : TS} (h : ∀ D σ H, t D σ H → ∃ t', PS X st t' ∧ t' D σ H) : PS X st t :=
  ⟨fun pins s σ H D I q => by
    obtain ⟨t', p, q'⟩ := h D σ H q
    exact p.run pins s σ H D I q'⟩
theorem PSs.pick {st : List Stmt} {t : TS} (h : ∀ D σ H, t D σ H → ∃ t', PSs X st t' ∧ t' D σ H) : PSs X st t :=
  ⟨fun pins s σ H D I q => by
    obtain ⟨t', p, q'⟩ := h D σ H q
    exact p.run pins s σ H D I q'⟩
theorem q_nil : PSs X [] (tSs W Φ X.K []) :=
  PSs.pick fun D σ H ⟨F, m, S, ρ, fl, S1, s, e, h, q⟩ => by
    refine ⟨_, pss_nil, ?_⟩
    simp only [evSs] at h
    cases h
    exact q σ H m Ex.refl s e
theorem q_cons {st : Stmt} {rest : List Stmt} {c : CS} {cs : List CS} (h1 : PS X st (tS W Φ X.K c)) (h2 : PSs X rest (tSs W Φ X.K cs)) : PSs X (st :: rest) (tSs W Φ X.K (c :: cs)) :=
  PSs.pick fun D σ H ⟨F, m, S, ρ, fl, S1, s, e, h, q⟩ => by
    refine ⟨_, pss_cons h1 h2, ?_⟩
    simp only [evSs] at h
    obtain ⟨f1, S2, e1, h⟩ := R.bind_ok h
    refine ⟨F, m, S, ρ, f1, S2, s, e, e1, ?_⟩
    cases f1 with
    | nx ρ' => exact fun σ' H1 m1 ex s1 e1 => ⟨F, m1, S2, ρ', fl, S1, s1, e1, h, q.after ex⟩
    | rt d => cases h; exact q
    | bk ρ' => cases h; exact q
    | ct ρ' => cases h; exact q
theorem q_pass : PS X (.Pass pos) (tS W Φ X.K .pass) :=
  PS.pick fun D σ H ⟨F, m, S, ρ, fl, S1, s, e, h, q⟩ => by
    refine ⟨_, ps_pass, ?_⟩
    simp only [evS] at h
    cases h
    exact q σ H m Ex.refl s e
theorem q_brk : PS X (.Break pos) (tS W Φ X.K .brk) :=
  PS.pick fun D σ H ⟨F, m, S, ρ, fl, S1, s, e, h, q⟩ => by
    refine ⟨_, ps_break, ?_⟩
    simp only [evS] at h
    cases h
    exact q σ H m Ex.refl s e
theorem q_cont : PS X (.Continue pos) (tS W Φ X.K .cont) :=
  PS.pick fun D σ H ⟨F, m, S, ρ, fl, S1, s, e, h, q⟩ => by
    refine ⟨_, ps_continue, ?_⟩
    simp only [evS] at h
    cases h
    exact q σ H m Ex.refl s e
theorem q_raise {st : Stmt} {k : Nat} {c : CE} : PS X st (tS W Φ X.K (.raise k c)) :=
  PS.pick fun D σ H ⟨F, m, S, ρ, fl, S1, s, e, h, q⟩ => by
    simp only [evS] at h
    obtain ⟨x, S2, e1, h⟩ := R.bind_ok h
    cases h
theorem q_ret {a : Expr} {c : CE} (ha : PE X a (tE Φ X.K c)) : PS X (.Return (some a) pos) (tS W Φ X.K (.ret c)) :=
  PS.pick fun D σ H ⟨F, m, S, ρ, fl, S1, s, e, h, q⟩ => by
    refine ⟨_, ps_ret ha, ?_⟩
    simp only [evS] at h
    obtain ⟨x, S2, e1, h⟩ := R.bind_ok h
    cases h
    exact tE_one s e e1 fun v H1 m1 ex s1 e1 r1 => q v H1 m1 ex s1 r1
theorem q_expr {a : Expr} {c : CE} (ha : PE X a (tE Φ X.K c)) (hs : swapsWith a none pos.line X.env = pure false) : PS X (.Expr a pos) (tS W Φ X.K (.expr c)) :=
  PS.pick fun D σ H ⟨F, m, S, ρ, fl, S1, s, e, h, q⟩ => by
    refine ⟨_, ps_expr ha hs, ?_⟩
    simp only [evS] at h
    obtain ⟨x, S2, e1, h⟩ := R.bind_ok h
    cases h
    exact tE_one s e e1 fun v H1 m1 ex s1 e1 r1 => q σ H1 m1 ex s1 e1
theorem q_if {c : Expr} {a b : List Stmt} {cc : CE} {ca cb : List CS} (hc : PT X c (tT Φ X.K cc)) (ha : PSs X a (tSs W Φ X.K ca)) (hb : PSs X b (tSs W Φ X.K cb)) : PS X (.If c a b pos) (tS W Φ X.K (.ite cc ca cb)) :=
  PS.pick fun D σ H ⟨F, m, S, ρ, fl, S1, s, e, h, q⟩ => by
    refine ⟨_, ps_if hc ha hb, ?_⟩
    simp only [evS] at h
    obtain ⟨x, S2, e1, h⟩ := R.bind_ok h
    cases hx : truthy (vw S2 x) with
    | none => rw [hx] at h; cases h
    | some k =>
      rw [hx] at h
      refine tT_one s e e1 hx fun H1 m1 ex s1 e1 => ?_
      cases k with
      | true =>
        show if true = true then _ else _
        rw [if_pos rfl]
        exact ⟨F, m1, S2, ρ, fl, S1, s1, e1, h, q.after ex⟩
      | false =>
        show if false = true then _ else _
        rw [if_neg Bool.false_ne_true]
        exact ⟨F, m1, S2, ρ, fl, S1, s1, e1, h, q.after ex⟩
theorem q_set {tg a : Expr} {t : Tg} {c : CE} (ha : PE X a (tE Φ X.K c)) (hg : PG X tg (gT X.K t)) (hs : swapsWithSole [tg] a pos.line X.env = pure false) (hw : swappedStores [tg] a X.env = pure none)
    (h1 : (assignEach [tg] X.env).map (·.2) = [assign tg X.env]) : PS X (.Assign [tg] a pos) (tS W Φ X.K (.set t c)) :=
  PS.pick fun D σ H ⟨F, m, S, ρ, fl, S1, s, e, h, q⟩ => by
    refine ⟨_, ps_asg ha hg hs hw h1, ?_⟩
    simp only [evS] at h
    obtain ⟨x, S2, e1, h⟩ := R.bind_ok h
    cases hx : asg t x ρ with
    | none => rw [hx] at h; cases h
    | some ρ' =>
      rw [hx] at h
      cases h
      exact tE_one s e e1 fun v H1 m1 ex s1 e1 r1 => ⟨_, m1, ρ, x, ρ', e1, r1, hx, fun σ' e2 _ _ => q σ' H1 m1 ex s1 e2⟩
theorem q_setLc {i : Nat} {y : Str} {py : Pos} {elt tg iter : Expr} {ifs : List Expr} {scope : Scope} {own : List (Str × Nat)} {cpos : Pos} {t : Tg} {k : ItK} {src cond : List CE} {c : CE} (hc : X.calm = true) (hN : X.N.Nodup) (hy : X.N[i]? = some y) (hyl : X.env.scope.names.lookup y = some .local)
    (hsw : swapsWith (.ListComp elt [⟨tg, iter, ifs, 0⟩] scope cpos) (some (.Name y py)) pos.line X.env = pure true) (hi : PI X tg iter (tI Φ X.K k src)) (ok : BlkOk X.N X.env.scope scope own)
    (hg : ∀ (s : Shared) (H : Hp) (C : Addr) (cl : List (Str × Addr)) (fp : List Addr), PG (X.blk s H scope (compEnvC scope cl C X.env) fp) tg (gT X.K t)) (ht : ∀ (s : Shared) (H : Hp) (C : Addr) (cl : List (Str × Addr)) (fp : List Addr), PTs (X.blk s H scope (compEnvC scope cl C X.env) fp) ifs (tTs Φ X.K cond))
    (he : ∀ (s : Shared) (H : Hp) (C : Addr) (cl : List (Str × Addr)) (fp : List Addr), PE (X.blk s H scope (compEnvC scope cl C X.env) fp) elt (tE Φ X.K c)) (hs : ∀ x, foldedSetIterable iter X.env x = pure x) (hsl : ∀ i, i ∈ slots t → i ∈ own.map (·.2)) (al : Bool) :
    PS X (.Assign [.Name y py] (.ListComp elt [⟨tg, iter, ifs, 0⟩] scope cpos) pos) (tS W Φ X.K (.set (.one i) (if al then .alloc (.comp c t (own.map (·.2)) k src cond) else .comp c t (own.map (·.2)) k src cond))) :=
  PS.pick fun D σ H ⟨F, m, S, ρ, fl, S1, s, e, h, q⟩ => by
    refine ⟨_, ps_setLc hc hN hy hyl hsw hi ok hg ht he hs, ?_⟩
    simp only [evS] at h
    obtain ⟨x, S2, e1, h⟩ := R.bind_ok h
    cases hx : asg (.one i) x ρ with
    | none => rw [hx] at h; cases h
    | some ρ' =>
      rw [hx] at h
      cases h
      have fin : tE Φ X.K (if al then .alloc (.comp c t (own.map (·.2)) k src cond) else .comp c t (own.map (·.2)) k src cond) σ H (fun x H1 => gName i x σ H1 D.nx) := by
        refine tE_one s e e1 fun v H1 m1 ex s1 e1 r1 => ?_
        simp only [asg] at hx
        split at hx
        · cases hx
          exact q _ H1 m1 ex s1 (e1.set r1 i)
        · cases hx
      cases al with
      | false =>
        rw [if_neg Bool.false_ne_true] at fin
        obtain ⟨F, m, S, ρ, d, S1, s, en, he, q⟩ := fin
        obtain ⟨l, rfl⟩ := isL_comp _ _ _ _ he
        exact lc_tF hsl ⟨F, m, S, ρ, l, S1, s, en, he, Fin.frz s.oth q⟩
      | true =>
        rw [if_pos rfl] at fin
        exact lc_tF hsl (tF_alloc fin isL_comp)
theorem set_same {σ : L2.St} {i : Nat} {v : V} (hv : σ[i]? = some (some v)) : σ.set i (some v) = σ := by
  refine List.ext_getElem? fun j => ?_
  by_cases hj : i = j
  · subst hj
    rw [List.getElem?_set_self (List.getElem?_eq_some_iff.mp hv).1, hv]
  · rw [List.getElem?_set_ne hj]
theorem q_ghost {st : List Stmt} {cs : List CS} {i : Nat} (h1 : PSs X st (tSs W Φ X.K cs)) : PSs X st (tSs W Φ X.K (.ghost i :: cs)) :=
  ⟨fun pins s0 σ H D I ⟨F, m, S, ρ, fl, S1, s, e, h, q⟩ => by
    simp only [evSs, evS] at h
    obtain ⟨f1, S2, e1, h⟩ := R.bind_ok h
    cases hx : ρ[i]? with
    | none => rw [hx] at e1; cases e1
    | some x =>
      rw [hx] at e1
      cases x <;> first | (exfalso; cases e1; done) | skip
      rename_i n
      have e1 : (match S[n]? with
        | some (.lst l) => R.ok (Fl.nx (ρ.set i (.lst l))) (S.set n .dead)
        | some (.dic t l) => R.ok (Fl.nx (ρ.set i (.dic t l))) (S.set n .dead)
        | _ => .bad) = .ok f1 S2 := e1
      cases hn : S[n]? with
      | none => rw [hn] at e1; cases e1
      | some c =>
        rw [hn] at e1
        cases c <;> first | (exfalso; cases e1; done) | skip
        · cases e1
          obtain ⟨v, hv, rv⟩ := e.at_ i _ hx (fun z => by cases z)
          cases rv with
          | ref hm =>
            obtain ⟨ex, s1, r1⟩ := st_freeze s hm hn
            have e1 := (e.mono ex.lt).set r1 i
            rw [set_same hv] at e1
            exact h1.run pins s0 σ H D I ⟨F, m, _, _, fl, S1, s1, e1, h, q.after ex⟩
        · cases e1
          rename_i t l
          have ht : t = true := by
            rcases s.plain n _ hn with ⟨_, z⟩ | z | ⟨_, z⟩ <;> cases z
            rfl
          subst ht
          obtain ⟨v, hv, rv⟩ := e.at_ i _ hx (fun z => by cases z)
          cases rv with
          | ref hm =>
            obtain ⟨u, hu, mu, fz⟩ := st_freezeD s hm hn
            obtain ⟨od, I'⟩ := I.lock hu mu
            obtain ⟨ex, s1, r1⟩ := fz od
            have e1 := (e.mono ex.lt).set r1 i
            rw [set_same hv] at e1
            exact h1.run pins s0 σ _ D I' ⟨F, m, _, _, fl, S1, s1, e1, h, q.after ex⟩⟩
theorem q_for {tg iter : Expr} {body : List Stmt} {t : Tg} {k : ItK} {src : List CE} {cb : List CS} (hp : PassesOwn (model X.prog X.w) X.A X.env X.xe) (hc : X.calm = true) (hi : PI X tg iter (tI Φ X.K k src)) (hg : PG X tg (gT X.K t)) (hb : PSs X body (tSs W Φ X.K cb))
    (hs : ∀ x, foldedSetIterable iter X.env x = pure x) : PS X (.For tg iter body [] pos) (tS W Φ X.K (.for t k src cb)) :=
  PS.pick fun D σ H ⟨F, m, S, ρ, fl, S', s, e, h, q⟩ => by
    refine ⟨_, ps_for hp hc hi hg hb hs, ?_⟩
    simp only [evS] at h
    obtain ⟨ds, S1, h1, h⟩ := R.bind_ok h
    cases hit : iterE k ds with
    | none => rw [hit] at h; cases h
    | some its =>
      rw [hit] at h
      refine ⟨F, m, S, ρ, ds, S1, its, s, e, h1, hit, fun J H1 m1 ex1 s1 hl w => ?_⟩
      obtain ⟨G, Y, w, hw⟩ := w
      have h : forL t (evSs W Φ cb) its ρ S1 = .ok fl S' := h
      refine for_it w (fun i σ2 H2 => ∃ m2 S2 ρ2, Ex H1 m1 S1 H2 m2 S2 ∧ Sto X.K H2 F m2 S2 ∧ EnvR X.K H2 (Tk F m2 S2) m2 ρ2 σ2 ∧ forL t (evSs W Φ cb) (its.drop i) ρ2 S2 = .ok fl S') ?_ ?_ ?_ ?_
      · exact ⟨m1, S1, ρ, Ex.refl, s1, e.mono ex1.lt, by rw [List.drop_zero]; exact h⟩
      · rintro i σ2 H2 _ ⟨m2, S2, ρ2, ex2, s2, _⟩
        exact (hw F H2 m2 S2 (fun a z => .inl z) ex2 s2).1
      · rintro i x σ2 H2 H3 hi2 ⟨m2, S2, ρ2, ex2, s2, e2, hf⟩ hy
        obtain ⟨ex3, s3, dd, hdd, rd⟩ := (hw F H2 m2 S2 (fun a z => .inl z) ex2 s2).2 i x H3 hi2 hy
        have hdrop : its.drop i = dd :: its.drop (i + 1) := by
          obtain ⟨z1, z2⟩ := List.getElem?_eq_some_iff.mp hdd
          rw [List.drop_eq_getElem_cons z1, z2]
        rw [hdrop] at hf
        simp only [forL_nil, forL_cons] at hf
        cases ha : asg t dd ρ2 with
        | none => rw [ha] at hf; cases hf
        | some ρ3 =>
          rw [ha] at hf
          obtain ⟨f4, S4, hb4, hf⟩ := R.bind_ok hf
          refine ⟨_, m2, ρ2, dd, ρ3, e2.mono ex3.lt, rd, ha, fun σ3 e3 _ _ => ?_⟩
          refine ⟨F, m2, S2, ρ3, f4, S4, s3, e3, hb4, ?_⟩
          cases f4 with
          | nx ρ5 => exact fun σ5 H5 m5 ex5 s5 e5 => ⟨m5, S4, ρ5, (ex2.trans ex3).trans ex5, s5, e5, hf⟩
          | ct ρ5 => exact fun σ5 H5 m5 ex5 s5 e5 => ⟨m5, S4, ρ5, (ex2.trans ex3).trans ex5, s5, e5, hf⟩
          | bk ρ5 =>
            cases hf
            exact fun σ5 H5 m5 ex5 s5 e5 => q σ5 H5 m5 (((ex1.trans ex2).trans ex3).trans ex5) s5 e5
          | rt d =>
            cases hf
            exact fun v H5 m5 ex5 s5 r5 => q v H5 m5 (((ex1.trans ex2).trans ex3).trans ex5) s5 r5
      · rintro σ2 H2 ⟨m2, S2, ρ2, ex2, s2, e2, hf⟩
        rw [List.drop_length] at hf
        simp only [forL_nil, forL_cons] at hf
        cases hf
        exact q σ2 H2 m2 (ex1.trans ex2) s2 e2
theorem q_while {c : Expr} {body : List Stmt} {cc : CE} {cb : List CS} (hp : PassesOwn (model X.prog X.w) X.A X.env X.xe) (hc : PT X c (tT Φ X.K cc)) (hb : PSs X body (tSs W Φ X.K cb)) : PS X (.While c body [] pos) (tS W Φ X.K (.while cc cb)) :=
  PS.pick fun D σ H ⟨F, m, S, ρ, fl, S', s, e, h, q⟩ => by
    refine ⟨_, ps_while hp hc hb, ?_⟩
    simp only [evS] at h
    refine ⟨fun n σ2 H2 => ∃ m2 S2 ρ2, Ex H m S H2 m2 S2 ∧ Sto X.K H2 F m2 S2 ∧ EnvR X.K H2 (Tk F m2 S2) m2 ρ2 σ2 ∧
      whileL (fun ρ S => (evE Φ cc ρ S).bind fun x S1 => lift (truthy (vw S1 x)) S1) (evSs W Φ cb) n ρ2 S2 = .ok fl S', ⟨W, m, S, ρ, Ex.refl, s, e, h⟩, ?_⟩
    rintro n σ2 H2 ⟨m2, S2, ρ2, ex2, s2, e2, hf⟩
    cases n with
    | zero => rw [whileL_z] at hf; cases hf
    | succ n =>
      simp only [whileL_z, whileL_s] at hf
      obtain ⟨b, S3, hb3, hf⟩ := R.bind_ok hf
      obtain ⟨x, S4, h4, hb3⟩ := R.bind_ok hb3
      obtain ⟨hx, rfl⟩ := lift_ok hb3
      refine tT_one s2 e2 h4 hx fun H3 m3 ex3 s3 e3 => ?_
      cases b with
      | false =>
        show if false = true then _ else _
        rw [if_neg Bool.false_ne_true]
        cases hf
        exact q σ2 H3 m3 (ex2.trans ex3) s3 e3
      | true =>
        show if true = true then _ else _
        rw [if_pos rfl]
        rw [if_pos rfl] at hf
        obtain ⟨f4, S5, hb4, hf⟩ := R.bind_ok hf
        refine ⟨fun σ' H' => ∃ m2 S2 ρ2, Ex H m S H' m2 S2 ∧ Sto X.K H' F m2 S2 ∧ EnvR X.K H' (Tk F m2 S2) m2 ρ2 σ' ∧
          whileL (fun ρ S => (evE Φ cc ρ S).bind fun x S1 => lift (truthy (vw S1 x)) S1) (evSs W Φ cb) n ρ2 S2 = .ok fl S', fun σ' H' z => ⟨n, Nat.lt_succ_self n, z⟩, ?_⟩
        refine ⟨F, m3, S3, ρ2, f4, S5, s3, e3, hb4, ?_⟩
        cases f4 with
        | nx ρ5 => exact fun σ5 H5 m5 ex5 s5 e5 => ⟨m5, S5, ρ5, (ex2.trans ex3).trans ex5, s5, e5, hf⟩
        | ct ρ5 => exact fun σ5 H5 m5 ex5 s5 e5 => ⟨m5, S5, ρ5, (ex2.trans ex3).trans ex5, s5, e5, hf⟩
        | bk ρ5 =>
          cases hf
          exact fun σ5 H5 m5 ex5 s5 e5 => q σ5 H5 m5 ((ex2.trans ex3).trans ex5) s5 e5
        | rt d =>
          cases hf
          exact fun v H5 m5 ex5 s5 r5 => q v H5 m5 ((ex2.trans ex3).trans ex5) s5 r5
end
end NG
end

section
set_option autoImplicit false
set_option maxRecDepth 100000
set_option maxHeartbeats 1000000
namespace NG
open PySem PySem.Spec PyProof.Rows L2
variable [HasW]
section
variable {X : Cx} {pins : List (Addr × Obj)} {σ : L2.St} {H : Hp} {s : Shared} {a : Addr} {es : List (NestedKey × V × V)}
theorem dic_raw {w : World} (I : Inv X pins σ H s) (h : Rd H a (DicO w a es)) : es.length ≤ sizeLine ∧ (a == sysModules) = false ∧ ∃ (o : Obj) (ds : Array DictEntry) (ep : Nat), s.heap.get? a = some o ∧ o.ExactDict ∧ o.data = .dict ds ep ∧ ds.size = es.length ∧
    Paired (fun (p : NestedKey × V × V) (e : DictEntry) => e.hash = p.1.hash w ∧ RelV p.2.1 e.key ∧ RelV p.2.2 e.val) es ds.toList := by
  obtain ⟨⟨z, hs, o, ds, ep, h1, h2, h3, h4, h5⟩, _⟩ := (show ObjOk X.prog X.w H s.heap a (DicO w a es) from h.ok I.hok)
  refine ⟨z, hs, o, ds, ep, h1, h2, h3, ?_, h4⟩
  have := Paired.length h4
  rw [Array.length_toList] at this
  exact this.symm
/-- the items that a walk over the keys collects -/
theorem keys_vals {w : World} {ds : Array DictEntry} {acc : Array Value} (hz : acc.size = ds.size) (it : ∀ (j : Nat) (v : Value), acc[j]? = some v → ∃ en : DictEntry, ds[j]? = some en ∧ v = en.key) (hs : ds.size = es.length)
    (pr : Paired (fun (p : NestedKey × V × V) (e : DictEntry) => e.hash = p.1.hash w ∧ RelV p.2.1 e.key ∧ RelV p.2.2 e.val) es ds.toList) : Vals (es.map (·.2.1)) acc.toList := by
  have ha : acc.toList = ds.toList.map (·.key) := by
    apply List.ext_getElem?
    intro j
    rw [List.getElem?_map]
    cases hj : acc.toList[j]? with
    | none =>
      have h1 := List.getElem?_eq_none_iff.mp hj
      rw [Array.length_toList] at h1
      rw [List.getElem?_eq_none (by rw [Array.length_toList]; omega)]
      rfl
    | some v =>
      obtain ⟨en, hen, hv⟩ := it j v (by rw [← Array.getElem?_toList]; exact hj)
      rw [← Array.getElem?_toList] at hen
      rw [hen, hv]
      rfl
  rw [ha]
  clear ha hs hz it
  generalize ds.toList = l at *
  induction pr with
  | nil => exact .nil
  | cons h t ih => exact .cons h.2.1 ih
end
section
variable {X : Cx}
theorem call_len_dic (hw : X.w = HasW.w) : CallR X (.builtin "len") (fun xs H Q => ∃ a es, xs = [.ref a] ∧ Rd H a (DicO HasW.w a es) ∧ (∃ T m l, DicR X.K H T m l es) ∧ Q (.int ((es.length : Nat) : Int)) H) := by
  intro pins s σ H xs us Q I r h
  obtain ⟨p, es, rfl, hp, ⟨T, m, l, hr⟩, q⟩ := h
  rw [← hw] at hp
  obtain ⟨u, rfl, rx⟩ := vals1 r
  obtain rfl : u = .ref p := rx
  obtain ⟨z, hd, xs, t, dd⟩ := dic_is I hp hr
  have hl : es.length = xs.length := by rw [t.len.1, t.len.2]
  refine call_len_dictH hd dd (by rw [← hl]; rw [sizeLine_eq] at z; omega) ?_
  rw [← hl]
  exact ⟨.int ((es.length : Nat) : Int), H, I.tok _, ⟨_, rfl⟩, q⟩
theorem call_list_dic (hc : X.calm = true) : CallR X (.type "list") (fun xs H Q => ∃ a es, xs = [V.ref a] ∧ Rd H a (DicO HasW.w a es) ∧ ∀ p, H p = none → Q (.ref p) (upd H p (.lst (es.map (·.2.1))))) := by
  intro pins s σ H xs us Q I r h
  obtain ⟨d, es, rfl, hd, q⟩ := h
  obtain ⟨u, rfl, rx⟩ := r.one
  cases rx
  obtain ⟨z, hs, o, ds, ep, ho, hx, hdt, hsz, pr⟩ := dic_raw I hd
  refine PySem.W.kdl_call (kdl_raw hs hx hdt) (I.ok.hd hc) ho (by omega) fun h' tk acc' c' kp e it => ?_
  have rv := keys_vals it.1 it.2 hsz pr
  refine ⟨.ref s.heap.objs.size, _, I.laid (t' := tk) (o := .lst (es.map (·.2.1))) kp (Nat.le_refl _) ?_, rfl, q _ (I.hok.fresh (Nat.le_refl _))⟩
  exact ⟨by rw [List.length_map]; exact z, acc'.toList, c', rv, by rw [Array.toArray_toList]; exact e⟩
end
end NG
end

section
set_option autoImplicit false
set_option maxRecDepth 100000
set_option maxHeartbeats 1000000
namespace NG
open PySem PySem.Spec PyProof.Rows L2
variable [HasW]

/-! ## built-ins by name -/
/-- what the value f does where bltE says d -/
def BltOk (X : Cx) (b : Blt) (f : Value) : Prop := ∀ (ds : List D) (S1 : Store) (d : D), bltE b (vws S1 ds) = some d → ∃ r, CallR X f r ∧
  ∀ H2 m2 F vs Q, Sto X.K H2 F m2 S1 → Rps X.K H2 (Tk F m2 S1) m2 ds vs → Fin X.K H2 F m2 S1 S1 d Q → r vs H2 Q
section
variable {Φ : Phi} {X : Cx} {pos p : Pos} {x : Str}
theorem fin_after {K : PySem.W.Frag} {H H2 : Hp} {F : Addr → Prop} {m m2 : List Addr} {S S1 : Store} {d : D} {Q : VK} (q : Fin K H F m S S1 d Q) (ex : Ex H m S H2 m2 S1) : Fin K H2 F m2 S1 S1 d Q := fun v H3 m3 ex3 s3 r3 => q v H3 m3 (ex.trans ex3) s3 r3
theorem s_bltB {b : Blt} {id : String} {e : Expr} {es : List Expr} {cs : List CE} (ok : BltOk X b (.builtin id)) (hg : Gl X x) (hm : X.mg x = none) (hv : bootBuiltins x = some (.builtin id)) (ha : PA X (e :: es) (tA Φ X.K cs)) (hn : x ≠ "__name__") (hdb : (x == ("__debug__" : Str)) = false)
    (he : starEach (e :: es) X.env = (false, eval e X.env) :: starEach es X.env) (hpl : (backTo pos (starEach es X.env)).any (·.1) = false) : PE X (.Call (.Name x p) (e :: es) [] pos) (tE Φ X.K (.blt b cs)) :=
  PE.pick fun σ H Q ⟨F, m, S, ρ, d, S1, s, en, hev, q⟩ => by
    simp only [evE] at hev
    obtain ⟨ds, S2, h1, hev⟩ := R.bind_ok hev
    obtain ⟨h2, rfl⟩ := lift_ok hev
    obtain ⟨r, hr, k⟩ := ok ds _ d h2
    refine ⟨_, pe_callB hr hg hm hv ha hn hdb he hpl, ?_⟩
    exact tA_one s en h1 fun vs H2 m2 ex s2 e2 r2 => k H2 m2 F vs Q s2 r2 (fin_after q ex)
theorem s_bltT {b : Blt} {T : String} {e : Expr} {es : List Expr} {cs : List CE} (ok : BltOk X b (.type T)) (hg : Gl X x) (hm : X.mg x = none) (hv : bootBuiltins x = some (.type T)) (ha : PA X (e :: es) (tA Φ X.K cs)) (hn : x ≠ "__name__") (hdb : (x == ("__debug__" : Str)) = false)
    (he : starEach (e :: es) X.env = (false, eval e X.env) :: starEach es X.env) (hpl : (backTo pos (starEach es X.env)).any (·.1) = false) : PE X (.Call (.Name x p) (e :: es) [] pos) (tE Φ X.K (.blt b cs)) :=
  PE.pick fun σ H Q ⟨F, m, S, ρ, d, S1, s, en, hev, q⟩ => by
    simp only [evE] at hev
    obtain ⟨ds, S2, h1, hev⟩ := R.bind_ok hev
    obtain ⟨h2, rfl⟩ := lift_ok hev
    obtain ⟨r, hr, k⟩ := ok ds _ d h2
    refine ⟨_, pe_callTy hr hg hm hv ha hn hdb he hpl, ?_⟩
    exact tA_one s en h1 fun vs H2 m2 ex s2 e2 r2 => k H2 m2 F vs Q s2 r2 (fin_after q ex)
theorem rps_one {K : PySem.W.Frag} {H : Hp} {T : Addr → Prop} {m : List Addr} {d : D} {vs : List V} (r : Rps K H T m [d] vs) : ∃ v, vs = [v] ∧ Rp K H T m d v := by
  cases r with
  | cons a b =>
    cases b
    exact ⟨_, rfl, a⟩
theorem rps_two {K : PySem.W.Frag} {H : Hp} {T : Addr → Prop} {m : List Addr} {d e : D} {vs : List V} (r : Rps K H T m [d, e] vs) : ∃ v w, vs = [v, w] ∧ Rp K H T m d v ∧ Rp K H T m e w := by
  cases r with
  | cons a b =>
    obtain ⟨w, rfl, r2⟩ := rps_one b
    exact ⟨_, w, rfl, a, r2⟩
theorem vws_len {S : Store} {ds : List D} : (vws S ds).length = ds.length := by
  unfold vws
  rw [List.length_map]
theorem vws_one {S : Store} {ds : List D} {x : D} (h : vws S ds = [x]) : ∃ d, ds = [d] ∧ vw S d = x := by
  match ds, h with
  | [d], h =>
    simp [vws] at h
    exact ⟨d, rfl, h⟩
theorem vws_two {S : Store} {ds : List D} {x y : D} (h : vws S ds = [x, y]) : ∃ d e, ds = [d, e] ∧ vw S d = x ∧ vw S e = y := by
  match ds, h with
  | [d, e], h =>
    simp [vws] at h
    exact ⟨d, e, rfl, h.1, h.2⟩
theorem seqOf_at {K : PySem.W.Frag} {H : Hp} {F : Addr → Prop} {m : List Addr} {S : Store} {d : D} {v : V} {l : List D} (s : Sto K H F m S) (r : Rp K H (Tk F m S) m d v) (h : seqOf (vw S d) = some l) :
    ∃ a xs, v = .ref a ∧ (SqL K H a xs ∨ SqT K H a xs) ∧ Rps K H (Tk F m S) m l xs := by
  cases hx : vw S d <;> rw [hx] at h <;> first | (exfalso; cases h; done) | skip
  · cases h
    obtain ⟨a, xs, rfl, t, rs⟩ := vw_tup r hx
    exact ⟨a, xs, rfl, .inr t.sq, rs⟩
  · cases h
    obtain ⟨a, xs, rfl, t, rs⟩ := vw_lst s r hx
    exact ⟨a, xs, rfl, .inl (sqL_of_rd t), rs⟩
theorem fin_here {K : PySem.W.Frag} {H2 : Hp} {F : Addr → Prop} {m2 : List Addr} {S1 : Store} {d : D} {Q : VK} {v : V} (s : Sto K H2 F m2 S1) (q : Fin K H2 F m2 S1 S1 d Q) (r : Rp K H2 (Tk F m2 S1) m2 d v) : Q v H2 := q v H2 m2 Ex.refl s r
theorem k_len (hw : X.w = HasW.w) : BltOk X .len (.builtin "len") := fun ds S1 d h => by
  cases hv : vws S1 ds with
  | nil => rw [hv] at h; cases h
  | cons x r =>
    cases r with
    | cons y r => rw [hv] at h; cases x <;> cases h
    | nil =>
      rw [hv] at h
      obtain ⟨e, rfl, hx⟩ := vws_one hv
      cases x <;> first | (exfalso; cases h; done) | skip
      · rename_i z
        have h : (if z.length ≤ LIM then some (D.int z.length) else none) = some d := h
        split at h
        · rename_i hz
          cases h
          refine ⟨_, call_len_str, fun H2 m2 F vs Q s r q => ?_⟩
          obtain ⟨v, rfl, rv⟩ := rps_one r
          refine ⟨toStr z, by rw [vw_str rv hx], by rw [toStr_len, ← line_LIM]; exact hz, ?_⟩
          rw [toStr_len]
          exact fin_here s q (.int _)
        · cases h
      · cases h
        refine ⟨_, call_len_seq, fun H2 m2 F vs Q s r q => ?_⟩
        obtain ⟨v, rfl, rv⟩ := rps_one r
        obtain ⟨a, xs, rfl, t, rs⟩ := vw_tup rv hx
        refine ⟨a, xs, rfl, .inr t.sq, ?_⟩
        rw [← rs.length]
        exact fin_here s q (.int _)
      · cases h
        refine ⟨_, call_len_seq, fun H2 m2 F vs Q s r q => ?_⟩
        obtain ⟨v, rfl, rv⟩ := rps_one r
        obtain ⟨a, xs, rfl, t, rs⟩ := vw_lst s rv hx
        refine ⟨a, xs, rfl, .inl (sqL_of_rd t), ?_⟩
        rw [← rs.length]
        exact fin_here s q (.int _)
      · rename_i t l
        have h : (if l.length ≤ LIM then some (D.int l.length) else none) = some d := h
        split at h
        · cases h
          refine ⟨_, call_len_dic hw, fun H2 m2 F vs Q s r q => ?_⟩
          obtain ⟨v, rfl, rv⟩ := rps_one r
          obtain ⟨rfl, a, es, rfl, t, rs⟩ := vw_dic s rv hx
          have hl : es.length = l.length := by
            have := congrArg List.length rs.nk
            simpa using this
          refine ⟨a, es, rfl, t, ⟨_, _, _, rs⟩, ?_⟩
          rw [hl]
          exact fin_here s q (.int _)
        · cases h
      · cases h
        refine ⟨_, call_len_seq, fun H2 m2 F vs Q s r q => ?_⟩
        obtain ⟨v, rfl, rv⟩ := rps_one r
        obtain ⟨a, xs, rfl, t, rs⟩ := vw_scr rv hx
        refine ⟨a, xs, rfl, .inl t, ?_⟩
        rw [← rs.length]
        exact fin_here s q (.int _)
theorem k_tuple : BltOk X .tuple (.type "tuple") := fun ds S1 d h => by
  cases hv : vws S1 ds with
  | nil => rw [hv] at h; cases h
  | cons x r =>
    cases r with
    | cons y r => rw [hv] at h; cases h
    | nil =>
      rw [hv] at h
      obtain ⟨e, rfl, hx⟩ := vws_one hv
      cases x <;> first | (exfalso; cases h; done) | skip
      · cases h
        refine ⟨_, call_tuple_of, fun H2 m2 F vs Q s r q => ?_⟩
        obtain ⟨v, rfl, rv⟩ := rps_one r
        obtain ⟨a, xs, rfl, t, rs⟩ := vw_tup rv hx
        exact ⟨a, xs, rfl, .inr ⟨t.sq, fin_here s q (t.rp rs)⟩⟩
      · cases h
        refine ⟨_, call_tuple_of, fun H2 m2 F vs Q s r q => ?_⟩
        obtain ⟨v, rfl, rv⟩ := rps_one r
        obtain ⟨a, xs, rfl, t, rs⟩ := vw_lst s rv hx
        exact ⟨a, xs, rfl, .inl ⟨sqL_of_rd t, fun l hl => Fin.tup q Ex.refl s rs hl⟩⟩
/-- its value is a new list -/
def BltOkL (X : Cx) (b : Blt) (f : Value) : Prop := ∀ (ds : List D) (S1 : Store) (d : D), bltE b (vws S1 ds) = some d → ∃ r l, d = .lst l ∧ CallR X f r ∧
  ∀ H2 m2 F vs Q, Sto X.K H2 F m2 S1 → Rps X.K H2 (Tk F m2 S1) m2 ds vs → FinF X.K H2 F m2 S1 S1 l Q → r vs H2 Q
theorem BltOkL.ok {b : Blt} {f : Value} (h : BltOkL X b f) : BltOk X b f := fun ds S1 d hd => by
  obtain ⟨r, l, rfl, hr, k⟩ := h ds S1 d hd
  exact ⟨r, hr, fun H2 m2 F vs Q s rs q => k H2 m2 F vs Q s rs (Fin.frz s.oth q)⟩
theorem k_list (hc : X.calm = true) : BltOkL X .list (.type "list") := fun ds S1 d h => by
  cases hv : vws S1 ds with
  | nil => rw [hv] at h; cases h
  | cons x r =>
    cases r with
    | cons y r => rw [hv] at h; cases x <;> cases h
    | nil =>
      rw [hv] at h
      obtain ⟨e, rfl, hx⟩ := vws_one hv
      cases x <;> first | (exfalso; cases h; done) | skip
      · cases h
        refine ⟨_, _, rfl, call_list_of, fun H2 m2 F vs Q s r q => ?_⟩
        obtain ⟨v, rfl, rv⟩ := rps_one r
        obtain ⟨a, xs, rfl, t, rs⟩ := vw_tup rv hx
        exact ⟨a, xs, rfl, .inr t.sq, fun l hl => FinF.new q Ex.refl s rs hl⟩
      · cases h
        refine ⟨_, _, rfl, call_list_of, fun H2 m2 F vs Q s r q => ?_⟩
        obtain ⟨v, rfl, rv⟩ := rps_one r
        obtain ⟨a, xs, rfl, t, rs⟩ := vw_lst s rv hx
        exact ⟨a, xs, rfl, .inl (sqL_of_rd t), fun l hl => FinF.new q Ex.refl s rs hl⟩
      · rename_i t l
        have h : (if l.length ≤ LIM then some (D.lst (l.map (·.1))) else none) = some d := h
        split at h
        · cases h
          refine ⟨_, _, rfl, call_list_dic hc, fun H2 m2 F vs Q s r q => ?_⟩
          obtain ⟨v, rfl, rv⟩ := rps_one r
          obtain ⟨rfl, a, es, rfl, t, rs⟩ := vw_dic s rv hx
          exact ⟨a, es, rfl, t, fun p hp => FinF.new q Ex.refl s rs.ks hp⟩
        · cases h
theorem rps_bls {K : PySem.W.Frag} {H : Hp} {T : Addr → Prop} {m : List Addr} : ∀ {l : List D} {xs : List V}, areBls l = true → Rps K H T m l xs → ∃ bs : List Bool, xs = bs.map V.bl ∧ l = bs.map D.bl
  | [], _, _, .nil => ⟨[], rfl, rfl⟩
  | d :: l, _, h, .cons a b => by
    cases d <;> first | (exfalso; simp [areBls] at h; done) | skip
    obtain ⟨bs, rfl, rfl⟩ := rps_bls (by simpa [areBls] using h) b
    cases a
    exact ⟨_ :: bs, rfl, rfl⟩
theorem rps_ints {K : PySem.W.Frag} {H : Hp} {T : Addr → Prop} {m : List Addr} : ∀ {l : List D} {xs : List V} {is : List Int}, areInts l = some is → Rps K H T m l xs → xs = is.map V.int ∧ l = is.map D.int
  | [], _, _, h, .nil => by
    cases h
    exact ⟨rfl, rfl⟩
  | d :: l, _, is, h, .cons a b => by
    cases d <;> first | (exfalso; simp [areInts] at h; done) | skip
    simp only [areInts] at h
    obtain ⟨js, hj, rfl⟩ := Option.map_eq_some_iff.mp h
    obtain ⟨rfl, rfl⟩ := rps_ints hj b
    cases a
    exact ⟨rfl, rfl⟩
theorem allB_bls : ∀ bs : List Bool, allB (bs.map D.bl) = some (bs.all id)
  | [] => rfl
  | true :: bs => by
    show allB (bs.map D.bl) = _
    rw [allB_bls bs]
    simp
  | false :: bs => by simp [allB]
theorem anyB_bls : ∀ bs : List Bool, anyB (bs.map D.bl) = some (bs.any id)
  | [] => rfl
  | false :: bs => by
    show anyB (bs.map D.bl) = _
    rw [anyB_bls bs]
    simp
  | true :: bs => by simp [anyB]
theorem k_all (hc : X.calm = true) : BltOk X .all (.builtin "all") := fun ds S1 d h => by
  cases hv : vws S1 ds with
  | nil => rw [hv] at h; cases h
  | cons x r =>
    cases r with
    | cons y r => rw [hv] at h; cases x <;> cases h
    | nil =>
      rw [hv] at h
      obtain ⟨e, rfl, hx⟩ := vws_one hv
      cases x <;> first | (exfalso; cases h; done) | skip
      rename_i l
      have h : (if areBls l then (allB l).map D.bl else none) = some d := h
      split at h
      · rename_i hb
        refine ⟨_, cr_all hc, fun H2 m2 F vs Q s r q => ?_⟩
        obtain ⟨v, rfl, rv⟩ := rps_one r
        obtain ⟨a, xs, rfl, t, rs⟩ := vw_lst s rv hx
        obtain ⟨bs, rfl, rfl⟩ := rps_bls hb rs
        rw [allB_bls] at h
        cases h
        exact ⟨a, bs, rfl, sqL_of_rd t, fin_here s q (.bl _)⟩
      · cases h
theorem k_any (hc : X.calm = true) : BltOk X .any (.builtin "any") := fun ds S1 d h => by
  cases hv : vws S1 ds with
  | nil => rw [hv] at h; cases h
  | cons x r =>
    cases r with
    | cons y r => rw [hv] at h; cases x <;> cases h
    | nil =>
      rw [hv] at h
      obtain ⟨e, rfl, hx⟩ := vws_one hv
      cases x <;> first | (exfalso; cases h; done) | skip
      rename_i l
      have h : (if areBls l then (anyB l).map D.bl else none) = some d := h
      split at h
      · rename_i hb
        refine ⟨_, cr_any hc, fun H2 m2 F vs Q s r q => ?_⟩
        obtain ⟨v, rfl, rv⟩ := rps_one r
        obtain ⟨a, xs, rfl, t, rs⟩ := vw_lst s rv hx
        obtain ⟨bs, rfl, rfl⟩ := rps_bls hb rs
        rw [anyB_bls] at h
        cases h
        exact ⟨a, bs, rfl, sqL_of_rd t, fin_here s q (.bl _)⟩
      · cases h
theorem k_sum (hc : X.calm = true) : BltOk X .sum (.builtin "sum") := fun ds S1 d h => by
  cases hv : vws S1 ds with
  | nil => rw [hv] at h; cases h
  | cons x r =>
    cases r with
    | cons y r => rw [hv] at h; cases x <;> cases h
    | nil =>
      rw [hv] at h
      obtain ⟨e, rfl, hx⟩ := vws_one hv
      cases x <;> first | (exfalso; cases h; done) | skip
      rename_i l
      have h : (areInts l).map (fun is => D.int is.sum) = some d := h
      obtain ⟨is, hi, rfl⟩ := Option.map_eq_some_iff.mp h
      refine ⟨_, cr_sum hc, fun H2 m2 F vs Q s r q => ?_⟩
      obtain ⟨v, rfl, rv⟩ := rps_one r
      obtain ⟨a, xs, rfl, t, rs⟩ := vw_lst s rv hx
      obtain ⟨rfl, _⟩ := rps_ints hi rs
      exact ⟨a, is, rfl, sqL_of_rd t, fin_here s q (.int _)⟩
theorem fold_max : ∀ (is : List Int) (i : Int), (is.foldl (fun a b => if b > a then b else a) i) ∈ i :: is ∧ ∀ y, y ∈ i :: is → y ≤ is.foldl (fun a b => if b > a then b else a) i
  | [], i => by simp
  | j :: is, i => by
    rw [List.foldl_cons]
    have ih := fold_max is (if j > i then j else i)
    by_cases hj : j > i
    · rw [if_pos hj] at ih ⊢
      refine ⟨List.mem_cons_of_mem _ ih.1, fun y hy => ?_⟩
      rcases List.mem_cons.mp hy with rfl | hy
      · have := ih.2 j (List.mem_cons_self ..)
        omega
      · exact ih.2 y hy
    · rw [if_neg hj] at ih ⊢
      refine ⟨?_, fun y hy => ?_⟩
      · rcases List.mem_cons.mp ih.1 with h | h
        · rw [h]
          exact List.mem_cons_self ..
        · exact List.mem_cons_of_mem _ (List.mem_cons_of_mem _ h)
      · rcases List.mem_cons.mp hy with rfl | hy
        · exact ih.2 _ (List.mem_cons_self ..)
        · rcases List.mem_cons.mp hy with rfl | hy
          · have := ih.2 i (List.mem_cons_self ..)
            omega
          · exact ih.2 y (List.mem_cons_of_mem _ hy)
theorem fold_min : ∀ (is : List Int) (i : Int), (is.foldl (fun a b => if b < a then b else a) i) ∈ i :: is ∧ ∀ y, y ∈ i :: is → is.foldl (fun a b => if b < a then b else a) i ≤ y
  | [], i => by simp
  | j :: is, i => by
    rw [List.foldl_cons]
    have ih := fold_min is (if j < i then j else i)
    by_cases hj : j < i
    · rw [if_pos hj] at ih ⊢
      refine ⟨List.mem_cons_of_mem _ ih.1, fun y hy => ?_⟩
      rcases List.mem_cons.mp hy with rfl | hy
      · have := ih.2 j (List.mem_cons_self ..)
        omega
      · exact ih.2 y hy
    · rw [if_neg hj] at ih ⊢
      refine ⟨?_, fun y hy => ?_⟩
      · rcases List.mem_cons.mp ih.1 with h | h
        · rw [h]
          exact List.mem_cons_self ..
        · exact List.mem_cons_of_mem _ (List.mem_cons_of_mem _ h)
      · rcases List.mem_cons.mp hy with rfl | hy
        · exact ih.2 _ (List.mem_cons_self ..)
        · rcases List.mem_cons.mp hy with rfl | hy
          · have := ih.2 i (List.mem_cons_self ..)
            omega
          · exact ih.2 y (List.mem_cons_of_mem _ hy)
theorem k_max1 (hc : X.calm = true) : BltOk X .max1 (.builtin "max") := fun ds S1 d h => by
  cases hv : vws S1 ds with
  | nil => rw [hv] at h; cases h
  | cons x r =>
    cases r with
    | cons y r => rw [hv] at h; cases x <;> cases h
    | nil =>
      rw [hv] at h
      obtain ⟨e, rfl, hx⟩ := vws_one hv
      cases x <;> first | (exfalso; cases h; done) | skip
      rename_i l
      have h : (match areInts l with | some (i :: is) => some (D.int (is.foldl (fun a b => if b > a then b else a) i)) | _ => none) = some d := h
      cases hi : areInts l with
      | none => rw [hi] at h; cases h
      | some is =>
        rw [hi] at h
        cases is with
        | nil => cases h
        | cons i is =>
          cases h
          refine ⟨_, cr_max hc, fun H2 m2 F vs Q s r q => ?_⟩
          obtain ⟨v, rfl, rv⟩ := rps_one r
          obtain ⟨a, xs, rfl, t, rs⟩ := vw_lst s rv hx
          obtain ⟨rfl, _⟩ := rps_ints hi rs
          refine ⟨a, i :: is, rfl, sqL_of_rd t, by simp, fun m hm hm2 => ?_⟩
          obtain ⟨f1, f2⟩ := fold_max is i
          have e1 := hm2 _ f1
          have e2 := f2 m hm
          have e3 : m = is.foldl (fun a b => if b > a then b else a) i := by omega
          rw [e3]
          exact fin_here s q (.int _)
theorem k_min1 (hc : X.calm = true) : BltOk X .min1 (.builtin "min") := fun ds S1 d h => by
  cases hv : vws S1 ds with
  | nil => rw [hv] at h; cases h
  | cons x r =>
    cases r with
    | cons y r => rw [hv] at h; cases x <;> cases h
    | nil =>
      rw [hv] at h
      obtain ⟨e, rfl, hx⟩ := vws_one hv
      cases x <;> first | (exfalso; cases h; done) | skip
      rename_i l
      have h : (match areInts l with | some (i :: is) => some (D.int (is.foldl (fun a b => if b < a then b else a) i)) | _ => none) = some d := h
      cases hi : areInts l with
      | none => rw [hi] at h; cases h
      | some is =>
        rw [hi] at h
        cases is with
        | nil => cases h
        | cons i is =>
          cases h
          refine ⟨_, cr_min hc, fun H2 m2 F vs Q s r q => ?_⟩
          obtain ⟨v, rfl, rv⟩ := rps_one r
          obtain ⟨a, xs, rfl, t, rs⟩ := vw_lst s rv hx
          obtain ⟨rfl, _⟩ := rps_ints hi rs
          refine ⟨a, i :: is, rfl, sqL_of_rd t, by simp, fun m hm hm2 => ?_⟩
          obtain ⟨f1, f2⟩ := fold_min is i
          have e1 := hm2 _ f1
          have e2 := f2 m hm
          have e3 : m = is.foldl (fun a b => if b < a then b else a) i := by omega
          rw [e3]
          exact fin_here s q (.int _)
theorem k_int : BltOk X .int (.type "int") := fun ds S1 d h => by
  cases hv : vws S1 ds with
  | nil => rw [hv] at h; cases h
  | cons x r =>
    cases r with
    | cons y r => rw [hv] at h; cases x <;> cases h
    | nil =>
      rw [hv] at h
      obtain ⟨e, rfl, hx⟩ := vws_one hv
      cases x <;> first | (exfalso; cases h; done) | skip
      · cases h
        refine ⟨_, call_int1, fun H2 m2 F vs Q s r q => ?_⟩
        obtain ⟨v, rfl, rv⟩ := rps_one r
        exact .inr ⟨_, by rw [vw_bl rv hx], fin_here s q (.int _)⟩
      · cases h
        refine ⟨_, call_int1, fun H2 m2 F vs Q s r q => ?_⟩
        obtain ⟨v, rfl, rv⟩ := rps_one r
        exact .inl ⟨_, by rw [vw_int rv hx], fin_here s q (.int _)⟩
theorem k_abs : BltOk X .abs (.builtin "abs") := fun ds S1 d h => by
  cases hv : vws S1 ds with
  | nil => rw [hv] at h; cases h
  | cons x r =>
    cases r with
    | cons y r => rw [hv] at h; cases x <;> cases h
    | nil =>
      rw [hv] at h
      obtain ⟨e, rfl, hx⟩ := vws_one hv
      cases x <;> first | (exfalso; cases h; done) | skip
      cases h
      refine ⟨_, call_abs, fun H2 m2 F vs Q s r q => ?_⟩
      obtain ⟨v, rfl, rv⟩ := rps_one r
      exact ⟨_, by rw [vw_int rv hx], fin_here s q (.int _)⟩
theorem vws_cases {S : Store} {ds : List D} (P : List D → Prop) (h0 : P []) (h1 : ∀ x, P [x]) (h2 : ∀ x y, P [x, y]) (h3 : ∀ x y z r, P (x :: y :: z :: r)) : P (vws S ds) := by
  match vws S ds with
  | [] => exact h0
  | [x] => exact h1 x
  | [x, y] => exact h2 x y
  | x :: y :: z :: r => exact h3 x y z r
theorem k_max2 (hc : X.calm = true) : BltOk X .max2 (.builtin "max") := fun ds S1 d h => by
  match hv : vws S1 ds with
  | [] => rw [hv] at h; cases h
  | [x] => rw [hv] at h; cases x <;> cases h
  | x :: y :: z :: r => rw [hv] at h; cases x <;> cases y <;> cases h
  | [x, y] =>
    rw [hv] at h
    obtain ⟨e, e', rfl, hx, hy⟩ := vws_two hv
    cases x <;> first | (exfalso; cases h; done) | skip
    cases y <;> first | (exfalso; cases h; done) | skip
    cases h
    refine ⟨_, call_max2 hc, fun H2 m2 F vs Q s r q => ?_⟩
    obtain ⟨v, w, rfl, rv, rw'⟩ := rps_two r
    exact ⟨_, _, by rw [vw_int rv hx, vw_int rw' hy], fin_here s q (.int _)⟩
theorem k_min2 (hc : X.calm = true) : BltOk X .min2 (.builtin "min") := fun ds S1 d h => by
  match hv : vws S1 ds with
  | [] => rw [hv] at h; cases h
  | [x] => rw [hv] at h; cases x <;> cases h
  | x :: y :: z :: r => rw [hv] at h; cases x <;> cases y <;> cases h
  | [x, y] =>
    rw [hv] at h
    obtain ⟨e, e', rfl, hx, hy⟩ := vws_two hv
    cases x <;> first | (exfalso; cases h; done) | skip
    cases y <;> first | (exfalso; cases h; done) | skip
    cases h
    refine ⟨_, call_min2 hc, fun H2 m2 F vs Q s r q => ?_⟩
    obtain ⟨v, w, rfl, rv, rw'⟩ := rps_two r
    exact ⟨_, _, by rw [vw_int rv hx, vw_int rw' hy], fin_here s q (.int _)⟩
end
end NG
end

section
set_option autoImplicit false
set_option maxRecDepth 100000
set_option maxHeartbeats 1000000
namespace NG
open PySem PySem.Spec PyProof.Rows L2
variable [HasW]
section
variable {Φ : Phi} {X : Cx} {pos p : Pos} {x : Str} {W : Nat}

/-! ## a, b = x, y -/
theorem q_par2 {i j : Nat} {x y : Str} {a b : Expr} {ca cb : CE} {px py pt : Pos} {kt k2 pt2} (hc : X.calm = true) (hN : X.N.Nodup) (hi : X.N[i]? = some x) (hj : X.N[j]? = some y) (hij : i ≠ j)
    (hx : X.env.scope.names.lookup x = some .local) (hy : X.env.scope.names.lookup y = some .local) (ha : PA X [a, b] (tA Φ X.K [ca, cb]))
    (hw : swappedStores [.Tuple [.Name x px, .Name y py] kt pt] (.Tuple [a, b] k2 pt2) X.env = pure (some [x, y]))
    (hs : swapsWithSole [.Tuple [.Name x px, .Name y py] kt pt] (.Tuple [a, b] k2 pt2) pos.line X.env = pure false) :
    PS X (.Assign [.Tuple [.Name x px, .Name y py] kt pt] (.Tuple [a, b] k2 pt2) pos) (tS W Φ X.K (.set (.tup [.one i, .one j]) (.tup [ca, cb]))) :=
  PS.pick fun D σ H ⟨F, m, S, ρ, fl, S1, s, e, h, q⟩ => by
    refine ⟨_, ps_par hc hN hi hj hij hx hy ha hw hs, ?_⟩
    simp only [evS, evE] at h
    obtain ⟨d, S2, e1, h⟩ := R.bind_ok h
    obtain ⟨ds, S3, e2, e1⟩ := R.bind_ok e1
    cases e1
    refine tA_one s e e2 fun vs H1 m1 ex s1 en1 r1 => ?_
    match ds, evEs_len e2, r1 with
    | [d1, d2], _, .cons (v := v1) a1 (.cons (v := v2) a2 .nil) =>
      refine ⟨v1, v2, rfl, ?_⟩
      simp only [asg, asgs] at h
      by_cases h1 : i < ρ.length
      · rw [if_pos h1] at h
        simp only [List.length_set] at h
        by_cases h2 : j < ρ.length
        · rw [if_pos h2] at h
          cases h
          exact q _ H1 m1 ex s1 ((en1.set a1 i).set a2 j)
        · rw [if_neg h2] at h
          cases h
      · rw [if_neg h1] at h
        cases h
theorem q_par3 {i j l : Nat} {x y z : Str} {a b c : Expr} {ca cb cc : CE} {px py pz pt : Pos} {kt k2 pt2} (hc : X.calm = true) (hN : X.N.Nodup) (hi : X.N[i]? = some x) (hj : X.N[j]? = some y) (hl : X.N[l]? = some z) (hij : i ≠ j) (hil : i ≠ l) (hjl : j ≠ l)
    (hx : X.env.scope.names.lookup x = some .local) (hy : X.env.scope.names.lookup y = some .local) (hz : X.env.scope.names.lookup z = some .local) (ha : PA X [a, b, c] (tA Φ X.K [ca, cb, cc]))
    (hw : swappedStores [.Tuple [.Name x px, .Name y py, .Name z pz] kt pt] (.Tuple [a, b, c] k2 pt2) X.env = pure (some [x, y, z]))
    (hs : swapsWithSole [.Tuple [.Name x px, .Name y py, .Name z pz] kt pt] (.Tuple [a, b, c] k2 pt2) pos.line X.env = pure false) :
    PS X (.Assign [.Tuple [.Name x px, .Name y py, .Name z pz] kt pt] (.Tuple [a, b, c] k2 pt2) pos) (tS W Φ X.K (.set (.tup [.one i, .one j, .one l]) (.tup [ca, cb, cc]))) :=
  PS.pick fun D σ H ⟨F, m, S, ρ, fl, S1, s, e, h, q⟩ => by
    refine ⟨_, ps_par3 hc hN hi hj hl hij hil hjl hx hy hz ha hw hs, ?_⟩
    simp only [evS, evE] at h
    obtain ⟨d, S2, e1, h⟩ := R.bind_ok h
    obtain ⟨ds, S3, e2, e1⟩ := R.bind_ok e1
    cases e1
    refine tA_one s e e2 fun vs H1 m1 ex s1 en1 r1 => ?_
    match ds, evEs_len e2, r1 with
    | [d1, d2, d3], _, .cons (v := v1) a1 (.cons (v := v2) a2 (.cons (v := v3) a3 .nil)) =>
      refine ⟨v1, v2, v3, rfl, ?_⟩
      simp only [asg, asgs] at h
      by_cases h1 : i < ρ.length
      · rw [if_pos h1] at h
        simp only [List.length_set] at h
        by_cases h2 : j < ρ.length
        · rw [if_pos h2] at h
          simp only [List.length_set] at h
          by_cases h3 : l < ρ.length
          · rw [if_pos h3] at h
            cases h
            exact q _ H1 m1 ex s1 (((en1.set a1 i).set a2 j).set a3 l)
          · rw [if_neg h3] at h
            cases h
        · rw [if_neg h2] at h
          cases h
      · rw [if_neg h1] at h
        cases h

/-! ## what changes a list -/
def rSetDic (K : PySem.W.Frag) : TSet := fun o i v H Q => ∃ (a b : Addr) (es : List (NestedKey × V × V)) (l : List (D × D)) (k d : D) (T : Addr → Prop) (m : List Addr), o = .ref a ∧ i = .ref b ∧ H a = some (DicO HasW.w a es) ∧ DicR K H T m l es ∧ l.length < sizeLine ∧ isKey true k = true ∧ Rp K H T m k (.ref b) ∧ Rp K H T m d v ∧
  ∀ es', DicR K H T m (dput k d l) es' → Q (upd H a (DicO HasW.w a es'))
theorem set_dic (hu : X.A.units + 9 < cLine) (hw : X.w = HasW.w) : PSet X (rSetDic X.K) := by
  intro pins s σ H o i v ov iv u Q I ro ri rv h
  obtain ⟨a, b, es, l, k, d, T, m, rfl, rfl, e, r, hl, hk, rk, rd, q⟩ := h
  rw [← hw] at e
  cases (show ov = Value.ref a from ro)
  cases (show iv = Value.ref b from ri)
  exact dic_put hu I e r hl hk rk rd rv fun es' s' I' r' => ⟨_, I', by rw [hw]; exact q es' r'⟩
theorem PSet.or {t t' : TSet} (h : PSet X t) (h' : PSet X t') : PSet X (fun o i v H Q => t o i v H Q ∨ t' o i v H Q) := by
  intro pins s σ H o i v ov iv u Q I ro ri rv q
  rcases q with q | q
  · exact h pins s σ H o i v ov iv u Q I ro ri rv q
  · exact h' pins s σ H o i v ov iv u Q I ro ri rv q
theorem q_setIx {o i e : Expr} {co ci ce : CE} {tpos : Pos} (hu : X.A.units + 9 < cLine) (hwd : X.w = HasW.w) (ho : PE X o (tE Φ X.K co)) (hi : PE X i (tE Φ X.K ci)) (he : PE X e (tE Φ X.K ce))
    (ha : ∀ v, assign (.Subscript o i tpos) X.env v = (do
      let ov ← holding [v] (eval o X.env)
      let iv ← holding [v, ov] (eval i X.env)
      standAt tpos
      holding [v, ov, iv] (setItem ov iv v)
      release [v, ov, iv] []))
    (hs : swapsWithSole [.Subscript o i tpos] e pos.line X.env = pure false) (hw : swappedStores [.Subscript o i tpos] e X.env = pure none)
    (h1 : (assignEach [.Subscript o i tpos] X.env).map (·.2) = [assign (.Subscript o i tpos) X.env]) : PS X (.Assign [.Subscript o i tpos] e pos) (tS W Φ X.K (.setIx co ci ce)) :=
  PS.pick fun D σ H ⟨F, m, S, ρ, fl, S1, s, en, h, q⟩ => by
    refine ⟨_, ps_asg he (pg_sub ho hi (PSet.or set_list (set_dic hu hwd)) ha) hs hw h1, ?_⟩
    simp only [evS] at h
    obtain ⟨x, S2, e1, h⟩ := R.bind_ok h
    obtain ⟨y, S3, e2, h⟩ := R.bind_ok h
    obtain ⟨z, S4, e3, h⟩ := R.bind_ok h
    cases y <;> first | (exfalso; cases h; done) | skip
    rename_i n _
    have h : (match S4[n]? with
      | some c => match setIxE c z x with
        | some c' => R.ok (Fl.nx ρ) (S4.set n c')
        | none => .bad
      | none => .bad) = .ok fl S1 := h
    cases hn : S4[n]? with
    | none => rw [hn] at h; cases h
    | some c =>
      rw [hn] at h
      cases hc : setIxE c z x with
      | none => simp only [hc] at h; cases h
      | some c' =>
        simp only [hc] at h
        cases h
        refine tE_one s en e1 fun v H1 m1 ex1 s1 en1 r1 => ?_
        refine tE_one s1 en1 e2 fun w H2 m2 ex2 s2 en2 r2 => ?_
        refine tE_one s2 en2 e3 fun u H3 m3 ex3 s3 en3 r3 => ?_
        have r1' := (r1.mono ex2.lt).mono ex3.lt
        have r2' := r2.mono ex3.lt
        cases r2' with
        | ref hm =>
          rcases s3.plain n c hn with ⟨l, rfl⟩ | rfl | ⟨l, rfl⟩
          · obtain ⟨xs, hx, rx⟩ := s3.lst n _ l hm hn
            cases z <;> first | (exfalso; cases hc; done) | skip
            rename_i k
            simp only [setIxE] at hc
            obtain ⟨j, hj, rfl⟩ := Option.map_eq_some_iff.mp hc
            obtain ⟨exw, sw⟩ := st_write s3 hm hn (rx.set r1' j)
            refine .inl ⟨_, xs, k, j, rfl, rp_int r3, hx, by rw [ixN_norm, ← rx.length]; exact hj, ?_⟩
            exact q _ _ m3 (((ex1.trans ex2).trans ex3).trans exw) sw (en3.mono exw.lt)
          · cases hc
          · obtain ⟨es, hx, rx⟩ := s3.dic n _ l hm hn
            have hc : (if isKey true z && decide (l.length < LIM) then some (Cell.dic true (dput z x l)) else none) = some c' := hc
            split at hc
            · rename_i hk
              cases hc
              simp only [Bool.and_eq_true, decide_eq_true_eq] at hk
              obtain ⟨b, rfl⟩ := key_ref hk.1 r3
              refine .inr ⟨_, b, es, l, z, x, _, _, rfl, rfl, hx, rx, by rw [← line_LIM]; exact hk.2, hk.1, r3, r1', fun es' r' => ?_⟩
              obtain ⟨exw, sw⟩ := st_writeC (c' := .dic true (dput z x l)) s3 hm hn (fun z => by cases z) ⟨es', rfl, r'⟩
              exact q _ _ m3 (((ex1.trans ex2).trans ex3).trans exw) sw (en3.mono exw.lt)
            · cases hc
/-- what list.m does -/
def MutOk (X : Cx) (k : Nat) (id : String) : Prop := ∀ (c : Cell) (ds : List D) (S1 : Store) (d : D) (c' : Cell), mutE k c (mutA k S1 ds) = some (d, c') → ∃ r, MtM X id r ∧ (((∃ l, c = .lst l) ∨ c = .dead ∨ ∃ l, c = .dic true l) → ∃ l l', c = .lst l ∧ c' = .lst l' ∧
  ∀ H2 m2 F vs xs a Q, Sto X.K H2 F m2 S1 → Rps X.K H2 (Tk F m2 S1) m2 ds vs → H2 a = some (.lst xs) → Rps X.K H2 (Tk F m2 S1) m2 l xs →
      (∀ v xs', Rps X.K H2 (Tk F m2 S1) m2 l' xs' → Rp X.K H2 (Tk F m2 S1) m2 d v → Q v (upd H2 a (.lst xs'))) → r (.ref a) vs H2 Q)
/-- x.m(..), x a name of a list that may change -/
theorem s_mut {k i : Nat} {id : String} {nm : Str} {y : Str} {e : Expr} {es : List Expr} {cs : List CE} {apos : Pos} (hv : PE X (.Name y p) (tE Φ X.K (.var i))) (ha : PA X (e :: es) (tA Φ X.K cs)) (slot : Slot "list" nm id) (hty : typeOf (.builtin id) = pure (.type "method_descriptor"))
    (hm : MutOk X k id)
    (hbase : attributeBase (.Name y p) nm X.env (eval (.Name y p) X.env) = eval (.Name y p) X.env)
    (hfew : ((backTo pos (starEach (e :: es) X.env)).all (fun x => !x.1) && (backToKw pos (keywordEach [] X.env)).all (fun x => x.1.isSome)
      && decide ((e :: es).length + ([] : List Keyword).length + (if ([] : List Keyword).isEmpty then 0 else 1) < 30)) = true)
    (hline : (apos.endLine == pos.line) = true) (hs : starEach (e :: es) X.env = (false, eval e X.env) :: starEach es X.env) (hplain : (backTo pos (starEach es X.env)).any (·.1) = false) :
    PE X (.Call (.Attribute (.Name y p) nm apos) (e :: es) [] pos) (tE Φ X.K (.mut k i cs)) :=
  PE.pick fun σ H Q ⟨F, m, S, ρ, d, S1, s, en, hev, q⟩ => by
    simp only [evE] at hev
    cases hx : ρ[i]? with
    | none => rw [hx] at hev; cases hev
    | some x =>
      rw [hx] at hev
      cases x <;> first | (exfalso; cases hev; done) | skip
      rename_i n
      have hev : (if liveL S n then (evEs Φ cs ρ S).bind fun ds S1 => match S1[n]? with
        | some c => match mutE k c (mutA k S1 ds) with
          | some (r, c') => R.ok r (S1.set n c')
          | none => .bad
        | none => .bad
        else .bad) = .ok d S1 := hev
      split at hev
      case isFalse => cases hev
      rename_i hlive
      obtain ⟨ds, S2, h1, hev⟩ := R.bind_ok hev
      cases hn : S2[n]? with
      | none => rw [hn] at hev; cases hev
      | some c =>
        rw [hn] at hev
        cases hc : mutE k c (mutA k S2 ds) with
        | none => simp only [hc] at hev; cases hev
        | some rc =>
          simp only [hc] at hev
          obtain ⟨r0, c'⟩ := rc
          cases hev
          obtain ⟨r, hr, kk⟩ := hm c ds S2 _ c' hc
          refine ⟨_, pe_bm PySem.F.plainAttrs_list slot hty hr hv ha hbase hfew hline hs hplain, ?_⟩
          have hvar : evE Φ (.var i) ρ S = .ok (.ref n) S := by simp only [evE, hx]
          refine tE_one s en hvar fun v H1 m1 ex1 s1 en1 r1 => ?_
          cases r1 with
          | ref hm1 =>
            rename_i a
            refine ⟨?_, tA_one s1 en1 h1 fun vs H2 m2 ex2 s2 en2 r2 => ?_⟩
            · unfold liveL at hlive
              split at hlive
              · rename_i l hl
                obtain ⟨xs, hxs, _⟩ := s1.lst n a l hm1 hl
                exact .inl ⟨rfl, xs, sqL_of_rd (.inl hxs)⟩
              · cases hlive
            · have hm2 : m2[n]? = some a := by
                obtain ⟨pr, hpr⟩ := ex2.pre
                rw [hpr, List.getElem?_append_left (List.getElem?_eq_some_iff.mp hm1).1]
                exact hm1
              obtain ⟨l, l', rfl, rfl, k3⟩ := kk (s2.plain n c hn)
              obtain ⟨xs, hx2, rx⟩ := s2.lst n a l hm2 hn
              refine k3 H2 m2 F vs xs a Q s2 r2 hx2 rx fun v xs' rl rv => ?_
              obtain ⟨exw, sw⟩ := st_write s2 hm2 hn rl
              exact q v _ m2 ((ex1.trans ex2).trans exw) sw (rv.mono exw.lt)
theorem u_append : MutOk X 0 "list.append" := fun c ds S1 d c' h => by
  refine ⟨_, mt_append, fun hp => ?_⟩
  rcases hp with ⟨l, rfl⟩ | rfl | ⟨l, rfl⟩
  · match ds, h with
    | [x], h =>
      have h : (if l.length < LIM then some (D.non, Cell.lst (l ++ [x])) else none) = some (d, c') := h
      split at h
      · rename_i hz
        cases h
        refine ⟨l, _, rfl, rfl, fun H2 m2 F vs xs a Q s r hx rx q => ?_⟩
        obtain ⟨v, rfl, rv⟩ := rps_one r
        exact ⟨a, xs, v, rfl, rfl, hx, by rw [← rx.length, ← line_LIM]; exact hz, q _ _ (rx.app (.cons rv .nil)) .non⟩
      · cases h
    | [], h => cases h
    | _ :: _ :: _, h => cases h
  · match ds, h with
    | [x], h => cases h
    | [], h => cases h
    | _ :: _ :: _, h => cases h
  · match ds, h with
    | [x], h => cases h
    | [], h => cases h
    | _ :: _ :: _, h => cases h
theorem mt_extendR : MtM X "list.extend" (fun x vs H Q => ∃ l b xs zs, x = .ref l ∧ vs = [.ref b] ∧ H l = some (.lst xs) ∧ Rd H b (.lst zs) ∧ xs.length + zs.length ≤ sizeLine ∧ Q .non (upd H l (.lst (xs ++ zs)))) := by
  intro pins s σ H x vs v us Q I rx rv h
  obtain ⟨l, b, xs, zs, rfl, rfl, hH, hB, hz, q⟩ := h
  cases rx
  obtain ⟨u, rfl, ru⟩ := rv.one
  cases ru
  obtain ⟨z, its, n, r, hl, e⟩ := I.lstM hH
  obtain ⟨z2, its2, n2, r2, e2⟩ := hB.ok I.hok
  have hl2 := r2.length
  have hsz : its.toArray.size + its2.toArray.size ≤ sizeLine := by simp only [List.size_toArray]; omega
  have hnot : ¬ (!its.toArray.isEmpty && Builtin.List.listTooLong (its.toArray.size + its2.toArray.size)) = true := by
    have no := notLongL hsz
    rw [no, Bool.and_false]
    simp
  refine call_meets F.slot_list_extend ⟨_, e, rfl⟩ F.entry_list_extend (F.args_list_extend_2 _ _)
    (AutoSeq1.list_extend_list_list_0 l its.toArray n b its2.toArray n2 hnot (by simp only [List.size_toArray]; omega) (by omega)) ⟨e, e2, ?_⟩
  exact ⟨.non, _, I.lset (its' := its ++ its2) hH e (by simp) (r.append r2) (by simp only [List.length_append]; omega), rfl, q⟩
theorem u_extend : MutOk X 1 "list.extend" := fun c ds S1 d c' h => by
  refine ⟨_, mt_extendR, fun hp => ?_⟩
  have h : mutE 1 c (vws S1 ds) = some (d, c') := h
  generalize hv : vws S1 ds = ys at h
  match ys, h with
  | [x], h =>
    obtain ⟨e, rfl, hx⟩ := vws_one hv
    rcases hp with ⟨l, rfl⟩ | rfl | ⟨l, rfl⟩
    · cases x <;> first | (exfalso; cases h; done) | skip
      rename_i rl
      have h : (if l.length + rl.length ≤ LIM then some (D.non, Cell.lst (l ++ rl)) else none) = some (d, c') := h
      split at h
      · rename_i hz
        cases h
        refine ⟨l, _, rfl, rfl, fun H2 m2 F vs xs a Q s r hx2 rx q => ?_⟩
        obtain ⟨v, rfl, rv⟩ := rps_one r
        obtain ⟨b, zs, rfl, t, rs⟩ := vw_lst s rv hx
        exact ⟨a, b, xs, zs, rfl, rfl, hx2, t, by rw [← rx.length, ← rs.length, ← line_LIM]; exact hz, q _ _ (rx.app rs) .non⟩
      · cases h
    · cases h
    · cases h
  | [], h => exfalso; rcases hp with ⟨l, rfl⟩ | rfl | ⟨l, rfl⟩ <;> simp [mutE] at h
  | _ :: _ :: _, h => exfalso; rcases hp with ⟨l, rfl⟩ | rfl | ⟨l, rfl⟩ <;> simp [mutE] at h

theorem Rps.eraseIdx {K : PySem.W.Frag} {H : Hp} {T : Addr → Prop} {m : List Addr} : ∀ {l : List D} {xs : List V} (k : Nat), Rps K H T m l xs → Rps K H T m (l.eraseIdx k) (xs.eraseIdx k)
  | _, _, _, .nil => .nil
  | _, _, 0, .cons a b => b
  | _, _, k + 1, .cons a b => .cons a (Rps.eraseIdx k b)
theorem seqIx_norm {i : Int} {n k : Nat} (h : normIx i n = some k) : seqIndex? i n = some k := by
  unfold normIx at h
  unfold seqIndex?
  by_cases h0 : i < 0
  · rw [if_pos h0] at h
    split at h
    · rename_i h1
      cases h
      simp only [h0, if_true]
      rw [if_pos (by simp only [Bool.and_eq_true, decide_eq_true_eq]; omega)]
    · cases h
  · rw [if_neg h0] at h
    split at h
    · rename_i h1
      cases h
      simp only [h0, if_false]
      rw [if_pos (by simp only [Bool.and_eq_true, decide_eq_true_eq]; omega)]
    · cases h
theorem u_popAt : MutOk X 3 "list.pop" := fun c ds S1 d c' h => by
  refine ⟨_, mt_popAt, fun hp => ?_⟩
  have h : mutE 3 c ds = some (d, c') := h
  obtain ⟨l, rfl⟩ : ∃ l, c = .lst l := by
    rcases hp with ⟨l, rfl⟩ | rfl | ⟨l, rfl⟩
    · exact ⟨l, rfl⟩
    · simp [mutE] at h
    · simp [mutE] at h
  obtain ⟨i, rfl⟩ : ∃ i, ds = [.int i] := by
    match ds, h with
    | [x], h => cases x <;> first | exact ⟨_, rfl⟩ | (exfalso; simp [mutE] at h; done)
    | [], h => simp [mutE] at h
    | _ :: _ :: _, h => simp [mutE] at h
  have h : (if -16777216 ≤ i ∧ i ≤ 16777216 then match normIx i l.length with
    | some k => (l[k]?).map fun x => (x, Cell.lst (l.eraseIdx k))
    | none => none
    else none) = some (d, c') := h
  split at h
  · rename_i hi
    cases hk : normIx i l.length with
    | none => rw [hk] at h; cases h
    | some k =>
      rw [hk] at h
      obtain ⟨z, hz, hc⟩ := Option.map_eq_some_iff.mp h
      cases hc
      refine ⟨l, _, rfl, rfl, fun H2 m2 F vs xs a Q s r hx rx q => ?_⟩
      obtain ⟨v, rfl, rv⟩ := rps_one r
      obtain ⟨y, hy, ry⟩ := rx.get hz
      exact ⟨a, xs, i, k, y, rfl, by rw [rp_int rv], hx, by omega, by omega, by rw [← rx.length]; exact seqIx_norm hk, hy, q _ _ (rx.eraseIdx k) ry⟩
  · cases h

/-- x.pop() -/
theorem s_pop {i : Nat} {y : Str} {apos : Pos} (hv : PE X (.Name y p) (tE Φ X.K (.var i)))
    (hbase : attributeBase (.Name y p) "pop" X.env (eval (.Name y p) X.env) = eval (.Name y p) X.env) (hline : (apos.endLine == pos.line) = true) :
    PE X (.Call (.Attribute (.Name y p) "pop" apos) [] [] pos) (tE Φ X.K (.mut 2 i [])) :=
  PE.pick fun σ H Q ⟨F, m, S, ρ, d, S1, s, en, hev, q⟩ => by
    simp only [evE] at hev
    cases hx : ρ[i]? with
    | none => rw [hx] at hev; cases hev
    | some x =>
      rw [hx] at hev
      cases x <;> first | (exfalso; cases hev; done) | skip
      rename_i n
      have hev : (if liveL S n then (evEs Φ [] ρ S).bind fun ds S1 => match S1[n]? with
        | some c => match mutE 2 c (mutA 2 S1 ds) with
          | some (r, c') => R.ok r (S1.set n c')
          | none => .bad
        | none => .bad
        else .bad) = .ok d S1 := hev
      split at hev
      case isFalse => cases hev
      simp only [evEs, R.bind] at hev
      cases hn : S[n]? with
      | none => rw [hn] at hev; cases hev
      | some c =>
        rw [hn] at hev
        refine ⟨_, pe_bm0 PySem.F.plainAttrs_list PySem.F.slot_list_pop PySem.F.type_list_pop mt_pop hv hbase hline, ?_⟩
        have hvar : evE Φ (.var i) ρ S = .ok (.ref n) S := by simp only [evE, hx]
        refine tE_one s en hvar fun v H1 m1 ex1 s1 en1 r1 => ?_
        cases r1 with
        | ref hm1 =>
          rename_i a
          rcases s1.plain n c hn with ⟨l, rfl⟩ | rfl | ⟨l, rfl⟩
          · obtain ⟨xs, hxs, rx⟩ := s1.lst n a l hm1 hn
            cases hl : l[l.length - 1]? with
            | none => simp [mutA, mutE, hl] at hev
            | some z =>
              simp [mutA, mutE, hl] at hev
              obtain ⟨rfl, rfl⟩ := hev
              obtain ⟨vz, hvz, rz⟩ := rx.get hl
              refine ⟨.inl ⟨rfl, xs, sqL_of_rd (.inl hxs)⟩, a, xs, vz, rfl, rfl, hxs, by rw [← rx.length]; exact hvz, ?_⟩
              have rd : Rps X.K H1 (Tk F m1 S) m1 l.dropLast xs.dropLast := by
                rw [List.dropLast_eq_take, List.dropLast_eq_take, ← rx.length]
                exact rx.take _
              obtain ⟨exw, sw⟩ := st_write s1 hm1 hn rd
              exact q vz _ m1 (ex1.trans exw) sw (rz.mono exw.lt)
          · cases hev
          · cases hev
end
end NG
end

section
set_option autoImplicit false
set_option maxRecDepth 100000
set_option maxHeartbeats 1000000
namespace NG
open PySem PySem.Spec PyProof.Rows L2
variable [HasW]
/-! ## displays of dicts -/
def trsOf (Φ : Phi) (K : PySem.W.Frag) : List CE → List (TE × TE)
  | k :: v :: r => (tE Φ K k, tE Φ K v) :: trsOf Φ K r
  | _ => []
def flatV : List (V × V) → List V
  | [] => []
  | (a, b) :: r => a :: b :: flatV r
def evenL {α : Type} : List α → Bool
  | [] => true
  | [_] => false
  | _ :: _ :: r => evenL r
section
variable {K : PySem.W.Frag} {H : Hp} {T : Addr → Prop} {m : List Addr}
theorem Tri.stored {l : List (D × D)} {es : List (NestedKey × V × V)} {xs : List (NestedKey × Addr × Value)} {y d : D} {b : Addr} {vv : V} {u : Value} (t : Tri K H T m l es xs) (nd : (xs.map (·.1)).Nodup) (hy : isKey true y = true) (ry : Rp K H T m y (.ref b)) (rv : Rp K H T m d vv) (hv : RelV vv u) :
    ∃ es', Tri K H T m (dput y d l) es' (storedH xs (toKey y) b u) := by
  obtain ⟨g1, g2⟩ := t.get hy
  cases hg : dget y l with
  | none =>
    rw [storedH_new (g2 hg)]
    have t' := t.snoc hy ry rv hv
    rw [← dput_new hg] at t'
    exact ⟨_, t'⟩
  | some d0 =>
    obtain ⟨b', u', vv', h1, _⟩ := g1 d0 hg
    rw [storedH_old h1]
    obtain ⟨es', t', _⟩ := t.put hy rv hv nd (by rw [hg]; rfl)
    exact ⟨es', t'⟩
theorem nodup_stored {xs : List (NestedKey × Addr × Value)} {k : NestedKey} {b : Addr} {u : Value} (nd : (xs.map (·.1)).Nodup) : ((storedH xs k b u).map (·.1)).Nodup := by
  cases h : atKey xs k with
  | none =>
    rw [storedH_new h, List.map_append, List.nodup_append]
    refine ⟨nd, by simp, fun x hx y hy z => ?_⟩
    simp at hy
    subst hy z
    obtain ⟨⟨k0, p⟩, hm, e⟩ := List.mem_map.mp hx
    obtain ⟨i, hi⟩ := List.getElem?_of_mem hm
    have := atKey_of_get nd hi
    simp only at e
    subst e
    rw [h] at this
    cases this
  | some p =>
    rw [storedH_old h]
    have : (xs.map (putAt k u)).map (·.1) = xs.map (·.1) := by
      rw [List.map_map]
      refine List.map_congr_left fun x _ => ?_
      show (putAt k u x).1 = x.1
      unfold putAt
      split <;> rfl
    rw [this]
    exact nd
/-- pairs put one after another -/
theorem Tri.all {l' : List (D × D)} : ∀ {ds : List D} {ps : List (V × V)} {ws : List (Value × Value)} {l : List (D × D)} {es : List (NestedKey × V × V)} {xs : List (NestedKey × Addr × Value)}, putAll true l ds = some l' → Rps K H T m ds (flatV ps) → VV ps ws → Tri K H T m l es xs → (xs.map (·.1)).Nodup →
    ∃ (qs : List (NestedKey × Addr × Value)) (es' : List (NestedKey × V × V)), Tri K H T m l' es' (storedAllH xs qs) ∧ qs.length = ps.length ∧ Paired (fun (w : Value × Value) (q : NestedKey × Addr × Value) => w.1 = .ref q.2.1 ∧ w.2 = q.2.2 ∧ ∃ k : D, isKey true k = true ∧ q.1 = toKey k ∧ Rp K H T m k (.ref q.2.1)) ws qs
  | [], ps, ws, l, es, xs, h, r, v, t, nd => by
    cases ps with
    | nil =>
      cases v
      cases h
      exact ⟨[], es, t, rfl, .nil⟩
    | cons p ps => cases r
  | [_], ps, ws, l, es, xs, h, r, v, t, nd => by cases h
  | k :: d :: ds, ps, ws, l, es, xs, h, r, v, t, nd => by
    simp only [putAll] at h
    split at h
    · rename_i hk
      cases ps with
      | nil => cases r
      | cons p ps =>
        obtain ⟨pk, pv⟩ := p
        cases r with
        | cons rk r =>
          cases r with
          | cons rv r =>
            cases v with
            | cons v1 v2 =>
              rename_i wp ws
              obtain ⟨b, rfl⟩ := key_ref hk rk
              obtain ⟨es1, t1⟩ := t.stored nd hk rk rv v1.2
              obtain ⟨qs, es', t', hl, pr⟩ := Tri.all h r v2 t1 (nodup_stored nd)
              exact ⟨(toKey k, b, wp.2) :: qs, es', t', by simp [hl], .cons ⟨v1.1, rfl, k, hk, rfl, rk⟩ pr⟩
    · cases h
end
section
variable {Φ : Phi} {X : Cx} {pos : Pos}
theorem tpairs_ok {K : PySem.W.Frag} {F : Addr → Prop} {σ : L2.St} : ∀ {cs : List CE} {ρ : Env} {H : Hp} {m : List Addr} {S S1 : Store} {ds : List D} {Q : List (V × V) → Hp → Prop}, evenL cs = true → Sto K H F m S → EnvR K H (Tk F m S) m ρ σ → evEs Φ cs ρ S = .ok ds S1 →
    (∀ ps H1 m1, Ex H m S H1 m1 S1 → Sto K H1 F m1 S1 → Rps K H1 (Tk F m1 S1) m1 ds (flatV ps) → Q ps H1) → tPairs (trsOf Φ K cs) σ H Q
  | [], ρ, H, m, S, S1, ds, Q, _, s, e, h, q => by
    simp only [evEs] at h
    cases h
    exact q [] H m Ex.refl s .nil
  | [_], ρ, H, m, S, S1, ds, Q, hev, _, _, _, _ => by cases hev
  | k :: v :: cs, ρ, H, m, S, S1, ds, Q, hev, s, e, h, q => by
    simp only [evEs] at h
    obtain ⟨x, S2, h1, h⟩ := R.bind_ok h
    obtain ⟨ds1, S3, h2, h⟩ := R.bind_ok h
    cases h
    obtain ⟨y, S4, h3, h2⟩ := R.bind_ok h2
    obtain ⟨ds2, S5, h4, h2⟩ := R.bind_ok h2
    cases h2
    refine tE_one s e h1 fun a H1 m1 ex1 s1 e1 r1 => ?_
    refine tE_one s1 e1 h3 fun b H2 m2 ex2 s2 e2 r2 => ?_
    exact tpairs_ok (by simpa [evenL] using hev) s2 e2 h4 fun ps H3 m3 ex3 s3 r3 => q ((a, b) :: ps) H3 m3 ((ex1.trans ex2).trans ex3) s3 (.cons ((r1.mono ex2.lt).mono ex3.lt) (.cons (r2.mono ex3.lt) r3))
theorem Fin.opq {K : PySem.W.Frag} {H H1 : Hp} {F : Addr → Prop} {m m1 : List Addr} {S S1 : Store} {Q : VK} {p : Addr} {kvs : List (Key × V)} (q : Fin K H F m S S1 (.exc 0 .non) Q) (ex : Ex H m S H1 m1 S1) (s : Sto K H1 F m1 S1) (hp : H1 p = none) : Q (.ref p) (upd H1 p (.dK kvs)) :=
  q _ _ m1 (ex.trans (Ex.laid hp)) (s.laid hp) (.opq upd_same (s.free hp))
/-- a dict that nobody looks into: {} -/
theorem s_opq0 : PE X (.Dict [] [] pos) (tE Φ X.K (.cst (.exc 0 .non))) :=
  PE.pick fun σ H Q ⟨F, m, S, ρ, d, S1, s, e, he, q⟩ => by
    obtain ⟨rfl, rfl⟩ := cst_ok he
    exact ⟨_, pe_dnewK, fun p hp => Fin.opq q Ex.refl s hp⟩
/-- {"a": 1} -/
theorem s_opq1 {x : Str} {i : Int} {j1 j2 : Nat} {p1 p2 : Pos} : PE X (.Dict [some (.Constant (.str x) j1 p1)] [.Constant (.int i) j2 p2] pos) (tE Φ X.K (.cst (.exc 0 .non))) :=
  PE.pick fun σ H Q ⟨F, m, S, ρ, d, S1, s, e, he, q⟩ => by
    obtain ⟨rfl, rfl⟩ := cst_ok he
    refine ⟨_, pe_disp (pps_cons pe_str pe_int pps_nil) rfl rfl (by simp) (by simp), fun p hp => ?_⟩
    refine ⟨upd_same, [(Sum.inr x, V.int i)], rfl, by simp, ?_⟩
    rw [upd_upd]
    exact Fin.opq q Ex.refl s hp
theorem isD_dic {cs : List CE} : isD Φ (.dic true cs) := fun ρ S d S1 h => by
  simp only [evE] at h
  obtain ⟨ds, S2, _, h⟩ := R.bind_ok h
  obtain ⟨h2, _⟩ := lift_ok h
  obtain ⟨l, _, rfl⟩ := Option.map_eq_some_iff.mp h2
  exact ⟨l, rfl⟩
theorem dic_empty {w : World} {H : Hp} {P : Program} (h : Heap) (hb : sysModules < h.objs.size) : ObjOk P w H (h.push { cls := .type "dict", data := .dict #[] }) h.objs.size (DicO w h.objs.size []) := by
  refine ⟨⟨Nat.zero_le _, beq_eq_false_iff_ne.mpr (Ne.symm (Nat.ne_of_lt hb)), _, #[], _, Heap.get?_push_size _ rfl, ⟨rfl, rfl, rfl⟩, rfl, .nil, List.nodup_nil⟩, ⟨_, Heap.get?_push_size _ rfl⟩, fun g1 g2 q k => ?_⟩
  obtain ⟨q1, q2, o', ds', ep', q3, q4⟩ := q
  exact ⟨q1, q2, o', ds', ep', k _ q3, q4⟩
/-- {k: v, ..} -/
theorem f_dic {keys : List (Option Expr)} {values : List Expr} {cs : List CE} (hu : X.A.units + 9 < cLine) (hw : X.w = HasW.w) (h : PPs X pos keys values (trsOf Φ X.K cs)) (hall : keys.all (·.isSome) = true) (hl : keys.length = values.length) (h15 : keys.length ≤ 15) (hev : evenL cs = true) (hcl : keys = [] → cs = []) :
    PE X (.Dict keys values pos) (tFD Φ X.K (.dic true cs)) := by
  refine ⟨fun pins s σ H Q I ⟨F, m, S, ρ, l, S1, st, en, he, q⟩ => ?_⟩
  simp only [evE] at he
  obtain ⟨ds, S2, h1, he⟩ := R.bind_ok he
  obtain ⟨h2, rfl⟩ := lift_ok he
  obtain ⟨l', h3, e4⟩ := Option.map_eq_some_iff.mp h2
  cases e4
  have h4 : putAll true [] ds = some l := by
    unfold mkDic at h3
    split at h3
    · exact h3
    · cases h3
  have hn := I.hok.fresh (Nat.le_refl s.heap.objs.size)
  have I1 := I.laid (a := s.heap.objs.size) (o := DicO X.w s.heap.objs.size []) (h' := s.heap.push { cls := .type "dict", data := .dict #[] }) (t' := s.toks) (fun _ _ q => Heap.get?_push_of_some _ q) (Nat.le_refl _) (dic_empty s.heap I.big)
  rw [hw] at I1
  by_cases h0 : keys = []
  · subst h0
    have := hcl rfl
    subst this
    have hv0 : values = [] := by simpa using hl.symm
    subst hv0
    simp only [evEs] at h1
    cases h1
    cases h4
    exact wpAny_Dict_empty ⟨.ref s.heap.objs.size, _, I1, rfl, q.new Ex.refl st ⟨[], rfl, rfl, fun _ hp => (List.not_mem_nil hp).elim, .nil, .nil⟩ hn⟩
  · obtain ⟨F', hF'⟩ : ∃ F' : Addr → Prop, F' = fun a => F a ∨ a = s.heap.objs.size := ⟨_, rfl⟩
    have hFn : ∀ a, F' a → F a ∨ H a = none := fun a z => by
      rw [hF'] at z
      exact z.imp id fun z => by rw [z]; exact hn
    have fp : F' s.heap.objs.size := by rw [hF']; exact .inr rfl
    have ex0 : Ex H m S (upd H s.heap.objs.size (DicO HasW.w s.heap.objs.size [])) m S := Ex.laid hn
    have st0 : Sto X.K (upd H s.heap.objs.size (DicO HasW.w s.heap.objs.size [])) F' m S := by rw [hF']; exact st.addF hn
    refine wpAny_Dict_any hall hl h0 h15 ?_
    refine thn (h.run pins _ σ _ (fun ps H2 => ∃ m2, Ex H m S H2 m2 S1 ∧ Sto X.K H2 F' m2 S1 ∧ Rps X.K H2 (Tk F' m2 S1) m2 ds (flatV ps) ∧ H2 s.heap.objs.size = some (DicO HasW.w s.heap.objs.size [])) I1 (tpairs_ok hev st0 (en.mono (ex0.ltF hFn)) h1 fun ps H2 m2 ex s2 r => ?_)) fun ws s2 ⟨ps, H2, I2, rel, m2, ex, st2, r, e⟩ => ?_
    · exact ⟨m2, ex0.trans ex, s2, r, ex.old _ _ upd_same (st0.apart _ fp)⟩
    · have e' := e
      rw [← hw] at e'
      have r0 : DicR X.K H2 (Tk F' m2 S1) m2 [] [] := ⟨rfl, fun _ hp => (List.not_mem_nil hp).elim, .nil, .nil⟩
      obtain ⟨_, hd, xs, t, dd⟩ := dic_is I2 (.inl e') r0
      cases t
      obtain ⟨qs, es', t', hql, pr⟩ := Tri.all h4 r rel .nil List.nodup_nil
      have hc : CarriesH (nestedKind X.prog X.w) s2.heap ws qs := by
        have : ∀ {ws : List (Value × Value)} {qs : List (NestedKey × Addr × Value)}, Paired (fun (w : Value × Value) (q : NestedKey × Addr × Value) => w.1 = .ref q.2.1 ∧ w.2 = q.2.2 ∧ ∃ k : D, isKey true k = true ∧ q.1 = toKey k ∧ Rp X.K H2 (Tk F' m2 S1) m2 k (.ref q.2.1)) ws qs → CarriesH (nestedKind X.prog X.w) s2.heap ws qs := by
          intro ws qs pr
          induction pr with
          | nil => exact True.intro
          | @cons w q ws qs h t ih =>
            obtain ⟨h1, h2, k, hk, hq, rk⟩ := h
            obtain ⟨w1, w2⟩ := w
            obtain ⟨q1, q2, q3⟩ := q
            obtain ⟨_, _, hkk, hkd⟩ := isKey_t hk
            simp only at h1 h2 hq rk
            subst hq
            exact ⟨h1, h2, ⟨rp_nested I2 rk hkk rfl, hkd⟩, ih⟩
        exact this pr
      have hlen : qs.length ≤ 15 := by
        have h5 : ds.length = (flatV ps).length := r.length
        have h6 : ∀ ps : List (V × V), (flatV ps).length = 2 * ps.length := by
          intro ps
          induction ps with
          | nil => rfl
          | cons p ps ih => obtain ⟨a, b⟩ := p; simp only [flatV, List.length_cons, ih]; omega
        have h7 : ds.length ≤ 30 := by
          unfold mkDic at h3
          split at h3
          · assumption
          · cases h3
        rw [h6] at h5
        omega
      refine wpAny_storeAllH (knd := nestedKind X.prog X.w) (show X.A.units + 8 < cLine by omega) ws qs [] s2 _ hc dd (by rw [List.length_nil, sizeLine_eq]; omega) fun h' tk dd' hs => ?_
      have hll : l.length ≤ sizeLine := by
        rw [← t'.len.1]
        have h8 : ∀ (qs xs : List (NestedKey × Addr × Value)), (storedAllH xs qs).length ≤ xs.length + qs.length := by
          intro qs
          induction qs with
          | nil => intro xs; exact Nat.le_refl _
          | cons q qs ih =>
            intro xs
            have := ih (storedH xs q.1 q.2.1 q.2.2)
            have h9 := storedH_length xs q.1 q.2.1 q.2.2
            show (storedAllH (storedH xs q.1 q.2.1 q.2.2) qs).length ≤ _
            rw [List.length_cons]
            omega
        have := h8 qs []
        rw [List.length_nil] at this
        rw [sizeLine_eq]
        omega
      have heq : ∃ q, h'.get? s.heap.objs.size = some q := let ⟨q, _, _, hq, _⟩ := dd'; ⟨q, hq⟩
      have I3 := d_write (t' := tk) (ob := DicO X.w s.heap.objs.size es') I2 (by rw [e]; exact True.intro) hs heq (dic_new hll hd t' dd')
      rw [hw] at I3
      have exf : Ex H m S (upd H2 s.heap.objs.size (DicO HasW.w s.heap.objs.size es')) m2 S1 := ⟨ex.pre, fun a o z n => by
        have ha : a ≠ s.heap.objs.size := fun z' => by rw [z', hn] at z; cases z
        rw [upd_ne ha]
        exact ex.old a o z n, ex.trk⟩
      have st3 := st2.put (o := DicO HasW.w s.heap.objs.size es') fp
      have r3 := (t'.mono (put_lt (o := DicO HasW.w s.heap.objs.size es') fp)).dicR
      rw [hF'] at st3 r3
      exact ⟨.ref s.heap.objs.size, _, I3, rfl, q _ _ m2 _ hn exf st3 upd_same ⟨es', rfl, r3⟩⟩
end
end NG
end

section
set_option autoImplicit false
set_option maxRecDepth 100000
set_option maxHeartbeats 1000000
namespace NG
open PySem PySem.Spec PyProof.Rows L2
variable [HasW]
/-! ## d.get(k), d.get(k, x) -/
section
variable {X : Cx} {pins : List (Addr × Obj)} {σ : L2.St} {H : Hp} {s : Shared} {a : Addr} {T : Addr → Prop} {m : List Addr} {l : List (D × D)} {es : List (NestedKey × V × V)}
theorem dic_val {b : Addr} {y d : D} {vd : V} {ud : Value} (I : Inv X pins σ H s) (e : Rd H a (DicO X.w a es)) (r : DicR X.K H T m l es) (hy : isKey true y = true) (ry : Rp X.K H T m y (.ref b)) (rd : Rp X.K H T m d vd) (rv : RelV vd ud) :
    (nestedKind X.prog X.w).is s.heap (toKey y) b ∧ (a == sysModules) = false ∧ ∃ xs, s.heap.DictOfH (nestedKind X.prog X.w) a xs ∧ ∃ v', RelV v' (((atKey xs (toKey y)).map (·.2)).getD ud) ∧ Rp X.K H T m ((dget y l).getD d) v' := by
  obtain ⟨z, hd, xs, t, dd⟩ := dic_is I e r
  have hk : (nestedKind X.prog X.w).is s.heap (toKey y) b := by
    obtain ⟨_, _, hk, hd⟩ := isKey_t hy
    exact ⟨rp_nested I ry hk rfl, hd⟩
  refine ⟨hk, hd, xs, dd, ?_⟩
  obtain ⟨g1, g2⟩ := t.get hy
  cases hg : dget y l with
  | none =>
    rw [g2 hg]
    exact ⟨vd, rv, rd⟩
  | some d0 =>
    obtain ⟨b', u', vv', h1, h2, h3⟩ := g1 d0 hg
    rw [h1]
    exact ⟨vv', h2, h3⟩
theorem dic_get1 {b : Addr} {y : D} {Q : Value → Shared → Prop} {A : Around} {E : Value → Shared → Prop} (hu : A.units + 9 < cLine) (I : Inv X pins σ H s) (e : Rd H a (DicO X.w a es)) (r : DicR X.K H T m l es)
    (hy : isKey true y = true) (ry : Rp X.K H T m y (.ref b)) (q : ∀ vv u s', Inv X pins σ H s' → Rp X.K H T m ((dget y l).getD .non) vv → RelV vv u → Q u s') : wpAny (model X.prog X.w) A (call (.builtin "dict.get") [.ref a, .ref b]) Q E s := by
  obtain ⟨hk, hd, xs, dd, v', h1, h2⟩ := dic_val (d := .non) (vd := .non) (ud := .none) I e r hy ry .non rfl
  refine call_meetsIn PySem.F.slot_dict_get dd.typeIs PySem.F.entry_dict_get (PySem.F.args_dict_get_2 _ _) (meetsH_dict_get (nestedKind X.prog X.w) a b hd) ⟨show A.in1.units + 8 < cLine by rw [Around.in1_units]; omega, _, xs, hk, dd, ?_⟩
  exact q v' _ _ (I.tok _) h2 h1
theorem dic_get2 {b : Addr} {y d : D} {vd : V} {ud : Value} {Q : Value → Shared → Prop} {A : Around} {E : Value → Shared → Prop} (hu : A.units + 9 < cLine) (I : Inv X pins σ H s) (e : Rd H a (DicO X.w a es)) (r : DicR X.K H T m l es)
    (hy : isKey true y = true) (ry : Rp X.K H T m y (.ref b)) (rd : Rp X.K H T m d vd) (rv : RelV vd ud) (q : ∀ vv u s', Inv X pins σ H s' → Rp X.K H T m ((dget y l).getD d) vv → RelV vv u → Q u s') : wpAny (model X.prog X.w) A (call (.builtin "dict.get") [.ref a, .ref b, ud]) Q E s := by
  obtain ⟨hk, hd, xs, dd, v', h1, h2⟩ := dic_val I e r hy ry rd rv
  refine call_meetsIn PySem.F.slot_dict_get dd.typeIs PySem.F.entry_dict_get (PySem.F.args_dict_get_3 _ _ _) (meetsH_dict_get_default (nestedKind X.prog X.w) a b hd ud) ⟨show A.in1.units + 8 < cLine by rw [Around.in1_units]; omega, _, xs, hk, dd, ?_⟩
  exact q v' _ _ (I.tok _) h2 h1
theorem dic_noDict (I : Inv X pins σ H s) (e : Rd H a (DicO X.w a es)) : ∀ b, Value.ref a = .ref b → ∃ ob, s.heap.get? b = some ob ∧ ob.dict = none := fun b q => by
  cases q
  obtain ⟨⟨z, y, o, ds, ep, h1, h2, h3, h4, h5⟩, _⟩ := (show ObjOk X.prog X.w H s.heap a (DicO X.w a es) from e.ok I.hok)
  exact ⟨o, h1, h2.2.1⟩
end
section
variable {Φ : Phi} {X : Cx} {apos cpos : Pos} {eo e1 e2 : Expr} {o c1 c2 : CE}
/-- a receiver that is a dict now, and later -/
theorem rcv_dic {F : Addr → Prop} {H : Hp} {m : List Addr} {S : Store} {x : D} {v : V} (s : Sto X.K H F m S) (r : Rp X.K H (Tk F m S) m x v) (hc : rcvOk .get S x = true) {S2 : Store} {t : Bool} {l : List (D × D)} (hx : vw S2 x = .dic t l) :
    ∃ a es l', v = .ref a ∧ Rd H a (DicO HasW.w a es) ∧ DicR X.K H (Tk F m S) m l' es := by
  cases x <;> first | (exfalso; cases hx; done) | skip
  · obtain ⟨a, od, es, rfl, h1, h2, h3⟩ := rp_dic r
    exact ⟨a, es, _, rfl, .inr ⟨_, h1⟩, h3⟩
  · rename_i n
    have hc : liveD S n = true := hc
    unfold liveD at hc
    split at hc
    · rename_i b l' hl
      have ht : b = true := by
        rcases s.plain n _ hl with ⟨_, z⟩ | z | ⟨_, z⟩ <;> cases z
        rfl
      subst ht
      cases r with
      | ref hm =>
        obtain ⟨es, h1, h2⟩ := s.dic n _ l' hm hl
        exact ⟨_, es, l', rfl, .inl h1, h2⟩
    · cases hc
theorem s_get1 (hu : X.A.units + 9 < cLine) (hw : X.w = HasW.w) (ho : PE X eo (tE Φ X.K o)) (h1 : PE X e1 (tE Φ X.K c1)) (mm : M1 X eo "get" apos e1 cpos) : PE X (.Call (.Attribute eo "get" apos) [e1] [] cpos) (tE Φ X.K (.mth .get o [c1])) := by
  refine ⟨fun pins s0 σ H Q I ⟨F, m, S, ρ, d, S1, s, en, hev, q⟩ => ?_⟩
  simp only [evE] at hev
  obtain ⟨x, S2, g1, hev⟩ := R.bind_ok hev
  split at hev
  case isFalse => cases hev
  rename_i hrc
  obtain ⟨ds, S3, g2, hev⟩ := R.bind_ok hev
  simp only [evEs] at g2
  obtain ⟨y, S4, g2, g3⟩ := R.bind_ok g2
  cases g3
  obtain ⟨g4, rfl⟩ := lift_ok hev
  have g4 : mthE .get (vw S1 x) [y] = some d := g4
  generalize hx : vw S1 x = x' at g4
  cases x' <;> first | (exfalso; cases g4; done) | skip
  rename_i t l
  have g4 : (if isKey t y then some ((dget y l).getD .non) else none) = some d := g4
  split at g4
  case isFalse => cases g4
  rename_i hk
  cases g4
  refine wpAny_Call_method mm.base mm.few mm.line PySem.F.plainAttrs_dict PySem.F.slot_dict_get PySem.F.type_dict_get (thn (ho.run pins s0 σ H (fun v H1 => ∃ m1, Ex H m S H1 m1 S2 ∧ Sto X.K H1 F m1 S2 ∧ Rp X.K H1 (Tk F m1 S2) m1 x v) I ⟨F, m, S, ρ, x, S2, s, en, g1, fun v H1 m1 a b c => ⟨m1, a, b, c⟩⟩) fun u s1 ⟨v, H1, I1, rx, m1, ex1, st1, r1⟩ => ?_)
  obtain ⟨a, es, l', rfl, e, rr⟩ := rcv_dic st1 r1 hrc hx
  obtain rfl : u = Value.ref a := rx
  refine ⟨dic_type I1 (by rw [hw]; exact e), dic_noDict I1 (by rw [hw]; exact e), ?_⟩
  rw [mm.trees]
  refine Calls.callWith_builtin rfl (Calls.evalArgs_plain (Calls.spliced_cons (thn (h1.run pins s1 σ H1 (fun v H2 => ∃ m2, Ex H m S H2 m2 S1 ∧ Sto X.K H2 F m2 S1 ∧ Rp X.K H2 (Tk F m2 S1) m2 x (.ref a) ∧ Rp X.K H2 (Tk F m2 S1) m2 y v) I1 ⟨F, m1, S2, ρ, y, S1, st1, en.mono ex1.lt, g2, fun v H2 m2 ex2 st2 r2 => ⟨m2, ex1.trans ex2, st2, r1.mono ex2.lt, r2⟩⟩) fun iv s2 ⟨y', H2, I2, ry, m2, ex, st2, rx2, ry2⟩ => Calls.spliced_nil ?_)))
  obtain ⟨rfl, a', es', e', e2, rr2⟩ := vw_dic st2 rx2 hx
  cases e'
  obtain ⟨b, rfl⟩ := key_ref hk ry2
  cases (show iv = Value.ref b from ry)
  exact dic_get1 hu I2 (by rw [hw]; exact e2) rr2 hk ry2 fun vv u s3 I3 r3 rv => ⟨vv, H2, I3, rv, q vv H2 m2 ex st2 r3⟩
theorem s_get2 (hu : X.A.units + 9 < cLine) (hw : X.w = HasW.w) (ho : PE X eo (tE Φ X.K o)) (h1 : PE X e1 (tE Φ X.K c1)) (h2 : PE X e2 (tE Φ X.K c2)) (mm : M2 X eo "get" apos e1 e2 cpos) : PE X (.Call (.Attribute eo "get" apos) [e1, e2] [] cpos) (tE Φ X.K (.mth .get o [c1, c2])) := by
  refine ⟨fun pins s0 σ H Q I ⟨F, m, S, ρ, d, S1, s, en, hev, q⟩ => ?_⟩
  simp only [evE] at hev
  obtain ⟨x, S2, g1, hev⟩ := R.bind_ok hev
  split at hev
  case isFalse => cases hev
  rename_i hrc
  obtain ⟨ds, S3, w2, hev⟩ := R.bind_ok hev
  simp only [evEs] at w2
  obtain ⟨y, S4, g2, w3⟩ := R.bind_ok w2
  obtain ⟨ds', S5, w4, w5⟩ := R.bind_ok w3
  cases w5
  obtain ⟨z, S6, g3, w6⟩ := R.bind_ok w4
  cases w6
  obtain ⟨g4, rfl⟩ := lift_ok hev
  have g4 : mthE .get (vw S1 x) [y, z] = some d := g4
  generalize hx : vw S1 x = x' at g4
  cases x' <;> first | (exfalso; cases g4; done) | skip
  rename_i t l
  have g4 : (if isKey t y then some ((dget y l).getD z) else none) = some d := g4
  split at g4
  case isFalse => cases g4
  rename_i hk
  cases g4
  refine wpAny_Call_method mm.base mm.few mm.line PySem.F.plainAttrs_dict PySem.F.slot_dict_get PySem.F.type_dict_get (thn (ho.run pins s0 σ H (fun v H1 => ∃ m1, Ex H m S H1 m1 S2 ∧ Sto X.K H1 F m1 S2 ∧ Rp X.K H1 (Tk F m1 S2) m1 x v) I ⟨F, m, S, ρ, x, S2, s, en, g1, fun v H1 m1 a b c => ⟨m1, a, b, c⟩⟩) fun u s1 ⟨v, H1, I1, rx, m1, ex1, st1, r1⟩ => ?_)
  obtain ⟨a, es, l', rfl, e, rr⟩ := rcv_dic st1 r1 hrc hx
  obtain rfl : u = Value.ref a := rx
  refine ⟨dic_type I1 (by rw [hw]; exact e), dic_noDict I1 (by rw [hw]; exact e), ?_⟩
  rw [mm.trees]
  refine Calls.callWith_builtin rfl (Calls.evalArgs_plain (Calls.spliced_cons (thn (h1.run pins s1 σ H1 (fun v H2 => ∃ m2, Ex H m S H2 m2 S4 ∧ Sto X.K H2 F m2 S4 ∧ Rp X.K H2 (Tk F m2 S4) m2 x (.ref a) ∧ Rp X.K H2 (Tk F m2 S4) m2 y v) I1 ⟨F, m1, S2, ρ, y, S4, st1, en.mono ex1.lt, g2, fun v H2 m2 ex2 st2 r2 => ⟨m2, ex1.trans ex2, st2, r1.mono ex2.lt, r2⟩⟩) fun iv s2 ⟨y', H2, I2, ry, m2, ex, st2, rx2, ry2⟩ =>
    Calls.spliced_cons (thn (h2.run pins s2 σ H2 (fun v H3 => ∃ m3, Ex H m S H3 m3 S1 ∧ Sto X.K H3 F m3 S1 ∧ Rp X.K H3 (Tk F m3 S1) m3 x (.ref a) ∧ Rp X.K H3 (Tk F m3 S1) m3 y y' ∧ Rp X.K H3 (Tk F m3 S1) m3 z v) I2 ⟨F, m2, S4, ρ, z, S1, st2, en.mono ex.lt, g3, fun v H3 m3 ex3 st3 r3 => ⟨m3, ex.trans ex3, st3, rx2.mono ex3.lt, ry2.mono ex3.lt, r3⟩⟩) fun fv s3 ⟨z', H3, I3, rz, m3, ex3, st3, rx3, ry3, rz3⟩ => Calls.spliced_nil ?_))))
  obtain ⟨rfl, a', es', e', e2', rr2⟩ := vw_dic st3 rx3 hx
  cases e'
  obtain ⟨b, rfl⟩ := key_ref hk ry3
  cases (show iv = Value.ref b from ry)
  exact dic_get2 hu I3 (by rw [hw]; exact e2') rr2 hk ry3 rz3 rz fun vv u s4 I4 r4 rv => ⟨vv, H3, I4, rv, q vv H3 m3 ex3 st3 r4⟩
end
end NG
end

section
set_option autoImplicit false
set_option maxRecDepth 100000
set_option maxHeartbeats 1000000
namespace NG
open PySem PySem.Spec PyProof.Rows L2
variable [HasW]
/-! ## dict(list of pairs) -/
section
variable {X : Cx} {pins : List (Addr × Obj)} {σ : L2.St} {H : Hp} {s : Shared} {T : Addr → Prop} {m : List Addr}
theorem tup_at (I : Inv X pins σ H s) {k d : D} {v : V} (r : Rp X.K H T m (.tup [k, d]) v) : ∃ (b : Addr) (kv vv : V) (ku vu : Value), v = .ref b ∧ RelV kv ku ∧ RelV vv vu ∧ Rp X.K H T m k kv ∧ Rp X.K H T m d vv ∧ s.heap.IsTuple b #[ku, vu] := by
  have two : ∀ {its : List Value} {xs : List V}, Vals xs its → Rps X.K H T m [k, d] xs → ∃ kv vv ku vu, RelV kv ku ∧ RelV vv vu ∧ Rp X.K H T m k kv ∧ Rp X.K H T m d vv ∧ its = [ku, vu] := by
    intro its xs rv rs
    cases rs with
    | cons r1 rs =>
      cases rs with
      | cons r2 rs =>
        cases rs
        cases rv with
        | cons v1 rv =>
          cases rv with
          | cons v2 rv =>
            cases rv
            exact ⟨_, _, _, _, v1, v2, r1, r2, rfl⟩
  cases r with
  | tup h n q =>
    rename_i a xs
    obtain ⟨_, its, rv, o, h1, h2, n2, h3⟩ := (show ObjOk X.prog X.w H s.heap a (.tup xs) from h.ok I.hok)
    obtain ⟨kv, vv, ku, vu, e1, e2, e3, e4, rfl⟩ := two rv q
    exact ⟨a, kv, vv, ku, vu, rfl, e1, e2, e3, e4, o, h1, h2, n2, h3⟩
  | tupK h q =>
    rename_i a xs
    obtain ⟨o, its, n, h1, h2, h3, h4, rv⟩ := h
    obtain ⟨kv, vv, ku, vu, e1, e2, e3, e4, e5⟩ := two rv q
    refine ⟨a, kv, vv, ku, vu, rfl, e1, e2, e3, e4, o, I.kIn a o h1, h2, n, ?_⟩
    rw [h3]
    congr 1
    exact Array.toList_inj.mp (by rw [e5])
theorem pairs_at (I : Inv X pins σ H s) : ∀ {ds fl : List D} {vs : List V}, flatD ds = some fl → Rps X.K H T m ds vs →
    ∃ (bs : List Addr) (pv : List (V × V)) (ps : List (Value × Value)), vs = bs.map V.ref ∧ Rps X.K H T m fl (flatV pv) ∧ VV pv ps ∧ bs.length = ps.length ∧ pv.length = ps.length ∧ ∀ (j : Nat) (k v : Value), ps[j]? = some (k, v) → ∃ b, bs[j]? = some b ∧ s.heap.IsTuple b #[k, v]
  | [], fl, vs, h, r => by
    cases h
    cases r
    exact ⟨[], [], [], rfl, .nil, .nil, rfl, rfl, fun j k v z => by simp at z⟩
  | x :: ds, fl, vs, h, r => by
    cases x <;> first | (simp [flatD] at h; done) | skip
    rename_i l
    match l, h with
    | [], h => simp [flatD] at h
    | [_], h => simp [flatD] at h
    | _ :: _ :: _ :: _, h => simp [flatD] at h
    | [k, d], h =>
      simp only [flatD] at h
      obtain ⟨fl', h1, rfl⟩ := Option.map_eq_some_iff.mp h
      cases r with
      | cons r1 r2 =>
        obtain ⟨bs, pv, ps, rfl, a2, a3, a4, a5, a6⟩ := pairs_at I h1 r2
        obtain ⟨b, kv, vv, ku, vu, rfl, e1, e2, e3, e4, e5⟩ := tup_at I r1
        refine ⟨b :: bs, (kv, vv) :: pv, (ku, vu) :: ps, rfl, .cons e3 (.cons e4 a2), .cons ⟨e1, e2⟩ a3, by simp [a4], by simp [a5], fun j k v z => ?_⟩
        cases j with
        | zero =>
          simp only [List.getElem?_cons_zero, Option.some.injEq, Prod.mk.injEq] at z
          obtain ⟨rfl, rfl⟩ := z
          exact ⟨b, rfl, e5⟩
        | succ j =>
          obtain ⟨b', q1, q2⟩ := a6 j k v (by simpa using z)
          exact ⟨b', by simpa using q1, q2⟩
end
section
variable {X : Cx}
def rDictP (K : PySem.W.Frag) : List V → Hp → VK → Prop := fun xs H Q => ∃ (a : Addr) (vs : List V) (ds fl : List D) (l : List (D × D)) (T : Addr → Prop) (m : List Addr), xs = [V.ref a] ∧ Rd H a (.lst vs) ∧ Rps K H T m ds vs ∧ flatD ds = some fl ∧ putAll true [] fl = some l ∧
  ∀ p es, H p = none → DicR K H T m l es → Q (.ref p) (upd H p (DicO HasW.w p es))
theorem call_dictPr (hc : X.calm = true) (hu : X.A.units + 66 < cLine) (hw : X.w = HasW.w) : CallR X (.type "dict") (rDictP X.K) := by
  intro pins s σ H xs us Q I r h
  obtain ⟨a, vs, ds, fl, l, T, m, rfl, hH, rs, hf, hp, q⟩ := h
  rw [Vals.ref1 r]
  obtain ⟨its, rv, pl, hz⟩ := I.list (sqL_of_rd hH)
  obtain ⟨bs, pv, ps, rfl, p2, p3, p4, p5, p6⟩ := pairs_at I hf rs
  obtain ⟨qs, es, t, hql, pr⟩ := Tri.all hp p2 p3 .nil List.nodup_nil
  have hits : its = bs.map Value.ref := refs_at rv
  subst hits
  have hqs : ∀ (i : Nat) (k v : Value), ps[i]? = some (k, v) → ∃ (nk : NestedKey) (b : Addr), qs[i]? = some (nk, b, v) ∧ k = .ref b := fun i k v e => by
    obtain ⟨⟨nk, b, v'⟩, e1, e2, e3, _⟩ := paired_get pr e
    simp only at e2 e3
    subst e2 e3
    exact ⟨nk, b, e1, rfl⟩
  have his : ∀ x ∈ qs, (nestedKind X.prog X.w).is s.heap x.1 x.2.1 := fun x hx => by
    obtain ⟨i, hi⟩ := List.getElem?_of_mem hx
    have hl : i < ps.length := by
      have := (List.getElem?_eq_some_iff.mp hi).1
      have h2 := Paired.length pr
      omega
    obtain ⟨y, e1, e2, e3, k, hk, hq, rk⟩ := paired_get pr (List.getElem?_eq_getElem hl)
    rw [hi] at e1
    cases e1
    obtain ⟨_, _, hkk, hkd⟩ := isKey_t hk
    rw [hq]
    exact ⟨rp_nested I rk hkk rfl, hkd⟩
  have hzl : ps.length ≤ sizeLine := by rw [List.length_map] at hz; omega
  refine PySem.call_dict_pairsH (knd := nestedKind X.prog X.w) (ps := qs) (PairArg.list a (bs.map Value.ref).toArray (fun j => bs.getD j 0) ps) (I.ok.hd hc) (show X.A.in1.in1.units + 8 < cLine by rw [Around.in1_units, Around.in1_units]; omega) ⟨?_, ?_, fun j k v e => ?_⟩ ⟨by rw [hql, p5], hqs⟩ (fun h' hk x hx => ?_) hzl fun h' tk hd' hk => ?_
  · obtain ⟨o, n, h1, h2, h3, h4⟩ := pl
    exact ⟨o, n, h1, h2, h3, h4⟩
  · simp [p4]
  · obtain ⟨b, e1, e2⟩ := p6 j k v e
    have : bs.getD j 0 = b := by rw [List.getD_eq_getElem?_getD, e1]; rfl
    refine ⟨by simp [e1], .inl ?_⟩
    show s.heap.IsTuple (bs.getD j 0) _
    rw [this]
    exact e2
  · exact nestedKind_stays.stays (fun b o vs n e _ => hk b o (Nat.ne_of_lt (Heap.lt_size e)) (fun z => nomatch z) e) (his x hx)
  · have hm : (s.heap.objs.size == sysModules) = false := beq_eq_false_iff_ne.mpr (Nat.ne_of_gt I.big)
    have hn := I.hok.fresh (Nat.le_refl s.heap.objs.size)
    have hll : l.length ≤ sizeLine := by
      rw [← t.len.1]
      have h8 : ∀ (qs xs : List (NestedKey × Addr × Value)), (storedAllH xs qs).length ≤ xs.length + qs.length := by
        intro qs
        induction qs with
        | nil => intro xs; exact Nat.le_refl _
        | cons q qs ih =>
          intro xs
          have := ih (storedH xs q.1 q.2.1 q.2.2)
          have h9 := storedH_length xs q.1 q.2.1 q.2.2
          show (storedAllH (storedH xs q.1 q.2.1 q.2.2) qs).length ≤ _
          rw [List.length_cons]
          omega
      have := h8 qs []
      rw [List.length_nil] at this
      omega
    have new := dic_new (P := X.prog) (w := X.w) (H' := upd H s.heap.objs.size (DicO X.w s.heap.objs.size es)) hll hm t hd'
    have I2 := I.laid (t' := tk) (o := DicO X.w s.heap.objs.size es) (fun b o e => hk b o (fun z => nomatch z) e) (Nat.le_refl _) new
    rw [hw] at I2
    exact ⟨.ref s.heap.objs.size, _, I2, rfl, q _ es hn t.dicR⟩
theorem k_dict (hc : X.calm = true) (hu : X.A.units + 66 < cLine) (hw : X.w = HasW.w) (ds : List D) (S1 : Store) (d : D) (h : bltE .dict (vws S1 ds) = some d) : ∃ r l, d = .dic true l ∧ CallR X (.type "dict") r ∧
    ∀ H2 m2 F vs Q, Sto X.K H2 F m2 S1 → Rps X.K H2 (Tk F m2 S1) m2 ds vs → FinC X.K H2 F m2 S1 S1 (.dic true l) Q → r vs H2 Q := by
  match hv : vws S1 ds with
  | [] => rw [hv] at h; cases h
  | x :: _ :: _ => rw [hv] at h; cases x <;> cases h
  | [x] =>
    rw [hv] at h
    obtain ⟨e, rfl, hx⟩ := vws_one hv
    cases x <;> first | (exfalso; cases h; done) | skip
    rename_i l0
    have h : (match flatD l0 with
      | some fl => (putAll true [] fl).map (D.dic true)
      | none => none) = some d := h
    cases hf : flatD l0 with
    | none => rw [hf] at h; cases h
    | some fl =>
      rw [hf] at h
      obtain ⟨l, hl, rfl⟩ := Option.map_eq_some_iff.mp h
      refine ⟨_, l, rfl, call_dictPr hc hu hw, fun H2 m2 F vs Q s r q => ?_⟩
      obtain ⟨v, rfl, rv⟩ := rps_one r
      obtain ⟨a, xs, rfl, t, rs⟩ := vw_lst s rv hx
      exact ⟨a, xs, l0, fl, l, _, _, rfl, t, rs, hf, hl, fun p es hp r => FinC.new q Ex.refl s ⟨es, rfl, r⟩ hp⟩
end
end NG
end

section
set_option autoImplicit false
set_option maxRecDepth 100000
set_option maxHeartbeats 1000000
namespace NG
open PySem PySem.Spec PyProof.Rows L2
variable [HasW]
/-! ## how arguments are bound -/
theorem forIn_kw {names : List Str} {e : List (Str × Value)} {f : Str × Value → List (Str × Value) × List (Str × Value) → Sem (ForInStep (List (Str × Value) × List (Str × Value)))}
    (hf : ∀ x s, names.contains x.1 = true → (s.lookup x.1).isSome = false → f x (s, e) = pure (.yield (s ++ [(x.1, x.2)], e))) :
    ∀ (kw s : List (Str × Value)), (∀ x ∈ kw, names.contains x.1 = true) → (kw.map (·.1)).Nodup → (∀ x ∈ kw, (s.lookup x.1).isSome = false) → forIn kw (s, e) f = pure (s ++ kw, e)
  | [], s, _, _, _ => by simp
  | x :: kw, s, h1, h2, h3 => by
    rw [List.forIn_cons, hf x s (h1 x (List.mem_cons_self ..)) (h3 x (List.mem_cons_self ..)), pure_bind]
    show forIn kw (s ++ [(x.1, x.2)], e) f = _
    rw [List.map_cons, List.nodup_cons] at h2
    rw [forIn_kw hf kw _ (fun y hy => h1 y (List.mem_cons_of_mem _ hy)) h2.2 (fun y hy => ?_)]
    · simp
    · have hne : y.1 ≠ x.1 := fun z => h2.1 (by rw [← z]; exact List.mem_map.mpr ⟨y, hy, rfl⟩)
      have h4 := h3 y (List.mem_cons_of_mem _ hy)
      rw [List.lookup_append]
      cases hs : s.lookup y.1 with
      | some v => rw [hs] at h4; cases h4
      | none =>
        have : (List.lookup y.1 [(x.1, x.2)]) = none := by
          simp [List.lookup_cons, beq_eq_false_iff_ne.mpr hne]
        rw [this]
        rfl
theorem bind_kw {x qual : Str} {params : Arguments} {body : List Stmt} {scope : Scope} {kV doc pm cdv ct : Value} {an : Option Addr} {us : List Value} {kw : List (Str × Value)} (h1 : params.posonlyargs = []) (h2 : params.kwonlyargs = []) (h3 : params.vararg = none) (h4 : params.kwarg = none)
    (hl : us.length ≤ params.args.length) (hk : ∀ y ∈ kw, (params.args.map (·.arg)).contains y.1 = true) (hnd : (kw.map (·.1)).Nodup) (hfree : ∀ y ∈ kw, (((params.args.map (·.arg)).zip us).lookup y.1).isSome = false)
    (hall : ∀ n ∈ params.args.map (·.arg), (((params.args.map (·.arg)).zip us ++ kw).lookup n).isNone = false) : bindArgs (PySem.W.fnOf x qual params body scope .none kV doc pm an cdv ct) ⟨us, kw⟩ =
      pure ((params.args.map (·.arg)).filterMap fun n => (((params.args.map (·.arg)).zip us ++ kw).lookup n).map fun v => (n, v)) := by
  have hl' : us.length ≤ (params.args.map (·.arg)).length := by rw [List.length_map]; exact hl
  generalize hps : params.args.map (·.arg) = ps at hk hfree hall hl'
  have hm : (List.take ps.length ps).filter (fun n => ((ps.zip us ++ kw).lookup n).isNone) = [] := by
    rw [List.filter_eq_nil_iff]
    intro n hn
    rw [hall n (List.mem_of_mem_take hn)]
    exact Bool.false_ne_true
  unfold bindArgs PySem.W.fnOf
  simp only [h1, h2, h3, h4, hps, List.map_nil, List.nil_append, List.append_nil]
  rw [forIn_kw (names := ps) (e := []) ?_ kw _ hk hnd hfree]
  · simp only [pure_bind]
    have hd : (seqItems? Value.none : Sem (Option (Array Value))) = pure none := rfl
    rw [hd]
    simp only [pure_bind, Option.getD_none]
    simp only [List.length_nil, Nat.sub_zero, Nat.zero_sub, List.drop_nil, List.isEmpty_nil, Option.isNone_none, Bool.and_true]
    rw [if_neg (by simpa using hl')]
    simp only [pure_bind, hm, List.isEmpty_nil, Bool.not_true, List.drop_length, List.zip_nil_left, List.forIn_nil]
    rfl
  · intro y s hy hs
    obtain ⟨y1, y2⟩ := y
    simp only [hy, hs, Bool.true_or, if_true]
    rfl

/-- the names a call gives, and where each parameter finds its value -/
def permOk (ps : List Str) (n : Nat) (ks : List Str) (perm : List Nat) : Bool :=
  decide (n ≤ ps.length) && decide (perm.length = ps.length) && decide (n + ks.length = ps.length) && decide ((ps.take n ++ ks).Nodup) && ks.all (fun k => ps.contains k) &&
    ((List.range ps.length).all fun j => match perm[j]?, ps[j]? with
      | some i, some p => decide ((ps.take n ++ ks)[i]? = some p)
      | _, _ => false)
theorem zip_lookup {α : Type} : ∀ {L : List Str} {vs : List α} {i : Nat} {x : Str}, L.Nodup → L[i]? = some x → (L.zip vs).lookup x = vs[i]?
  | [], _, _, _, _, h => by simp at h
  | y :: L, [], i, x, _, _ => by simp
  | y :: L, v :: vs, 0, x, _, h => by
    simp at h
    subst h
    simp [List.lookup_cons]
  | y :: L, v :: vs, i + 1, x, nd, h => by
    rw [List.nodup_cons] at nd
    have hx : L[i]? = some x := by simpa using h
    have hne : x ≠ y := fun z => nd.1 (by rw [← z]; exact List.mem_of_getElem? hx)
    rw [List.zip_cons_cons, List.lookup_cons, beq_eq_false_iff_ne.mpr hne, List.getElem?_cons_succ]
    exact zip_lookup nd.2 hx
theorem zip_append {α β : Type} : ∀ {a : List α} {b : List β} {c : List α} {d : List β}, a.length = b.length → a.zip b ++ c.zip d = (a ++ c).zip (b ++ d)
  | [], [], _, _, _ => rfl
  | _ :: _, [], _, _, h => by simp at h
  | [], _ :: _, _, _, h => by simp at h
  | x :: a, y :: b, c, d, h => by
    simp only [List.zip_cons_cons, List.cons_append]
    rw [zip_append (by simpa using h)]
theorem zip_take {α β : Type} : ∀ (a : List α) (b : List β), b.length ≤ a.length → a.zip b = (a.take b.length).zip b
  | _, [], _ => by simp
  | [], _ :: _, h => by simp at h
  | x :: a, y :: b, h => by
    simp only [List.zip_cons_cons, List.length_cons, List.take_succ_cons]
    rw [zip_take a b (by simpa using h)]
theorem filterMap_zip {α β γ : Type} {f : α → Option γ} {g : α → β → γ} : ∀ {ps : List α} {es : List β}, ps.length = es.length → (∀ (j : Nat) (p : α) (e : β), ps[j]? = some p → es[j]? = some e → f p = some (g p e)) → ps.filterMap f = (ps.zip es).map fun q => g q.1 q.2
  | [], [], _, _ => rfl
  | _ :: _, [], h, _ => by simp at h
  | [], _ :: _, h, _ => by simp at h
  | p :: ps, e :: es, h, hf => by
    rw [List.filterMap_cons, hf 0 p e rfl rfl]
    simp only [List.zip_cons_cons, List.map_cons]
    rw [filterMap_zip (by simpa using h) fun j p' e' h1 h2 => hf (j + 1) p' e' (by simpa using h1) (by simpa using h2)]
theorem pick_get {α : Type} : ∀ {perm : List Nat} {l : List α}, (∀ i ∈ perm, i < l.length) → (pick perm l).length = perm.length ∧ ∀ j : Nat, (pick perm l)[j]? = (perm[j]?).bind fun i : Nat => l[i]?
  | [], _, _ => ⟨rfl, fun j => by simp [pick]⟩
  | i :: perm, l, h => by
    have hi := h i (List.mem_cons_self ..)
    obtain ⟨h1, h2⟩ := pick_get (perm := perm) (l := l) fun k hk => h k (List.mem_cons_of_mem _ hk)
    have e : pick (i :: perm) l = l[i] :: pick perm l := by
      unfold pick
      rw [List.filterMap_cons, List.getElem?_eq_getElem hi]
    rw [e]
    refine ⟨by rw [List.length_cons, h1, List.length_cons], fun j => ?_⟩
    cases j with
    | zero => simp [hi]
    | succ j => simpa using h2 j
theorem pick_rel {α β : Type} {R : α → β → Prop} {l : List α} {r : List β} (h : ∀ i : Nat, (l[i]? = none ∧ r[i]? = none) ∨ ∃ a b, l[i]? = some a ∧ r[i]? = some b ∧ R a b) : ∀ perm : List Nat, ∀ P : List α → List β → Prop, P [] [] → (∀ a b as bs, R a b → P as bs → P (a :: as) (b :: bs)) → P (pick perm l) (pick perm r)
  | [], P, h0, _ => h0
  | i :: perm, P, h0, hc => by
    have ih := pick_rel h perm P h0 hc
    unfold pick at ih ⊢
    rw [List.filterMap_cons, List.filterMap_cons]
    rcases h i with ⟨e1, e2⟩ | ⟨a, b, e1, e2, r⟩
    · rw [e1, e2]
      exact ih
    · rw [e1, e2]
      exact hc a b _ _ r ih
theorem vals_at {vs : List V} {us : List Value} (r : Vals vs us) (i : Nat) : (vs[i]? = none ∧ us[i]? = none) ∨ ∃ a b, vs[i]? = some a ∧ us[i]? = some b ∧ RelV a b := by
  cases h : vs[i]? with
  | none =>
    refine .inl ⟨rfl, ?_⟩
    rw [List.getElem?_eq_none_iff] at h ⊢
    rw [← r.length]
    exact h
  | some v =>
    obtain ⟨u, hu, ru⟩ := r.get h
    exact .inr ⟨v, u, rfl, hu, ru⟩
theorem rps_at {K : PySem.W.Frag} {H : Hp} {T : Addr → Prop} {m : List Addr} {ds : List D} {vs : List V} (r : Rps K H T m ds vs) (i : Nat) : (ds[i]? = none ∧ vs[i]? = none) ∨ ∃ a b, ds[i]? = some a ∧ vs[i]? = some b ∧ Rp K H T m a b := by
  cases h : ds[i]? with
  | none =>
    refine .inl ⟨rfl, ?_⟩
    rw [List.getElem?_eq_none_iff] at h ⊢
    rw [← r.length]
    exact h
  | some v =>
    obtain ⟨u, hu, ru⟩ := r.get h
    exact .inr ⟨v, u, rfl, hu, ru⟩
theorem pick_vals {vs : List V} {us : List Value} (r : Vals vs us) (perm : List Nat) : Vals (pick perm vs) (pick perm us) := pick_rel (vals_at r) perm Vals .nil fun _ _ _ _ a b => .cons a b
theorem pick_rps {K : PySem.W.Frag} {H : Hp} {T : Addr → Prop} {m : List Addr} {ds : List D} {vs : List V} (r : Rps K H T m ds vs) (perm : List Nat) : Rps K H T m (pick perm ds) (pick perm vs) := pick_rel (rps_at r) perm (Rps K H T m) .nil fun _ _ _ _ a b => .cons a b

/-- a def that stands in the written part, without defaults -/
structure FunP (K : PySem.W.Frag) (mg : Str → Option Value) (x : Str) (ps : List Str) (fa : Addr) (fd : FuncData) : Prop where
  mg : mg x = some (.ref fa)
  kp : PySem.W.keepIn K (.ref fa) = true
  pos : ∀ (s : Shared) (us : List Value), us.length = ps.length → BindsTo s fd ⟨us, []⟩ (ps.zip us)
  kws : ∀ (n : Nat) (ks : List Str) (perm : List Nat), permOk ps n ks perm = true → ∀ (s : Shared) (us ws : List Value), us.length = n → ws.length = ks.length → BindsTo s fd ⟨us, ks.zip ws⟩ (ps.zip (pick perm (us ++ ws)))
/-- parameters that a call fills one by one -/
def plainPs (params : Arguments) (ps : List Str) : Bool :=
  params.posonlyargs.isEmpty && params.kwonlyargs.isEmpty && params.vararg.isNone && params.kwarg.isNone && decide (params.args.map (·.arg) = ps) && decide (ps.Nodup)
theorem funP {K : PySem.W.Frag} {mg : Str → Option Value} {x name qual : Str} {params : Arguments} {body : List Stmt} {scope : Scope} {fa : Addr} {fd : FuncData} {ps : List Str} (hm : mg x = some (.ref fa)) (F : FunD K name qual params body scope [] [] fa fd) (hp : plainPs params ps = true) : FunP K mg x ps fa fd := by
  obtain ⟨oc, od, dV, kV, doc, pm, an, cdv, ct, osl, rfl, lk, hcd, hdv, _⟩ := F.ex
  have hdv : dV = .none := by
    rcases hdv with ⟨_, z⟩ | ⟨z, _⟩
    · exact z
    · exact absurd rfl z
  subst hdv
  unfold plainPs at hp
  simp only [Bool.and_eq_true, List.isEmpty_iff, Option.isNone_iff_eq_none, decide_eq_true_eq] at hp
  obtain ⟨⟨⟨⟨⟨h1, h2⟩, h3⟩, h4⟩, h5⟩, h6⟩ := hp
  have hlen : params.args.length = ps.length := by rw [← h5, List.length_map]
  refine ⟨hm, F.kp, fun s us hl => ?_, fun n ks perm hok s us ws hu hw => ?_⟩
  · refine BindsTo.of_eq ?_
    rw [bind_kw h1 h2 h3 h4 (by rw [hl, hlen]; exact Nat.le_refl _) (fun y hy => by cases hy) (by simp) (fun y hy => by cases hy) ?_]
    · rw [h5]
      congr 1
      rw [filterMap_zip (es := us) (g := fun n v => (n, v)) hl.symm]
      · simp
      · intro j p e hj he
        rw [List.append_nil, zip_lookup h6 hj, he]
        rfl
    · intro n hn
      rw [h5] at hn ⊢
      obtain ⟨j, hj⟩ := List.getElem?_of_mem hn
      rw [List.append_nil, zip_lookup h6 hj]
      have : j < us.length := by
        rw [hl]
        exact (List.getElem?_eq_some_iff.mp hj).1
      rw [List.getElem?_eq_getElem this]
      rfl
  · unfold permOk at hok
    simp only [Bool.and_eq_true, decide_eq_true_eq, List.all_eq_true] at hok
    obtain ⟨⟨⟨⟨⟨k1, k2⟩, k3⟩, k4⟩, k5⟩, k6⟩ := hok
    have hat : ∀ (j : Nat) (p : Str), ps[j]? = some p → ∃ i, perm[j]? = some i ∧ (ps.take n ++ ks)[i]? = some p := fun j p hj => by
      have hjl := (List.getElem?_eq_some_iff.mp hj).1
      have := k6 j (List.mem_range.mpr hjl)
      rw [hj] at this
      cases hq : perm[j]? with
      | none => rw [hq] at this; cases this
      | some i =>
        rw [hq] at this
        exact ⟨i, by rfl, by simpa using this⟩
    have hll : (ps.take n ++ ks).length = ps.length := by rw [List.length_append, List.length_take]; omega
    have hvl : (us ++ ws).length = ps.length := by rw [List.length_append]; omega
    have hz : ps.zip us ++ ks.zip ws = (ps.take n ++ ks).zip (us ++ ws) := by
      rw [zip_take ps us (by omega), hu, zip_append (by rw [List.length_take]; omega)]
    have hin : ∀ i ∈ perm, i < (us ++ ws).length := fun i hi => by
      obtain ⟨j, hj⟩ := List.getElem?_of_mem hi
      have hjl := (List.getElem?_eq_some_iff.mp hj).1
      obtain ⟨i', h7, h8⟩ := hat j ps[j] (List.getElem?_eq_getElem (by omega))
      rw [hj] at h7
      cases h7
      have := (List.getElem?_eq_some_iff.mp h8).1
      omega
    obtain ⟨pl, pg⟩ := pick_get hin
    have hmain : ∀ (j : Nat) (p : Str), ps[j]? = some p → ((ps.zip us ++ ks.zip ws).lookup p) = (pick perm (us ++ ws))[j]? := fun j p hj => by
      obtain ⟨i, h7, h8⟩ := hat j p hj
      rw [hz, zip_lookup k4 h8, pg, h7]
      rfl
    refine BindsTo.of_eq ?_
    have hkk : (ks.zip ws).map (·.1) = ks := List.map_fst_zip (by omega)
    have hks : ∀ y ∈ ks.zip ws, y.1 ∈ ks := fun y hy => by
      rw [← hkk]
      exact List.mem_map.mpr ⟨y, hy, rfl⟩
    have hfree : ∀ y ∈ ks.zip ws, ((ps.zip us).lookup y.1).isSome = false := fun y hy => by
      have hy' := hks y hy
      rw [zip_take ps us (by omega), hu]
      cases hlk : ((ps.take n).zip us).lookup y.1 with
      | none => rfl
      | some v =>
        exfalso
        have hmem : y.1 ∈ ps.take n := by
          have : (y.1, v) ∈ (ps.take n).zip us := by
            have h9 := hlk
            clear hlk hmain hz
            generalize (ps.take n).zip us = L at h9 ⊢
            induction L with
            | nil => simp at h9
            | cons q L ih =>
              rw [List.lookup_cons] at h9
              cases hb : (y.1 == q.1) with
              | true =>
                rw [hb] at h9
                cases h9
                rw [eq_of_beq hb]
                exact List.mem_cons_self ..
              | false =>
                rw [hb] at h9
                exact List.mem_cons_of_mem _ (ih h9)
          exact (List.of_mem_zip this).1
        exact (List.nodup_append.mp k4).2.2 _ hmem _ hy' rfl
    have hall : ∀ p ∈ ps, ((ps.zip us ++ ks.zip ws).lookup p).isNone = false := fun p hp' => by
      obtain ⟨j, hj⟩ := List.getElem?_of_mem hp'
      rw [hmain j p hj]
      have : j < (pick perm (us ++ ws)).length := by
        rw [pl, k2]
        exact (List.getElem?_eq_some_iff.mp hj).1
      rw [List.getElem?_eq_getElem this]
      rfl
    rw [bind_kw h1 h2 h3 h4 (by omega) (fun y hy => by rw [h5]; simpa using k5 _ (hks y hy)) (by rw [hkk]; exact (List.nodup_append.mp k4).2.1) (by rw [h5]; exact hfree) (by rw [h5]; exact hall)]
    rw [h5]
    congr 1
    rw [filterMap_zip (es := pick perm (us ++ ws)) (g := fun n v => (n, v)) (by omega)]
    · simp
    · intro j p e hj he
      rw [hmain j p hj, he]
      rfl
end NG
end

section
set_option autoImplicit false
set_option maxRecDepth 100000
set_option maxHeartbeats 1000000
namespace NG
open PySem PySem.Spec PyProof.Rows L2
variable [HasW]
section
variable {Φ : Phi} {X : Cx} {pos p : Pos} {k f md : Nat} {fa : Addr} {fd : FuncData} {ps : List Str} {x : Str} {e : Expr} {es : List Expr}
theorem FunP.binds (P : FunP X.K X.mg x ps fa fd) : Binds X.K fd ps [] := fun s us _ hl => by
  rw [List.append_nil] at hl ⊢
  exact P.pos s us hl
theorem s_callP {cs : List CE} (P : FunP X.K X.mg x ps fa fd) (G : FnG X.prog X.w X.K X.mg X.base k fa fd ps (spF Φ X.K f ps.length)) (hg : X.A.guards = some []) (hr : Room k X.A) (hgl : Gl X x) (ha : PA X (e :: es) (tA Φ X.K cs)) (hl : cs.length = ps.length)
    (hdb : (x == ("__debug__" : Str)) = false) (he : starEach (e :: es) X.env = (false, eval e X.env) :: starEach es X.env) (hpl : (backTo pos (starEach es X.env)).any (·.1) = false) : PE X (.Call (.Name x p) (e :: es) [] pos) (tE Φ X.K (.call f md cs)) :=
  s_call G hg hr hgl P.mg P.kp P.binds ha hl hdb he hpl
/-- f() -/
theorem pe_callG0 {sp : Sp} (F : FnG X.prog X.w X.K X.mg X.base k fa fd [] sp) (P : FunP X.K X.mg x [] fa fd) (hg : X.A.guards = some []) (hr : Room k X.A) (hgl : Gl X x) (hdb : (x == ("__debug__" : Str)) = false) : PE X (.Call (.Name x p) [] [] pos) (fun σ H Q => sp [] H Q E0) := by
  refine ⟨fun pins s σ H Q I h => ?_⟩
  refine wpAny_Call_Name_kw (ld_glob I hgl P.mg ?_ hdb)
  refine PySem.W.callWith_K0 I.kIn P.kp ?_
  refine wpAny_call (codeAny_mono (runG F hg hr (P.pos s [] rfl) I .nil h) fun r s' hq => ?_)
  cases r with
  | error e => exact False.elim hq
  | ok fl =>
    cases fl with
    | ret u => exact hq
    | next => exact False.elim hq
    | brk => exact False.elim hq
    | cont => exact False.elim hq
theorem s_call0 (P : FunP X.K X.mg x [] fa fd) (G : FnG X.prog X.w X.K X.mg X.base k fa fd [] (spF Φ X.K f 0)) (hg : X.A.guards = some []) (hr : Room k X.A) (hgl : Gl X x) (hdb : (x == ("__debug__" : Str)) = false) : PE X (.Call (.Name x p) [] [] pos) (tE Φ X.K (.call f md [])) :=
  PE.pick fun σ H Q ⟨F, m, S, ρ, d, S1, s, en, hev, q⟩ => by
    simp only [evE, evEs, R.bind] at hev
    refine ⟨_, pe_callG0 G P hg hr hgl hdb, ?_⟩
    exact call_fin s Ex.refl .nil hev q
/-! ### keywords -/
theorem k_nil : PK X [] (tA Φ X.K []) := ⟨fun pos pins s σ H Q I h => by
  obtain ⟨F, m, S, ρ, ds, S1, st, en, hev, q⟩ := h
  simp only [evEs] at hev
  cases hev
  exact pk_nil.run pos pins s σ H Q I (q [] H m Ex.refl st .nil)⟩
theorem k_cons {kws : List Keyword} {nm : Option Str} {kpos : Pos} {c : CE} {cs : List CE} (ha : PE X e (tE Φ X.K c)) (hr : PK X kws (tA Φ X.K cs)) : PK X (⟨nm, e, kpos⟩ :: kws) (tA Φ X.K (c :: cs)) := ⟨fun pos pins s σ H Q I h => by
  obtain ⟨F, m, S, ρ, ds, S1, st, en, hev, q⟩ := h
  simp only [evEs] at hev
  obtain ⟨d, S2, h1, hev⟩ := R.bind_ok hev
  obtain ⟨ds', S3, h2, hev⟩ := R.bind_ok hev
  cases hev
  refine (pk_cons ha hr).run pos pins s σ H Q I ?_
  refine tE_one st en h1 fun v H1 m1 ex1 s1 en1 r1 => ?_
  exact tA_one s1 en1 h2 fun vs H2 m2 ex2 s2 en2 r2 => q _ H2 m2 (ex1.trans ex2) s2 (.cons (r1.mono ex2.lt) r2)⟩
theorem evEs_app {cs1 cs2 : List CE} : ∀ {ρ : Env} {S S2 : Store} {ds : List D}, evEs Φ (cs1 ++ cs2) ρ S = .ok ds S2 → ∃ d1 d2 S1, evEs Φ cs1 ρ S = .ok d1 S1 ∧ evEs Φ cs2 ρ S1 = .ok d2 S2 ∧ ds = d1 ++ d2 := by
  induction cs1 with
  | nil => exact fun h => ⟨[], _, _, by simp only [evEs], h, rfl⟩
  | cons c cs ih =>
    intro ρ S S2 ds h
    rw [List.cons_append] at h
    simp only [evEs] at h ⊢
    obtain ⟨d, S3, h1, h⟩ := R.bind_ok h
    obtain ⟨ds', S4, h2, h⟩ := R.bind_ok h
    cases h
    obtain ⟨d1, d2, S5, e1, e2, rfl⟩ := ih h2
    refine ⟨d :: d1, d2, S5, ?_, e2, rfl⟩
    rw [h1]
    simp only [R.bind, e1]
theorem run_kw {pins : List (Addr × Obj)} {σ : L2.St} {H : Hp} {s : Shared} {Q : VK} {us ws : List Value} {vs zs : List V} {ks : List Str} {perm : List Nat} {n : Nat} {sp : Sp} (P : FunP X.K X.mg x ps fa fd) (F : FnG X.prog X.w X.K X.mg X.base k fa fd ps sp) (hg : X.A.guards = some []) (hr : Room k X.A) (hok : permOk ps n ks perm = true)
    (hu : vs.length = n) (hw : zs.length = ks.length) (I : Inv X pins σ H s) (r : Vals vs us) (rz : Vals zs ws) (h : sp (pick perm (vs ++ zs)) H Q E0) : wpAny (model X.prog X.w) X.A (call (.ref fa) us (ks.zip ws)) (EP X pins σ Q) X.xe s := by
  have hb := P.kws n ks perm hok s us ws (by rw [← r.length]; exact hu) (by rw [← rz.length]; exact hw)
  refine wpAny_call (codeAny_mono (runG F hg hr hb I (pick_vals (r.append rz) perm) h) fun r s' hq => ?_)
  cases r with
  | error e => exact False.elim hq
  | ok fl =>
    cases fl with
    | ret u => exact hq
    | next => exact False.elim hq
    | brk => exact False.elim hq
    | cont => exact False.elim hq
theorem permOk_len {n : Nat} {ks : List Str} {perm : List Nat} {α : Type} {l : List α} (h : permOk ps n ks perm = true) (hl : l.length = n + ks.length) : (pick perm l).length = ps.length := by
  unfold permOk at h
  simp only [Bool.and_eq_true, decide_eq_true_eq, List.all_eq_true] at h
  obtain ⟨⟨⟨⟨⟨k1, k2⟩, k3⟩, k4⟩, k5⟩, k6⟩ := h
  have hll : (ps.take n ++ ks).length = ps.length := by rw [List.length_append, List.length_take]; omega
  have hin : ∀ i ∈ perm, i < l.length := fun i hi => by
    obtain ⟨j, hj⟩ := List.getElem?_of_mem hi
    have hjl := (List.getElem?_eq_some_iff.mp hj).1
    have := k6 j (List.mem_range.mpr (by omega))
    rw [hj, List.getElem?_eq_getElem (show j < ps.length by omega)] at this
    have h8 : (ps.take n ++ ks)[i]? = some ps[j] := by simpa using this
    have := (List.getElem?_eq_some_iff.mp h8).1
    omega
  rw [(pick_get hin).1, k2]
/-- f(k = v, ..) -/
theorem s_callK0 {kws : List Keyword} {ks : List Str} {perm : List Nat} {cs : List CE} (P : FunP X.K X.mg x ps fa fd) (G : FnG X.prog X.w X.K X.mg X.base k fa fd ps (spF Φ X.K f ps.length)) (hg : X.A.guards = some []) (hr : Room k X.A) (hgl : Gl X x) (hok : permOk ps 0 ks perm = true)
    (hkw : PK X kws (tA Φ X.K cs)) (hl : cs.length = ks.length) (hall : (backToKw pos (keywordEach kws X.env)).all (·.1.isSome) = true) (hks : (backToKw pos (keywordEach kws X.env)).filterMap (·.1) = ks) (hdb : (x == ("__debug__" : Str)) = false)
    (hpl : ((backTo pos (starEach [] X.env)).any (·.1) || (backToKw pos (keywordEach kws X.env)).any (·.1.isNone)) = false) : PE X (.Call (.Name x p) [] kws pos) (tE Φ X.K (.callk f md cs perm)) := by
  refine ⟨fun pins s σ H Q I h => ?_⟩
  obtain ⟨F, m, S, ρ, d, S1, st, en, hev, q⟩ := h
  simp only [evE] at hev
  obtain ⟨ds, S2, h1, hev⟩ := R.bind_ok hev
  have h1l := evEs_len h1
  refine wpAny_Call_Name_kw (ld_glob I hgl P.mg ?_ hdb)
  refine PySem.W.callWith_KW0 (h₀ := X.base) I.ok.mod.kin P.kp hall ?_ hpl
  have hA : tA Φ X.K cs σ H (fun zs H2 => zs.length = ks.length ∧ spF Φ X.K f ps.length (pick perm zs) H2 Q E0) := by
    refine tA_one st en h1 fun vs H2 m2 ex s2 e2 r2 => ⟨by rw [← r2.length, h1l, hl], ?_⟩
    have := call_fin s2 ex (pick_rps r2 perm) hev q
    rw [permOk_len hok (by rw [← r2.length, h1l, hl, Nat.zero_add])] at this
    exact this
  refine thn (hkw.run pos pins s σ H _ I hA) fun ws s2 ⟨zs, H2, I2, rz, hz, q2⟩ => ⟨I2.kIn, ?_⟩
  rw [hks]
  exact run_kw (us := []) (vs := []) P G hg hr hok rfl hz I2 .nil rz q2
/-- f(e, .., k = v, ..) -/
theorem s_callKP {kws : List Keyword} {ks : List Str} {perm : List Nat} {cs1 cs2 : List CE} (P : FunP X.K X.mg x ps fa fd) (G : FnG X.prog X.w X.K X.mg X.base k fa fd ps (spF Φ X.K f ps.length)) (hg : X.A.guards = some []) (hr : Room k X.A) (hgl : Gl X x) (hok : permOk ps cs1.length ks perm = true)
    (ha : PA X (e :: es) (tA Φ X.K cs1)) (hkw : PK X kws (tA Φ X.K cs2)) (hl : cs2.length = ks.length) (hall : (backToKw pos (keywordEach kws X.env)).all (·.1.isSome) = true) (hks : (backToKw pos (keywordEach kws X.env)).filterMap (·.1) = ks) (hdb : (x == ("__debug__" : Str)) = false)
    (he : starEach (e :: es) X.env = (false, eval e X.env) :: starEach es X.env) (hpl : ((backTo pos (starEach (e :: es) X.env)).any (·.1) || (backToKw pos (keywordEach kws X.env)).any (·.1.isNone)) = false) : PE X (.Call (.Name x p) (e :: es) kws pos) (tE Φ X.K (.callk f md (cs1 ++ cs2) perm)) := by
  refine ⟨fun pins s σ H Q I h => ?_⟩
  obtain ⟨F, m, S, ρ, d, S1, st, en, hev, q⟩ := h
  simp only [evE] at hev
  obtain ⟨ds, S2, h0, hev⟩ := R.bind_ok hev
  obtain ⟨d1, d2, S3, h1, h2, rfl⟩ := evEs_app h0
  have l1 := evEs_len h1
  have l2 := evEs_len h2
  refine wpAny_Call_Name_kw (ld_glob I hgl P.mg ?_ hdb)
  have hA : tA Φ X.K cs1 σ H (fun vs H1 => tA Φ X.K cs2 σ H1 fun zs H2 => vs.length = cs1.length ∧ zs.length = ks.length ∧ spF Φ X.K f ps.length (pick perm (vs ++ zs)) H2 Q E0) := by
    refine tA_one st en h1 fun vs H1 m1 ex1 s1 e1 r1 => tA_one s1 e1 h2 fun zs H2 m2 ex2 s2 e2 r2 => ⟨by rw [← r1.length, l1], by rw [← r2.length, l2, hl], ?_⟩
    have := call_fin s2 (ex1.trans ex2) (pick_rps ((r1.mono ex2.lt).app r2) perm) hev q
    rw [permOk_len hok (by rw [List.length_append, ← r1.length, ← r2.length, l1, l2, hl])] at this
    exact this
  refine PySem.W.callWith_KW (h₀ := X.base) I.ok.mod.kin P.kp hall (thn (ha.run pos pins s σ H _ I hA) fun us s1 ⟨vs, H1, I1, r, q1⟩ => ?_) hpl he
  refine thn (hkw.run pos pins s1 σ H1 _ I1 q1) fun ws s2 ⟨zs, H2, I2, rz, hv, hz, q2⟩ => ⟨I2.kIn, ?_⟩
  rw [hks]
  exact run_kw P G hg hr hok hv hz I2 r rz q2
end

/-! ## a def keeps its promise -/
theorem guards_deeper {A : Around} {env : PySem.Env} (h : A.guards = some []) : (A.deeper env).guards = some [] := h
theorem fnG_of {P : Program} {w : World} {K : PySem.W.Frag} {mg : Str → Option Value} {base : Heap} {k : Nat} {f : Addr} {name qual : Str} {params : Arguments} {body : List Stmt} {scope : Scope} {fd : FuncData} {N ps : List Str} {sp : Sp} (F : FunD K name qual params body scope [] [] f fd) (S : FnScope N ps scope)
    (len : ∀ vs H Q E, sp vs H Q E → vs.length = ps.length)
    (hbody : ∀ (cdv : Value) (A : Around) (outer : List PySem.Env) (s : Shared) (H : Hp) (vs : List V) (Q : VK), A.guards = some [] → Room k (A.deeper (envOfC qual scope s.heap.objs.size f cdv)) → sp vs H Q E0 →
      ∃ t, PSs (cxOf CX0 P w K mg base N qual scope f cdv A outer s H E0) body t ∧ t { nx := fun _ H' => Q .non H', rt := Q } (L2.start N vs) H) : FnG P w K mg base (k + 1) f fd ps sp := by
  obtain ⟨oc, od, dV, kV, doc, pm, an, cdv, ct, osl, rfl, lk, hcd, _, _⟩ := F.ex
  refine ⟨len, fun A outer s H args us vs Q hgu hr e0 hb r hsp => ?_⟩
  have hl := len _ _ _ _ hsp
  have inK : K.In s.heap := e0.mod.kin.keeps fun b o e => (e0.bs b o e).1
  have nolim : s.heap.NoLimit := e0.mod.nolimit.keeps fun b o e => (e0.bs b o e).1
  have kinds : ∀ y ∈ ps.zip us, scope.names.lookup y.1 = some .local ∨ (scope.names.lookup y.1 = some .cell ∧ ((cellsFrom (s.heap.objs.size + 1) scope.names []).lookup y.1).isSome = true) := by
    rintro ⟨n, v⟩ hy
    rcases S.par n (List.of_mem_zip hy).1 with z | z
    · exact .inl z
    · exact .inr ⟨z, PySem.W.cellsFrom_some _ _ _ (.inl z)⟩
  refine codeAny_call_function hr.depth (inK _ _ lk) rfl S.co S.gen rfl (PySem.W.codeRec_of inK hcd) (hb _ _ _ _ ?_)
  refine wpAny_newFunctionEnv_cells S.kind kinds fun env he s1 x => ?_
  subst he
  refine ⟨nolim.keeps x.toInCall.keep, codeAny_func ?_⟩
  obtain ⟨t, ht, hq⟩ := hbody cdv A outer s H vs Q hgu (hr.deeper _) hsp
  have I : Inv (cxOf CX0 P w K mg base N qual scope f cdv A outer s H E0) [] (L2.start N vs) H s1 := inv_start S hr.hd e0 hl r x
  refine wpAny_mono (ht.run [] s1 (L2.start N vs) H _ I hq) (fun fl s' hs => ?_) fun e s' hs => hs
  cases fl with
  | ret u =>
    obtain ⟨v, σ', H', J, rv, q⟩ := hs
    exact ⟨v, H', J.os, J.bare, J.base, J.hok, rv, q⟩
  | next =>
    obtain ⟨σ', H', J, q⟩ := hs
    exact ⟨V.non, H', J.os, J.bare, J.base, J.hok, rfl, q⟩
  | brk =>
    obtain ⟨_, _, _, q⟩ := hs
    exact q.elim
  | cont =>
    obtain ⟨_, _, _, q⟩ := hs
    exact q.elim
theorem envR_start {K : PySem.W.Frag} {H : Hp} {T : Addr → Prop} {m : List Addr} {ds : List D} {vs : List V} (r : Rps K H T m ds vs) (N : List Str) (n : Nat) (h : N.length = n) : EnvR K H T m (ds ++ List.replicate (n - ds.length) .undef) (L2.start N vs) := by
  subst h
  unfold L2.start
  refine ⟨by rw [List.length_append, List.length_append, List.length_map, List.length_replicate, List.length_replicate, r.length], fun i d hi hn => ?_⟩
  by_cases hl : i < ds.length
  · rw [List.getElem?_append_left hl] at hi
    obtain ⟨v, hv, rv⟩ := r.get hi
    refine ⟨v, ?_, rv⟩
    rw [List.getElem?_append_left (by rw [List.length_map, ← r.length]; exact hl), List.getElem?_map, hv]
    rfl
  · rw [List.getElem?_append_right (by omega), List.getElem?_replicate] at hi
    split at hi
    · cases hi
      exact absurd rfl hn
    · cases hi
/-- the evaluator's function is the def's -/
theorem fnG_ev {P : Program} {w : World} {K : PySem.W.Frag} {mg : Str → Option Value} {base : Heap} {k W i : Nat} {f : Addr} {name qual : Str} {params : Arguments} {body : List Stmt} {scope : Scope} {fd : FuncData} {N ps : List Str} {T : Nat → Option Fn} {fn : Fn} (F : FunD K name qual params body scope [] [] f fd) (S : FnScope N ps scope)
    (hT : T i = some fn) (hnp : fn.np = ps.length) (hns : fn.ns = N.length)
    (hbody : ∀ (cdv : Value) (A : Around) (outer : List PySem.Env) (s : Shared) (H : Hp), A.guards = some [] → Room k (A.deeper (envOfC qual scope s.heap.objs.size f cdv)) →
      PSs (cxOf CX0 P w K mg base N qual scope f cdv A outer s H E0) body (tSs W (phi W T k) K fn.body)) : FnG P w K mg base (k + 1) f fd ps (spF (phi W T (k + 1)) K i ps.length) := by
  refine fnG_of F S (fun vs H Q E h => h.1) fun cdv A outer s H vs Q hg hr hsp => ⟨_, hbody cdv A outer s H hg hr, ?_⟩
  obtain ⟨hvl, F0, m, S0, ds, d, S1, st, r, hphi, q⟩ := hsp
  simp only [phi, hT, runFn] at hphi
  split at hphi
  · rename_i hdl
    obtain ⟨fl, S2, h1, hphi⟩ := R.bind_ok hphi
    have en := envR_start r N fn.ns hns.symm
    rw [hdl] at en
    refine ⟨F0, m, S0, _, fl, S2, st, en, h1, ?_⟩
    cases fl with
    | rt d' =>
      cases hphi
      exact fun v H1 m1 ex s1 r1 => q v H1 m1 ex s1 r1
    | nx ρ' =>
      cases hphi
      exact fun σ' H1 m1 ex s1 e1 => q .non H1 m1 ex s1 .non
    | bk ρ' => cases hphi
    | ct ρ' => cases hphi
  · cases hphi
end NG
end

section
set_option autoImplicit false
set_option maxRecDepth 100000
set_option maxHeartbeats 2000000
namespace NG
open PySem PySem.Spec PyProof.Rows L2
variable [HasW]

/-! ## the law's own call -/
omit [HasW] in
theorem law_callG {P : Program} {w : World} {K : PySem.W.Frag} {mg mb : Str → Option Value} {k : Nat} {fa a : Addr} {fd : FuncData} {x : Str} {sp : Sp} {s₁ : Shared} {us : List Value} {ns : List Int}
    (inK : K.In s₁.heap) (nsG : s₁.heap.Ns mainGlobals mg) (nsB : s₁.heap.Ns builtinsNs mb) (bb : ∀ x : Str, x ≠ "__name__" → mb x = bootBuiltins x) (nolim : s₁.heap.NoLimit) (nogen : s₁.gens = #[])
    (obj : s₁.heap.get? a = some { cls := .type "list", data := .seq us.toArray }) (hints : IntsAre us ns) (few : ns.length ≤ sizeLine) (room : Room k callerA)
    (F : ∀ base : Heap, K.In base → base.Ns mainGlobals mg → FnG P w K mg base k fa fd [x] sp) (bind1 : ∀ (s : Shared) (u : Value), BindsTo s fd ⟨[u], []⟩ [(x, u)])
    (keeps : ∀ H : Hp, Only H → SqL K H a (ns.map V.int) → sp [.ref a] H (fun v _ => v = .bl true) E0) :
    codeAny (model P w) callerA (.call (.ref fa) ⟨[.ref a], []⟩) (fun r s' => r = .ok (.ret (.bool true)) ∧ OldK s₁.heap s'.heap ∧ s'.os = s₁.os ∧ AllBare s'.gens) s₁ := by
  have valU := vals_ints hints
  have lenU := hints.length
  have core : ∀ H : Hp, Only H → SqL K H a (ns.map V.int) → HOk P w H s₁.heap → (∀ b, H b ≠ none → b = a) → (H a ≠ none → K.lookup a = none) →
      codeAny (model P w) callerA (.call (.ref fa) ⟨[.ref a], []⟩) (fun r s' => r = .ok (.ret (.bool true)) ∧ OldK s₁.heap s'.heap ∧ s'.os = s₁.os ∧ AllBare s'.gens) s₁ := by
    intro H only sq hok atA offK
    have hid : ∀ {b : Addr} {o : Obj}, s₁.heap.get? b = some o → H b = none → (hidT s₁.heap H).get? b = some o := fun q n => hidT_get q n
    have dictFree : ∀ {b : Addr} {o : Obj} {es : Array DictEntry} {ep : Nat}, s₁.heap.get? b = some o → o.data = .dict es ep → H b = none := by
      intro b o es ep q dd
      cases hb : H b with
      | none => rfl
      | some u =>
        have eb : b = a := atA b (by rw [hb]; simp)
        rw [eb, obj] at q
        cases q
        exact nomatch (show Data.seq us.toArray _ = Data.dict es ep from dd)
    have nsHid : ∀ {b : Addr} {m : Str → Option Value}, s₁.heap.Ns b m → (hidT s₁.heap H).Ns b m := by
      rintro b m ⟨o, es, ep, q, dd, r⟩
      exact ⟨o, es, ep, hid q (dictFree q dd), dd, r⟩
    have inHid : K.In (hidT s₁.heap H) := by
      intro b o q
      refine hid (inK b o q) ?_
      cases hb : H b with
      | none => rfl
      | some u =>
        have eb : b = a := atA b (by rw [hb]; simp)
        rw [eb, offK (by rw [← eb, hb]; simp)] at q
        cases q
    obtain ⟨mc, l1, l2⟩ := nolim
    have hMod : Mod K mg (hidT s₁.heap H) := ⟨inHid, nsHid nsG, ⟨mb, nsHid nsB, bb⟩, ⟨mc, nsHid l1, l2⟩⟩
    have env0 : Env0 P w K mg (hidT s₁.heap H) callerA [] s₁ H := ⟨rfl, hMod, fun b o q => of_hidT q, Nat.le_of_eq (hidT_size _ _), trivial, fun b hb => (by cases (show b ∈ ([] : List Addr) from hb)), hok, .of_eq nogen⟩
    refine codeAny_mono ((F _ inHid (nsHid nsG)).run callerA [] s₁ H ⟨[.ref a], []⟩ [.ref a] [.ref a] _ rfl room env0 (bind1 s₁ (.ref a)) (.cons rfl .nil) (keeps H only sq)) fun r s' h => ?_
    cases r with
    | error e => exact False.elim h
    | ok fl =>
      cases fl with
      | next => exact False.elim h
      | brk => exact False.elim h
      | cont => exact False.elim h
      | ret u =>
        obtain ⟨v, H', os, bare, un, hok', rv, qv⟩ := h
        have qv : v = .bl true := qv
        rw [qv] at rv
        obtain rfl : u = Value.bool true := rv
        refine ⟨rfl, OldK.of_keep fun b o q => ?_, os, bare⟩
        cases hb : H b with
        | none => exact un.keep b o q hb (fun z => by cases (show b ∈ ([] : List Addr) from z)) (by simp)
        | some u =>
          rcases only b with z | ⟨ob, xs, z⟩
          · rw [hb] at z
            cases z
          · obtain ⟨g1, _⟩ := hok b _ z
            obtain ⟨g2, _⟩ := hok' b _ (un.frzs b ob _ z)
            rw [q] at g1
            cases g1
            exact g2
  cases hk : K.lookup a with
  | some o =>
    have q := inK a o hk
    rw [obj] at q
    cases q
    exact core (fun _ => none) (fun _ => .inl rfl) (.inr ⟨_, us.toArray, _, hk, rfl, rfl, rfl, by rw [List.size_toArray, lenU]; exact few, by simpa using valU⟩) (fun b u z => nomatch (show (none : Option HO) = some u from z)) (fun b z => absurd rfl z) (fun z => absurd rfl z)
  | none =>
    let H0 : Hp := fun b => if b = a then some (.frz { cls := .type "list", data := .seq us.toArray } (.lst (ns.map V.int))) else none
    have at0 : H0 a = some (.frz { cls := .type "list", data := .seq us.toArray } (.lst (ns.map V.int))) := if_pos rfl
    have off0 : ∀ b, b ≠ a → H0 b = none := fun b hb => if_neg hb
    refine core H0 (fun b => ?_) (.inl (.inr ⟨{ cls := .type "list", data := .seq us.toArray }, at0⟩)) (fun b u z => ?_) (fun b z => ?_) (fun _ => hk)
    · by_cases hb : b = a
      · rw [hb]
        exact .inr ⟨_, _, at0⟩
      · exact .inl (off0 b hb)
    · by_cases hb : b = a
      · rw [hb, at0] at z
        cases z
        rw [hb]
        exact ⟨obj, by rw [List.length_map]; exact few, us, _, valU, obj⟩
      · rw [off0 b hb] at z
        cases z
    · by_cases hb : b = a
      · exact hb
      · exact absurd (off0 b hb) z
omit [HasW] in
/-- a law: F gives the written part, the function object, the promise over every base -/
theorem walk_ofG {l : PySem.W.OpenLaw} {n k : Nat} {q : Program} {loose : List Str} {XP : (Str → Option Value) → Heap → Prop} {YP : World → Heap → Prop} {d : DefRec} {x : Str}
    (hn : l.most = some n) (hn2 : n ≤ sizeLine) (hdf : d.params.defaults = []) (room : Room k callerA)
    (F : ∀ (w : World) (mg : Str → Option Value) (fa : Addr) (h : Heap), YP w h → h.Ns mainGlobals mg → mg d.name = some (.ref fa) →
      ∃ (K : PySem.W.Frag) (fd : FuncData) (sp : Sp), K.In h ∧ (∀ (s : Shared) (u : Value), BindsTo s fd ⟨[u], []⟩ [(x, u)]) ∧
        (∀ (H : Hp) (a : Addr) (ns : List Int), ns.length ≤ n → Only H → SqL K H a (ns.map V.int) → sp [.ref a] H (fun v _ => v = .bl true) E0) ∧
        ∀ base : Heap, K.In base → base.Ns mainGlobals mg → FnG l.prog w K mg base k fa fd [x] sp) :
    PySem.W.WalkO q loose XP YP l.row.toRowW d [] (fun f vs => PySem.call f vs) := by
  refine Att.attach_call hn hdf fun w s₀ s₁ mg mb fa o pm cd doc a us ns G Y ho hd hcd hmg obj hints few nogen => ?_
  obtain ⟨K, fd, sp, inK, bind1, keeps, hF⟩ := F w mg fa _ Y G.T.g hmg
  exact law_callG inK G.T.g G.T.b G.T.builtins G.T.nolimit nogen obj hints (Nat.le_trans few hn2) room hF bind1 (fun H only sq => keeps H a ns few only sq)
/-- the script, as the evaluator has it -/
theorem rp_script {K : PySem.W.Frag} {H : Hp} {a : Addr} {ns : List Int} {m : List Addr} (h : SqL K H a (ns.map V.int)) : Rp K H (Tk (fun _ => False) [] []) m (.scr (ns.map D.int)) (.ref a) := by
  have r : ∀ ns : List Int, Rps K H (Tk (fun _ => False) [] []) m (ns.map D.int) (ns.map V.int) := by
    intro ns
    induction ns with
    | nil => exact .nil
    | cons n ns ih => exact .cons (.int n) ih
  refine .scr ?_ (r ns)
  rcases h with h | h
  · exact .inl ⟨h, fun z => z.elim id fun ⟨n, c, q, _⟩ => by simp at q⟩
  · exact .inr h
theorem keeps_law {K : PySem.W.Frag} {Φ : Phi} {f : Nat} {H : Hp} {a : Addr} {ns : List Int} {S1 : Store} (h : SqL K H a (ns.map V.int)) (ev : Φ f [.scr (ns.map D.int)] [] = .ok (.bl true) S1) : spF Φ K f 1 [.ref a] H (fun v _ => v = .bl true) E0 := by
  refine ⟨rfl, fun _ => False, [], [], _, _, _, ⟨rfl, List.nodup_nil, fun n a l q => by simp at q, fun n a l q => by simp at q, fun a q => by simp at q, fun n c q => by simp at q, fun a q => q.elim, fun a q => q.elim⟩, .cons (rp_script h) .nil, ev, fun v H1 m1 ex s1 r1 => ?_⟩
  cases r1
  rfl
end NG
end

section
set_option autoImplicit false
set_option maxRecDepth 100000
set_option maxHeartbeats 4000000
namespace NG
open PySem PySem.Spec PyProof.Rows L2
variable [HasW]

/-! ## the check: does the evaluator's program stand for the row's tree? -/
structure SC where
  N : List Str
  names : List (Str × NameKind)
  orig : Option (List (Str × NameKind))
structure GL where
  fns : List (Str × List Str)
  cons : List (Str × D)
  free : List Str
mutual
def dEq : D → D → Bool
  | .non, .non => true
  | .bl a, .bl b => a == b
  | .int i, .int j => decide (i = j)
  | .str x, .str y => decide (x = y)
  | .tup xs, .tup ys => dEqs xs ys
  | _, _ => false
def dEqs : List D → List D → Bool
  | [], [] => true
  | x :: xs, y :: ys => dEq x y && dEqs xs ys
  | _, _ => false
end
mutual
theorem dEq_ok : ∀ a b : D, dEq a b = true → a = b
  | .non, b, h => by cases b <;> simp [dEq] at h; rfl
  | .bl x, b, h => by cases b <;> simp [dEq] at h; rw [h]
  | .int x, b, h => by cases b <;> simp [dEq] at h; rw [h]
  | .str x, b, h => by cases b <;> simp [dEq] at h; rw [h]
  | .tup xs, b, h => by
    cases b <;> simp [dEq] at h
    rw [dEqs_ok xs _ h]
  | .undef, b, h => by simp [dEq] at h
  | .lst _, b, h => by simp [dEq] at h
  | .dic _ _, b, h => by simp [dEq] at h
  | .scr _, b, h => by simp [dEq] at h
  | .ref _, b, h => by simp [dEq] at h
  | .exc _ _, b, h => by simp [dEq] at h
  | .clo _ _, b, h => by simp [dEq] at h
theorem dEqs_ok : ∀ a b : List D, dEqs a b = true → a = b
  | [], b, h => by cases b <;> simp [dEqs] at h; rfl
  | x :: xs, b, h => by
    cases b with
    | nil => simp [dEqs] at h
    | cons y ys =>
      simp [dEqs] at h
      rw [dEq_ok x y h.1, dEqs_ok xs ys h.2]
end
def vis (sc : SC) (x : Str) : Bool := match sc.names.lookup x with
  | some .local => true
  | some .cell => true
  | some .free => true
  | _ => false
def locB (sc : SC) (x : Str) : Bool := match sc.names.lookup x with
  | some .local => true
  | some .cell => (match sc.orig with
    | none => true
    | some o => decide (o.lookup x = some .cell))
  | _ => false
def isGl (sc : SC) (x : Str) : Bool := decide (sc.names.lookup x = some .globalImplicit)
def notDbg (x : Str) : Bool := !(x == ("__debug__" : Str)) && !(x == ("__classdict__" : Str)) && decide (x ≠ "__name__")
def noStar : List Expr → Bool
  | [] => true
  | .Starred _ _ :: _ => false
  | _ :: es => noStar es
def plainT : Expr → Bool
  | .UnaryOp .Not _ _ => false
  | .BoolOp _ _ _ => false
  | .IfExp _ _ _ _ => false
  | .Compare _ _ _ _ => false
  | _ => true
def notSlice : Expr → Bool
  | .Slice _ _ _ _ => false
  | _ => true
def notSet : Expr → Bool
  | .Set _ _ _ => false
  | _ => true
def notComp : Expr → Bool
  | .ListComp _ _ _ _ => false
  | .SetComp _ _ _ _ => false
  | .DictComp _ _ _ _ _ => false
  | _ => true
def notCall : Expr → Bool
  | .Call _ _ _ _ => false
  | _ => true
def tailB (op : BoolOp) (es : List Expr) (pos : Pos) : Expr := match es with
  | [e] => e
  | es => .BoolOp op es pos
def opB : BOp → Operator
  | .add => .Add
  | .sub => .Sub
  | .mul => .Mult
  | .fdiv => .FloorDiv
  | .mod => .Mod
  | .pow => .Pow
def opC : COp → CmpOp
  | .lt => .Lt
  | .le => .LtE
  | .gt => .Gt
  | .ge => .GtE
  | .eq => .Eq
  | .ne => .NotEq
  | .isin => .In
  | .notin => .NotIn
  | .is => .Is
  | .isnot => .IsNot
def relab (sc : SC) (scope : Scope) : List (Str × NameKind) := scope.names.map fun (n, k) => if (k == .free && sc.names.lookup n == some .cell) then (n, .cell) else (n, k)
def ownOf (N : List Str) (own : List Nat) : List (Str × Nat) := own.filterMap fun i => (N[i]?).map fun x => (x, i)
def blkB (sc : SC) (scope : Scope) (own : List Nat) : Bool := blkC sc.N ⟨.function, sc.names, false, false, []⟩ scope (ownOf sc.N own) && decide ((ownOf sc.N own).map (·.2) = own)
def inner (sc : SC) (scope : Scope) : SC := ⟨sc.N, relab sc scope, some scope.names⟩
def bltNm : Blt → Option (Str × Bool × String)
  | .len => some ("len", true, "len")
  | .tuple => some ("tuple", false, "tuple")
  | .list => some ("list", false, "list")
  | .all => some ("all", true, "all")
  | .any => some ("any", true, "any")
  | .sum => some ("sum", true, "sum")
  | .int => some ("int", false, "int")
  | .abs => some ("abs", true, "abs")
  | .max2 => some ("max", true, "max")
  | .min2 => some ("min", true, "min")
  | .max1 => some ("max", true, "max")
  | .min1 => some ("min", true, "min")
  | .sorted => some ("sorted", true, "sorted")
  | .repr => some ("repr", true, "repr")
  | .str => some ("str", false, "str")
  | _ => none
def tyNm : Ty → Str
  | .int => "int"
  | .bool => "bool"
  | .str => "str"
  | .tuple => "tuple"
  | .list => "list"
def kwNames : List Keyword → Option (List Str)
  | [] => some []
  | ⟨some x, _, _⟩ :: r => (kwNames r).map (x :: ·)
  | _ => none
def mthNm : Mth → Str
  | .index => "index"
  | .gindex => "index"
  | .count => "count"
  | .split => "split"
  | .join => "join"
  | .get => "get"
def mutNm : Nat → Option (Str × Nat)
  | 0 => some ("append", 1)
  | 1 => some ("extend", 1)
  | 2 => some ("pop", 0)
  | 3 => some ("pop", 1)
  | _ => none
def inter : List (Option Expr) → List Expr → List Expr
  | some k :: ks, v :: vs => k :: v :: inter ks vs
  | _, _ => []
def freeB (Γ : GL) (sc : SC) (x nm : Str) : Bool := decide (x = nm) && isGl sc x && Γ.free.contains x

section
variable (Γ : GL)
def chkTg (sc : SC) : Tg → Expr → Bool
  | .one i, .Name x _ => decide (sc.N[i]? = some x) && locB sc x
  | .tup [.one i], .Tuple [.Name x _] _ _ => decide (sc.N[i]? = some x) && locB sc x
  | .tup [.one i, .one j], .Tuple [.Name x _, .Name y _] _ _ => decide (sc.N[i]? = some x) && locB sc x && (decide (sc.N[j]? = some y) && locB sc y)
  | .tup [.one i, .one j, .one l], .Tuple [.Name x _, .Name y _, .Name z _] _ _ => decide (sc.N[i]? = some x) && locB sc x && (decide (sc.N[j]? = some y) && locB sc y) && (decide (sc.N[l]? = some z) && locB sc z)
  | .tup [.one i, .one j, .one l, .one q], .Tuple [.Name x _, .Name y _, .Name z _, .Name u _] _ _ => decide (sc.N[i]? = some x) && locB sc x && (decide (sc.N[j]? = some y) && locB sc y) && (decide (sc.N[l]? = some z) && locB sc z) && (decide (sc.N[q]? = some u) && locB sc u)
  | .tup [.one i, .tup [.one j, .one l]], .Tuple [.Name x _, .Tuple [.Name y _, .Name z _] _ _] _ _ => decide (sc.N[i]? = some x) && locB sc x && (decide (sc.N[j]? = some y) && locB sc y && (decide (sc.N[l]? = some z) && locB sc z))
  | .tup [.tup [.one i, .one j], .one l], .Tuple [.Tuple [.Name x _, .Name y _] _ _, .Name z _] _ _ => (decide (sc.N[i]? = some x) && locB sc x && (decide (sc.N[j]? = some y) && locB sc y)) && (decide (sc.N[l]? = some z) && locB sc z)
  | _, _ => false
mutual
def chkE : CE → SC → Expr → Bool
  | .var i, sc, e => (match e with
    | .Name x _ => decide (sc.N[i]? = some x) && vis sc x && notDbg x
    | _ => false)
  | .cst d, _, e => (match d, e with
    | .int i, .Constant (.int j) _ _ => decide (i = j)
    | .bl a, .Constant (.bool b) _ _ => a == b
    | .non, .Constant .none _ _ => true
    | .str s, .Constant (.str x) _ _ => decide (toStr s = x)
    | .exc 0 .non, .Dict [] [] _ => true
    | .exc 0 .non, .Dict [some (.Constant (.str _) _ _)] [.Constant (.int _) _ _] _ => true
    | _, _ => false)
  | .glob d, sc, e => (match e with
    | .Name x _ => isGl sc x && notDbg x && (match Γ.cons.lookup x with
      | some d' => dEq d d'
      | none => false)
    | _ => false)
  | .tup cs, sc, e => (match e with
    | .Tuple es _ _ => chkEs cs sc es && noStar es && decide (cs.length ≤ 1000)
    | _ => false)
  | .lst cs, sc, e => (match e with
    | .List es _ => chkEs cs sc es && noStar es && decide (cs.length ≤ 1000)
    | _ => false)
  | .dic t cs, sc, e => (match e with
    | .Dict keys values _ => t && keys.all (·.isSome) && decide (keys.length = values.length) && decide (keys.length ≤ 15) && chkEs cs sc (inter keys values)
    | _ => false)
  | .bop o a b, sc, e => (match e with
    | .BinOp ea op eb _ => decide (op = opB o) && chkE a sc ea && chkE b sc eb
    | _ => false)
  | .neg a, sc, e => (match e with
    | .UnaryOp .USub ea _ => chkE a sc ea
    | _ => false)
  | .not a, sc, e => (match e with
    | .UnaryOp .Not ea _ => chkE a sc ea
    | _ => false)
  | .cmp o a b, sc, e => (match e with
    | .Compare ea [co] [eb] _ => decide (co = opC o) && !behindInMarks co eb && chkE a sc ea && chkE b sc eb
    | _ => false)
  | .cmp2 o o' a b c, sc, e => (match e with
    | .Compare ea [co, co'] [eb, ec] _ => decide (co = opC o) && decide (co' = opC o') && !lastMarks [co, co'] [eb, ec] && chkE a sc ea && chkE b sc eb && chkE c sc ec
    | _ => false)
  | .and a b, sc, e => (match e with
    | .BoolOp .And (ea :: eb :: rest) pos => chkE a sc ea && chkE b sc (tailB .And (eb :: rest) pos)
    | _ => false)
  | .or a b, sc, e => (match e with
    | .BoolOp .Or (ea :: eb :: rest) pos => chkE a sc ea && chkE b sc (tailB .Or (eb :: rest) pos)
    | _ => false)
  | .ite c a b, sc, e => (match e with
    | .IfExp ec ea eb _ => (chkT c sc ec || (plainT ec && chkE c sc ec)) && chkE a sc ea && chkE b sc eb
    | _ => false)
  | .ix a i, sc, e => (match e with
    | .Subscript ea ei _ => notSlice ei && chkE a sc ea && chkE i sc ei
    | _ => false)
  | .sl a lo hi, sc, e => (match e with
    | .Subscript ea (.Slice l h none _) _ => chkE a sc ea && chkO lo sc l && chkO hi sc h
    | _ => false)
  | .call f _ args, sc, e => (match e with
    | .Call (.Name x _) es [] _ => isGl sc x && notDbg x && chkEs args sc es && noStar es && (match Γ.fns[f]? with
      | some (y, ps) => decide (y = x) && decide (args.length = ps.length)
      | none => false)
    | _ => false)
  | .callk f _ args perm, sc, e => (match e with
    | .Call (.Name x _) es kws _ => isGl sc x && notDbg x && chkEs args sc (es ++ kws.map fun q => q.value) && noStar es && (match Γ.fns[f]?, kwNames kws with
      | some (y, ps), some ks => decide (y = x) && permOk ps es.length ks perm
      | _, _ => false)
    | _ => false)
  | .blt b args, sc, e => (match e with
    | .Call (.Name x _) es [] _ => (match bltNm b with
      | some (nm, _) => freeB Γ sc x nm && chkEs args sc es && noStar es && !es.isEmpty
      | none => (match b, es with
        | .isinst t, [ea, .Name ty _] => freeB Γ sc x "isinstance" && isGl sc ty && decide (ty = tyNm t) && Γ.free.contains ty && noStar [ea] && chkEs args sc [ea]
        | .dict, [ea] => freeB Γ sc x "dict" && noStar [ea] && chkEs args sc [ea]
        | .sortedSet, [.Call (.Name y _) [ea] [] _] => freeB Γ sc x "sorted" && freeB Γ sc y "set" && noStar [ea] && chkEs args sc [ea]
        | .listRng, [.Call (.Name y _) [ea] [] _] => freeB Γ sc x "list" && freeB Γ sc y "range" && noStar [ea] && chkEs args sc [ea]
        | .listRng, [.Call (.Name y _) [ea, eb] [] _] => freeB Γ sc x "list" && freeB Γ sc y "range" && noStar [ea, eb] && chkEs args sc [ea, eb]
        | .lenSet, [.Call (.Name y _) [ea] [] _] => freeB Γ sc x "len" && freeB Γ sc y "set" && noStar [ea] && chkEs args sc [ea]
        | _, _ => false))
    | .Subscript ea (.Slice none none (some (.UnaryOp .USub (.Constant (.int 1) _ _) _)) _) _ => decide (b = .rev) && chkEs args sc [ea]
    | _ => false)
  | .mth m o args, sc, e => (match e with
    | .Call (.Attribute eo nm apos) [e1] [] cpos => decide (nm = mthNm m) && notCall eo && decide (apos.endLine = cpos.line) && noStar [e1] && chkE o sc eo && chkEs args sc [e1] && (match m, o with
      | .index, _ => true
      | .count, _ => true
      | .join, _ => true
      | .gindex, .glob _ => true
      | .get, _ => true
      | _, _ => false)
    | .Call (.Attribute eo nm apos) [e1, e2] [] cpos => decide (nm = mthNm m) && notCall eo && decide (apos.endLine = cpos.line) && noStar [e1, e2] && chkE o sc eo && chkEs args sc [e1, e2] && (match m with
      | .get => true
      | _ => false)
    | _ => false)
  | .comp c t own k src cond, sc, e => (match e with
    | .ListComp elt [⟨tg, iter, ifs, as⟩] scope _ => decide (as = 0) && blkB sc scope own && notSet iter && ((slots t).all fun i => own.contains i) && chkI k src sc iter tg && chkTg (inner sc scope) t tg && chkC cond (inner sc scope) ifs && chkE c (inner sc scope) elt
    | _ => false)
  | .mut k i args, sc, e => (match e with
    | .Call (.Attribute (.Name x p) nm apos) es [] cpos => decide (sc.N[i]? = some x) && vis sc x && notDbg x && (match mutNm k with
      | some (m, n) => decide (nm = m) && decide (es.length = n) && noStar es && decide (apos.endLine = cpos.line) && chkEs args sc es
      | none => false)
    | _ => false)
  | .alloc a, sc, e => (match a with
    | .lst cs => (match e with
      | .List es _ => chkEs cs sc es && noStar es && decide (cs.length ≤ 1000)
      | _ => false)
    | .comp c t own k src cond => (match e with
      | .ListComp elt [⟨tg, iter, ifs, as⟩] scope _ => decide (as = 0) && blkB sc scope own && notSet iter && ((slots t).all fun i => own.contains i) && chkI k src sc iter tg && chkTg (inner sc scope) t tg && chkC cond (inner sc scope) ifs && chkE c (inner sc scope) elt
      | _ => false)
    | .dic t cs => (match e with
      | .Dict keys values _ => t && keys.all (·.isSome) && decide (keys.length = values.length) && decide (keys.length ≤ 15) && chkEs cs sc (inter keys values)
      | _ => false)
    | .blt .dict args => (match e with
      | .Call (.Name x _) [ea] [] _ => freeB Γ sc x "dict" && noStar [ea] && chkEs args sc [ea]
      | _ => false)
    | .blt .list args => (match e with
      | .Call (.Name x _) es [] _ => freeB Γ sc x "list" && chkEs args sc es && noStar es && !es.isEmpty
      | _ => false)
    | _ => false)
  | .frz _, _, _ => false
termination_by structural c => c
def chkEs : List CE → SC → List Expr → Bool
  | [], _, es => es.isEmpty
  | c :: cs, sc, es => (match es with
    | e :: es => chkE c sc e && chkEs cs sc es
    | [] => false)
termination_by structural cs => cs
def chkT : CE → SC → Expr → Bool
  | .not a, sc, e => (match e with
    | .UnaryOp .Not ea _ => chkT a sc ea || (plainT ea && chkE a sc ea)
    | _ => false)
  | .and a b, sc, e => (match e with
    | .BoolOp .And (ea :: eb :: rest) pos => (chkT a sc ea || (plainT ea && chkE a sc ea)) && (chkT b sc (tailB .And (eb :: rest) pos) || (plainT (tailB .And (eb :: rest) pos) && chkE b sc (tailB .And (eb :: rest) pos)))
    | _ => false)
  | .or a b, sc, e => (match e with
    | .BoolOp .Or (ea :: eb :: rest) pos => (chkT a sc ea || (plainT ea && chkE a sc ea)) && (chkT b sc (tailB .Or (eb :: rest) pos) || (plainT (tailB .Or (eb :: rest) pos) && chkE b sc (tailB .Or (eb :: rest) pos)))
    | _ => false)
  | .cmp o a b, sc, e => (match e with
    | .Compare ea [co] [eb] _ => decide (co = opC o) && !behindInMarks co eb && chkE a sc ea && chkE b sc eb
    | _ => false)
  | .cmp2 o o' a b c, sc, e => (match e with
    | .Compare ea [co, co'] [eb, ec] _ => decide (co = opC o) && decide (co' = opC o') && !lastMarks [co, co'] [eb, ec] && chkE a sc ea && chkE b sc eb && chkE c sc ec
    | _ => false)
  | _, _, _ => false
termination_by structural c => c
def chkO : List CE → SC → Option Expr → Bool
  | [], _, o => o.isNone
  | c :: cs, sc, o => (match o, cs with
    | some e, [] => chkE c sc e
    | _, _ => false)
termination_by structural cs => cs
def chkC : List CE → SC → List Expr → Bool
  | [], _, es => es.isEmpty
  | c :: cs, sc, es => (match es, cs with
    | [e], [] => chkT c sc e || (plainT e && chkE c sc e)
    | _, _ => false)
termination_by structural cs => cs
def chkI : ItK → List CE → SC → Expr → Expr → Bool
  | _, [], _, _, _ => false
  | k, c :: cs, sc, iter, tg => (match k with
    | .of => cs.isEmpty && chkE c sc iter
    | .rng1 => (match iter, cs with
      | .Call (.Name x _) [ea] [] _, [] => freeB Γ sc x "range" && noStar [ea] && chkE c sc ea
      | _, _ => false)
    | .rng2 => (match iter with
      | .Call (.Name x _) [ea, eb] [] _ => freeB Γ sc x "range" && noStar [ea, eb] && chkE c sc ea && chkEs cs sc [eb]
      | _ => false)
    | .enum => (match iter, cs, tg with
      | .Call (.Name x _) [ea] [] _, [], .Tuple _ _ _ => freeB Γ sc x "enumerate" && noStar [ea] && chkE c sc ea
      | _, _, _ => false)
    | .zip2 => (match iter, tg with
      | .Call (.Name x _) [ea, eb] [] _, .Tuple _ _ _ => freeB Γ sc x "zip" && noStar [ea, eb] && chkE c sc ea && chkEs cs sc [eb]
      | _, _ => false)
    | _ => false)
termination_by structural _ cs => cs
end
end
end NG
end

section
set_option autoImplicit false
set_option maxRecDepth 100000
set_option maxHeartbeats 4000000
namespace NG
open PySem PySem.Spec PyProof.Rows L2
variable [HasW]

/-- a module's tuple has no dict -/
def KTup (K : PySem.W.Frag) (v : V) : Prop := ∀ a, v = .ref a → ∃ o, K.lookup a = some o ∧ o.cls = .type "tuple" ∧ o.dict = none
/-- what is known of a place in the row -/
structure XOk (Γ : GL) (Φ : Phi) (k : Nat) (sc : SC) (X : Cx) : Prop where
  N : X.N = sc.N
  nd : sc.N.Nodup
  names : X.env.scope.names = sc.names
  kind : X.env.scope.kind = .function
  fn : match sc.orig with
    | none => ∀ x, X.fn x = true
    | some o => ∀ x, X.fn x = (o.lookup x == some .cell)
  calm : X.calm = true
  wd : X.w = HasW.w
  gd : X.A.guards = some []
  room : Room k X.A
  xe : X.xe = fun _ _ => False
  fns : ∀ i x ps, Γ.fns[i]? = some (x, ps) → ∃ fa fd, FunP X.K X.mg x ps fa fd ∧ FnG X.prog X.w X.K X.mg X.base k fa fd ps (spF Φ X.K i ps.length)
  cons : ∀ x d, Γ.cons.lookup x = some d → ∃ u v, X.mg x = some u ∧ RelV v u ∧ ConV X.K d v ∧ KTup X.K v
  free : ∀ x, x ∈ Γ.free → X.mg x = none
section
variable {Γ : GL} {Φ : Phi} {k : Nat} {sc : SC} {X : Cx}
theorem XOk.hu (h : XOk Γ Φ k sc X) : X.A.units + 66 < cLine := by
  have := h.room.un
  omega
theorem vis_ok (h : XOk Γ Φ k sc X) {x : Str} (v : vis sc x = true) : Vis X.env.scope x := by
  unfold vis at v
  unfold Vis
  rw [h.names]
  split at v <;> first | exact .inl (by assumption) | exact .inr (.inl (by assumption)) | exact .inr (.inr (by assumption)) | cases v
theorem loc_ok (h : XOk Γ Φ k sc X) {x : Str} (v : locB sc x = true) : L2.Loc X.env.scope x ∧ (X.fn x = true ∨ X.env.scope.names.lookup x = some .local) := by
  unfold locB at v
  unfold L2.Loc
  rw [h.names]
  split at v
  · rename_i e
    exact ⟨.inl e, .inr e⟩
  · rename_i e
    have hf := h.fn
    split at v
    · rename_i eo
      rw [eo] at hf
      exact ⟨.inr e, .inl (hf x)⟩
    · rename_i o eo
      rw [eo] at hf
      refine ⟨.inr e, .inl ?_⟩
      rw [hf x, of_decide_eq_true v]
      rfl
  · cases v
theorem gl_ok (h : XOk Γ Φ k sc X) {x : Str} (v : isGl sc x = true) : Gl X x := by
  unfold isGl at v
  show X.env.scope.names.lookup x = _
  rw [h.names]
  exact of_decide_eq_true v
theorem dbg_ok {x : Str} (v : notDbg x = true) : (x == ("__debug__" : Str)) = false ∧ (x == ("__classdict__" : Str)) = false ∧ x ≠ "__name__" := by
  unfold notDbg at v
  simp only [Bool.and_eq_true, Bool.not_eq_true', decide_eq_true_eq] at v
  exact ⟨v.1.1, v.1.2, v.2⟩
theorem free_ok (h : XOk Γ Φ k sc X) {x nm : Str} (v : freeB Γ sc x nm = true) : x = nm ∧ Gl X x ∧ X.mg x = none := by
  unfold freeB at v
  simp only [Bool.and_eq_true, decide_eq_true_eq] at v
  exact ⟨v.1.1, gl_ok h v.1.2, h.free x (List.contains_iff_mem.mp v.2)⟩
theorem star_cons {e : Expr} {es : List Expr} {env : PySem.Env} (h : noStar (e :: es) = true) : starEach (e :: es) env = (false, eval e env) :: starEach es env ∧ noStar es = true := by
  cases e <;> first | exact ⟨rfl, h⟩ | (simp [noStar] at h)
theorem star_any {env : PySem.Env} {pos : Pos} : ∀ {es : List Expr}, noStar es = true → (backTo pos (starEach es env)).any (·.1) = false
  | [], _ => rfl
  | e :: es, h => by
    obtain ⟨e1, h1⟩ := star_cons (env := env) h
    rw [e1]
    show (false || (backTo pos (starEach es env)).any (·.1)) = false
    rw [star_any h1]
    rfl
theorem star_all {env : PySem.Env} {pos : Pos} : ∀ {es : List Expr}, noStar es = true → (backTo pos (starEach es env)).all (fun x => !x.1) = true
  | [], _ => rfl
  | e :: es, h => by
    obtain ⟨e1, h1⟩ := star_cons (env := env) h
    rw [e1]
    show (!false && (backTo pos (starEach es env)).all (fun x => !x.1)) = true
    rw [star_all h1]
    rfl
theorem asg_cons {e : Expr} {es : List Expr} {env : PySem.Env} (h : noStar (e :: es) = true) : assignEach (e :: es) env = (false, assign e env) :: assignEach es env ∧ noStar es = true := by
  cases e <;> first | exact ⟨rfl, h⟩ | (simp [noStar] at h)
theorem asg_len {env : PySem.Env} : ∀ {es : List Expr}, (assignEach es env).length = es.length
  | [] => rfl
  | e :: es => by
    cases e <;> (show (assignEach es env).length + 1 = es.length + 1; rw [asg_len])
theorem asg_find {env : PySem.Env} : ∀ {es : List Expr}, noStar es = true → (assignEach es env).findIdx? (·.1) = none
  | [], _ => rfl
  | e :: es, h => by
    obtain ⟨e1, h1⟩ := asg_cons (env := env) h
    rw [e1, List.findIdx?_cons, asg_find h1]
    rfl
theorem plainT_ok {e : Expr} {env : PySem.Env} (h : plainT e = true) : ∀ whole, isTrue e env whole = (do let v ← whole; standAt e.pos; holding [v] (PySem.truthy v)) := fun whole => by
  cases e <;> first | rfl | (simp [plainT] at h; done) | skip
  rename_i op _ _
  cases op <;> first | rfl | (simp [plainT] at h; done)
theorem notSet_ok {e : Expr} {env : PySem.Env} (h : notSet e = true) : ∀ x, foldedSetIterable e env x = pure x := fun x => by
  cases e <;> first | rfl | (simp [notSet] at h; done)
theorem notSlice_ok {e : Expr} (h : notSlice e = true) : PlainIx e := fun o i => by
  cases e <;> first | rfl | (simp [notSlice] at h; done)
theorem base_ok {e : Expr} {nm : Str} {env : PySem.Env} {w : Sem Value} (h : notCall e = true) : attributeBase e nm env w = w := by
  cases e <;> first | rfl | (simp [notCall] at h; done)
theorem cmpOk_all (h : XOk Γ Φ k sc X) : ∀ o, CmpOk X o (opC o)
  | .lt => c_lt h.hu
  | .le => c_le h.hu
  | .gt => c_gt h.hu
  | .ge => c_ge h.hu
  | .eq => c_eq h.hu
  | .ne => c_ne h.hu
  | .isin => c_in h.hu h.wd
  | .notin => c_notin h.hu h.wd
  | .is => c_is
  | .isnot => c_isnot
theorem s_bop (h : XOk Γ Φ k sc X) {pos : Pos} {a b : Expr} {ca cb : CE} (ha : PE X a (tE Φ X.K ca)) (hb : PE X b (tE Φ X.K cb)) : ∀ o, PE X (.BinOp a (opB o) b pos) (tE Φ X.K (.bop o ca cb))
  | .add => s_bop_add ha hb
  | .sub => s_bop_sub ha hb
  | .mul => s_bop_mul ha hb
  | .fdiv => s_bop_fdiv ha hb
  | .mod => s_bop_mod ha hb
  | .pow => s_bop_pow ha hb
/-- each stands for its own -/
def AllE (Φ : Phi) (X : Cx) : List CE → List Expr → Prop
  | [], [] => True
  | c :: cs, e :: es => PE X e (tE Φ X.K c) ∧ AllE Φ X cs es
  | _, _ => False
theorem AllE.pa : ∀ {cs : List CE} {es : List Expr}, AllE Φ X cs es → noStar es = true → PA X es (tA Φ X.K cs)
  | [], [], _, _ => a_nil
  | c :: cs, e :: es, h, n => a_cons h.1 (AllE.pa h.2 (star_cons (env := X.env) n).2) (star_cons n).1
  | [], _ :: _, h, _ => h.elim
  | _ :: _, [], h, _ => h.elim
theorem AllE.len : ∀ {cs : List CE} {es : List Expr}, AllE Φ X cs es → cs.length = es.length
  | [], [], _ => rfl
  | c :: cs, e :: es, h => by rw [List.length_cons, List.length_cons, AllE.len h.2]
  | [], _ :: _, h => h.elim
  | _ :: _, [], h => h.elim
theorem AllE.pps {pos : Pos} : ∀ {keys : List (Option Expr)} {values : List Expr} {cs : List CE}, keys.all (·.isSome) = true → keys.length = values.length → AllE Φ X cs (inter keys values) → PPs X pos keys values (trsOf Φ X.K cs) ∧ evenL cs = true ∧ (keys = [] → cs = [])
  | [], [], [], _, _, _ => ⟨pps_nil, rfl, fun _ => rfl⟩
  | [], [], _ :: _, _, _, h => h.elim
  | [], _ :: _, _, _, h, _ => by simp at h
  | _ :: _, [], _, _, h, _ => by simp at h
  | none :: _, _ :: _, _, h, _, _ => by simp at h
  | some k :: ks, v :: vs, [], _, _, h => h.elim
  | some k :: ks, v :: vs, [_], _, _, h => h.2.elim
  | some k :: ks, v :: vs, ck :: cv :: cs, h1, h2, h => by
    obtain ⟨a, b, _⟩ := AllE.pps (pos := pos) (keys := ks) (values := vs) (cs := cs) (by simpa using h1) (by simpa using h2) h.2.2
    exact ⟨pps_cons h.1 h.2.1 a, b, fun z => by cases z⟩
theorem AllE.split : ∀ {cs : List CE} {es fs : List Expr}, AllE Φ X cs (es ++ fs) → AllE Φ X (cs.take es.length) es ∧ AllE Φ X (cs.drop es.length) fs
  | cs, [], fs, h => ⟨by simp [AllE], h⟩
  | [], _ :: _, _, h => h.elim
  | c :: cs, e :: es, fs, h => ⟨⟨h.1, (AllE.split h.2).1⟩, (AllE.split h.2).2⟩
theorem AllE.pk : ∀ {cs : List CE} {kws : List Keyword}, AllE Φ X cs (kws.map fun q => q.value) → PK X kws (tA Φ X.K cs)
  | [], [], _ => k_nil
  | c :: cs, ⟨nm, e, p⟩ :: kws, h => k_cons h.1 (AllE.pk h.2)
  | [], _ :: _, h => h.elim
  | _ :: _, [], h => h.elim
theorem kw_ok {env : PySem.Env} {pos : Pos} : ∀ {kws : List Keyword} {ks : List Str}, kwNames kws = some ks → (backToKw pos (keywordEach kws env)).all (·.1.isSome) = true ∧ (backToKw pos (keywordEach kws env)).filterMap (·.1) = ks ∧ (backToKw pos (keywordEach kws env)).any (·.1.isNone) = false ∧ kws.length = ks.length
  | [], ks, h => by
    cases h
    exact ⟨rfl, rfl, rfl, rfl⟩
  | ⟨some x, e, p⟩ :: kws, ks, h => by
    simp only [kwNames] at h
    obtain ⟨r, hr, rfl⟩ := Option.map_eq_some_iff.mp h
    obtain ⟨h1, h2, h3, h4⟩ := kw_ok (env := env) (pos := pos) hr
    refine ⟨?_, ?_, ?_, by rw [List.length_cons, List.length_cons, h4]⟩
    · show (true && (backToKw pos (keywordEach kws env)).all (·.1.isSome)) = true
      rw [h1]
      rfl
    · show x :: (backToKw pos (keywordEach kws env)).filterMap (·.1) = _
      rw [h2]
    · show (false || (backToKw pos (keywordEach kws env)).any (·.1.isNone)) = false
      rw [h3]
      rfl
  | ⟨none, e, p⟩ :: kws, ks, h => by cases h
theorem tg_one (h : XOk Γ Φ k sc X) {i : Nat} {x : Str} {pos : Pos} (v : (decide (sc.N[i]? = some x) && locB sc x) = true) : PG X (.Name x pos) (gT X.K (.one i)) := by
  simp only [Bool.and_eq_true, decide_eq_true_eq] at v
  obtain ⟨h1, h2⟩ := loc_ok h v.2
  exact g_one (by rw [h.N]; exact h.nd) (by rw [h.N]; exact v.1) h1 h2
theorem tg_tup (h : XOk Γ Φ k sc X) {es : List Expr} {ts : List Tg} {n : Nat} {pos : Pos} (hs : PGs X es (gTs X.K ts)) (hl : es.length = ts.length) (hn : noStar es = true) : PG X (.Tuple es n pos) (gT X.K (.tup ts)) :=
  g_tup h.calm hs (by rw [asg_len, hl]) (asg_find hn)
theorem tg_cons {e : Expr} {es : List Expr} {t : Tg} {ts : List Tg} (h1 : PG X e (gT X.K t)) (h2 : PGs X es (gTs X.K ts)) (hn : noStar (e :: es) = true) : PGs X (e :: es) (gTs X.K (t :: ts)) :=
  g_cons h1 h2 (by rw [(asg_cons hn).1]; rfl)
theorem snd_tg (h : XOk Γ Φ k sc X) : ∀ (t : Tg) (e : Expr), chkTg sc t e = true → PG X e (gT X.K t) := fun t e v => by
  unfold chkTg at v
  split at v
  · exact tg_one h v
  · exact tg_tup h (tg_cons (tg_one h v) g_nil rfl) rfl rfl
  · obtain ⟨v1, v2⟩ := Bool.and_eq_true_iff.mp v
    exact tg_tup h (tg_cons (tg_one h v1) (tg_cons (tg_one h v2) g_nil rfl) rfl) rfl rfl
  · obtain ⟨v1, v3⟩ := Bool.and_eq_true_iff.mp v
    obtain ⟨v1, v2⟩ := Bool.and_eq_true_iff.mp v1
    exact tg_tup h (tg_cons (tg_one h v1) (tg_cons (tg_one h v2) (tg_cons (tg_one h v3) g_nil rfl) rfl) rfl) rfl rfl
  · obtain ⟨v1, v4⟩ := Bool.and_eq_true_iff.mp v
    obtain ⟨v1, v3⟩ := Bool.and_eq_true_iff.mp v1
    obtain ⟨v1, v2⟩ := Bool.and_eq_true_iff.mp v1
    exact tg_tup h (tg_cons (tg_one h v1) (tg_cons (tg_one h v2) (tg_cons (tg_one h v3) (tg_cons (tg_one h v4) g_nil rfl) rfl) rfl) rfl) rfl rfl
  · obtain ⟨v1, v2⟩ := Bool.and_eq_true_iff.mp v
    obtain ⟨v2, v3⟩ := Bool.and_eq_true_iff.mp v2
    exact tg_tup h (tg_cons (tg_one h v1) (tg_cons (tg_tup h (tg_cons (tg_one h v2) (tg_cons (tg_one h v3) g_nil rfl) rfl) rfl rfl) g_nil rfl) rfl) rfl rfl
  · obtain ⟨v1, v3⟩ := Bool.and_eq_true_iff.mp v
    obtain ⟨v1, v2⟩ := Bool.and_eq_true_iff.mp v1
    exact tg_tup h (tg_cons (tg_tup h (tg_cons (tg_one h v1) (tg_cons (tg_one h v2) g_nil rfl) rfl) rfl rfl) (tg_cons (tg_one h v3) g_nil rfl) rfl) rfl rfl
  · cases v
theorem XOk.blk (h : XOk Γ Φ k sc X) (scope : Scope) (hk : scope.kind = .function) (s : Shared) (H : Hp) (C : Addr) (cl : List (Str × Addr)) (fp : List Addr) : XOk Γ Φ k (inner sc scope) (X.blk s H scope (compEnvC scope cl C X.env) fp) where
  N := h.N
  wd := h.wd
  nd := h.nd
  names := by
    show (relabel scope X.env).names = relab sc scope
    unfold relabel relab
    simp only [h.kind, PySem.Env.kindOf, h.names]
    congr 1
    funext q
    simp
  kind := hk
  fn := fun x => rfl
  calm := h.calm
  gd := h.gd
  room := h.room
  xe := rfl
  fns := h.fns
  cons := h.cons
  free := h.free
theorem blkB_ok (h : XOk Γ Φ k sc X) {scope : Scope} {own : List Nat} (v : blkB sc scope own = true) : ∃ o : List (Str × Nat), BlkOk X.N X.env.scope scope o ∧ o.map (·.2) = own ∧ scope.kind = .function := by
  unfold blkB at v
  simp only [Bool.and_eq_true, decide_eq_true_eq] at v
  have e : blkC X.N X.env.scope scope (ownOf sc.N own) = true := by
    rw [← v.1]
    unfold blkC
    rw [h.N, h.names]
  exact ⟨_, blkOk_by e, v.2, (blkOk_by e).kind⟩
theorem tail_pe {op : BoolOp} {e : Expr} {es : List Expr} {pos : Pos} {t : TE} (h : PE X (tailB op (e :: es) pos) t) : PE X (.BoolOp op (e :: es) pos) t := by
  cases es with
  | nil => exact pe_one h
  | cons f fs => exact h
theorem tail_and {e : Expr} {es : List Expr} {pos : Pos} {t : TT} (h : PT X (tailB .And (e :: es) pos) t) : PW X (.BoolOp .And (e :: es) pos) t := by
  cases es with
  | nil => exact pw_and1 h
  | cons f fs => exact ⟨fun whole pins s σ H Q I q => h.run pins s σ H Q I q⟩
theorem tail_or {e : Expr} {es : List Expr} {pos : Pos} {t : TT} (h : PT X (tailB .Or (e :: es) pos) t) : PW X (.BoolOp .Or (e :: es) pos) t := by
  cases es with
  | nil => exact pw_or1 h
  | cons f fs => exact ⟨fun whole pins s σ H Q I q => h.run pins s σ H Q I q⟩
end
end NG
end

section
set_option autoImplicit false
set_option maxRecDepth 100000
set_option maxHeartbeats 4000000
namespace NG
open PySem PySem.Spec PyProof.Rows L2
variable [HasW]
/-! ## texts of data -/
theorem str_eq {a b : Str} (h : a.cps.toList = b.cps.toList) : a = b := by
  cases a
  cases b
  simp at h
  rw [h]
theorem cps_toStr (l : List Nat) : (toStr l).cps.toList = l := rfl
theorem cps_of (s : String) : ((s : Str)).cps.toList = s.toList.map Char.toNat := by
  show (Str.ofString s).cps.toList = _
  rw [Str.ofString_eq_toList]
theorem dec_nat (n : Nat) : ((Nat.repr n : String) : Str) = toStr (decNat n) := by
  refine str_eq ?_
  rw [cps_of, cps_toStr]
  unfold Nat.repr decNat
  rw [String.toList_ofList]
theorem dec_int (i : Int) : ((toString i : String) : Str) = toStr (decInt i) := by
  refine str_eq ?_
  rw [cps_of, cps_toStr]
  unfold decInt
  cases i with
  | ofNat n =>
    rw [if_neg (by show ¬ ((n : Int) < 0); omega)]
    show (Nat.repr n).toList.map Char.toNat = _
    have := congrArg (fun s : Str => s.cps.toList) (dec_nat n)
    rw [cps_of] at this
    rw [this]
    rfl
  | negSucc n =>
    rw [if_pos (by omega)]
    show (("-" : String) ++ Nat.repr (n + 1)).toList.map Char.toNat = _
    have := congrArg (fun s : Str => s.cps.toList) (dec_nat (n + 1))
    rw [cps_of] at this
    rw [String.toList_append, List.map_append, this]
    rfl
theorem log2_lt {n : Nat} (h : n < 2 ^ 1900) : n.log2 < 1920 := by
  by_cases h0 : n = 0
  · subst h0
    decide
  · have := (Nat.log2_lt h0).mpr h
    omega
theorem k_str {X : Cx} : BltOk X .str (.type "str") := fun ds S1 d h => by
  match hv : vws S1 ds with
  | [] => rw [hv] at h; cases h
  | x :: y :: r => rw [hv] at h; cases x <;> cases h
  | [x] =>
    rw [hv] at h
    obtain ⟨e, rfl, hx⟩ := vws_one hv
    cases x <;> first | (exfalso; cases h; done) | skip
    rename_i i
    have h : (if i.natAbs < 2 ^ 1900 then some (D.str (decInt i)) else none) = some d := h
    split at h
    · rename_i hz
      cases h
      refine ⟨_, call_str_int, fun H2 m2 F vs Q s r q => ?_⟩
      obtain ⟨v, rfl, rv⟩ := rps_one r
      refine ⟨i, by rw [vw_int rv hx], log2_lt hz, ?_⟩
      rw [dec_int]
      exact fin_here s q (.str _)
    · cases h
theorem printable_ascii : ∀ c, plainCp c = true → Unicode.isPrintable c = true := by
  have h : ((List.range 127).all fun c => !plainCp c || Unicode.isPrintable c) = true := by decide +kernel
  intro c hc
  have hl : c < 127 := by
    unfold plainCp at hc
    simp at hc
    omega
  have := List.all_eq_true.mp h c (List.mem_range.mpr hl)
  rw [hc] at this
  simpa using this
theorem repr_plain {s : List Nat} (h : s.all plainCp = true) : reprText (toStr s) = toStr (39 :: s ++ [39]) := by
  have hq : reprQuote (toStr s) = 39 := by
    unfold reprQuote
    have : (toStr s).cps.contains 39 = false := by
      show s.toArray.contains 39 = false
      rw [List.contains_toArray]
      cases hc : s.contains 39 with
      | false => rfl
      | true =>
        have := List.all_eq_true.mp h 39 (List.contains_iff_mem.mp hc)
        exact absurd this (by decide)
    rw [this]
    rfl
  refine str_eq ?_
  unfold reprText
  rw [hq]
  have f : ∀ (l : List Nat) (acc : Array Nat), l.all plainCp = true → (l.foldl (fun out c => out ++ (Builtin.Str.reprChar 39 c).toArray) acc) = acc ++ l.toArray := by
    intro l
    induction l with
    | nil => intro acc _; simp
    | cons c l ih =>
      intro acc hl
      rw [List.all_cons, Bool.and_eq_true] at hl
      have hc : Builtin.Str.reprChar 39 c = [c] := by
        unfold Builtin.Str.reprChar
        have hp := printable_ascii c hl.1
        have h1 := hl.1
        unfold plainCp at h1
        simp at h1
        obtain ⟨⟨⟨a1, a2⟩, a3⟩, a4⟩ := h1
        simp [a3, a4, hp, show c ≠ 10 by omega, show c ≠ 13 by omega, show c ≠ 9 by omega]
      rw [List.foldl_cons, hc, ih _ hl.2]
      simp
  show (((s.toArray.foldl (fun out c => out ++ (Builtin.Str.reprChar 39 c).toArray) #[39])).push 39).toList = _
  rw [← Array.foldl_toList]
  show ((s.foldl (fun out c => out ++ (Builtin.Str.reprChar 39 c).toArray) #[39]).push 39).toList = _
  rw [f s #[39] h]
  simp
  rfl
theorem toStr_cat (x y : List Nat) : toStr x ++ toStr y = toStr (x ++ y) := toStr_app x y
theorem join_toStr (sep : List Nat) : ∀ l : List (List Nat), Str.join (toStr sep) (l.map toStr) = toStr (joinS sep l)
  | [] => rfl
  | [x] => rfl
  | x :: y :: r => by
    show toStr x ++ toStr sep ++ Str.join (toStr sep) ((y :: r).map toStr) = _
    rw [join_toStr sep (y :: r), toStr_cat, toStr_cat]
    rfl
theorem comma_str : ((", " : String) : Str) = toStr [44, 32] := by decide +kernel
theorem textFrom_pos : ∀ (l : List (List Nat)) (k : Nat) (acc : List Nat), textFrom (k + 1) (toStr acc) (l.map toStr) = toStr (acc ++ (l.map fun x => [44, 32] ++ x).flatten)
  | [], k, acc => by
    show toStr acc = _
    simp
  | x :: l, k, acc => by
    show textFrom (k + 2) (toStr acc ++ (if k + 1 > 0 then ", " else "" : String) ++ toStr x) (l.map toStr) = _
    rw [if_pos (Nat.succ_pos k), comma_str, toStr_cat, toStr_cat, textFrom_pos l (k + 1)]
    simp
theorem joinS_flat : ∀ (x : List Nat) (l : List (List Nat)), joinS [44, 32] (x :: l) = x ++ (l.map fun x => [44, 32] ++ x).flatten
  | x, [] => by simp [joinS]
  | x, y :: l => by
    rw [joinS, joinS_flat y l]
    simp
theorem list_text (l : List (List Nat)) : listText (l.map toStr) = toStr (91 :: joinS [44, 32] l ++ [93]) := by
  have e1 : (("[" : String) : Str) = toStr [91] := by decide +kernel
  have e2 : (("]" : String) : Str) = toStr [93] := by decide +kernel
  have e3 : (("" : String) : Str) = toStr [] := by decide +kernel
  unfold listText
  rw [e1, e2]
  cases l with
  | nil =>
    show toStr [91] ++ toStr [93] = _
    rw [toStr_cat]
    rfl
  | cons x l =>
    show textFrom 1 (toStr [91] ++ (if 0 > 0 then ", " else "" : String) ++ toStr x) (l.map toStr) ++ toStr [93] = _
    rw [if_neg (by omega), e3, toStr_cat, toStr_cat, textFrom_pos, toStr_cat, joinS_flat]
    simp
theorem tuple_text (l : List (List Nat)) : tupleText (l.map toStr) = toStr (match l with
    | [] => [40, 41]
    | [x] => 40 :: x ++ [44, 41]
    | x :: y :: r => 40 :: joinS [44, 32] (x :: y :: r) ++ [41]) := by
  have e1 : (("(" : String) : Str) = toStr [40] := by decide +kernel
  have e2 : ((",)" : String) : Str) = toStr [44, 41] := by decide +kernel
  have e3 : ((")" : String) : Str) = toStr [41] := by decide +kernel
  unfold tupleText
  rw [e1, comma_str, join_toStr, List.length_map]
  match l with
  | [] =>
    show toStr [40] ++ toStr [] ++ ((")" : String) : Str) = _
    rw [e3, toStr_cat, toStr_cat]
    rfl
  | [x] =>
    show toStr [40] ++ toStr x ++ ((",)" : String) : Str) = _
    rw [e2, toStr_cat, toStr_cat]
    rfl
  | x :: y :: r =>
    have : ((x :: y :: r).length == 1) = false := by simp
    rw [this]
    show toStr [40] ++ toStr (joinS [44, 32] (x :: y :: r)) ++ ((")" : String) : Str) = _
    rw [e3, toStr_cat, toStr_cat]
    rfl
theorem shown_non : ((("None" : String)) : Str) = toStr [78, 111, 110, 101] := by decide +kernel
theorem shown_t : ((("True" : String)) : Str) = toStr [84, 114, 117, 101] := by decide +kernel
theorem shown_f : ((("False" : String)) : Str) = toStr [70, 97, 108, 115, 101] := by decide +kernel
mutual
theorem shown_ok : ∀ d : D, showable d = true → (toPy d).shown = toStr (shown d) ∧ (toPy d).showable = true ∧ isPy d = true
  | .non, _ => ⟨shown_non, rfl, rfl⟩
  | .bl true, _ => ⟨shown_t, rfl, rfl⟩
  | .bl false, _ => ⟨shown_f, rfl, rfl⟩
  | .int i, h => by
    simp only [showable, decide_eq_true_eq] at h
    exact ⟨dec_int i, decide_eq_true (log2_lt h), rfl⟩
  | .str s, h => by
    simp only [showable] at h
    refine ⟨repr_plain h, rfl, ?_⟩
    simp only [isPy, List.all_eq_true] at h ⊢
    intro c hc
    have := h c hc
    unfold plainCp at this
    simp at this
    exact decide_eq_true (by omega)
  | .lst xs, h => by
    simp only [showable] at h
    obtain ⟨h1, h2, h3⟩ := showns_ok xs h
    refine ⟨?_, h2, h3⟩
    show listText (PyData.shownAll (toPys xs)) = _
    rw [h1, list_text]
    rfl
  | .tup xs, h => by
    simp only [showable] at h
    obtain ⟨h1, h2, h3⟩ := showns_ok xs h
    refine ⟨?_, h2, h3⟩
    show tupleText (PyData.shownAll (toPys xs)) = _
    rw [h1, tuple_text]
    match xs with
    | [] => rfl
    | [x] => rfl
    | x :: y :: r => rfl
  | .undef, h => by simp [showable] at h
  | .dic _ _, h => by simp [showable] at h
  | .scr _, h => by simp [showable] at h
  | .ref _, h => by simp [showable] at h
  | .exc _ _, h => by simp [showable] at h
  | .clo _ _, h => by simp [showable] at h
theorem showns_ok : ∀ l : List D, showables l = true → PyData.shownAll (toPys l) = (showns l).map toStr ∧ PyData.showableAll (toPys l) = true ∧ arePy l = true
  | [], _ => ⟨rfl, rfl, rfl⟩
  | x :: xs, h => by
    simp only [showables, Bool.and_eq_true] at h
    obtain ⟨a1, a2, a3⟩ := shown_ok x h.1
    obtain ⟨b1, b2, b3⟩ := showns_ok xs h.2
    refine ⟨?_, ?_, ?_⟩
    · show (toPy x).shown :: PyData.shownAll (toPys xs) = _
      rw [a1, b1]
      rfl
    · show ((toPy x).showable && PyData.showableAll (toPys xs)) = true
      rw [a2, b2]
      rfl
    · simp only [arePy, a3, b3, Bool.and_self]
end
section
variable {Γ : GL} {Φ : Phi} {k : Nat} {sc : SC} {X : Cx}
theorem cr_reprD (hg : X.A.guards = some []) (hu : X.A.units + 66 < cLine) : CallR X (.builtin "repr") (fun xs H Q => ∃ (x : V) (d : D), xs = [x] ∧ Dp X.K H x (toPy d) ∧ showable d = true ∧ ddepth d ≤ 60 ∧ (shown d).length ≤ LIM ∧ Q (.str (toStr (shown d))) H) := by
  intro pins s σ H xs us Q I r h
  obtain ⟨x, d, rfl, hd, hs, hdep, hlen, q⟩ := h
  obtain ⟨u, rfl, ru⟩ := vals1 r
  obtain ⟨e1, e2, e3⟩ := shown_ok d hs
  obtain ⟨as, rd⟩ := Dp.reads I (toPy d) x u hd ru
  have hsz : (toPy d).shown.length ≤ sizeLine := by
    rw [e1, toStr_len, ← line_LIM]
    exact hlen
  have hdd : (toPy d).depth ≤ 60 := by
    rw [py_depth d e3]
    exact hdep
  have hsm : (toPy d).hasDict = true → sysModules ∉ as := PyData.noDict_hsm (PyData.hasDict_of_canLay _ (py_lay d e3))
  have heap : ∀ a, u = .ref a → wpAny (model X.prog X.w) X.A (call (.builtin "repr") [u]) (EP X pins σ Q) X.xe s := by
    rintro a rfl
    refine repr_of_reads' rd e2 hsm hg (by omega) (fun b o q => q) (fun h' t tk kp => ?_) hsz
    rw [e1]
    exact ⟨.str _, H, I.kept (t' := tk) kp, ⟨t, rfl⟩, q⟩
  cases d <;> first | (exfalso; simp [showable] at hs; done) | skip
  · cases hd
    cases ru
    refine PySem.P.repr_of_none ?_
    rw [show (("None" : String) : Str) = toStr (shown .non) from e1]
    exact ⟨.str _, H, I.tok _, ⟨_, rfl⟩, q⟩
  · rename_i b
    cases hd
    cases ru
    refine PySem.P.repr_of_bool ?_
    rw [show (if b = true then (("True" : String) : Str) else (("False" : String) : Str)) = toStr (shown (.bl b)) by cases b <;> first | exact shown_t | exact shown_f]
    exact ⟨.str _, H, I.tok _, ⟨_, rfl⟩, q⟩
  · rename_i i
    cases hd
    obtain ⟨t, rfl⟩ := ru
    simp only [showable, decide_eq_true_eq] at hs
    refine PySem.P.repr_of_int (log2_lt hs) ?_
    rw [show ((toString i : String) : Str) = toStr (shown (.int i)) from e1]
    exact ⟨.str _, H, I.tok _, ⟨_, rfl⟩, q⟩
  · rename_i z
    cases hd
    obtain ⟨t, rfl⟩ := ru
    have e1' : reprText (toStr z) = toStr (shown (.str z)) := e1
    refine PySem.P.repr_of_str ?_ (by rw [e1', toStr_len, ← line_LIM]; exact hlen)
    rw [e1']
    exact ⟨.str _, H, I.tok _, ⟨_, rfl⟩, q⟩
  · have : ∃ a, u = .ref a := by
      cases hd <;> exact ⟨_, ru⟩
    obtain ⟨a, ea⟩ := this
    exact heap a ea
  · have : ∃ a, u = .ref a := by
      cases hd <;> exact ⟨_, ru⟩
    obtain ⟨a, ea⟩ := this
    exact heap a ea
theorem k_repr (h : XOk Γ Φ k sc X) : BltOk X .repr (.builtin "repr") := fun ds S1 d hd => by
  match hv : vws S1 ds with
  | [] => rw [hv] at hd; cases hd
  | x :: y :: r => rw [hv] at hd; cases x <;> cases hd
  | [x] =>
    rw [hv] at hd
    obtain ⟨e, rfl, hx⟩ := vws_one hv
    have hd : (if showable x && decide (ddepth x ≤ 60) && decide ((shown x).length ≤ LIM) then some (D.str (shown x)) else none) = some d := hd
    split at hd
    · rename_i hc
      simp only [Bool.and_eq_true, decide_eq_true_eq] at hc
      cases hd
      refine ⟨_, cr_reprD h.gd h.hu, fun H2 m2 F vs Q s r q => ?_⟩
      obtain ⟨v, rfl, rv⟩ := rps_one r
      subst hx
      exact ⟨v, _, rfl, vw_dp s rv (shown_ok _ hc.1.1).2.2, hc.1.1, hc.1.2, hc.2, fin_here s q (.str _)⟩
    · cases hd
end
end NG
end

section
set_option autoImplicit false
set_option maxRecDepth 100000
set_option maxHeartbeats 4000000
namespace NG
open PySem PySem.Spec PyProof.Rows L2
variable [HasW]
/-! ## sorting -/
mutual
theorem deq_eq : ∀ a b : D, alike a b = true → deq a b = true → a = b
  | .non, b, h, e => by cases b <;> first | rfl | (simp [alike] at h)
  | .bl x, b, h, e => by
    cases b <;> simp [alike] at h
    simp [deq] at e
    rw [e]
  | .int x, b, h, e => by
    cases b <;> simp [alike] at h
    simp [deq] at e
    rw [e]
  | .str x, b, h, e => by
    cases b <;> simp [alike] at h
    simp [deq] at e
    rw [e]
  | .lst xs, b, h, e => by
    cases b <;> simp [alike] at h
    simp [deq] at e
    rw [deqs_eq xs _ h e]
  | .tup xs, b, h, e => by
    cases b <;> simp [alike] at h
    simp [deq] at e
    rw [deqs_eq xs _ h e]
  | .undef, b, h, e => by simp [alike] at h
  | .dic _ _, b, h, e => by simp [alike] at h
  | .scr _, b, h, e => by simp [alike] at h
  | .ref _, b, h, e => by simp [alike] at h
  | .exc _ _, b, h, e => by simp [alike] at h
  | .clo _ _, b, h, e => by simp [alike] at h
theorem deqs_eq : ∀ a b : List D, alikes a b = true → deqs a b = true → a = b
  | [], b, h, e => by cases b <;> first | rfl | (simp [deqs] at e)
  | x :: xs, b, h, e => by
    cases b with
    | nil => simp [deqs] at e
    | cons y ys =>
      simp [alikes] at h
      simp [deqs] at e
      rw [deq_eq x y h.1 e.1, deqs_eq xs ys h.2 e.2]
end
mutual
theorem deq_refl : ∀ a : D, isPy a = true → deq a a = true
  | .non, _ => rfl
  | .bl x, _ => by simp [deq]
  | .int x, _ => by simp [deq]
  | .str x, _ => by simp [deq]
  | .lst xs, h => by simp only [isPy] at h; simp only [deq]; exact deqs_refl xs h
  | .tup xs, h => by simp only [isPy] at h; simp only [deq]; exact deqs_refl xs h
  | .undef, h => by simp [isPy] at h
  | .dic _ _, h => by simp [isPy] at h
  | .scr _, h => by simp [isPy] at h
  | .ref _, h => by simp [isPy] at h
  | .exc _ _, h => by simp [isPy] at h
  | .clo _ _, h => by simp [isPy] at h
theorem deqs_refl : ∀ a : List D, arePy a = true → deqs a a = true
  | [], _ => rfl
  | x :: xs, h => by
    simp only [arePy, Bool.and_eq_true] at h
    simp only [deqs, deq_refl x h.1, deqs_refl xs h.2, Bool.and_self]
end
theorem cps_antisymm : ∀ x y : List Nat, cpsLt x y = false → cpsLt y x = false → x = y
  | [], [], _, _ => rfl
  | [], _ :: _, h, _ => by simp [cpsLt] at h
  | _ :: _, [], _, h => by simp [cpsLt] at h
  | a :: x, b :: y, h, h' => by
    simp only [cpsLt] at h h'
    by_cases h1 : a < b
    · rw [if_pos h1] at h
      cases h
    · by_cases h2 : b < a
      · rw [if_pos h2] at h'
        cases h'
      · rw [if_neg h1, if_neg h2] at h
        rw [if_neg h2, if_neg h1] at h'
        rw [show a = b by omega, cps_antisymm x y h h']
mutual
theorem dlt_antisymm : ∀ a b : D, alike a b = true → isPy a = true → isPy b = true → dlt a b = false → dlt b a = false → a = b
  | .non, b, h, _, _, _, _ => by cases b <;> first | rfl | (simp [alike] at h)
  | .bl x, b, h, _, _, e, e' => by
    cases b <;> simp [alike] at h
    rename_i y
    revert e e'
    clear h
    cases x <;> cases y <;> simp [dlt]
  | .int x, b, h, _, _, e, e' => by
    cases b <;> simp [alike] at h
    simp [dlt] at e e'
    rw [show x = _ from Int.le_antisymm e' e]
  | .str x, b, h, _, _, e, e' => by
    cases b <;> simp [alike] at h
    simp only [dlt] at e e'
    rw [cps_antisymm x _ e e']
  | .lst xs, b, h, p, q, e, e' => by
    cases b <;> simp [alike] at h
    simp only [dlt] at e e'
    simp only [isPy] at p q
    rw [dlts_antisymm xs _ h p q e e']
  | .tup xs, b, h, p, q, e, e' => by
    cases b <;> simp [alike] at h
    simp only [dlt] at e e'
    simp only [isPy] at p q
    rw [dlts_antisymm xs _ h p q e e']
  | .undef, b, h, _, _, _, _ => by simp [alike] at h
  | .dic _ _, b, h, _, _, _, _ => by simp [alike] at h
  | .scr _, b, h, _, _, _, _ => by simp [alike] at h
  | .ref _, b, h, _, _, _, _ => by simp [alike] at h
  | .exc _ _, b, h, _, _, _, _ => by simp [alike] at h
  | .clo _ _, b, h, _, _, _, _ => by simp [alike] at h
theorem dlts_antisymm : ∀ a b : List D, alikes a b = true → arePy a = true → arePy b = true → dlts a b = false → dlts b a = false → a = b
  | [], b, h, _, _, e, _ => by cases b <;> first | rfl | (simp [dlts] at e)
  | x :: xs, b, h, p, q, e, e' => by
    cases b with
    | nil => simp [dlts] at e'
    | cons y ys =>
      simp only [alikes, Bool.and_eq_true] at h
      simp only [arePy, Bool.and_eq_true] at p q
      simp only [dlts] at e e'
      by_cases hd : deq x y = true
      · have hxy := deq_eq x y h.1 hd
        subst hxy
        rw [if_pos hd] at e e'
        rw [dlts_antisymm xs ys h.2 p.2 q.2 e e']
      · rw [if_neg hd] at e
        have hd' : ¬ deq y x = true := fun z => hd (by
          have := deq_eq y x (alike_symm h.1) z
          subst this
          exact deq_refl _ p.1)
        rw [if_neg hd'] at e'
        have := dlt_antisymm x y h.1 p.1 q.1 e e'
        subst this
        exact absurd (deq_refl _ p.1) hd
end
/-- two sorted rows of the same things are one, where the order tells them apart -/
theorem sorted_unique {α : Type} {le : α → α → Prop} : ∀ {l r : List α}, (∀ a ∈ l, ∀ b ∈ l, le a b → le b a → a = b) → l.Perm r → l.Pairwise le → r.Pairwise le → l = r
  | [], r, _, p, _, _ => by rw [List.Perm.nil_eq p]
  | a :: l, [], _, p, _, _ => absurd p.length_eq (by simp)
  | a :: l, b :: r, anti, p, h1, h2 => by
    have hab : a = b := by
      have ha : a ∈ b :: r := p.mem_iff.mp (List.mem_cons_self ..)
      have hb : b ∈ a :: l := p.mem_iff.mpr (List.mem_cons_self ..)
      rcases List.mem_cons.mp ha with e | ha
      · exact e
      · rcases List.mem_cons.mp hb with e | hb
        · exact e.symm
        · exact anti a (List.mem_cons_self ..) b (List.mem_cons_of_mem _ hb) ((List.pairwise_cons.mp h1).1 b hb) ((List.pairwise_cons.mp h2).1 a ha)
    subst hab
    rw [sorted_unique (fun x hx y hy => anti x (List.mem_cons_of_mem _ hx) y (List.mem_cons_of_mem _ hy)) (List.Perm.cons_inv p) (List.pairwise_cons.mp h1).2 (List.pairwise_cons.mp h2).2]
theorem insD_perm (x : D) : ∀ l : List D, (insD x l).Perm (x :: l)
  | [] => .refl _
  | y :: ys => by
    simp only [insD]
    split
    · exact ((insD_perm x ys).cons y).trans (List.Perm.swap x y ys)
    · exact .refl _
theorem sortD_perm : ∀ l : List D, (sortD l).Perm l
  | [] => .refl _
  | x :: xs => (insD_perm x _).trans ((sortD_perm xs).cons x)
/-- the order as the library has it -/
def leK (a b : D) : Prop := PySem.W.dataLe false toPy a b = true
theorem leK_iff {a b : D} (ha : isPy a = true) (hb : isPy b = true) (h : alike b a = true) (n : b ≠ .non) : leK a b ↔ dlt b a = false := by
  unfold leK
  rw [PySem.W.dataLe_eq]
  show (!PySem.W.dataLt (toPy b) (toPy a)) = true ↔ _
  rw [py_lt b a hb ha h n]
  simp
theorem leK_total (a b : D) : leK a b ∨ leK b a := by
  have := (PySem.W.sortLe_total (PyProof.Rows.listOrd PyProof.Rows.itemOrd) false fun d : D => PySem.W.keyToks (toPy d)).total a b
  exact this
theorem leK_trans {a b c : D} (h : leK a b) (h' : leK b c) : leK a c := (PySem.W.sortLe_total (PyProof.Rows.listOrd PyProof.Rows.itemOrd) false fun d : D => PySem.W.keyToks (toPy d)).trans a b c h h'
/-- things that sorted compares -/
structure SGood (l : List D) : Prop where
  py : ∀ a ∈ l, isPy a = true
  al : ∀ a ∈ l, ∀ b ∈ l, alike a b = true
  nn : ∀ a ∈ l, a ≠ .non
theorem SGood.sub {l r : List D} (g : SGood l) (h : ∀ a ∈ r, a ∈ l) : SGood r := ⟨fun a ha => g.py a (h a ha), fun a ha b hb => g.al a (h a ha) b (h b hb), fun a ha => g.nn a (h a ha)⟩
theorem SGood.le {l : List D} (g : SGood l) {a b : D} (ha : a ∈ l) (hb : b ∈ l) : leK a b ↔ dlt b a = false := leK_iff (g.py a ha) (g.py b hb) (g.al b hb a ha) (g.nn b hb)
theorem insD_sorted {x : D} : ∀ {l : List D}, SGood (x :: l) → l.Pairwise leK → (insD x l).Pairwise leK
  | [], _, _ => by simp [insD]
  | y :: ys, g, h => by
    obtain ⟨h1, h2⟩ := List.pairwise_cons.mp h
    simp only [insD]
    split
    · rename_i hd
      have hyx : leK y x := by
        rcases leK_total y x with z | z
        · exact z
        · rw [g.le (List.mem_cons_self ..) (List.mem_cons_of_mem _ (List.mem_cons_self ..))] at z
          rw [hd] at z
          cases z
      refine List.pairwise_cons.mpr ⟨fun z hz => ?_, insD_sorted (g.sub fun a ha => ?_) h2⟩
      · rcases List.mem_cons.mp ((insD_perm x ys).mem_iff.mp hz) with e | hz
        · rw [e]
          exact hyx
        · exact h1 z hz
      · rcases List.mem_cons.mp ha with e | ha
        · rw [e]
          exact List.mem_cons_self ..
        · exact List.mem_cons_of_mem _ (List.mem_cons_of_mem _ ha)
    · rename_i hd
      have hxy : leK x y := (g.le (List.mem_cons_self ..) (List.mem_cons_of_mem _ (List.mem_cons_self ..))).mpr (by simpa using hd)
      refine List.pairwise_cons.mpr ⟨fun z hz => ?_, h⟩
      rcases List.mem_cons.mp hz with e | hz
      · rw [e]
        exact hxy
      · exact leK_trans hxy (h1 z hz)
theorem sortD_sorted : ∀ {l : List D}, SGood l → (sortD l).Pairwise leK
  | [], _ => .nil
  | x :: xs, g => by
    refine insD_sorted (g.sub fun a ha => ?_) (sortD_sorted (g.sub fun a ha => List.mem_cons_of_mem _ ha))
    rcases List.mem_cons.mp ha with e | ha
    · rw [e]
      exact List.mem_cons_self ..
    · exact List.mem_cons_of_mem _ ((sortD_perm xs).mem_iff.mp ha)
theorem SGood.anti {l : List D} (g : SGood l) : ∀ a ∈ l, ∀ b ∈ l, leK a b → leK b a → a = b := fun a ha b hb h h' =>
  dlt_antisymm a b (g.al a ha b hb) (g.py a ha) (g.py b hb) ((g.le hb ha).mp h') ((g.le ha hb).mp h)
theorem sorted_is {l r : List D} (g : SGood l) (p : r.Perm l) (h : r.Pairwise leK) : r = sortD l :=
  sorted_unique (fun a ha b hb => g.anti a (p.mem_iff.mp ha) b (p.mem_iff.mp hb)) (p.trans (sortD_perm l).symm) h (sortD_sorted g)
theorem sortable_good {l : List D} (h : sortable l = true) : SGood l ∧ arePy l = true ∧ ddepths l ≤ 60 ∧ PySem.W.AllAlike (l.map toPy) ∧ PySem.W.Sortable (l.map toPy) := by
  unfold sortable at h
  simp only [Bool.and_eq_true, decide_eq_true_eq, List.all_eq_true, Bool.or_eq_true] at h
  obtain ⟨⟨⟨h1, h2⟩, h3⟩, h4⟩ := h
  have hpy : ∀ a ∈ l, isPy a = true := by
    clear h2 h3 h4
    induction l with
    | nil => intro a ha; cases ha
    | cons x xs ih =>
      simp only [arePy, Bool.and_eq_true] at h1
      intro a ha
      rcases List.mem_cons.mp ha with e | ha
      · rw [e]
        exact h1.1
      · exact ih h1.2 a ha
  refine ⟨⟨hpy, h3, fun a ha z => ?_⟩, h1, h2, fun d hd d' hd' => ?_, ?_⟩
  · subst z
    rcases h4 with h4 | h4
    · have := h4 _ ha
      cases this
    · have := h4 _ ha
      cases this
  · obtain ⟨a, ha, rfl⟩ := List.mem_map.mp hd
    obtain ⟨b, hb, rfl⟩ := List.mem_map.mp hd'
    rw [py_alike a b (hpy a ha) (hpy b hb)]
    exact h3 a ha b hb
  · rcases h4 with h4 | h4
    · refine .inl fun d hd => ?_
      obtain ⟨a, ha, rfl⟩ := List.mem_map.mp hd
      have := h4 a ha
      split at this
      · exact ⟨_, _, rfl⟩
      · cases this
    · refine .inr fun d hd => ?_
      obtain ⟨a, ha, rfl⟩ := List.mem_map.mp hd
      have := h4 a ha
      split at this
      · cases this
      · cases this
      · rename_i n1 n2
        refine ⟨toPy_ne_none (hpy a ha) n2, fun xs z => ?_⟩
        cases a <;> first | (cases z; done) | skip
        exact n1 _ rfl
theorem dp_depth {d : D} {l : List D} (h : d ∈ l) : ddepth d ≤ ddepths l := by
  induction l with
  | nil => cases h
  | cons x xs ih =>
    simp only [ddepths]
    rcases List.mem_cons.mp h with e | h
    · rw [e]
      omega
    · have := ih h
      omega
section
variable {Γ : GL} {Φ : Phi} {k : Nat} {sc : SC} {X : Cx}
theorem each_of : ∀ {ds : List D} {vs : List V} {us : List Value}, ds.length = vs.length → Vals vs us → PySem.W.EachIs (fun u (b : V × D) => RelV b.1 u) us (vs.zip ds)
  | [], [], _, _, .nil => .nil
  | d :: ds, v :: vs, _, hl, .cons r rr => .cons r (each_of (by simpa using hl) rr)
  | [], _ :: _, _, hl, _ => by simp at hl
  | _ :: _, [], _, hl, _ => by simp at hl
theorem vals_each : ∀ {bs : List (V × D)} {us : List Value}, PySem.W.EachIs (fun u (b : V × D) => RelV b.1 u) us bs → Vals (bs.map (·.1)) us
  | [], _, .nil => .nil
  | _ :: _, _, .cons r rr => .cons r (vals_each rr)
/-- sorted(xs), data -/
theorem cr_sortedD (hu : X.A.units + 66 < cLine) : CallR X (.builtin "sorted") (fun xs H Q => ∃ (a : Addr) (vs : List V) (ds : List D), xs = [V.ref a] ∧ Rd H a (.lst vs) ∧ ds.length = vs.length ∧ (∀ i : Nat, ∀ d v, ds[i]? = some d → vs[i]? = some v → Dp X.K H v (toPy d)) ∧ sortable ds = true ∧
    ∀ ps : List (V × D), ps.Perm (vs.zip ds) → ps.map (·.2) = sortD ds → ∀ p, H p = none → Q (.ref p) (upd H p (.lst (ps.map (·.1))))) := by
  intro pins s σ H xs us Q I r h
  obtain ⟨a, vs, ds, rfl, hH, hl, hdp, hs, q⟩ := h
  rw [Vals.ref1 r]
  obtain ⟨z, its, n, rv, e⟩ := hH.ok I.hok
  obtain ⟨g, h1, h2, h3, h4⟩ := sortable_good hs
  have hsnd : (vs.zip ds).map (·.2) = ds := List.map_snd_zip (by omega)
  have hfst : (vs.zip ds).map (·.1) = vs := List.map_fst_zip (by omega)
  have hmp : (vs.zip ds).map (fun b => toPy b.2) = ds.map toPy := by
    rw [← hsnd, List.map_map]
    rw [hsnd]
    rfl
  have hE := each_of hl rv
  have hR : PySem.W.EachIs (fun u (b : V × D) => ∃ as, Reads s.heap u (toPy b.2) as) its (vs.zip ds) := by
    clear hE hmp hfst hsnd q hs h1 h2 h3 h4 g e hH z
    induction rv generalizing ds with
    | nil =>
      cases ds with
      | nil => exact .nil
      | cons d ds => simp at hl
    | cons r rr ih =>
      cases ds with
      | nil => simp at hl
      | cons d ds =>
        refine .cons (Dp.reads I (toPy d) _ _ (hdp 0 d _ rfl rfl) r) (ih ds (by simpa using hl) fun i d' v' e1 e2 => hdp (i + 1) d' v' (by simpa using e1) (by simpa using e2))
  have hlz : (vs.zip ds).length = vs.length := by rw [List.length_zip]; omega
  refine PySem.W.sorted_data (R := fun u (b : V × D) => RelV b.1 u) (enc := fun b : V × D => toPy b.2) (bs := vs.zip ds) (vs := its) ⟨_, e, rfl, n, rfl⟩ hE hR (by rw [hmp]; exact h3) (by rw [hmp]; exact h4) (by rw [hlz]; exact z) (fun b hb => ?_) fun out ho eo => ?_
  · have hb2 : b.2 ∈ ds := (List.of_mem_zip hb).2
    have := dp_depth hb2
    rw [py_depth b.2 (g.py _ hb2)]
    omega
  · obtain ⟨ep, he'⟩ := PyProof.Rows.sortedAll_at s.heap its out.toArray
    have hv := vals_each eo
    have hperm := List.mergeSort_perm (vs.zip ds) (PySem.W.dataLe false fun b : V × D => toPy b.2)
    have hp2 := hperm.map (·.2)
    rw [hsnd] at hp2
    have hsrt : (((vs.zip ds).mergeSort (PySem.W.dataLe false fun b : V × D => toPy b.2)).map (·.2)).Pairwise leK :=
      List.pairwise_map.mpr ((PySem.W.sort_pairwise (PySem.W.sortLe_total (PyProof.Rows.listOrd PyProof.Rows.itemOrd) false fun b : V × D => PySem.W.keyToks (toPy b.2)) (vs.zip ds)).imp fun h => h)
    have hlen : (((vs.zip ds).mergeSort (PySem.W.dataLe false fun b : V × D => toPy b.2)).map (·.1)).length ≤ sizeLine := by
      rw [List.length_map, hperm.length_eq, hlz]
      exact z
    exact ⟨.ref _, upd H (s.heap.objs.size + 1) (.lst _), I.laid (t' := s.toks) (fun _ _ => PyProof.Rows.sortedAll_old) (Nat.le_succ _) ⟨hlen, out, ep, hv, he'⟩, rfl, q _ hperm (sorted_is g hp2 hsrt) _ (I.hok.fresh (Nat.le_succ _))⟩
mutual
theorem reads_lt {h : Heap} : ∀ (u : Value) (d : PyData) (as : List Addr), Reads h u d as → ∀ a ∈ as, a < h.objs.size
  | _, _, _, .none, a, ha => by cases ha
  | _, _, _, .bool _, a, ha => by cases ha
  | _, _, _, .int _ _, a, ha => by cases ha
  | _, _, _, .str _ _, a, ha => by cases ha
  | _, _, _, .list h1 _ _ r, a, ha => by
    rcases List.mem_cons.mp ha with e | ha
    · rw [e]; exact Heap.lt_size h1
    · exact readsAll_lt _ _ _ r a ha
  | _, _, _, .tuple h1 _ _ r, a, ha => readsAll_lt _ _ _ r a ha
  | _, _, _, .dict h1 _ _ r r', a, ha => by
    rcases List.mem_append.mp ha with ha | ha
    · rcases List.mem_cons.mp ha with e | ha
      · rw [e]; exact Heap.lt_size h1
      · exact readsAll_lt _ _ _ r a ha
    · exact readsAll_lt _ _ _ r' a ha
theorem readsAll_lt {h : Heap} : ∀ (us : List Value) (ds : List PyData) (as : List Addr), ReadsAll h us ds as → ∀ a ∈ as, a < h.objs.size
  | _, _, _, .nil, a, ha => by cases ha
  | _, _, _, .cons r t, a, ha => by
    rcases List.mem_append.mp ha with ha | ha
    · exact reads_lt _ _ _ r a ha
    · exact readsAll_lt _ _ _ t a ha
end
/-- sorted(d), a dict's keys -/
theorem cr_sortedDic (hu : X.A.units + 66 < cLine) (hc : X.calm = true) : CallR X (.builtin "sorted") (fun xs H Q => ∃ (a : Addr) (es : List (NestedKey × V × V)) (vs : List V) (ds : List D), xs = [V.ref a] ∧ Rd H a (DicO HasW.w a es) ∧ vs = es.map (·.2.1) ∧ ds.length = vs.length ∧ (∀ i : Nat, ∀ d v, ds[i]? = some d → vs[i]? = some v → Dp X.K H v (toPy d)) ∧ sortable ds = true ∧
    ∀ ps : List (V × D), ps.Perm (vs.zip ds) → ps.map (·.2) = sortD ds → ∀ p, H p = none → Q (.ref p) (upd H p (.lst (ps.map (·.1))))) := by
  intro pins s σ H xs us Q I r h
  obtain ⟨a, es, vs, ds, rfl, hH, hvs, hl, hdp, hs, q⟩ := h
  rw [Vals.ref1 r]
  obtain ⟨z, hlo, o, en, ep0, ho, hx, hdt, hsz, pr⟩ := dic_raw I hH
  have hzv : vs.length ≤ sizeLine := by rw [hvs, List.length_map]; exact z
  obtain ⟨g, h1, h2, h3, h4⟩ := sortable_good hs
  have hsnd : (vs.zip ds).map (·.2) = ds := List.map_snd_zip (by omega)
  have hmp : (vs.zip ds).map (fun b => toPy b.2) = ds.map toPy := by
    rw [← hsnd, List.map_map]
    rw [hsnd]
    rfl
  have hlz : (vs.zip ds).length = vs.length := by rw [List.length_zip]; omega
  refine Calls.call_function_entry PyProof.Rows.kind_sorted PyProof.Rows.plain_sorted PyProof.Rows.entry_sorted (PyProof.Rows.args_sorted1 _) ?_
  unfold Builtin.«sorted»
  refine wpAny_bind (m := checkCount "sorted" 1 1 _) (wpAny_pure ?_)
  refine wpAny_bind (PySem.W.kdu_collect (A := X.A.in1) (kdl_raw hlo hx hdt) (I.ok.hd hc) ho (by omega) fun h' tk acc hk hacc => ?_)
  have rv : Vals vs acc.toList := by
    rw [hvs]
    exact keys_vals hacc.1 hacc.2 hsz pr
  have I1 : Inv X pins σ H { s with heap := h', toks := tk } := I.kept hk
  have hal : acc.toList.length = vs.length := rv.length.symm
  refine wpAny_bind (wpAny_newList ?_ (by rw [hal, sizeLine_eq] at *; omega))
  have hoL : (h'.push (seqObj "list" acc.toList.toArray 0)).get? h'.objs.size = some (seqObj "list" acc.toList.toArray 0) := Heap.get?_push_size _ rfl
  show wpAny _ _ _ _ _ { s with heap := h'.push (seqObj "list" acc.toList.toArray 0), toks := tk }
  have hE := each_of hl rv
  have hR : PySem.W.EachIs (fun u (b : V × D) => ∃ as, Reads (h'.push (seqObj "list" acc.toList.toArray 0)) u (toPy b.2) as ∧ h'.objs.size ∉ as) acc.toList (vs.zip ds) := by
    have key : ∀ {its : List Value} {vs : List V} {ds : List D}, Vals vs its → ds.length = vs.length → (∀ i : Nat, ∀ d v, ds[i]? = some d → vs[i]? = some v → Dp X.K H v (toPy d)) → PySem.W.EachIs (fun u (b : V × D) => ∃ as, Reads (h'.push (seqObj "list" acc.toList.toArray 0)) u (toPy b.2) as ∧ h'.objs.size ∉ as) its (vs.zip ds) := by
      intro its vs ds rv
      induction rv generalizing ds with
      | nil =>
        intro hl _
        cases ds with
        | nil => exact .nil
        | cons d ds => simp at hl
      | cons r rr ih =>
        intro hl hdp
        cases ds with
        | nil => simp at hl
        | cons d ds =>
          obtain ⟨as, hrd⟩ := Dp.reads I1 (toPy d) _ _ (hdp 0 d _ rfl rfl) r
          refine .cons ⟨as, PyProof.Rows.Reads.keeps (fun _ _ => Heap.get?_push_of_some _) hrd, fun hm => Nat.lt_irrefl _ (reads_lt _ _ _ hrd _ hm)⟩ (ih (by simpa using hl) fun i d' v' e1 e2 => hdp (i + 1) d' v' (by simpa using e1) (by simpa using e2))
    exact key rv hl hdp
  refine wpAny_bind (wpAny_holding (PySem.W.list_sort_data (R := fun u (b : V × D) => RelV b.1 u) (enc := fun b : V × D => toPy b.2) (bs := vs.zip ds) (vs := acc.toList) (s := { s with heap := h'.push (seqObj "list" acc.toList.toArray 0), toks := tk }) hoL hE hR (by rw [hmp]; exact h3) (by rw [hmp]; exact h4) (by rw [hlz]; exact hzv) (fun b hb => ?_) fun out ho' eo => ?_))
  · have hb2 : b.2 ∈ ds := (List.of_mem_zip hb).2
    have := dp_depth hb2
    rw [py_depth b.2 (g.py _ hb2)]
    have : X.A.in1.units = X.A.units + 1 := Around.in1_units ..
    omega
  · obtain ⟨ep, he'⟩ := PyProof.Rows.sortedHeap_at (vs := acc.toList) (out := out.toArray) hoL
    have hv := vals_each eo
    have hperm := List.mergeSort_perm (vs.zip ds) (PySem.W.dataLe false fun b : V × D => toPy b.2)
    have hp2 := hperm.map (·.2)
    rw [hsnd] at hp2
    have hsrt : (((vs.zip ds).mergeSort (PySem.W.dataLe false fun b : V × D => toPy b.2)).map (·.2)).Pairwise leK :=
      List.pairwise_map.mpr ((PySem.W.sort_pairwise (PySem.W.sortLe_total (PyProof.Rows.listOrd PyProof.Rows.itemOrd) false fun b : V × D => PySem.W.keyToks (toPy b.2)) (vs.zip ds)).imp fun h => h)
    have hlen : (((vs.zip ds).mergeSort (PySem.W.dataLe false fun b : V × D => toPy b.2)).map (·.1)).length ≤ sizeLine := by
      rw [List.length_map, hperm.length_eq, hlz]
      exact hzv
    refine wpAny_pure ⟨_, rfl, .ref h'.objs.size, upd H h'.objs.size (.lst _), I1.laid (t' := tk) (fun b u e => ?_) (Nat.le_refl _) ⟨hlen, out, ep, hv, he'⟩, rfl, q _ hperm (sorted_is g hp2 hsrt) _ (I1.hok.fresh (Nat.le_refl _))⟩
    have hb : b < h'.objs.size := Heap.lt_size e
    rw [PyProof.Rows.sortedHeap_old (Nat.ne_of_lt hb) (by rw [size_push']; exact Nat.lt_succ_of_lt hb)]
    exact Heap.get?_push_of_some _ e
theorem rps_zip {K : PySem.W.Frag} {H : Hp} {T : Addr → Prop} {m : List Addr} : ∀ {ps : List (V × D)}, (∀ b ∈ ps, Rp K H T m b.2 b.1) → Rps K H T m (ps.map (·.2)) (ps.map (·.1))
  | [], _ => .nil
  | b :: ps, h => .cons (h b (List.mem_cons_self ..)) (rps_zip fun c hc => h c (List.mem_cons_of_mem _ hc))
theorem zip_rp {K : PySem.W.Frag} {H : Hp} {T : Addr → Prop} {m : List Addr} : ∀ {ds : List D} {vs : List V}, Rps K H T m ds vs → ∀ b ∈ vs.zip ds, Rp K H T m b.2 b.1
  | _, _, .nil, b, hb => by simp at hb
  | _, _, .cons r rr, b, hb => by
    rcases List.mem_cons.mp hb with e | hb
    · rw [e]
      exact r
    · exact zip_rp rr b hb
theorem k_sorted (h : XOk Γ Φ k sc X) : BltOkL X .sorted (.builtin "sorted") := fun ds S1 d hd => by
  match hv : vws S1 ds with
  | [] => rw [hv] at hd; cases hd
  | x :: y :: r => rw [hv] at hd; cases x <;> cases hd
  | [x] =>
    rw [hv] at hd
    obtain ⟨e, rfl, hx⟩ := vws_one hv
    cases x <;> first | (exfalso; cases hd; done) | skip
    case dic t l =>
      have hd : (if sortable (l.map (·.1)) && decide (l.length ≤ LIM) then some (D.lst (sortD (l.map (·.1)))) else none) = some d := hd
      split at hd
      · rename_i hcc
        simp only [Bool.and_eq_true] at hcc
        have hc := hcc.1
        cases hd
        refine ⟨_, _, rfl, cr_sortedDic h.hu h.calm, fun H2 m2 F vs Q s r q => ?_⟩
        obtain ⟨v, rfl, rv⟩ := rps_one r
        obtain ⟨rfl, a, es, rfl, t, rs⟩ := vw_dic s rv hx
        obtain ⟨g, h1, _⟩ := sortable_good hc
        refine ⟨a, es, es.map (·.2.1), l.map (·.1), rfl, t, rfl, rs.ks.length, fun i d v e1 e2 => ?_, hc, fun ps hp e p hp0 => ?_⟩
        · obtain ⟨v', e3, r'⟩ := rs.ks.get e1
          rw [e2] at e3
          cases e3
          exact r'.dp (g.py d (List.mem_of_getElem? e1))
        · have := rps_zip (ps := ps) (fun b hb => zip_rp rs.ks b (hp.mem_iff.mp hb))
          rw [e] at this
          exact FinF.new q Ex.refl s this hp0
      · cases hd
    rename_i l
    have hd : (if sortable l then some (D.lst (sortD l)) else none) = some d := hd
    split at hd
    · rename_i hc
      cases hd
      refine ⟨_, _, rfl, cr_sortedD h.hu, fun H2 m2 F vs Q s r q => ?_⟩
      obtain ⟨v, rfl, rv⟩ := rps_one r
      obtain ⟨a, xs, rfl, t, rs⟩ := vw_lst s rv hx
      obtain ⟨g, h1, _⟩ := sortable_good hc
      refine ⟨a, xs, l, rfl, t, rs.length, fun i d v e1 e2 => ?_, hc, fun ps hp e p hp0 => ?_⟩
      · obtain ⟨v', e3, r'⟩ := rs.get e1
        rw [e2] at e3
        cases e3
        exact r'.dp (g.py d (List.mem_of_getElem? e1))
      · have := rps_zip (ps := ps) (fun b hb => zip_rp rs b (hp.mem_iff.mp hb))
        rw [e] at this
        exact FinF.new q Ex.refl s this hp0
    · cases hd
end
end NG
end

section
set_option autoImplicit false
set_option maxRecDepth 100000
set_option maxHeartbeats 4000000
namespace NG
open PySem PySem.Spec PyProof.Rows L2
variable [HasW]
section
variable {Γ : GL} {Φ : Phi} {k : Nat} {sc : SC} {X : Cx}
/-! ## isinstance -/
def tyS : Ty → String
  | .int => "int"
  | .bool => "bool"
  | .str => "str"
  | .tuple => "tuple"
  | .list => "list"
theorem boot_ty : ∀ t : Ty, bootBuiltins (tyNm t) = some (.type (tyS t))
  | .int => boot_int
  | .bool => boot_bool
  | .str => boot_str
  | .tuple => boot_tuple
  | .list => boot_list
theorem tyNm_ok : ∀ t : Ty, tyNm t ≠ "__name__" ∧ (tyNm t == ("__debug__" : Str)) = false
  | .int => ⟨by decide, by decide⟩
  | .bool => ⟨by decide, by decide⟩
  | .str => ⟨by decide, by decide⟩
  | .tuple => ⟨by decide, by decide⟩
  | .list => ⟨by decide, by decide⟩
theorem kit_non {K : PySem.W.Frag} : ∀ t : Ty, PySem.W.kitOne K (.type "NoneType") (.type (tyS t)) = some false := by intro t; cases t <;> kernel_rfl
theorem kit_bool {K : PySem.W.Frag} : ∀ t : Ty, PySem.W.kitOne K (.type "bool") (.type (tyS t)) = some (t == .int || t == .bool) := by intro t; cases t <;> kernel_rfl
theorem kit_int {K : PySem.W.Frag} : ∀ t : Ty, PySem.W.kitOne K (.type "int") (.type (tyS t)) = some (t == .int) := by intro t; cases t <;> kernel_rfl
theorem kit_str {K : PySem.W.Frag} : ∀ t : Ty, PySem.W.kitOne K (.type "str") (.type (tyS t)) = some (t == .str) := by intro t; cases t <;> kernel_rfl
theorem kit_tup {K : PySem.W.Frag} : ∀ t : Ty, PySem.W.kitOne K (.type "tuple") (.type (tyS t)) = some (t == .tuple) := by intro t; cases t <;> kernel_rfl
theorem kit_lst {K : PySem.W.Frag} : ∀ t : Ty, PySem.W.kitOne K (.type "list") (.type (tyS t)) = some (t == .list) := by intro t; cases t <;> kernel_rfl
theorem kit_dict {K : PySem.W.Frag} : ∀ t : Ty, PySem.W.kitOne K (.type "dict") (.type (tyS t)) = some false := by intro t; cases t <;> kernel_rfl
theorem tyx_of {K : PySem.W.Frag} {H : Hp} {F : Addr → Prop} {m : List Addr} {S : Store} {d : D} {v : V} {t : Ty} {b : Bool} (s : Sto K H F m S) (r : Rp K H (Tk F m S) m d v) (h : isInst t (vw S d) = some b) : ∃ u, TyX K H v u ∧ PySem.W.kitOne K u (.type (tyS t)) = some b := by
  cases hx : vw S d <;> rw [hx] at h <;> first | (exfalso; cases h; done) | skip
  · cases h
    rw [vw_non r hx]
    exact ⟨_, .base .non, kit_non t⟩
  · cases h
    rw [vw_bl r hx]
    exact ⟨_, .base (.bl _), kit_bool t⟩
  · cases h
    rw [vw_int r hx]
    exact ⟨_, .base (.int _), kit_int t⟩
  · cases h
    rw [vw_str r hx]
    exact ⟨_, .base (.str _), kit_str t⟩
  · cases h
    obtain ⟨a, xs, rfl, tt, rs⟩ := vw_tup r hx
    rcases tt with ⟨tt, _⟩ | ⟨o, its, n, h1, h2, _⟩
    · rcases tt with e | ⟨o, e⟩
      · exact ⟨_, .base (.tup e), kit_tup t⟩
      · exact ⟨_, .fTuple e, kit_tup t⟩
    · exact ⟨_, .kTuple h1 h2, kit_tup t⟩
  · cases h
    obtain ⟨a, xs, rfl, tt, rs⟩ := vw_lst s r hx
    rcases tt with e | ⟨o, e⟩
    · exact ⟨_, .base (.lst e), kit_lst t⟩
    · exact ⟨_, .base (.frz e), kit_lst t⟩
  · have e := vw_ne_ref hx ⟨(fun z => by cases z), (fun _ z => by cases z), fun _ _ z => by cases z⟩
    subst e
    cases r with
    | opq h1 h2 =>
      cases h
      exact ⟨_, .base (.dK h1), kit_dict t⟩
theorem pe_ty {t : Ty} {p : Pos} (hg : Gl X (tyNm t)) (hm : X.mg (tyNm t) = none) : PE X (.Name (tyNm t) p) (fun σ H Q => Q (.ty (tyS t)) H) :=
  ⟨fun pins s σ H Q I h => ld_blt I hg hm (boot_ty t) ⟨V.ty (tyS t), H, I, rfl, h⟩ (tyNm_ok t).1 (tyNm_ok t).2⟩
theorem s_isinst (h : XOk Γ Φ k sc X) {t : Ty} {ea : Expr} {p p2 pos : Pos} {c : CE} (hg : Gl X "isinstance") (hm : X.mg "isinstance" = none) (hg2 : Gl X (tyNm t)) (hm2 : X.mg (tyNm t) = none) (ha : PE X ea (tE Φ X.K c)) (hs : noStar [ea] = true) :
    PE X (.Call (.Name "isinstance" p) [ea, .Name (tyNm t) p2] [] pos) (tE Φ X.K (.blt (.isinst t) [c])) :=
  PE.pick fun σ H Q ⟨F, m, S, ρ, d, S1, s, en, hev, q⟩ => by
    simp only [evE, evEs] at hev
    obtain ⟨ds, S2, h1, hev⟩ := R.bind_ok hev
    obtain ⟨x, S3, h1, h1'⟩ := R.bind_ok h1
    cases h1'
    obtain ⟨h2, rfl⟩ := lift_ok hev
    have h2 : (isInst t (vw S1 x)).map D.bl = some d := h2
    obtain ⟨b, hb, rfl⟩ := Option.map_eq_some_iff.mp h2
    have he : starEach [ea, .Name (tyNm t) p2] X.env = (false, eval ea X.env) :: starEach [.Name (tyNm t) p2] X.env := by
      cases ea <;> first | rfl | (simp [noStar] at hs)
    refine ⟨_, pe_callB call_isi hg hm boot_isinstance (pa_cons ha (pa_cons (pe_ty hg2 hm2) pa_nil rfl) he) (by decide) (by decide) he rfl, ?_⟩
    refine tE_one s en h1 fun v H1 m1 ex s1 e1 r1 => ?_
    obtain ⟨u, hu, hk⟩ := tyx_of s1 r1 hb
    exact ⟨v, .ty (tyS t), u, .type (tyS t), b, rfl, .ty _, hu, hk, q _ H1 m1 ex s1 (.bl b)⟩
/-! ## list(range(..)) -/
theorem prg_t1 {ea : Expr} {p pos : Pos} {c : CE} (hg : Gl X "range") (hm : X.mg "range" = none) (ha : PE X ea (tE Φ X.K c)) (hs : noStar [ea] = true) : PRg X (.Call (.Name "range" p) [ea] [] pos) (tRg1 (tE Φ X.K c)) := prg_1 hg hm ha (star_cons hs).1
theorem rgV_rps {K : PySem.W.Frag} {H : Hp} {T : Addr → Prop} {m : List Addr} (a b : Int) : Rps K H T m (rngL a (b - a).toNat) (rgV a b) := by
  have f : ∀ (n : Nat) (g : Nat → Int) (lo : Int), (∀ i, g i = lo + (i : Int)) → Rps K H T m (rngL lo n) ((List.range n).map fun i => V.int (g i)) := by
    intro n
    induction n with
    | zero => intro g lo hg; exact .nil
    | succ n ih =>
      intro g lo hg
      rw [List.range_succ_eq_map, List.map_cons, List.map_map, rngL]
      refine .cons (by rw [hg 0]; simp; exact .int lo) ?_
      exact ih (g ∘ Nat.succ) (lo + 1) fun i => by
        show g (i + 1) = _
        rw [hg]
        omega
  exact f _ (fun i => a + (i : Int)) a fun i => rfl
theorem isL_listRng {args : List CE} : isL Φ (.blt .listRng args) := fun ρ S d S1 h => by
  simp only [evE] at h
  obtain ⟨ds, S2, ha, h⟩ := R.bind_ok h
  obtain ⟨h, _⟩ := lift_ok h
  generalize vws S2 ds = l at h
  match l, h with
  | [], h => cases h
  | [x], h =>
    cases x <;> first | (cases h; done) | skip
    rename_i n
    have h : (if -(LIM : Int) ≤ n ∧ n ≤ LIM then some (D.lst (rngL 0 n.toNat)) else none) = some d := h
    split at h
    · cases h
      exact ⟨_, rfl⟩
    · cases h
  | [x, y], h =>
    cases x <;> first | (cases h; done) | skip
    cases y <;> first | (cases h; done) | skip
    rename_i a b
    have h : (if -(LIM : Int) ≤ a ∧ a ≤ LIM ∧ -(LIM : Int) ≤ b ∧ b ≤ LIM ∧ b - a ≤ LIM then some (D.lst (rngL a (b - a).toNat)) else none) = some d := h
    split at h
    · cases h
      exact ⟨_, rfl⟩
    · cases h
  | x :: y :: z :: r, h => cases x <;> first | (cases h; done) | (cases y <;> cases h)
theorem f_listRng1 {ea : Expr} {p p2 pos pos2 : Pos} {c : CE} (hc : X.calm = true) (hg : Gl X "list") (hm : X.mg "list" = none) (hg2 : Gl X "range") (hm2 : X.mg "range" = none) (ha : PE X ea (tE Φ X.K c)) (hs : noStar [ea] = true) :
    PE X (.Call (.Name "list" p) [.Call (.Name "range" p2) [ea] [] pos2] [] pos) (tF Φ X.K (.blt .listRng [c])) :=
  PE.pick fun σ H Q ⟨F, m, S, ρ, l, S1, s, en, hev, q⟩ => by
    simp only [evE, evEs] at hev
    obtain ⟨ds, S2, h1, hev⟩ := R.bind_ok hev
    obtain ⟨x, S3, h1, h1'⟩ := R.bind_ok h1
    cases h1'
    obtain ⟨h2, rfl⟩ := lift_ok hev
    refine ⟨_, pe_listRg hc hg hm (prg_t1 hg2 hm2 ha hs) rfl, ?_⟩
    have h2 : bltE .listRng [vw S1 x] = some (D.lst l) := h2
    cases hx : vw S1 x <;> rw [hx] at h2 <;> first | (exfalso; cases h2; done) | skip
    rename_i n
    have h2 : (if -(LIM : Int) ≤ n ∧ n ≤ LIM then some (D.lst (rngL 0 n.toNat)) else none) = some (D.lst l) := h2
    split at h2
    · rename_i hn
      cases h2
      have hL : (LIM : Int) = 16777216 := rfl
      refine tE_one s en h1 fun v H1 m1 ex s1 e1 r1 => ⟨n, vw_int r1 hx, ⟨by omega, by omega, by omega, by omega, by omega⟩, fun qa hq => ?_⟩
      have := rgV_rps (K := X.K) (H := H1) (T := Tk F m1 S1) (m := m1) 0 n
      rw [show (n - 0).toNat = n.toNat by omega] at this
      exact FinF.new q ex s1 this hq
    · cases h2
theorem prg_t2 {ea eb : Expr} {p pos : Pos} {c c' : CE} (hg : Gl X "range") (hm : X.mg "range" = none) (ha : PE X ea (tE Φ X.K c)) (hb : PE X eb (tE Φ X.K c')) (hs : noStar [ea, eb] = true) : PRg X (.Call (.Name "range" p) [ea, eb] [] pos) (tRg2 (tE Φ X.K c) (tE Φ X.K c')) :=
  prg_2 hg hm ha hb (star_cons hs).1 (star_cons (star_cons (env := X.env) hs).2).1 (star_any (star_cons (env := X.env) hs).2)
theorem f_listRng2 {ea eb : Expr} {p p2 pos pos2 : Pos} {c c' : CE} (hc : X.calm = true) (hg : Gl X "list") (hm : X.mg "list" = none) (hg2 : Gl X "range") (hm2 : X.mg "range" = none) (ha : PE X ea (tE Φ X.K c)) (hb : PE X eb (tE Φ X.K c')) (hs : noStar [ea, eb] = true) :
    PE X (.Call (.Name "list" p) [.Call (.Name "range" p2) [ea, eb] [] pos2] [] pos) (tF Φ X.K (.blt .listRng [c, c'])) :=
  PE.pick fun σ H Q ⟨F, m, S, ρ, l, S1, s, en, hev, q⟩ => by
    simp only [evE, evEs] at hev
    obtain ⟨ds, S2, h0, hev⟩ := R.bind_ok hev
    obtain ⟨x, S3, h1, h1'⟩ := R.bind_ok h0
    obtain ⟨ds', S4, h3, h1'⟩ := R.bind_ok h1'
    obtain ⟨y, S5, h3, h3'⟩ := R.bind_ok h3
    cases h3'
    cases h1'
    obtain ⟨h2, rfl⟩ := lift_ok hev
    refine ⟨_, pe_listRg hc hg hm (prg_t2 hg2 hm2 ha hb hs) rfl, ?_⟩
    have h2 : bltE .listRng [vw S1 x, vw S1 y] = some (D.lst l) := h2
    cases hx : vw S1 x <;> cases hy : vw S1 y <;> rw [hx, hy] at h2 <;> first | (exfalso; cases h2; done) | skip
    rename_i a b
    have h2 : (if -(LIM : Int) ≤ a ∧ a ≤ LIM ∧ -(LIM : Int) ≤ b ∧ b ≤ LIM ∧ b - a ≤ LIM then some (D.lst (rngL a (b - a).toNat)) else none) = some (D.lst l) := h2
    split at h2
    · rename_i hn
      cases h2
      have hL : (LIM : Int) = 16777216 := rfl
      refine tE_two s en h1 h3 fun v w H2 m2 ex s2 e2 r1 r2 => ⟨a, b, vw_int r1 hx, vw_int r2 hy, ⟨by omega, by omega, by omega, by omega, by omega⟩, fun qa hq => ?_⟩
      exact FinF.new q ex s2 (rgV_rps a b) hq
    · cases h2
/-! ## methods that only look -/
theorem cntD_map (x : D) : ∀ l : List D, cntD x l = l.countP fun y => deq y x
  | [] => rfl
  | y :: ys => by
    rw [cntD, cntD_map x ys, List.countP_cons]
    omega
theorem at_one (l : List Nat) (c i : Nat) : StrLaws.At (toStr l) (toStr [c]) (toStr l).length i ↔ l[i]? = some c := StrLaws.subAt_one (toStr l) c i
theorem occ_one (l : List Nat) (c : Nat) {j : Nat} (h : l.idxOf? c = some j) : ∃ r, Builtin.Str.occurrences (toStr l) (toStr [c]) 0 (toStr l).length 1 = j :: r := by
  have hj : l[j]? = some c ∧ ∀ i, i < j → l[i]? ≠ some c := by
    rw [List.idxOf?, List.findIdx?_eq_some_iff_getElem] at h
    obtain ⟨h1, h2, h3⟩ := h
    refine ⟨by rw [List.getElem?_eq_getElem h1, eq_of_beq h2], fun i hi z => ?_⟩
    have := h3 i hi
    rw [List.getElem?_eq_getElem (by omega)] at z
    cases z
    simp at this
  rcases StrLaws.occ_head (toStr l) (toStr [c]) 1 (Nat.le_refl _) with ⟨_, hn⟩ | ⟨i, r, e, h1, h2⟩
  · exact absurd ((at_one l c j).mpr hj.1) (hn j)
  · have h1' := (at_one l c i).mp h1
    have : i = j := by
      rcases Nat.lt_trichotomy i j with z | z | z
      · exact absurd h1' (hj.2 i z)
      · exact z
      · exact absurd ((at_one l c j).mpr hj.1) (h2 j z)
    subst this
    exact ⟨r, e⟩
/-- the method, where the receiver is a text -/
theorem s_sidx {eo e : Expr} {o c : CE} {apos pos : Pos} (ho : PE X eo (tE Φ X.K o)) (he : PE X e (tE Φ X.K c)) (hb : notCall eo = true) (hl : apos.endLine = pos.line) (hs : noStar [e] = true) {σ : L2.St} {H : Hp} {Q : VK} {F : Addr → Prop} {m : List Addr} {S S1 S2 : Store} {ρ : Env} {z : List Nat} {y : Nat} {j : Nat}
    (s : Sto X.K H F m S) (en : EnvR X.K H (Tk F m S) m ρ σ) (h1 : evE Φ o ρ S = .ok (.str z) S1) (h2 : evE Φ c ρ S1 = .ok (.str [y]) S2) (hj : z.idxOf? y = some j) (q : Fin X.K H F m S S2 (.int (j : Nat)) Q) :
    ∃ t', PE X (.Call (.Attribute eo "index" apos) [e] [] pos) t' ∧ t' σ H Q := by
  obtain ⟨r, hr⟩ := occ_one z y hj
  refine ⟨_, pe_bm PySem.F.plainAttrs_str PySem.F.slot_str_index PySem.F.type_str_index mt_sindex ho (pa_cons he pa_nil (star_cons hs).1) (base_ok hb) (by rw [star_all hs]; rfl) (by rw [hl]; exact beq_self_eq_true _) (star_cons hs).1 rfl, ?_⟩
  refine tE_one s en h1 fun v H1 m1 ex1 s1 en1 r1 => ?_
  rw [rp_str r1]
  refine ⟨rfl, ?_⟩
  refine tE_one s1 en1 h2 fun w H2 m2 ex2 s2 en2 r2 => ?_
  rw [rp_str r2]
  exact ⟨toStr z, toStr [y], j, r, rfl, rfl, hr, q _ H2 m2 (ex1.trans ex2) s2 (.int _)⟩
theorem cnt_count (y : Nat) : ∀ z : List Nat, cnt y z = ((z.count y : Nat) : Int)
  | [] => rfl
  | a :: z => by
    rw [cnt_cons, cnt_count y z, List.count_cons]
    by_cases e : a = y
    · simp [e]; omega
    · simp [e]
theorem s_scount {eo e : Expr} {o c : CE} {apos pos : Pos} (ho : PE X eo (tE Φ X.K o)) (he : PE X e (tE Φ X.K c)) (hb : notCall eo = true) (hl : apos.endLine = pos.line) (hs : noStar [e] = true) {σ : L2.St} {H : Hp} {Q : VK} {F : Addr → Prop} {m : List Addr} {S S1 S2 : Store} {ρ : Env} {z : List Nat} {y : Nat}
    (s : Sto X.K H F m S) (en : EnvR X.K H (Tk F m S) m ρ σ) (h1 : evE Φ o ρ S = .ok (.str z) S1) (h2 : evE Φ c ρ S1 = .ok (.str [y]) S2) (q : Fin X.K H F m S S2 (.int ((z.count y : Nat) : Int)) Q) :
    ∃ t', PE X (.Call (.Attribute eo "count" apos) [e] [] pos) t' ∧ t' σ H Q := by
  refine ⟨_, pe_bm PySem.F.plainAttrs_str PySem.F.slot_str_count PySem.F.type_str_count mt_count ho (pa_cons he pa_nil (star_cons hs).1) (base_ok hb) (by rw [star_all hs]; rfl) (by rw [hl]; exact beq_self_eq_true _) (star_cons hs).1 rfl, ?_⟩
  refine tE_one s en h1 fun v H1 m1 ex1 s1 en1 r1 => ?_
  rw [rp_str r1]
  refine ⟨rfl, ?_⟩
  refine tE_one s1 en1 h2 fun w H2 m2 ex2 s2 en2 r2 => ?_
  rw [rp_str r2]
  refine ⟨toStr z, toStr [y], rfl, rfl, ?_⟩
  have : Txt.count (toStr z) (toStr [y]) = ((z.count y : Nat) : Int) := by
    have h : Txt.count (toStr z) (toStr [y]) = cnt y z := count_is (toStr z) y
    rw [h, cnt_count]
  rw [this]
  exact q _ H2 m2 (ex1.trans ex2) s2 (.int _)
theorem dfind_ok (x : D) (hx : isPy x = true) : ∀ {l : List D} {j : Nat}, arePy l = true → dfind x l = some j → ∃ z, (toPys l)[j]? = some z ∧ PyData.eqv z (toPy x) = true ∧ ∀ (i : Nat) (z' : PyData), i < j → (toPys l)[i]? = some z' → PyData.eqv z' (toPy x) = false
  | [], j, _, h => by cases h
  | y :: ys, j, hl, h => by
    simp only [arePy, Bool.and_eq_true] at hl
    simp only [dfind] at h
    split at h
    · rename_i hd
      cases h
      refine ⟨toPy y, rfl, by rw [eqv_deq y x hl.1 hx]; exact hd, fun i z' hi => by omega⟩
    · rename_i hd
      obtain ⟨i, hi, rfl⟩ := Option.map_eq_some_iff.mp h
      obtain ⟨z, h1, h2, h3⟩ := dfind_ok x hx hl.2 hi
      refine ⟨z, h1, h2, fun i' z' hi' he => ?_⟩
      cases i' with
      | zero =>
        have : toPy y = z' := by simpa [toPys] using he
        rw [← this, eqv_deq y x hl.1 hx]
        simpa using hd
      | succ i' => exact h3 i' z' (by omega) he
theorem s_lidx (h : XOk Γ Φ k sc X) {eo e : Expr} {o c : CE} {apos pos : Pos} (ho : PE X eo (tE Φ X.K o)) (he : PE X e (tE Φ X.K c)) (hb : notCall eo = true) (hl : apos.endLine = pos.line) (hs : noStar [e] = true) {σ : L2.St} {H : Hp} {Q : VK} {F : Addr → Prop} {m : List Addr} {S S1 S2 : Store} {ρ : Env} {d x : D} {l : List D} {j : Nat}
    (s : Sto X.K H F m S) (en : EnvR X.K H (Tk F m S) m ρ σ) (h1 : evE Φ o ρ S = .ok d S1) (h2 : evE Φ c ρ S1 = .ok x S2) (hd : vw S2 d = .lst l) (hd1 : ∃ l', vw S1 d = .lst l') (hpx : isPy (vw S2 x) = true) (hpl : arePy l = true) (hdx : ddepth (vw S2 x) ≤ 60) (hdl : ddepths l ≤ 60) (hj : dfind (vw S2 x) l = some j) (q : Fin X.K H F m S S2 (.int (j : Nat)) Q) :
    ∃ t', PE X (.Call (.Attribute eo "index" apos) [e] [] pos) t' ∧ t' σ H Q := by
  have hu := h.hu
  refine ⟨_, pe_bm PySem.F.plainAttrs_list PySem.F.slot_list_index PySem.F.type_list_index (mt_indexD (by omega)) ho (pa_cons he pa_nil (star_cons hs).1) (base_ok hb) (by rw [star_all hs]; rfl) (by rw [hl]; exact beq_self_eq_true _) (star_cons hs).1 rfl, ?_⟩
  refine tE_one s en h1 fun v H1 m1 ex1 s1 en1 r1 => ?_
  obtain ⟨l', hl'⟩ := hd1
  obtain ⟨a, xs, rfl, t, rs⟩ := vw_lst s1 r1 hl'
  refine ⟨.inl ⟨rfl, xs, sqL_of_rd t⟩, ?_⟩
  refine tE_one s1 en1 h2 fun w H2 m2 ex2 s2 en2 r2 => ?_
  have r1' := r1.mono ex2.lt
  obtain ⟨a', xs', e', t', rs'⟩ := vw_lst s2 r1' hd
  cases e'
  obtain ⟨z, g1, g2, g3⟩ := dfind_ok _ hpx hpl hj
  have hdp := (vw_dpl s2 r1' hpl).1 hd
  exact ⟨a, w, toPy (vw S2 x), toPys l, j, z, rfl, rfl, hdp, vw_dp s2 r2 hpx, py_shapeds hpl hdl, py_shaped hpx hdx, g1, g2, g3, q _ H2 m2 (ex1.trans ex2) s2 (.int _)⟩
theorem strs_of {K : PySem.W.Frag} {H : Hp} {T : Addr → Prop} {m : List Addr} : ∀ {l : List D} {xs : List V} {ss : List (List Nat)}, areStrs l = some ss → Rps K H T m l xs → xs = (ss.map toStr).map V.str ∧ l = ss.map D.str
  | [], _, _, h, .nil => by
    cases h
    exact ⟨rfl, rfl⟩
  | d :: l, _, ss, h, .cons a b => by
    cases d <;> first | (exfalso; simp [areStrs] at h; done) | skip
    simp only [areStrs] at h
    obtain ⟨js, hj, rfl⟩ := Option.map_eq_some_iff.mp h
    obtain ⟨rfl, rfl⟩ := strs_of hj b
    cases a
    exact ⟨rfl, rfl⟩
theorem txt_join (sep : List Nat) (ss : List (List Nat)) : Txt.join (toStr sep) (ss.map toStr) = toStr (joinS sep ss) := by
  show Builtin.Str.glued (toStr sep) (ss.map toStr) = _
  rw [StrLaws.glued_eq_join, join_toStr]
theorem s_join {eo e : Expr} {o c : CE} {apos pos : Pos} (ho : PE X eo (tE Φ X.K o)) (he : PE X e (tE Φ X.K c)) (hb : notCall eo = true) (hl : apos.endLine = pos.line) (hs : noStar [e] = true) {σ : L2.St} {H : Hp} {Q : VK} {F : Addr → Prop} {m : List Addr} {S S1 S2 : Store} {ρ : Env} {z : List Nat} {x : D} {l : List D} {ss : List (List Nat)}
    (s : Sto X.K H F m S) (en : EnvR X.K H (Tk F m S) m ρ σ) (h1 : evE Φ o ρ S = .ok (.str z) S1) (h2 : evE Φ c ρ S1 = .ok x S2) (hx : seqOf (vw S2 x) = some l) (hss : areStrs l = some ss) (hz : (ss.map List.length).sum + z.length * ss.length ≤ LIM) (q : Fin X.K H F m S S2 (.str (joinS z ss)) Q) :
    ∃ t', PE X (.Call (.Attribute eo "join" apos) [e] [] pos) t' ∧ t' σ H Q := by
  refine ⟨_, pe_bm PySem.F.plainAttrs_str PySem.F.slot_str_join PySem.F.type_str_join mt_join ho (pa_cons he pa_nil (star_cons hs).1) (base_ok hb) (by rw [star_all hs]; rfl) (by rw [hl]; exact beq_self_eq_true _) (star_cons hs).1 rfl, ?_⟩
  refine tE_one s en h1 fun v H1 m1 ex1 s1 en1 r1 => ?_
  rw [rp_str r1]
  refine ⟨rfl, ?_⟩
  refine tE_one s1 en1 h2 fun w H2 m2 ex2 s2 en2 r2 => ?_
  obtain ⟨a, xs, rfl, t, rs⟩ := seqOf_at s2 r2 hx
  obtain ⟨rfl, rfl⟩ := strs_of hss rs
  refine ⟨toStr z, a, ss.map toStr, rfl, rfl, t, ?_, ?_⟩
  · have e1 : (ss.map toStr).map (·.length) = ss.map List.length := by
      rw [List.map_map]
      congr 1
    rw [e1, List.length_map, toStr_len, Nat.mul_comm]
    exact hz
  · rw [txt_join]
    exact q _ H2 m2 (ex1.trans ex2) s2 (.str _)
end
end NG
end

section
set_option autoImplicit false
set_option maxRecDepth 100000
set_option maxHeartbeats 4000000
namespace NG
open PySem PySem.Spec PyProof.Rows L2
variable [HasW]
/-- a new set -/
abbrev setO (w : World) : Obj := { cls := .type "set", dict := none, data := .set #[] 0 (.fresh 0 0 (!w.params.followText "set-order")) }
abbrev seH (w : World) (h : Heap) : Heap := h.push (setO w)
section
variable {P : Program} {w : World} {A : Around} {E : Value → Shared → Prop} {s : Shared}
theorem call_set_lstI {l : Addr} {arr : Array Value} (js : List Int) {Q : Value → Shared → Prop} (noH : A.handled = none) (isL0 : s.heap.IsList l arr) (intsA : IntsAre arr.toList js) (fewB : js.length + 1 < scanBound)
    (h : ∀ (h' : Heap) (tk c : Nat), SetR w h' s.heap.objs.size (fun j => decide (j ∈ js)) c → c ≤ js.length → (∀ b o, s.heap.get? b = some o → h'.get? b = some o) → Q (.ref s.heap.objs.size) { s with heap := h', toks := tk }) :
    wpAny (model P w) A (call (.type "set") [.ref l]) Q E s := by
  have sizeEq : arr.size = js.length := by
    have q := IntsAre.length intsA
    rw [Array.length_toList] at q
    exact q
  obtain ⟨c, tl, mroS⟩ := F.called_set.mro
  have madeS := F.called_set.made
  have subS := F.called_set.sub
  refine wpAny_call (codeAny_of_tree ?_)
  show wpAny _ _ (callAny (.type "set") _) _ _ _
  refine wpAny_pure ⟨Code.quiet_builtin _ (by decide +kernel), codeAny_builtin F.entry_type_call ?_⟩
  rw [Around.under_plain (weight_type_call_type "set" [.ref l] []) rfl]
  have notTy := F.called_set.notType
  have canCr := F.called_set.canCreate
  have tcS := F.typeCall_set_1 (.ref l)
  repeat (any_goals (first | assumption | wp_step))

  refine codeAny_mono (code_set_led1 (.ref l) (E := E) (Q₁ := fun obj st1 => obj = .ref s.heap.objs.size ∧ st1 = { s with heap := seH w s.heap }) ⟨rfl, rfl⟩) fun r st1 res1 => ?_
  cases r with
  | error e => exact res1
  | ok flow1 =>
    cases flow1 with
    | ret obj =>
      obtain ⟨rfl, rfl⟩ := res1
      have atS : (seH w s.heap).get? s.heap.objs.size = some (setO w) := Heap.get?_push_size _ rfl
      have tyS1 : Shared.TypeIs { s with heap := seH w s.heap } (.ref s.heap.objs.size) "set" := ⟨_, atS, rfl⟩
      have lkS := F.called_set.init.lookup
      have bdS := F.called_set.init.bind (.ref s.heap.objs.size)
      repeat (any_goals (first | assumption | wp_step))

      refine codeAny_mono (codeAny_call_builtin (R := wants (fun r st2 => r = .none ∧ ∃ h' tk c, st2 = { s with heap := h', toks := tk } ∧ SetR w h' s.heap.objs.size (fun j => decide (j ∈ js)) c ∧ c ≤ js.length ∧
          (∀ b o, s.heap.get? b = some o → h'.get? b = some o)) E) F.called_set.init.plain F.entry_set_init (check_set_init_1 tyS1 ?_)) fun out2 st2 res2 => ?_
      · obtain ⟨ol, lookL, clsL, nl, datL⟩ := isL0
        obtain ⟨ocls, odict, odata, oslots⟩ := ol
        simp only at clsL datL
        subst clsL; subst datL
        have look2 : (seH w s.heap).get? l = some { cls := .type "list", dict := odict, data := .seq arr nl, slots := oslots } := Heap.get?_push_of_some _ lookL
        have subA := F.sub_list_set
        have subB := F.sub_list_frozenset
        have neD : (Value.type "list" == Value.type "dict") = false := by decide
        have lst1 : (seH w s.heap).IsList l arr := ⟨_, look2, rfl, nl, rfl⟩
        unfold Builtin.«set.__init__» noKeywords Builtin.Frozenset.updateFrom
        generalize ePI : pyIter = PI
        wp_walk
        subst ePI

        refine wpAny_pyIter_list lst1 ?_
        refine wpAny_bind (wpAny_runValue ?_)
        have ltS : l < s.heap.objs.size := Heap.lt_size lookL
        have hand3 : A.in1.in1.in1.handled = none := by simp [noH]
        have hz1 : (seH w s.heap).objs.size = s.heap.objs.size + 1 := Heap.size_push ..
        have neI : l ≠ (seH w s.heap).objs.size := by
          rw [Heap.size_push]; exact Nat.ne_of_lt (Nat.lt_succ_of_lt ltS)
        have offS : s.heap.objs.size ∉ [(seH w s.heap).objs.size, l] := by
          rw [Heap.size_push]; simp only [List.mem_cons, List.mem_singleton, List.not_mem_nil, or_false, not_or]
          exact ⟨Nat.ne_of_lt (Nat.lt_succ_self _), Nat.ne_of_gt ltS⟩
        have valAt : ∀ (i : Nat) (v : Value), arr[i]? = some v → ∃ k t, js[i]? = some k ∧ v = .int k t := fun i v hv => by
          have hi : i < js.length := by rw [← sizeEq]; exact (Array.getElem?_eq_some_iff.mp hv).1
          obtain ⟨t, e⟩ := PyProof.Rows.IntsAre.int_at intsA i v (by rw [Array.getElem?_toList]; exact hv)
          refine ⟨js[i], t, List.getElem?_eq_getElem hi, ?_⟩
          rw [e, List.getD_eq_getElem?_getD, List.getElem?_eq_getElem hi] <;> rfl
        refine set_update_ints ((Walks.list hand3 _ l neI arr).toS) s.heap.objs.size
          offS js sizeEq fewB valAt (arr.size - 0) 0 _ (by omega) (Nat.zero_le _)
          ⟨⟨_, Heap.get?_push_size _ rfl, rfl, rfl⟩, (lst1.push _)⟩ ?hS0 ?hR
        case hS0 =>
          have getS : ((seH w s.heap).push { cls := .type "list_iterator", data := .fields #[.ref l, .int 0 0] }).get? s.heap.objs.size
              = some (setO w) := Heap.get?_push_of_some _ atS
          exact ⟨0, Nat.le_refl 0, setR_new_at getS⟩
        case hR =>
          intro s' c' hm cLe atS2
          obtain ⟨h', g2, d', tk', os'⟩ := s'
          have eGen : g2 = s.gens := hm.gens
          have eDrw : d' = s.drawn := hm.drawn
          have eOs : os' = s.os := hm.os
          subst eGen; subst eDrw; subst eOs
          show wpAny _ _ _ _ _ _
          refine wpAny_pure ?_
          show wpAny _ _ (ret Value.none) _ _ _
          rw [sizeEq] at cLe
          refine wpAny_pure ⟨rfl, h', tk', c', rfl, atS2, cLe, fun b o e => ?_⟩
          have bLt : b < s.heap.objs.size := Heap.lt_size e
          have bNe : b ≠ s.heap.objs.size := Nat.ne_of_lt bLt
          have bNe2 : b ≠ (seH w s.heap).objs.size := by
            rw [Heap.size_push]; exact Nat.ne_of_lt (Nat.lt_succ_of_lt bLt)
          exact hm.heap b o (by simp only [List.mem_cons, List.mem_singleton, List.not_mem_nil, or_false, not_or]; exact ⟨bNe, bNe2⟩) (Heap.get?_push_of_some _ (Heap.get?_push_of_some _ e))

      · cases out2 with
        | error e => exact res2
        | ok flow2 =>
          cases flow2 with
          | ret r =>
            obtain ⟨rfl, h', tk, c', rfl, atS2, cLe, keepB⟩ := res2
            repeat (any_goals (first | assumption | wp_step))
            exact h _ _ _ atS2 cLe keepB
          | _ => exact res2.elim
    | _ => exact res1.elim

end
end NG
end

section
set_option autoImplicit false
set_option maxRecDepth 100000
set_option maxHeartbeats 4000000
namespace NG
open PySem PySem.Spec PyProof.Rows L2
/-- a tuple of ints -/
abbrev tupI (k : List Int) : D := .tup (k.map D.int)
theorem deqs_ints : ∀ a b : List Int, deqs (a.map D.int) (b.map D.int) = true ↔ a = b
  | [], [] => by simp [deqs]
  | [], _ :: _ => by simp [deqs]
  | _ :: _, [] => by simp [deqs]
  | x :: a, y :: b => by
    have ih := deqs_ints a b
    simp [deqs, deq, ih]
theorem deq_tups (a b : List Int) : deq (tupI a) (tupI b) = true ↔ a = b := deqs_ints a b
theorem map_int_inj : ∀ {a b : List Int}, a.map D.int = b.map D.int → a = b
  | [], [], _ => rfl
  | [], _ :: _, h => by simp at h
  | _ :: _, [], h => by simp at h
  | x :: a, y :: b, h => by
    simp only [List.map_cons, List.cons.injEq, D.int.injEq] at h
    rw [h.1, map_int_inj h.2]
theorem tupI_inj {a b : List Int} (h : tupI a = tupI b) : a = b := by
  injection h with h
  exact map_int_inj h
theorem dedup_tups : ∀ ks : List (List Int), (dedup (ks.map tupI)).Nodup ∧ ∀ d, d ∈ dedup (ks.map tupI) ↔ d ∈ ks.map tupI
  | [] => ⟨List.nodup_nil, fun d => Iff.rfl⟩
  | k :: ks => by
    obtain ⟨h1, h2⟩ := dedup_tups ks
    simp only [List.map_cons, dedup]
    refine ⟨List.nodup_cons.mpr ⟨fun hm => ?_, h1.filter _⟩, fun d => ?_⟩
    · have := (List.mem_filter.mp hm).2
      rw [(deq_tups k k).mpr rfl] at this
      simp at this
    · rw [List.mem_cons, List.mem_cons, List.mem_filter, h2 d]
      constructor
      · rintro (e | e)
        · exact .inl e
        · exact .inr e.1
      · rintro (e | e)
        · exact .inl e
        · by_cases z : d = tupI k
          · exact .inl z
          · refine .inr ⟨e, ?_⟩
            obtain ⟨j, _, rfl⟩ := List.mem_map.mp e
            cases hd : deq (tupI k) (tupI j) with
            | false => rfl
            | true => exact absurd (by rw [(deq_tups k j).mp hd]) z
theorem tups_py : ∀ k : List Int, arePy (k.map D.int) = true
  | [] => rfl
  | x :: k => by
    show (true && arePy (k.map D.int)) = true
    rw [tups_py k]
    rfl
theorem tups_dep : ∀ k : List Int, ddepths (k.map D.int) = 0
  | [] => rfl
  | x :: k => by
    show max 0 (ddepths (k.map D.int)) = 0
    rw [tups_dep k]
    rfl
theorem tups_alike : ∀ a b : List Int, alikes (a.map D.int) (b.map D.int) = true
  | [], [] => rfl
  | [], _ :: _ => rfl
  | _ :: _, [] => rfl
  | x :: a, y :: b => by
    show (true && alikes (a.map D.int) (b.map D.int)) = true
    rw [tups_alike a b]
    rfl
theorem sortable_tups {ks : List (List Int)} (h : ∀ k ∈ ks, k ≠ []) : sortable (ks.map tupI) = true := by
  have p : ∀ ks : List (List Int), arePy (ks.map tupI) = true := by
    intro ks
    induction ks with
    | nil => rfl
    | cons k ks ih =>
      show (arePy (k.map D.int) && arePy (ks.map tupI)) = true
      rw [tups_py, ih]
      rfl
  have dd : ∀ ks : List (List Int), ddepths (ks.map tupI) ≤ 1 := by
    intro ks
    induction ks with
    | nil => exact Nat.zero_le _
    | cons k ks ih =>
      show max (ddepths (k.map D.int) + 1) (ddepths (ks.map tupI)) ≤ 1
      rw [tups_dep]
      omega
  have := dd ks
  unfold sortable
  rw [p, decide_eq_true (show ddepths (ks.map tupI) ≤ 60 by omega)]
  simp only [Bool.true_and, Bool.and_eq_true, Bool.or_eq_true]
  refine ⟨?_, .inl ?_⟩
  · rw [List.all_eq_true]
    intro x hx
    rw [List.all_eq_true]
    intro y hy
    obtain ⟨a, _, rfl⟩ := List.mem_map.mp hx
    obtain ⟨b, _, rfl⟩ := List.mem_map.mp hy
    exact tups_alike a b
  · rw [List.all_eq_true]
    intro x hx
    obtain ⟨a, ha, rfl⟩ := List.mem_map.mp hx
    rcases a with _ | ⟨y, a⟩
    · exact (h _ ha rfl).elim
    · rfl
theorem perm_map_inv {α β : Type} {f : α → β} {vs r : List β} (p : vs.Perm r) : ∀ L : List α, r = L.map f → ∃ L1 : List α, vs = L1.map f ∧ L1.Perm L := by
  induction p with
  | nil => intro L e; exact ⟨[], rfl, by rw [List.map_eq_nil_iff.mp e.symm]⟩
  | cons x _ ih =>
    intro L e
    cases L with
    | nil => simp at e
    | cons y L =>
      simp only [List.map_cons, List.cons.injEq] at e
      obtain ⟨L1, e1, p1⟩ := ih L e.2
      exact ⟨y :: L1, by rw [List.map_cons, e.1, e1], p1.cons y⟩
  | swap x y l =>
    intro L e
    match L, e with
    | a :: b :: L, e =>
      simp only [List.map_cons, List.cons.injEq] at e
      exact ⟨b :: a :: L, by simp [e.1, e.2.1, e.2.2], .swap a b L⟩
    | [_], e => simp at e
    | [], e => simp at e
  | trans _ _ ih1 ih2 =>
    intro L e
    obtain ⟨L2, e2, p2⟩ := ih2 L e
    obtain ⟨L1, e1, p1⟩ := ih1 L2 e2
    exact ⟨L1, e1, p1.trans p2⟩
variable [HasW]
section
variable {Γ : GL} {Φ : Phi} {k : Nat} {sc : SC} {X : Cx}
theorem sgood_tups {ks : List (List Int)} (h : ∀ k ∈ ks, k ≠ []) : SGood (ks.map tupI) := (sortable_good (sortable_tups h)).1
theorem each_refs {f : Addr × List Int → D} : ∀ L : List (Addr × List Int), PySem.W.EachIs (fun u (b : V × D) => RelV b.1 u) (L.map fun q => Value.ref q.1) (L.map fun q => (V.ref q.1, f q))
  | [] => .nil
  | q :: L => .cons rfl (each_refs L)
/-- sorted(s), a set of tuples of ints -/
theorem sorted_setD {pins : List (Addr × Obj)} {σ : L2.St} {H : Hp} {s : Shared} (I : Inv X pins σ H s) (hc : X.calm = true) (hu : X.A.units + 66 < cLine) {b : Addr} {L : List (Addr × List Int)} {es : Array (Int × Value)} {ep : Nat} {t : SetTable}
    (R : SetTR X.prog X.w s.heap b L es ep t) (hne : ∀ p ∈ L, p.2 ≠ []) (dp : ∀ p ∈ L, Dp X.K H (V.ref p.1) (toPy (tupI p.2))) {Q : V → Hp → Prop}
    (h : ∀ ps : List (V × D), ps.Perm (L.map fun p => (V.ref p.1, tupI p.2)) → ps.map (·.2) = sortD (L.map fun p => tupI p.2) → ∀ p, H p = none → Q (.ref p) (upd H p (.lst (ps.map (·.1))))) :
    wpAny (model X.prog X.w) X.A (call (.builtin "sorted") [.ref b]) (fun v s' => ∃ x H', Inv X pins σ H' s' ∧ RelV x v ∧ Q x H') X.xe s := by
  obtain ⟨o, ho, hex, hd⟩ := R.ob
  have hsz := R.size
  have hfew := R.few
  refine Calls.call_function_entry PyProof.Rows.kind_sorted PyProof.Rows.plain_sorted PyProof.Rows.entry_sorted (PyProof.Rows.args_sorted1 _) ?_
  unfold Builtin.«sorted»
  refine wpAny_bind (m := checkCount "sorted" 1 1 _) (wpAny_pure ?_)
  refine wpAny_bind (collect_set (A := X.A.in1) (I.ok.hd hc) ⟨o, ho, hex.1, hd⟩ R.fits (by unfold scanBound; omega) R.tab.ris R.led fun s1 vs k1 hz g1 o1 pm => ?_)
  have hes : es.toList.map (·.2) = L.map fun q => Value.ref q.1 := by
    rw [R.rows]
    unfold rowsOf
    rw [List.map_map] <;> rfl
  rw [hes] at pm
  obtain ⟨L1, rfl, pL⟩ := perm_map_inv pm L rfl
  have hvl : (L1.map fun q => Value.ref q.1).length < 64 := by rw [List.length_map, pL.length_eq]; exact hfew
  have hL1 : L1.length < 64 := by rw [pL.length_eq]; exact hfew
  refine wpAny_bind (wpAny_newList ?_ (by rw [sizeLine_eq]; omega))
  have hoL : (s1.heap.push (seqObj "list" (L1.map fun q => Value.ref q.1).toArray 0)).get? s1.heap.objs.size = some (seqObj "list" (L1.map fun q => Value.ref q.1).toArray 0) := Heap.get?_push_size _ rfl
  obtain ⟨g, h1, h2, h3, h4⟩ := sortable_good (sortable_tups (ks := L1.map (·.2)) fun k hk => by
    obtain ⟨q, hq, rfl⟩ := List.mem_map.mp hk
    exact hne q (pL.mem_iff.mp hq))
  have emp : (L1.map fun q => (V.ref q.1, tupI q.2)).map (fun b : V × D => toPy b.2) = ((L1.map (·.2)).map tupI).map toPy := by
    rw [List.map_map, List.map_map, List.map_map]
    rfl
  have hE := each_refs (f := fun q => tupI q.2) L1
  have hR : PySem.W.EachIs (fun u (b : V × D) => ∃ as, Reads (s1.heap.push (seqObj "list" (L1.map fun q => Value.ref q.1).toArray 0)) u (toPy b.2) as ∧ s1.heap.objs.size ∉ as) (L1.map fun q => Value.ref q.1) (L1.map fun q => (V.ref q.1, tupI q.2)) := by
    have key : ∀ L2 : List (Addr × List Int), (∀ q ∈ L2, q ∈ L) → PySem.W.EachIs (fun u (b : V × D) => ∃ as, Reads (s1.heap.push (seqObj "list" (L1.map fun q => Value.ref q.1).toArray 0)) u (toPy b.2) as ∧ s1.heap.objs.size ∉ as) (L2.map fun q => Value.ref q.1) (L2.map fun q => (V.ref q.1, tupI q.2)) := by
      intro L2
      induction L2 with
      | nil => intro _; exact .nil
      | cons q L2 ih =>
        intro hs
        obtain ⟨as, hrd⟩ := Dp.reads I (toPy (tupI q.2)) (V.ref q.1) (Value.ref q.1) (dp q (hs q (List.mem_cons_self ..))) rfl
        refine .cons ⟨as, PyProof.Rows.Reads.keeps (fun b u e => Heap.get?_push_of_some _ (k1 b u e)) hrd, fun hm => ?_⟩ (ih fun r hr => hs r (List.mem_cons_of_mem _ hr))
        exact Nat.lt_irrefl _ (Nat.lt_of_lt_of_le (reads_lt _ _ _ hrd _ hm) hz)
    exact key L1 fun q hq => pL.mem_iff.mp hq
  refine wpAny_bind (wpAny_holding (PySem.W.list_sort_data (R := fun u (b : V × D) => RelV b.1 u) (enc := fun b : V × D => toPy b.2) (bs := L1.map fun q => (V.ref q.1, tupI q.2)) (vs := L1.map fun q => Value.ref q.1) (s := { s1 with heap := s1.heap.push (seqObj "list" (L1.map fun q => Value.ref q.1).toArray 0) }) hoL hE hR (by rw [emp]; exact h3) (by rw [emp]; exact h4) (by rw [List.length_map, sizeLine_eq]; omega) (fun b hb => ?_) fun out ho' eo => ?_))
  · obtain ⟨q, hq, rfl⟩ := List.mem_map.mp hb
    have hb2 : tupI q.2 ∈ (L1.map (·.2)).map tupI := List.mem_map.mpr ⟨q.2, List.mem_map.mpr ⟨q, hq, rfl⟩, rfl⟩
    have := dp_depth hb2
    rw [py_depth _ (g.py _ hb2)]
    have : X.A.in1.units = X.A.units + 1 := Around.in1_units ..
    omega
  · obtain ⟨ep, he'⟩ := PyProof.Rows.sortedHeap_at (vs := L1.map fun q => Value.ref q.1) (out := out.toArray) hoL
    have hv := vals_each eo
    have hperm := List.mergeSort_perm (L1.map fun q => (V.ref q.1, tupI q.2)) (PySem.W.dataLe false fun b : V × D => toPy b.2)
    have esnd : (L1.map fun q => (V.ref q.1, tupI q.2)).map (·.2) = (L1.map (·.2)).map tupI := by
      rw [List.map_map, List.map_map]
      rfl
    have hp2 := hperm.map (·.2)
    rw [esnd] at hp2
    have hsrt : (((L1.map fun q => (V.ref q.1, tupI q.2)).mergeSort (PySem.W.dataLe false fun b : V × D => toPy b.2)).map (·.2)).Pairwise leK :=
      List.pairwise_map.mpr ((PySem.W.sort_pairwise (PySem.W.sortLe_total (PyProof.Rows.listOrd PyProof.Rows.itemOrd) false fun b : V × D => PySem.W.keyToks (toPy b.2)) (L1.map fun q : Addr × List Int => (V.ref q.1, tupI q.2))).imp fun h => h)
    have hlen : (((L1.map fun q => (V.ref q.1, tupI q.2)).mergeSort (PySem.W.dataLe false fun b : V × D => toPy b.2)).map (·.1)).length ≤ sizeLine := by
      rw [List.length_map, hperm.length_eq, List.length_map, sizeLine_eq]
      omega
    have gL : SGood (L.map fun p => tupI p.2) := g.sub fun a ha => by
      obtain ⟨q, hq, rfl⟩ := List.mem_map.mp ha
      exact List.mem_map.mpr ⟨q.2, List.mem_map.mpr ⟨q, pL.mem_iff.mpr hq, rfl⟩, rfl⟩
    have e2 : ((L1.map fun q => (V.ref q.1, tupI q.2)).mergeSort (PySem.W.dataLe false fun b : V × D => toPy b.2)).map (·.2) = sortD (L.map fun p => tupI p.2) := by
      refine sorted_is gL (hp2.trans ?_) hsrt
      rw [List.map_map]
      exact pL.map _
    have kp : ∀ b u, s.heap.get? b = some u → (PyProof.Rows.sortedHeap (s1.heap.push (seqObj "list" (L1.map fun q => Value.ref q.1).toArray 0)) s1.heap.objs.size (L1.map fun q => Value.ref q.1) out.toArray).get? b = some u := fun b u e => by
      have q := k1 b u e
      have hb : b < s1.heap.objs.size := Heap.lt_size q
      rw [PyProof.Rows.sortedHeap_old (Nat.ne_of_lt hb) (by rw [size_push']; exact Nat.lt_succ_of_lt hb)]
      exact Heap.get?_push_of_some _ q
    have hn : H s1.heap.objs.size = none := I.hok.fresh hz
    obtain ⟨sh, sg, sd, st, so⟩ := s1
    have o1 : so = s.os := o1
    subst o1
    have J : Inv X pins σ (upd H sh.objs.size (.lst (((L1.map fun q => (V.ref q.1, tupI q.2)).mergeSort (PySem.W.dataLe false fun b : V × D => toPy b.2)).map (·.1)))) { s with heap := PyProof.Rows.sortedHeap (sh.push (seqObj "list" (L1.map fun q => Value.ref q.1).toArray 0)) sh.objs.size (L1.map fun q => Value.ref q.1) out.toArray, gens := sg, drawn := sd, toks := st } :=
      I.call (ch := []) (Un.laid kp hz hn) (I.hok.laid kp hz ⟨hlen, out, ep, hv, he'⟩) (by rw [show sg = s.gens from g1]; exact I.bare) (fun _ z => nomatch z)
    exact wpAny_pure ⟨_, rfl, .ref sh.objs.size, _, J, rfl, h _ (hperm.trans (pL.map _)) e2 _ hn⟩
end
end NG
end

section
set_option autoImplicit false
set_option maxRecDepth 100000
set_option maxHeartbeats 4000000
namespace NG
open PySem PySem.Spec PyProof.Rows L2
section
variable {P : Program} {w : World} {A : Around} {E : Value → Shared → Prop} {s : Shared}
/-- set(t), t a tuple of tuples of ints -/
theorem call_set_tupsT {l : Addr} {items : Array Value} (ks : List (Addr × List Int)) {Q : Value → Shared → Prop} (hh : A.handled = none) (hl : s.heap.IsTuple l items) (hit : items.toList = ks.map fun p => Value.ref p.1)
    (hk : ∀ p ∈ ks, IsT P w s.heap p.2 p.1) (hfew : ks.length < 64) (hu : A.units + 3 < cLine)
    (h : ∀ (h' : Heap) (tk : Nat) L es ep t, SetTR P w h' s.heap.objs.size L es ep t → Got ks ks.length L → (∀ b o, s.heap.get? b = some o → h'.get? b = some o) → Q (.ref s.heap.objs.size) { s with heap := h', toks := tk }) :
    wpAny (model P w) A (call (.type "set") [.ref l]) Q E s := by
  have hisz : items.size = ks.length := by
    have q := congrArg List.length hit
    rw [Array.length_toList, List.length_map] at q
    exact q
  obtain ⟨c, tl, hmro⟩ := F.called_set.mro
  have hmade := F.called_set.made
  have hsub := F.called_set.sub
  refine wpAny_call (codeAny_of_tree ?_)
  show wpAny _ _ (callAny (.type "set") _) _ _ _
  refine wpAny_pure ⟨Code.quiet_builtin _ (by decide +kernel), codeAny_builtin F.entry_type_call ?_⟩
  rw [Around.under_plain (weight_type_call_type "set" [.ref l] []) rfl]
  have h1 := F.called_set.notType
  have h2 := F.called_set.canCreate
  have hct := F.typeCall_set_1 (.ref l)
  repeat (any_goals (first | assumption | wp_step))
  obtain ⟨ns, hns⟩ : ∃ ns : Obj, ns = { cls := .type "set", dict := none, data := .set #[] 0 (.fresh 0 0 (!w.params.followText "set-order")) } := ⟨_, rfl⟩
  refine codeAny_mono (code_set_led1 (.ref l) (E := E) (Q₁ := fun obj s₁ => obj = .ref s.heap.objs.size ∧ s₁ = { s with heap := s.heap.push ns }) ⟨rfl, by rw [hns]⟩) fun r s₁ hr => ?_
  cases r with
  | error e => exact hr
  | ok fl =>
    cases fl with
    | ret obj =>
      obtain ⟨rfl, rfl⟩ := hr
      have hS : (s.heap.push ns).get? s.heap.objs.size = some ns := Heap.get?_push_size _ (by rw [hns]; rfl)
      have hT : Shared.TypeIs { s with heap := s.heap.push ns } (.ref s.heap.objs.size) "set" := ⟨_, hS, by rw [hns]⟩
      have hli := F.called_set.init.lookup
      have hbi := F.called_set.init.bind (.ref s.heap.objs.size)
      repeat (any_goals (first | assumption | wp_step))
      refine codeAny_mono (codeAny_call_builtin (R := wants (fun r s₂ => r = .none ∧ ∃ h' tk L es ep t, s₂ = { s with heap := h', toks := tk } ∧ SetTR P w h' s.heap.objs.size L es ep t ∧ Got ks ks.length L ∧
          (∀ b o, s.heap.get? b = some o → h'.get? b = some o)) E) F.called_set.init.plain F.entry_set_init (check_set_init_1 hT ?_)) fun r₂ s₂ hr₂ => ?_
      · obtain ⟨ol, hol, hcl, nl, hdl⟩ := hl
        obtain ⟨ocls, odict, odata, oslots⟩ := ol
        simp only at hcl hdl
        subst hcl; subst hdl
        have hol' : (s.heap.push ns).get? l = some { cls := .type "tuple", dict := odict, data := .seq items nl, slots := oslots } := Heap.get?_push_of_some _ hol
        have hsls := F.sub_tuple_set
        have hslf := F.sub_tuple_frozenset
        have hne : (Value.type "tuple" == Value.type "dict") = false := by decide
        have hl1 : (s.heap.push ns).IsTuple l items := ⟨_, hol', rfl, nl, rfl⟩
        have hlS : l < s.heap.objs.size := Heap.lt_size hol
        have hh3 : A.in1.in1.in1.handled = none := by simp [hh]
        have hneI : l ≠ (s.heap.push ns).objs.size := by
          rw [Heap.size_push]; exact Nat.ne_of_lt (Nat.lt_succ_of_lt hlS)
        have hSf : s.heap.objs.size ∉ [(s.heap.push ns).objs.size, l] := by
          rw [Heap.size_push]; simp only [List.mem_cons, List.mem_singleton, List.not_mem_nil, or_false, not_or]
          exact ⟨Nat.ne_of_lt (Nat.lt_succ_self _), Nat.ne_of_gt hlS⟩
        have hval : ∀ (i : Nat) (v : Value), items[i]? = some v → ∃ p, ks[i]? = some p ∧ v = .ref p.1 := fun i v hv => by
          have q : items.toList[i]? = some v := by rw [Array.getElem?_toList]; exact hv
          rw [hit, List.getElem?_map] at q
          obtain ⟨p, hp, e⟩ := Option.map_eq_some_iff.mp q
          exact ⟨p, hp, e.symm⟩
        have none_of : ∀ b, s.heap.objs.size ≤ b → s.heap.get? b = none := fun b hb => by
          cases q : s.heap.get? b with
          | none => rfl
          | some o => exact absurd (Nat.lt_of_lt_of_le (Heap.lt_size q) hb) (Nat.lt_irrefl _)
        subst hns
        unfold Builtin.«set.__init__» noKeywords Builtin.Frozenset.updateFrom
        generalize hPI : pyIter = PI
        wp_walk
        subst hPI
        refine wpAny_pyIter_tuple hl1 ?_
        refine wpAny_bind (wpAny_runValue ?_)
        refine set_update_tups ((Walks.tuple hh3 _ l hneI items).toS) s.heap.objs.size
          hSf ks hisz hfew hval s.heap hk (none_of _ (Nat.le_refl _)) (fun b hb => none_of b (by
            rw [List.mem_singleton.mp hb, Heap.size_push]
            exact Nat.le_succ _)) hu (items.size - 0) 0 _ (by omega) (Nat.zero_le _)
          ⟨⟨_, Heap.get?_push_size _ rfl, rfl, rfl⟩, (hl1.push _)⟩ (fun b o e => Heap.get?_push_of_some _ (Heap.get?_push_of_some _ e)) ?hS0 ?hR
        case hS0 => exact ⟨[], #[], 0, _, setTR_fresh (Heap.get?_push_of_some _ hS), Got.zero ks⟩
        case hR =>
          intro s' L es ep t hm hS' g' hkp
          obtain ⟨h', g2, d', tk', os'⟩ := s'
          have eg : g2 = s.gens := hm.gens
          have ed : d' = s.drawn := hm.drawn
          have eo : os' = s.os := hm.os
          subst eg; subst ed; subst eo
          show wpAny _ _ _ _ _ _
          refine wpAny_pure ?_
          show wpAny _ _ (ret Value.none) _ _ _
          rw [hisz] at g'
          exact wpAny_pure ⟨rfl, h', tk', L, es, ep, t, rfl, hS', g', hkp⟩
      · cases r₂ with
        | error e => exact hr₂
        | ok fl₂ =>
          cases fl₂ with
          | ret r =>
            obtain ⟨rfl, h', tk, L, es, ep, t, rfl, hS', g', hk'⟩ := hr₂
            repeat (any_goals (first | assumption | wp_step))
            exact h _ _ _ _ _ _ hS' g' hk'
          | _ => exact hr₂.elim
    | _ => exact hr.elim
end
variable [HasW]
section
variable {Γ : GL} {Φ : Phi} {k : Nat} {sc : SC} {X : Cx}
theorem rps_tups {K : PySem.W.Frag} {H : Hp} {T : Addr → Prop} {m : List Addr} : ∀ {l : List D} {xs : List V}, l.all setKey = true → Rps K H T m l xs → ∃ ks : List (Addr × List Int), l = (ks.map (·.2)).map tupI ∧ xs = ks.map (fun p => V.ref p.1) ∧ ∀ p ∈ ks, p.2 ≠ [] ∧ SqT K H p.1 (p.2.map V.int) ∧ Rp K H T m (tupI p.2) (V.ref p.1)
  | [], _, _, .nil => ⟨[], rfl, rfl, fun p hp => by cases hp⟩
  | d :: l, _, h, .cons a b => by
    rw [List.all_cons, Bool.and_eq_true] at h
    obtain ⟨ks, e1, e2, e3⟩ := rps_tups h.2 b
    cases d <;> first | (exfalso; simp [setKey] at h; done) | skip
    rename_i zs
    cases zs with
    | nil => simp [setKey] at h
    | cons z zs =>
      have h1 : (areInts (z :: zs)).isSome = true := h.1
      obtain ⟨is, hi⟩ := Option.isSome_iff_exists.mp h1
      have key : ∀ {c : Addr} {us : List V}, Rps K H T m (z :: zs) us → us = is.map V.int ∧ (z :: zs) = is.map D.int := fun r => rps_ints hi r
      have hne : is ≠ [] := fun e => by
        subst e
        cases zs <;> cases z <;> simp [areInts] at hi
      cases a with
      | tup h1 h2 q =>
        rename_i c us
        obtain ⟨rfl, e⟩ := key (c := c) q
        refine ⟨(c, is) :: ks, by rw [e, e1]; rfl, by rw [e2]; rfl, fun p hp => ?_⟩
        rcases List.mem_cons.mp hp with rfl | hp
        · refine ⟨hne, sqT_of_rd h1, ?_⟩
          show Rp K H T m (.tup (is.map D.int)) (.ref c)
          rw [← e]
          exact .tup h1 h2 q
        · exact e3 p hp
      | tupK h1 q =>
        rename_i c us
        obtain ⟨rfl, e⟩ := key (c := c) q
        refine ⟨(c, is) :: ks, by rw [e, e1]; rfl, by rw [e2]; rfl, fun p hp => ?_⟩
        rcases List.mem_cons.mp hp with rfl | hp
        · refine ⟨hne, .inr h1, ?_⟩
          show Rp K H T m (.tup (is.map D.int)) (.ref c)
          rw [← e]
          exact .tupK h1 q
        · exact e3 p hp
end
end NG
end

section
set_option autoImplicit false
set_option maxRecDepth 100000
set_option maxHeartbeats 4000000
namespace NG
open PySem PySem.Spec PyProof.Rows L2
section
variable {prog : Program} {w : World} {A : Around} {E : Value → Shared → Prop} {s : Shared}
theorem adjust_rev (n : Nat) : Builtin.Slice.sliceAdjust none none (-1) (n : Int) = ((n : Int) - 1, -1) := by
  unfold Builtin.Slice.sliceAdjust
  have h1 : ((-1 : Int) < 0) := by omega
  simp only [h1, if_true]
theorem places_rev (n : Nat) : Builtin.Slice.slicePlaces ((n : Int) - 1) (-1) (-1) = n := by
  unfold Builtin.Slice.slicePlaces
  have h1 : ¬ ((-1 : Int) > 0) := by omega
  simp only [h1, if_false]
  split <;> simp <;> omega
theorem fm_some {α β : Type} {f : α → Option β} {g : α → β} : ∀ {l : List α}, (∀ m ∈ l, f m = some (g m)) → l.filterMap f = l.map g
  | [], _ => rfl
  | x :: l, h => by
    rw [List.filterMap_cons, h x (List.mem_cons_self ..), List.map_cons, fm_some fun m hm => h m (List.mem_cons_of_mem _ hm)]
theorem pick_rev (xs : Array Value) : ((List.range xs.size).filterMap fun (m : Nat) => xs[((xs.size : Int) - 1 + (m : Int) * (-1)).toNat]?).toArray = xs.toList.reverse.toArray := by
  congr 1
  rw [fm_some (g := fun m => xs.toList.reverse.getD m .none) fun m hm => ?_]
  · refine List.ext_getElem? fun i => ?_
    rw [List.getElem?_map]
    by_cases h : i < xs.size
    · simp [h]
    · rw [List.getElem?_eq_none (by simp; omega), List.getElem?_eq_none (by simp; omega)]
      rfl
  · have hm := List.mem_range.mp hm
    have e : ((xs.size : Int) - 1 + (m : Int) * (-1)).toNat = xs.size - 1 - m := by omega
    rw [e, Array.getElem?_eq_getElem (by omega)]
    simp [hm]
theorem sliceApplied_rev {sl : Addr} {vl vu vs : Value} {n : Nat} {Q : Int × Int × Nat → Shared → Prop} (hs : s.heap.IsSliceOf sl vl vu vs) (pl : IsPart vl none) (pu : IsPart vu none) (ps : IsPart vs (some (-1)))
    (h : Q ((n : Int) - 1, -1, n) s) : wpAny (model prog w) A (Builtin.Slice.sliceApplied (.ref sl) (pure (n : Int))) Q E s := by
  obtain ⟨os, hos, hcs, hds⟩ := id hs
  unfold Builtin.Slice.sliceApplied Builtin.Slice.sliceFields
  refine wpAny_bind (wpAny_bind (wpAny_field hos hds (x := vl) rfl (wpAny_bind (wpAny_field hos hds (x := vu) rfl (wpAny_bind (wpAny_field hos hds (x := vs) rfl (wpAny_pure ?_)))))))
  refine wpAny_bind (HT.slicePart_ ps ?_)
  show wpAny _ _ (if ((-1 : Int) == 0) = true then _ else _) _ _ s
  rw [if_neg (by decide)]
  refine wpAny_bind (HT.slicePart_ pl (wpAny_bind (HT.slicePart_ pu (wpAny_bind (wpAny_pure ?_)))))
  show wpAny _ _ (match Builtin.Slice.sliceAdjust none none (-1) (n : Int) with | (lo, hi) => pure (lo, (-1 : Int), Builtin.Slice.slicePlaces lo hi (-1))) _ _ s
  rw [adjust_rev n]
  show wpAny _ _ (pure ((n : Int) - 1, (-1 : Int), Builtin.Slice.slicePlaces ((n : Int) - 1) (-1) (-1))) _ _ s
  rw [places_rev]
  exact wpAny_pure h
theorem getItem_tuple_rev {t sl : Addr} {items : Array Value} {vl vu vs : Value} {Q : Value → Shared → Prop} (ht : IsTup s.heap t items) (hs : s.heap.IsSliceOf sl vl vu vs) (pl : IsPart vl none) (pu : IsPart vu none) (ps : IsPart vs (some (-1)))
    (h : Q (.ref s.heap.objs.size) { s with heap := s.heap.push { cls := .type "tuple", data := .seq items.toList.reverse.toArray } })
    (hsz : items.size ≤ sizeLine) : wpAny (model prog w) A (getItem (.ref t) (.ref sl)) Q E s := by
  have htake : sizeOk (.seq items.toList.reverse.toArray) := by
    show items.toList.reverse.toArray.size ≤ sizeLine
    rw [List.size_toArray, List.length_reverse, Array.length_toList]
    exact hsz
  obtain ⟨os, hos, hcs, hds⟩ := id hs
  have hTs : s.TypeIs (.ref sl) "slice" := ⟨os, hos, hcs⟩
  unfold getItem
  try with_reducible refine wpAny_holding ?_
  first | refine wpAny_bind (wpAny_pure ?_) | skip
  refine wpAny_bind (wpAny_sequenceKey ht.typeIs (by decide) ?_)
  refine wpAny_bind (wpAny_callSpecial?_slot (name := Str.ofString "__getitem__") ht.typeIs PyProof.Rows.slot_tuple_getitem
    (wpAny_call_entry PyProof.Rows.slot_tuple_getitem ht.typeIs PyProof.Rows.entry_tuple_getitem ?_ (PyProof.Rows.args_tuple_getitem _ _)))
  show wpAny _ _ (Builtin.Tuple.tupleItemsOf (.ref t) >>= _) _ _ s
  refine wpAny_bind (PyProof.Rows.tupleItemsOf_ ht ?_)
  refine wpAny_bind (wpAny_typeOf hTs ?_)
  rw [if_pos (by decide)]
  refine wpAny_bind (sliceApplied_rev (n := items.size) hs pl pu ps ?_)
  have hno : ¬ ((((items.size : Int) - 1) == 0 && (-1 : Int) == 1 && items.size == items.size) = true) := by
    intro q
    rw [Bool.and_eq_true, Bool.and_eq_true] at q
    exact absurd q.1.2 (by decide)
  show wpAny _ _ (if ((((items.size : Int) - 1) == 0 && (-1 : Int) == 1 && items.size == items.size) = true) then _ else _) _ _ s
  rw [if_neg hno, pick_rev]
  first
    | exact wpAny_bind (m := Builtin.Tuple.tupleExact _) (wpAny_newObj_type (wpAny_pure ⟨_, rfl, wpAny_pure h⟩) htake)
    | exact wpAny_bind (m := Builtin.Tuple.tupleExact _) (wpAny_newObj_type (wpAny_bind (wpAny_pure (wpAny_pure ⟨_, rfl, wpAny_pure h⟩))) htake)
    | exact wpAny_bind (wpAny_bind (m := Builtin.Tuple.tupleExact _) (wpAny_newObj_type (wpAny_pure (wpAny_pure ⟨_, rfl, wpAny_pure h⟩)) htake))
    | exact wpAny_bind (wpAny_bind (m := Builtin.Tuple.tupleExact _) (wpAny_newObj_type (wpAny_pure ⟨_, rfl, wpAny_pure h⟩) htake))
end
end NG
end

section
set_option autoImplicit false
set_option maxRecDepth 100000
set_option maxHeartbeats 4000000
namespace NG
open PySem PySem.Spec PyProof.Rows L2
variable [HasW]
section
variable {Γ : GL} {Φ : Phi} {k : Nat} {sc : SC} {X : Cx}
theorem ints_map : ∀ {l : List D} {is : List Int}, areInts l = some is → l = is.map D.int
  | [], _, h => by
    cases h
    rfl
  | d :: l, is, h => by
    cases d <;> first | (exfalso; simp [areInts] at h; done) | skip
    simp only [areInts] at h
    obtain ⟨js, hj, rfl⟩ := Option.map_eq_some_iff.mp h
    rw [ints_map hj]
    rfl
theorem deq_int (i : Int) (d : D) (h : ∃ j, d = .int j) : deq (.int i) d = true ↔ D.int i = d := by
  obtain ⟨j, rfl⟩ := h
  simp [deq]
theorem dedup_ints : ∀ is : List Int, (dedup (is.map D.int)).Nodup ∧ ∀ d, d ∈ dedup (is.map D.int) ↔ d ∈ is.map D.int
  | [] => ⟨List.nodup_nil, fun d => Iff.rfl⟩
  | i :: is => by
    obtain ⟨h1, h2⟩ := dedup_ints is
    have isInt : ∀ d, d ∈ dedup (is.map D.int) → ∃ j, d = .int j := fun d hd => by
      obtain ⟨j, _, e⟩ := List.mem_map.mp ((h2 d).mp hd)
      exact ⟨j, e.symm⟩
    simp only [List.map_cons, dedup]
    refine ⟨List.nodup_cons.mpr ⟨fun hm => ?_, h1.filter _⟩, fun d => ?_⟩
    · have := (List.mem_filter.mp hm).2
      simp [deq] at this
    · rw [List.mem_cons, List.mem_cons, List.mem_filter, h2 d]
      constructor
      · rintro (e | e)
        · exact .inl e
        · exact .inr e.1
      · rintro (e | e)
        · exact .inl e
        · by_cases z : d = .int i
          · exact .inl z
          · refine .inr ⟨e, ?_⟩
            have hj := isInt d ((h2 d).mpr e)
            cases hd : deq (.int i) d with
            | false => rfl
            | true => exact absurd ((deq_int i d hj).mp hd).symm z
theorem nodup_map_int : ∀ {is : List Int}, is.Nodup → (is.map D.int).Nodup
  | [], _ => List.nodup_nil
  | i :: is, h => by
    rw [List.nodup_cons] at h
    rw [List.map_cons, List.nodup_cons]
    refine ⟨fun hm => ?_, nodup_map_int h.2⟩
    obtain ⟨j, hj, e⟩ := List.mem_map.mp hm
    cases e
    exact h.1 hj
theorem perm_dedup {is js : List Int} (nd : js.Nodup) (hm : ∀ j, j ∈ js ↔ j ∈ is) : (js.map D.int).Perm (dedup (is.map D.int)) := by
  obtain ⟨h1, h2⟩ := dedup_ints is
  refine (List.perm_ext_iff_of_nodup (nodup_map_int nd) h1).mpr fun d => ?_
  rw [h2]
  constructor
  · intro h
    obtain ⟨j, hj, e⟩ := List.mem_map.mp h
    exact List.mem_map.mpr ⟨j, (hm j).mp hj, e⟩
  · intro h
    obtain ⟨j, hj, e⟩ := List.mem_map.mp h
    exact List.mem_map.mpr ⟨j, (hm j).mpr hj, e⟩
theorem sgood_ints (is : List Int) : SGood (is.map D.int) := by
  refine ⟨fun a ha => ?_, fun a ha b hb => ?_, fun a ha => ?_⟩
  · obtain ⟨j, _, rfl⟩ := List.mem_map.mp ha
    rfl
  · obtain ⟨i, _, rfl⟩ := List.mem_map.mp ha
    obtain ⟨j, _, rfl⟩ := List.mem_map.mp hb
    rfl
  · obtain ⟨j, _, rfl⟩ := List.mem_map.mp ha
    exact fun z => by cases z
theorem sorted_dedup {is js : List Int} (hs : js.Pairwise (· < ·)) (hm : ∀ j, j ∈ js ↔ j ∈ is) : js.map D.int = sortD (dedup (is.map D.int)) := by
  have nd : js.Nodup := hs.imp fun h => Int.ne_of_lt h
  have hp := perm_dedup nd hm
  have g : SGood (dedup (is.map D.int)) := (sgood_ints is).sub fun a ha => ((dedup_ints is).2 a).mp ha
  refine sorted_is g hp (List.pairwise_map.mpr (hs.imp fun {a b} h => ?_))
  refine (leK_iff rfl rfl rfl (fun z => by cases z)).mpr ?_
  simp [dlt]
  omega
theorem setR_count {w : World} {h : Heap} {a : Addr} {is : List Int} {c : Nat} (R : SetR w h a (fun j => decide (j ∈ is)) c) : c = (dedup (is.map D.int)).length := by
  obtain ⟨o, es, ep, t, ho, hex, hd, g, nd, hm, hb, hf, hn, hr, hl⟩ := R
  have hp := perm_dedup (is := is) nd fun j => by rw [← hm j]; simp
  rw [← hp.length_eq, List.length_map, List.length_map, Array.length_toList, hn]
/-- set(xs), then what is done with it -/
theorem set_then {ea : Expr} {c : CE} {p p3 : Pos} {pins : List (Addr × Obj)} {σ : L2.St} {H : Hp} {s : Shared} (h : XOk Γ Φ k sc X) (hg2 : Gl X "set") (hm2 : X.mg "set" = none) (ha : PE X ea (tE Φ X.K c)) (hs : noStar [ea] = true) (I : Inv X pins σ H s)
    {Q : Value → Shared → Prop} (ht : tE Φ X.K c σ H fun v H1 => ∃ (a : Addr) (is : List Int), v = .ref a ∧ (SqL X.K H1 a (is.map V.int) ∨ SqT X.K H1 a (is.map V.int)) ∧ is.length ≤ 4000 ∧ ∀ (s1 : Shared) (h' : Heap) (tk : Nat) (b : Addr) (cn : Nat), Inv X pins σ H1 { s1 with heap := h', toks := tk } → cn ≤ is.length → SetR X.w h' b (fun j => decide (j ∈ is)) cn → Q (.ref b) { s1 with heap := h', toks := tk }) :
    wpAny (model X.prog X.w) X.A (eval (.Call (.Name "set" p) [ea] [] p3) X.env) Q X.xe s := by
  refine Call_ (ld_blt I hg2 hm2 boot_set ?_)
  refine PyProof.Rows.callWith_type1 (PyProof.Rows.args_cons (thn (ha.run pins s σ H _ I ht) fun v s1 ⟨x, H1, I1, r1, q1⟩ => PyProof.Rows.args_nil ?_) (star_cons hs).1) (star_cons hs).1 rfl
  obtain ⟨a, is, rfl, hq, hl, q1⟩ := q1
  cases r1
  rcases hq with hq | hq
  · obtain ⟨its, r, pl, hz⟩ := I1.list hq
    have hlen := r.length
    rw [List.length_map] at hlen
    refine call_set_lstI is (I1.ok.hd h.calm) pl.isList (by simpa using RZ.intsAre_vals r) (by unfold scanBound; omega) fun h' tk cn hS hc hk => ?_
    exact q1 s1 h' tk _ cn (I1.kept hk) hc hS
  · obtain ⟨its, r, ⟨o, ho, hc, n, hd⟩, hz⟩ := I1.tuple hq
    have hlen := r.length
    rw [List.length_map] at hlen
    refine call_set_tupI is (I1.ok.hd h.calm) ⟨o, ho, hc, n, hd⟩ (by simpa using RZ.intsAre_vals r) (by unfold scanBound; omega) fun h' tk cn hS hc hk => ?_
    exact q1 s1 h' tk _ cn (I1.kept hk) hc hS
/-- set(xs) of tuples, then what is done with it -/
theorem set_thenT {ea : Expr} {c : CE} {p p3 : Pos} {pins : List (Addr × Obj)} {σ : L2.St} {H : Hp} {s : Shared} (h : XOk Γ Φ k sc X) (hg2 : Gl X "set") (hm2 : X.mg "set" = none) (ha : PE X ea (tE Φ X.K c)) (hs : noStar [ea] = true) (I : Inv X pins σ H s)
    {Q : Value → Shared → Prop} (ht : tE Φ X.K c σ H fun v H1 => ∃ (a : Addr) (ks : List (Addr × List Int)), v = .ref a ∧ (SqL X.K H1 a (ks.map fun p => V.ref p.1) ∨ SqT X.K H1 a (ks.map fun p => V.ref p.1)) ∧ ks.length < 64 ∧ (∀ p ∈ ks, SqT X.K H1 p.1 (p.2.map V.int)) ∧
      ∀ (s1 : Shared) (h' : Heap) (tk : Nat) (b : Addr) (L : List (Addr × List Int)) (es : Array (Int × Value)) (ep : Nat) (t : SetTable), Inv X pins σ H1 { s1 with heap := h', toks := tk } → SetTR X.prog X.w h' b L es ep t → L2.Got ks ks.length L → Q (.ref b) { s1 with heap := h', toks := tk }) :
    wpAny (model X.prog X.w) X.A (eval (.Call (.Name "set" p) [ea] [] p3) X.env) Q X.xe s := by
  refine Call_ (ld_blt I hg2 hm2 boot_set ?_)
  refine PyProof.Rows.callWith_type1 (PyProof.Rows.args_cons (thn (ha.run pins s σ H _ I ht) fun v s1 ⟨x, H1, I1, r1, q1⟩ => PyProof.Rows.args_nil ?_) (star_cons hs).1) (star_cons hs).1 rfl
  obtain ⟨a, ks, rfl, hq, hl, hk1, q1⟩ := q1
  cases r1
  have hu := h.hu
  rcases hq with hq | hq
  · obtain ⟨its, r, pl, hz⟩ := I1.list hq
    refine call_set_tups (P := X.prog) (w := X.w) ks (I1.ok.hd h.calm) pl.isList (by simpa using refs_of_vals r) (fun p hp => I1.isT (hk1 p hp)) hl (by omega) fun h' tk L es ep t R g kp => ?_
    exact q1 s1 h' tk _ L es ep t (I1.kept kp) R g
  · obtain ⟨its, r, ⟨o, ho, hc, n, hd⟩, hz⟩ := I1.tuple hq
    refine call_set_tupsT (P := X.prog) (w := X.w) ks (I1.ok.hd h.calm) ⟨o, ho, hc, n, hd⟩ (by simpa using refs_of_vals r) (fun p hp => I1.isT (hk1 p hp)) hl (by omega) fun h' tk L es ep t R g kp => ?_
    exact q1 s1 h' tk _ L es ep t (I1.kept kp) R g
theorem vw_seq {H : Hp} {F : Addr → Prop} {m : List Addr} {S : Store} {d : D} {v : V} {l : List D} (s : Sto X.K H F m S) (r : Rp X.K H (Tk F m S) m d v) (h : seqOf (vw S d) = some l) : ∃ a xs, v = .ref a ∧ (SqL X.K H a xs ∨ SqT X.K H a xs) ∧ Rps X.K H (Tk F m S) m l xs := by
  cases hx : vw S d <;> rw [hx] at h <;> first | (exfalso; cases h; done) | skip
  · cases h
    obtain ⟨a, xs, rfl, t, q⟩ := vw_tup r hx
    exact ⟨a, xs, rfl, .inr t.sq, q⟩
  · cases h
    obtain ⟨a, xs, rfl, t, q⟩ := vw_lst s r hx
    exact ⟨a, xs, rfl, .inl (sqL_of_rd t), q⟩
theorem s_sortedSet (h : XOk Γ Φ k sc X) {ea : Expr} {p p2 p3 pos : Pos} {c : CE} (hg : Gl X "sorted") (hm : X.mg "sorted" = none) (hg2 : Gl X "set") (hm2 : X.mg "set" = none) (ha : PE X ea (tE Φ X.K c)) (hs : noStar [ea] = true) :
    PE X (.Call (.Name "sorted" p) [.Call (.Name "set" p2) [ea] [] p3] [] pos) (tE Φ X.K (.blt .sortedSet [c])) := by
  refine ⟨fun pins s σ H Q I ⟨F, m, S, ρ, d, S1, st, en, hev, q⟩ => ?_⟩
  simp only [evE, evEs] at hev
  obtain ⟨ds, S2, h1, hev⟩ := R.bind_ok hev
  obtain ⟨x, S3, h1, h1'⟩ := R.bind_ok h1
  cases h1'
  obtain ⟨h2, rfl⟩ := lift_ok hev
  have h2 : (match seqOf (vw S1 x) with
    | some l => match areInts l with
      | some _ => if (dedup l).length < 64 ∧ l.length ≤ 4000 then some (D.lst (sortD (dedup l))) else none
      | none => if l.all setKey && decide (l.length < 64) then some (D.lst (sortD (dedup l))) else none
    | none => none) = some d := h2
  cases hx : seqOf (vw S1 x) with
  | none => rw [hx] at h2; cases h2
  | some l =>
  rw [hx] at h2
  cases hi : areInts l with
  | none =>
    have h2 : (if l.all setKey && decide (l.length < 64) then some (D.lst (sortD (dedup l))) else none) = some d := by
      have h2 : (match areInts l with
        | some _ => if (dedup l).length < 64 ∧ l.length ≤ 4000 then some (D.lst (sortD (dedup l))) else none
        | none => if l.all setKey && decide (l.length < 64) then some (D.lst (sortD (dedup l))) else none) = some d := h2
      rw [hi] at h2
      exact h2
    split at h2
    case isFalse => cases h2
    rename_i hc
    simp only [Bool.and_eq_true, decide_eq_true_eq] at hc
    cases h2
    refine Call_ (ld_blt I hg hm boot_sorted ?_)
    refine PyProof.Rows.callWith_builtin1 (PyProof.Rows.args_cons ?_ rfl) rfl rfl
    refine set_thenT h hg2 hm2 ha hs I (tE_one st en h1 fun v H1 m1 ex s1 e1 r1 => ?_)
    obtain ⟨a, xs, rfl, t, rs⟩ := vw_seq s1 r1 hx
    obtain ⟨ks, el, rfl, hk⟩ := rps_tups hc.1 rs
    refine ⟨a, ks, rfl, t, ?_, fun p hp => (hk p hp).2.1, fun sh h' tk b L es ep tb I2 R g => PyProof.Rows.args_nil ?_⟩
    · have := hc.2
      rw [el, List.length_map, List.length_map] at this
      exact this
    have sub : ∀ p ∈ L, p ∈ ks := fun p hp => List.mem_of_mem_take (g.sub p hp)
    have cov : ∀ p ∈ ks, p.2 ∈ L.map (·.2) := fun p hp => g.all p (by rw [List.take_length]; exact hp)
    refine sorted_setD (s := { sh with heap := h', toks := tk }) I2 h.calm h.hu R (fun p hp => (hk p (sub p hp)).1) (fun p hp => ?_) fun ps hp e p hp0 => ?_
    · exact (hk p (sub p hp)).2.2.dp (tups_py p.2)
    · have r2 := rps_zip (K := X.K) (H := H1) (T := Tk F m1 S1) (m := m1) (ps := ps) fun b hb => by
        obtain ⟨q, hq, rfl⟩ := List.mem_map.mp (hp.mem_iff.mp hb)
        exact (hk q (sub q hq)).2.2
      rw [e] at r2
      obtain ⟨nd, md⟩ := dedup_tups (ks.map (·.2))
      have e3 : sortD (L.map fun p => tupI p.2) = sortD (dedup l) := by
        have gd : SGood (dedup l) := by
          rw [el]
          refine (sgood_tups (ks := ks.map (·.2)) fun z hz => ?_).sub fun a ha => (md a).mp ha
          obtain ⟨q, hq, rfl⟩ := List.mem_map.mp hz
          exact (hk q hq).1
        have gl : SGood (L.map fun p => tupI p.2) := by
          have := sgood_tups (ks := L.map (·.2)) fun z hz => by
            obtain ⟨q, hq, rfl⟩ := List.mem_map.mp hz
            exact (hk q (sub q hq)).1
          rw [List.map_map] at this
          exact this
        refine sorted_is gd ((sortD_perm _).trans ?_) (sortD_sorted gl)
        have ndL : (L.map fun p => tupI p.2).Nodup := List.pairwise_map.mpr ((List.pairwise_map.mp R.nd).imp fun h e => h (tupI_inj e))
        refine (List.perm_ext_iff_of_nodup ndL (by rw [el]; exact nd)).mpr fun z => ?_
        rw [el, md]
        constructor
        · intro hz
          obtain ⟨q, hq, rfl⟩ := List.mem_map.mp hz
          exact List.mem_map.mpr ⟨q.2, List.mem_map.mpr ⟨q, sub q hq, rfl⟩, rfl⟩
        · intro hz
          obtain ⟨k', hk', rfl⟩ := List.mem_map.mp hz
          obtain ⟨q, hq, rfl⟩ := List.mem_map.mp hk'
          obtain ⟨q', hq', e⟩ := List.mem_map.mp (cov q hq)
          exact List.mem_map.mpr ⟨q', hq', by rw [e]⟩
      rw [e3] at r2
      exact Fin.lst q ex s1 r2 hp0
  | some is =>
    have h2 : (if (dedup l).length < 64 ∧ l.length ≤ 4000 then some (D.lst (sortD (dedup l))) else none) = some d := by
      have h2 : (match areInts l with
        | some _ => if (dedup l).length < 64 ∧ l.length ≤ 4000 then some (D.lst (sortD (dedup l))) else none
        | none => if l.all setKey && decide (l.length < 64) then some (D.lst (sortD (dedup l))) else none) = some d := h2
      rw [hi] at h2
      exact h2
    split at h2
    case isFalse => cases h2
    rename_i hc
    cases h2
    have hl := ints_map hi
    subst hl
    refine Call_ (ld_blt I hg hm boot_sorted ?_)
    refine PyProof.Rows.callWith_builtin1 (PyProof.Rows.args_cons ?_ rfl) rfl rfl
    refine set_then h hg2 hm2 ha hs I (tE_one st en h1 fun v H1 m1 ex s1 e1 r1 => ?_)
    obtain ⟨a, xs, rfl, t, rs⟩ := vw_seq s1 r1 hx
    obtain ⟨rfl, _⟩ := rps_ints hi rs
    refine ⟨a, is, rfl, t, by simpa using hc.2, fun sh h' tk b cn I2 hcl R => PyProof.Rows.args_nil ?_⟩
    have hcn := setR_count R
    have R' : SetR X.w ({ sh with heap := h', toks := tk } : Shared).heap b (fun j => decide (j ∈ is)) cn := R
    generalize ({ sh with heap := h', toks := tk } : Shared) = sb at I2 R' ⊢
    refine sorted_set R' (I2.ok.hd h.calm) (by omega) fun s' p out cc ns kp g o hp hgt hia hsr hmm hll => ?_
    have e : s' = { sb with heap := s'.heap, gens := s'.gens, drawn := s'.drawn, toks := s'.toks } := by
      obtain ⟨a1, a2, a3, a4, a5⟩ := s'
      have o : a5 = sb.os := o
      subst o
      rfl
    have hlenN : (ns.map V.int).length ≤ sizeLine := by
      rw [List.length_map, hll, sizeLine_eq]
      omega
    have hn : H1 p = none := I2.hok.fresh hp
    have J : Inv X pins σ (upd H1 p (.lst (ns.map V.int))) { sb with heap := s'.heap, gens := s'.gens, drawn := s'.drawn, toks := s'.toks } :=
      I2.call (ch := []) (Un.laid kp hp hn) (I2.hok.laid kp hp ⟨hlenN, out.toList, cc, L2.vals_of_ints hia, hgt⟩) (by rw [g]; exact I2.bare) (fun _ z => nomatch z)
    rw [e]
    refine ⟨.ref p, _, J, rfl, ?_⟩
    have hsd := sorted_dedup (is := is) hsr fun j => by rw [hmm j]; simp
    have hr : ∀ js : List Int, Rps X.K H1 (Tk F m1 S1) m1 (js.map D.int) (js.map V.int) := by
      intro js
      induction js with
      | nil => exact .nil
      | cons j js ih => exact .cons (.int j) ih
    have := hr ns
    rw [hsd] at this
    exact Fin.lst q ex s1 this hn
/-- xs[::-1] -/
theorem s_rev (h : XOk Γ Φ k sc X) {ea : Expr} {c : CE} {i : Nat} {p1 p2 p3 pos : Pos} (ha : PE X ea (tE Φ X.K c)) : PE X (.Subscript ea (.Slice none none (some (.UnaryOp .USub (.Constant (.int 1) i p1) p2)) p3) pos) (tE Φ X.K (.blt .rev [c])) := by
  refine ⟨fun pins s σ H Q I ⟨F, m, S, ρ, d, S1, st, en, hev, q⟩ => ?_⟩
  simp only [evE, evEs] at hev
  obtain ⟨ds, S2, h1, hev⟩ := R.bind_ok hev
  obtain ⟨x, S3, h1, h1'⟩ := R.bind_ok h1
  cases h1'
  obtain ⟨h2, rfl⟩ := lift_ok hev
  have h2 : (match vw S1 x with
    | .tup l => some (D.tup l.reverse)
    | .lst l => some (D.lst l.reverse)
    | _ => none) = some d := h2
  refine Subscript_ (thn (ha.run pins s σ H (fun x H1 => (∃ a xs, x = .ref a ∧ SqL X.K H1 a xs ∧ ∀ p, H1 p = none → Q (.ref p) (upd H1 p (.lst xs.reverse))) ∨ (∃ a xs, x = .ref a ∧ SqT X.K H1 a xs ∧ ∀ p, H1 p = none → Q (.ref p) (upd H1 p (.tup xs.reverse)))) I (tE_one st en h1 fun v H1 m1 ex s1 e1 r1 => ?_)) fun v s1 ⟨x, H1, I1, r1, q1⟩ => ?_)
  · cases hx : vw S1 x <;> rw [hx] at h2 <;> first | (exfalso; cases h2; done) | skip
    · cases h2
      obtain ⟨a, xs, rfl, t, rs⟩ := vw_tup r1 hx
      exact .inr ⟨a, xs, rfl, t.sq, fun p hp => Fin.tup q ex s1 rs.reverse hp⟩
    · cases h2
      obtain ⟨a, xs, rfl, t, rs⟩ := vw_lst s1 r1 hx
      exact .inl ⟨a, xs, rfl, sqL_of_rd t, fun p hp => Fin.lst q ex s1 rs.reverse hp⟩
  have hst : PO X (some (.UnaryOp .USub (.Constant (.int 1) i p1) p2)) (tPart (tUn (rU fun i => .int (-i)) (tC (.int 1)))) := po_some (pe_un un_neg pe_int)
  refine wpAny_Slice (thn (po_none.run pins s1 σ H1 (fun o H2 => o = none ∧ H2 = H1) I1 ⟨rfl, rfl⟩) fun vl s2 ⟨l, H2, I2, pl, el, e2⟩ => ?_)
  subst el e2
  refine thn (po_none.run pins s2 σ H2 (fun o H3 => o = none ∧ H3 = H2) I2 ⟨rfl, rfl⟩) fun vu s3 ⟨u, H3, I3, pu, eu, e3⟩ => ?_
  subst eu e3
  refine thn (hst.run pins s3 σ H3 (fun o H4 => o = some (-1) ∧ H4 = H3) I3 ⟨1, rfl, -1, rfl, rfl, rfl⟩) fun vs s4 ⟨o, H4, I4, ps, eo, e4⟩ => ?_
  subst eo e4
  have I5 : Inv X pins σ H4 { s4 with heap := s4.heap.push { cls := .type "slice", data := .fields #[vl, vu, vs] } } := I4.kept (t' := s4.toks) fun b ob q => Heap.get?_push_of_some _ q
  rcases q1 with ⟨a, xs, ex, hx, q⟩ | ⟨a, xs, ex, hx, q⟩
  · subst ex
    cases r1
    obtain ⟨its, r, ht, hz⟩ := I5.list hx
    have hlen := r.length
    show wpAny (model X.prog X.w) X.A (subscriptTail ea (.Slice none none (some (.UnaryOp .USub (.Constant (.int 1) i p1) p2)) p3) (.ref a) (.ref s4.heap.objs.size)) (EP X pins σ Q) X.xe { s4 with heap := s4.heap.push { cls := .type "slice", data := .fields #[vl, vu, vs] } }
    refine tail_any (ops := [.ref a, .ref s4.heap.objs.size]) ht.isList.typeIs (PySem.slot_list_getitem.lookup) ?_ (by with_unfolding_all rfl)
    refine wpAny_getItem_list_slice ht.isList (Heap.IsSliceOf.new _ vl vu vs) pl pu ps (by decide) ?_ (by rw [List.size_toArray]; omega)
    rw [PySem.W.krv_pick]
    refine ⟨.ref _, _, I5.laid (t' := s4.toks) (o := .lst xs.reverse) (fun b ob q => Heap.get?_push_of_some _ q) (Nat.le_refl _) ?_, rfl, q _ (I5.hok.fresh (Nat.le_refl _))⟩
    exact ⟨by rw [List.length_reverse]; exact hz, _, 0, r.reverse, Heap.get?_push_size _ rfl⟩
  · subst ex
    cases r1
    obtain ⟨its, r, ht, hz⟩ := I5.tuple hx
    have hlen := r.length
    show wpAny (model X.prog X.w) X.A (subscriptTail ea (.Slice none none (some (.UnaryOp .USub (.Constant (.int 1) i p1) p2)) p3) (.ref a) (.ref s4.heap.objs.size)) (EP X pins σ Q) X.xe { s4 with heap := s4.heap.push { cls := .type "slice", data := .fields #[vl, vu, vs] } }
    refine tail_any (ops := [.ref a, .ref s4.heap.objs.size]) ht.typeIs (PyProof.Rows.slot_tuple_getitem.lookup) ?_ (by with_unfolding_all rfl)
    refine getItem_tuple_rev ht (Heap.IsSliceOf.new _ vl vu vs) pl pu ps ?_ (by rw [List.size_toArray]; omega)
    refine ⟨.ref _, _, I5.laid (t' := s4.toks) (o := .tup xs.reverse) (fun b ob q => Heap.get?_push_of_some _ q) (Nat.le_refl _) ?_, rfl, q _ (I5.hok.fresh (Nat.le_refl _))⟩
    exact ⟨by rw [List.length_reverse]; exact hz, _, r.reverse, IsTup.new _ _⟩
theorem s_lenSet (h : XOk Γ Φ k sc X) {ea : Expr} {p p2 p3 pos : Pos} {c : CE} (hg : Gl X "len") (hm : X.mg "len" = none) (hg2 : Gl X "set") (hm2 : X.mg "set" = none) (ha : PE X ea (tE Φ X.K c)) (hs : noStar [ea] = true) :
    PE X (.Call (.Name "len" p) [.Call (.Name "set" p2) [ea] [] p3] [] pos) (tE Φ X.K (.blt .lenSet [c])) := by
  refine ⟨fun pins s σ H Q I ⟨F, m, S, ρ, d, S1, st, en, hev, q⟩ => ?_⟩
  simp only [evE, evEs] at hev
  obtain ⟨ds, S2, h1, hev⟩ := R.bind_ok hev
  obtain ⟨x, S3, h1, h1'⟩ := R.bind_ok h1
  cases h1'
  obtain ⟨h2, rfl⟩ := lift_ok hev
  have h2 : bltE .lenSet [vw S1 x] = some d := h2
  obtain ⟨l, hx⟩ : ∃ l, vw S1 x = .lst l := by
    generalize vw S1 x = y at h2
    cases y <;> first | (exfalso; cases h2; done) | exact ⟨_, rfl⟩
  rw [hx] at h2
  have h2 : (match areInts l with
    | some _ => if l.length ≤ 4000 then some (D.int (dedup l).length) else none
    | none => none) = some d := h2
  cases hi : areInts l with
  | none => rw [hi] at h2; cases h2
  | some is =>
    rw [hi] at h2
    have h2 : (if l.length ≤ 4000 then some (D.int (dedup l).length) else none) = some d := h2
    split at h2
    case isFalse => cases h2
    rename_i hc
    cases h2
    have hl := ints_map hi
    subst hl
    refine Call_ (ld_blt I hg hm boot_len ?_)
    refine PyProof.Rows.callWith_builtin1 (PyProof.Rows.args_cons ?_ rfl) rfl rfl
    refine set_then h hg2 hm2 ha hs I (tE_one st en h1 fun v H1 m1 ex s1 e1 r1 => ?_)
    obtain ⟨a, xs, rfl, t, rs⟩ := vw_lst s1 r1 hx
    obtain ⟨rfl, _⟩ := rps_ints hi rs
    refine ⟨a, is, rfl, (.inl (sqL_of_rd t)), by simpa using hc, fun sh h' tk b cn I2 hcl R => PyProof.Rows.args_nil ?_⟩
    have hcn := setR_count R
    obtain ⟨o, es, ep, t', ho, hex, hd, g, nd, hmm, hbb, hf, hn, hr, hll⟩ := R
    have hlen : is.length ≤ 4000 := by simpa using hc
    refine call_len_set ho hex hd hf (by omega) ?_
    refine ⟨.int (dedup (is.map D.int)).length, H1, I2.tok _, ⟨_, by rw [hn, hcn]⟩, ?_⟩
    exact q _ H1 m1 ex s1 (.int _)
end
end NG
end

section
set_option autoImplicit false
set_option maxRecDepth 100000
set_option maxHeartbeats 4000000
namespace NG
open PySem PySem.Spec PyProof.Rows L2
variable [HasW]
section
variable {Γ : GL} {Φ : Phi} {k : Nat} {sc : SC} {X : Cx}
theorem idxOf_str {ss : List (List Nat)} {x : List Nat} {j : Nat} (h : ss.idxOf? x = some j) : (ss.map toStr)[j]? = some (toStr x) ∧ ∀ i, i < j → (ss.map toStr)[i]? ≠ some (toStr x) := by
  have inj : ∀ a b : List Nat, toStr a = toStr b → a = b := fun a b e => by
    have := congrArg (fun s : Str => s.cps.toList) e
    exact this
  rw [List.idxOf?, List.findIdx?_eq_some_iff_getElem] at h
  obtain ⟨h1, h2, h3⟩ := h
  refine ⟨by rw [List.getElem?_map, List.getElem?_eq_getElem h1, eq_of_beq h2]; rfl, fun i hi z => ?_⟩
  have := h3 i hi
  rw [List.getElem?_map, List.getElem?_eq_getElem (by omega)] at z
  have e := inj _ _ (Option.some.inj z)
  rw [e] at this
  simp at this
theorem snd_gidx (h : XOk Γ Φ k sc X) {d : D} {eo e : Expr} {c : CE} {apos pos : Pos} (v : chkE Γ (.glob d) sc eo = true) (he : PE X e (tE Φ X.K c)) (hb : notCall eo = true) (hl : apos.endLine = pos.line) (hs : noStar [e] = true) :
    PE X (.Call (.Attribute eo "index" apos) [e] [] pos) (tE Φ X.K (.mth .gindex (.glob d) [c])) := by
  simp only [chkE] at v
  split at v
  · rename_i x p
    simp only [Bool.and_eq_true] at v
    obtain ⟨⟨h1, h2⟩, h3⟩ := v
    split at h3
    · rename_i d' hd
      rw [dEq_ok _ _ h3]
      obtain ⟨u, w, m1, m2, m3, m4⟩ := h.cons x d' hd
      have hv : PE X (.Name x p) (fun σ H Q => Q w H) := ⟨fun pins s σ H Q I q => ld_glob I (gl_ok h h1) m1 ⟨w, H, I, m2, q⟩ (dbg_ok h2).1⟩
      refine PE.pick fun σ H Q ⟨F, m, S, ρ, r, S1, s, en, hev, q⟩ => ?_
      simp only [evE, R.bind] at hev
      split at hev
      case isFalse => cases hev
      obtain ⟨ds, S2, g1, hev⟩ := R.bind_ok hev
      simp only [evEs] at g1
      obtain ⟨y, S3, g1, g2⟩ := R.bind_ok g1
      cases g2
      obtain ⟨g3, rfl⟩ := lift_ok hev
      have hvw : ∀ S, vw S d' = d' := fun S => by
        have := m3 (fun _ => none) (fun _ => False) []
        cases d' <;> first | rfl | skip
        cases this with
        | ref z => simp at z
      rw [hvw] at g3
      have g3 : mthE .gindex d' [vw S1 y] = some r := g3
      obtain ⟨l, rfl⟩ : ∃ l, d' = .tup l := by cases d' <;> first | (exfalso; cases g3; done) | exact ⟨_, rfl⟩
      obtain ⟨z, hy⟩ : ∃ z, vw S1 y = .str z := by
        generalize vw S1 y = w at g3
        cases w <;> first | (exfalso; cases g3; done) | exact ⟨_, rfl⟩
      rw [hy] at g3
      have g3 : (match areStrs l with
        | some ss => (ss.idxOf? z).map fun (k : Nat) => D.int k
        | none => none) = some r := g3
      cases hss : areStrs l with
      | none => rw [hss] at g3; cases g3
      | some ss =>
        rw [hss] at g3
        obtain ⟨j, hj, rfl⟩ := Option.map_eq_some_iff.mp g3
        refine ⟨_, pe_bm PySem.F.plainAttrs_tuple PySem.F.slot_tuple_index PySem.F.type_tuple_index mt_tup_index hv (pa_cons he pa_nil (star_cons hs).1) (base_ok hb) (by rw [star_all hs]; rfl) (by rw [hl]; exact beq_self_eq_true _) (star_cons hs).1 rfl, ?_⟩
        obtain ⟨a, xs, rfl, tt, rs⟩ := rp_tup (m3 H (fun _ => False) [])
        obtain ⟨o, o1, o2, o3⟩ := m4 a rfl
        refine ⟨.inr (.inl ⟨rfl, o, o1, o2, o3⟩), ?_⟩
        refine tE_one s en g1 fun v H1 m1 ex1 s1 en1 r1 => ?_
        obtain ⟨a', xs', e', tt', rs'⟩ := rp_tup (m3 H1 (fun _ => False) [])
        cases e'
        obtain ⟨rfl, rfl⟩ := strs_of hss rs'
        obtain ⟨i1, i2⟩ := idxOf_str hj
        exact ⟨a, ss.map toStr, toStr z, j, rfl, by rw [vw_str r1 hy], tt'.sq, i1, i2, q _ H1 m1 ex1 s1 (.int _)⟩
    · cases h3
  · cases v
theorem snd_mthC (h : XOk Γ Φ k sc X) {eo e : Expr} {o c : CE} {apos pos : Pos} (ho : PE X eo (tE Φ X.K o)) (he : PE X e (tE Φ X.K c)) (hb : notCall eo = true) (hl : apos.endLine = pos.line) (hs : noStar [e] = true) :
    PE X (.Call (.Attribute eo (mthNm .count) apos) [e] [] pos) (tE Φ X.K (.mth .count o [c])) :=
  PE.pick fun σ H Q ⟨F, mm, S, ρ, r, S1, s, en, hev, q⟩ => by
    simp only [evE] at hev
    obtain ⟨d, S2, h1, hev⟩ := R.bind_ok hev
    split at hev
    case isFalse => cases hev
    obtain ⟨ds, S3, h2, hev⟩ := R.bind_ok hev
    simp only [evEs] at h2
    obtain ⟨y, S4, h2, h2'⟩ := R.bind_ok h2
    cases h2'
    obtain ⟨h3, rfl⟩ := lift_ok hev
    have hstr : ∀ z, vw S1 d = .str z → d = .str z := fun z hz => vw_ne_ref hz ⟨(fun z => by cases z), (fun _ z => by cases z), fun _ _ z => by cases z⟩
    have h3 : mthE .count (vw S1 d) [vw S1 y] = some r := h3
    generalize hx : vw S1 d = x at h3
    cases x <;> first | (exfalso; cases h3; done) | skip
    rename_i z
    generalize hy : vw S1 y = w at h3
    cases w <;> first | (exfalso; cases h3; done) | skip
    rename_i w
    match w, h3 with
    | [w], h3 =>
      have h3 : some (D.int ((z.count w : Nat) : Int)) = some r := h3
      cases h3
      rw [hstr z hx] at h1
      have hy' := vw_ne_ref hy ⟨(fun z => by cases z), (fun _ z => by cases z), fun _ _ z => by cases z⟩
      rw [hy'] at h2
      exact s_scount ho he hb hl hs s en h1 h2 q
    | [], h3 => cases h3
    | _ :: _ :: _, h3 => cases h3
theorem snd_mth (h : XOk Γ Φ k sc X) {m : Mth} {eo e : Expr} {o c : CE} {apos pos : Pos} (hm : m = .index ∨ m = .join) (ho : PE X eo (tE Φ X.K o)) (he : PE X e (tE Φ X.K c)) (hb : notCall eo = true) (hl : apos.endLine = pos.line) (hs : noStar [e] = true) :
    PE X (.Call (.Attribute eo (mthNm m) apos) [e] [] pos) (tE Φ X.K (.mth m o [c])) :=
  PE.pick fun σ H Q ⟨F, mm, S, ρ, r, S1, s, en, hev, q⟩ => by
    simp only [evE] at hev
    obtain ⟨d, S2, h1, hev⟩ := R.bind_ok hev
    split at hev
    case isFalse => cases hev
    rename_i hrc
    obtain ⟨ds, S3, h2, hev⟩ := R.bind_ok hev
    simp only [evEs] at h2
    obtain ⟨y, S4, h2, h2'⟩ := R.bind_ok h2
    cases h2'
    obtain ⟨h3, rfl⟩ := lift_ok hev
    have hstr : ∀ z, vw S1 d = .str z → d = .str z := fun z hz => vw_ne_ref hz ⟨(fun z => by cases z), (fun _ z => by cases z), fun _ _ z => by cases z⟩
    rcases hm with rfl | rfl
    · have h3 : mthE .index (vw S1 d) [vw S1 y] = some r := h3
      generalize hx : vw S1 d = x at h3
      cases x <;> first | (exfalso; cases h3; done) | skip
      · rename_i z
        generalize hy : vw S1 y = w at h3
        cases w <;> first | (exfalso; cases h3; done) | skip
        rename_i w
        match w, h3 with
        | [w], h3 =>
          have h3 : (z.idxOf? w).map (fun (k : Nat) => D.int k) = some r := h3
          obtain ⟨j, hj, rfl⟩ := Option.map_eq_some_iff.mp h3
          rw [hstr z hx] at h1
          have hy' := vw_ne_ref hy ⟨(fun z => by cases z), (fun _ z => by cases z), fun _ _ z => by cases z⟩
          rw [hy'] at h2
          exact s_sidx ho he hb hl hs s en h1 h2 hj q
        | [], h3 => cases h3
        | _ :: _ :: _, h3 => cases h3
      · rename_i l
        have h3 : (if isPy (vw S1 y) && arePy l && decide (ddepth (vw S1 y) ≤ 60) && decide (ddepths l ≤ 60) then (dfind (vw S1 y) l).map (fun (k : Nat) => D.int k) else none) = some r := h3
        split at h3
        · rename_i hc
          simp only [Bool.and_eq_true, decide_eq_true_eq] at hc
          obtain ⟨j, hj, rfl⟩ := Option.map_eq_some_iff.mp h3
          refine s_lidx h ho he hb hl hs s en h1 h2 hx ?_ hc.1.1.1 hc.1.1.2 hc.1.2 hc.2 hj q
          cases d <;> first | exact ⟨_, hx⟩ | skip
          rename_i n _
          have hrc : liveL S2 n = true := hrc
          unfold liveL at hrc
          split at hrc
          · rename_i l' hl'
            exact ⟨l', by simp only [vw, hl']⟩
          · cases hrc
        · cases h3
    · have h3 : mthE .join (vw S1 d) [vw S1 y] = some r := h3
      generalize hx : vw S1 d = x at h3
      cases x <;> first | (exfalso; cases h3; done) | skip
      rename_i z
      have h3 : (match seqOf (vw S1 y) with
        | some l => match areStrs l with
          | some ss => if (ss.map List.length).sum + z.length * ss.length ≤ LIM then some (D.str (joinS z ss)) else none
          | none => none
        | none => none) = some r := h3
      cases hq : seqOf (vw S1 y) with
      | none => rw [hq] at h3; cases h3
      | some l =>
        rw [hq] at h3
        cases hss : areStrs l with
        | none => simp only [hss] at h3; cases h3
        | some ss =>
          simp only [hss] at h3
          split at h3
          · rename_i hz
            cases h3
            rw [hstr z hx] at h1
            exact s_join ho he hb hl hs s en h1 h2 hq hss hz q
          · cases h3

theorem snd_blt (h : XOk Γ Φ k sc X) {b : Blt} {nm : Str} {fb : Bool} {id : String} {x : Str} {p pos : Pos} {es : List Expr} {args : List CE} (hb : bltNm b = some (nm, fb, id)) (hf : freeB Γ sc x nm = true) (ha : PA X es (tA Φ X.K args)) (hs : noStar es = true) (hne : es.isEmpty = false) :
    PE X (.Call (.Name x p) es [] pos) (tE Φ X.K (.blt b args)) := by
  obtain ⟨rfl, hg, hm⟩ := free_ok h hf
  cases es with
  | nil => cases hne
  | cons e es =>
    obtain ⟨he, hs'⟩ := star_cons (env := X.env) hs
    have hpl := star_any (env := X.env) (pos := pos) hs'
    cases b <;> simp only [bltNm, Option.some.injEq, Prod.mk.injEq, reduceCtorEq] at hb <;> (obtain ⟨rfl, rfl, rfl⟩ := hb)
    · exact s_bltB (k_len h.wd) hg hm boot_len ha (by decide) (by decide) he hpl
    · exact s_bltT k_tuple hg hm (by rfl) ha (by decide) (by decide) he hpl
    · exact s_bltT (k_list h.calm).ok hg hm (by rfl) ha (by decide) (by decide) he hpl
    · exact s_bltB (k_sorted h).ok hg hm (by rfl) ha (by decide) (by decide) he hpl
    · exact s_bltB (k_all h.calm) hg hm (by rfl) ha (by decide) (by decide) he hpl
    · exact s_bltB (k_any h.calm) hg hm (by rfl) ha (by decide) (by decide) he hpl
    · exact s_bltB (k_sum h.calm) hg hm (by rfl) ha (by decide) (by decide) he hpl
    · exact s_bltT k_int hg hm (by rfl) ha (by decide) (by decide) he hpl
    · exact s_bltB k_abs hg hm (by rfl) ha (by decide) (by decide) he hpl
    · exact s_bltB (k_repr h) hg hm (by rfl) ha (by decide) (by decide) he hpl
    · exact s_bltT k_str hg hm (by rfl) ha (by decide) (by decide) he hpl
    · exact s_bltB (k_max2 h.calm) hg hm (by rfl) ha (by decide) (by decide) he hpl
    · exact s_bltB (k_min2 h.calm) hg hm (by rfl) ha (by decide) (by decide) he hpl
    · exact s_bltB (k_max1 h.calm) hg hm (by rfl) ha (by decide) (by decide) he hpl
    · exact s_bltB (k_min1 h.calm) hg hm (by rfl) ha (by decide) (by decide) he hpl
theorem snd_mut (h : XOk Γ Φ k sc X) {n i : Nat} {x nm : Str} {p apos cpos : Pos} {es : List Expr} {args : List CE} {m : Str} {a : Nat} (hN : (decide (sc.N[i]? = some x) && vis sc x && notDbg x) = true) (hm : mutNm n = some (m, a)) (hnm : nm = m) (hl : es.length = a) (hs : noStar es = true) (hline : apos.endLine = cpos.line) (ha : AllE Φ X args es) :
    PE X (.Call (.Attribute (.Name x p) nm apos) es [] cpos) (tE Φ X.K (.mut n i args)) := by
  simp only [Bool.and_eq_true, decide_eq_true_eq] at hN
  obtain ⟨⟨h1, h2⟩, h3⟩ := hN
  obtain ⟨d1, d2, d3⟩ := dbg_ok h3
  have hv : PE X (.Name x p) (tE Φ X.K (.var i)) := s_var (by rw [h.N]; exact h1) (vis_ok h h2) d1 d2
  have hline' : (apos.endLine == cpos.line) = true := by rw [hline]; exact beq_self_eq_true _
  match n, hm with
  | 0, hm =>
    cases hm
    subst hnm
    match es, hl with
    | [e], _ =>
      obtain ⟨he, hs'⟩ := star_cons (env := X.env) hs
      exact s_mut hv (ha.pa hs) PySem.F.slot_list_append PySem.F.type_list_append u_append (base_ok rfl) (by rw [star_all hs]; rfl) hline' he (star_any hs')
  | 1, hm =>
    cases hm
    subst hnm
    match es, hl with
    | [e], _ =>
      obtain ⟨he, hs'⟩ := star_cons (env := X.env) hs
      exact s_mut hv (ha.pa hs) PySem.F.slot_list_extend PySem.F.type_list_extend u_extend (base_ok rfl) (by rw [star_all hs]; rfl) hline' he (star_any hs')
  | 2, hm =>
    cases hm
    subst hnm
    match es, hl, args, ha with
    | [], _, [], _ => exact s_pop hv (base_ok rfl) hline'
  | 3, hm =>
    cases hm
    subst hnm
    match es, hl with
    | [e], _ =>
      obtain ⟨he, hs'⟩ := star_cons (env := X.env) hs
      exact s_mut hv (ha.pa hs) PySem.F.slot_list_pop PySem.F.type_list_pop u_popAt (base_ok rfl) (by rw [star_all hs]; rfl) hline' he (star_any hs')
  | n + 4, hm => cases hm
end
end NG
end

section
set_option autoImplicit false
set_option maxRecDepth 100000
set_option maxHeartbeats 8000000
namespace NG
open PySem PySem.Spec PyProof.Rows L2
variable [HasW]
section
variable {Γ : GL} {Φ : Phi} {k : Nat}
theorem snd_call {sc : SC} {X : Cx} (h : XOk Γ Φ k sc X) {f md : Nat} {args : List CE} {x y : Str} {ps : List Str} {p pos : Pos} {es : List Expr} (hg : isGl sc x = true) (hd : notDbg x = true) (ha : AllE Φ X args es) (hs : noStar es = true) (hf : Γ.fns[f]? = some (y, ps)) (hy : y = x) (hl : args.length = ps.length) :
    PE X (.Call (.Name x p) es [] pos) (tE Φ X.K (.call f md args)) := by
  subst hy
  obtain ⟨fa, fd, P, G⟩ := h.fns f y ps hf
  obtain ⟨d1, d2, d3⟩ := dbg_ok hd
  cases es with
  | nil =>
    cases args with
    | cons _ _ => exact ha.elim
    | nil =>
      cases ps with
      | cons _ _ => cases hl
      | nil => exact s_call0 P G h.gd h.room (gl_ok h hg) d1
  | cons e es =>
    obtain ⟨he, hs'⟩ := star_cons (env := X.env) hs
    exact s_callP P G h.gd h.room (gl_ok h hg) (ha.pa hs) hl d1 he (star_any hs')
theorem snd_callk {sc : SC} {X : Cx} (h : XOk Γ Φ k sc X) {f md : Nat} {args : List CE} {perm : List Nat} {x y : Str} {ps ks : List Str} {p pos : Pos} {es : List Expr} {kws : List Keyword} (hg : isGl sc x = true) (hd : notDbg x = true) (ha : AllE Φ X args (es ++ kws.map fun q => q.value)) (hs : noStar es = true)
    (hf : Γ.fns[f]? = some (y, ps)) (hk : kwNames kws = some ks) (hy : y = x) (hp : permOk ps es.length ks perm = true) : PE X (.Call (.Name x p) es kws pos) (tE Φ X.K (.callk f md args perm)) := by
  subst hy
  obtain ⟨fa, fd, P, G⟩ := h.fns f y ps hf
  obtain ⟨d1, d2, d3⟩ := dbg_ok hd
  obtain ⟨a1, a2⟩ := ha.split
  obtain ⟨k1, k2, k3, k4⟩ := kw_ok (env := X.env) (pos := pos) hk
  have hl2 := a2.len
  rw [List.length_map, k4] at hl2
  cases es with
  | nil =>
    have e0 : args.drop ([] : List Expr).length = args := rfl
    rw [e0] at a2 hl2
    exact s_callK0 P G h.gd h.room (gl_ok h hg) hp a2.pk hl2 k1 k2 d1 (by rw [k3]; rfl)
  | cons e es =>
    obtain ⟨he, hs'⟩ := star_cons (env := X.env) hs
    have hl1 := a1.len
    have := s_callKP (p := p) (md := md) (cs1 := args.take (e :: es).length) (cs2 := args.drop (e :: es).length) P G h.gd h.room (gl_ok h hg) (by rw [hl1]; exact hp) (a1.pa hs) a2.pk hl2 k1 k2 d1 he (pos := pos) (by rw [star_any hs, k3]; rfl)
    rw [List.take_append_drop] at this
    exact this
theorem snd_comp {sc : SC} {X : Cx} (h : XOk Γ Φ k sc X) {c : CE} {t : Tg} {own : List Nat} {ik : ItK} {src cond : List CE} {elt tg iter : Expr} {ifs : List Expr} {scope : Scope} {pos : Pos} (hb : blkB sc scope own = true) (hn : notSet iter = true) (hsl : ((slots t).all fun i => own.contains i) = true)
    (hi : PI X tg iter (tI Φ X.K ik src)) (hg : ∀ X', XOk Γ Φ k (inner sc scope) X' → X'.K = X.K → PG X' tg (gT X.K t)) (hc : ∀ X', XOk Γ Φ k (inner sc scope) X' → X'.K = X.K → PTs X' ifs (tTs Φ X.K cond)) (he : ∀ X', XOk Γ Φ k (inner sc scope) X' → X'.K = X.K → PE X' elt (tE Φ X.K c)) :
    PE X (.ListComp elt [⟨tg, iter, ifs, 0⟩] scope pos) (tF Φ X.K (.comp c t own ik src cond)) := by
  obtain ⟨o, hok, rfl, hk⟩ := blkB_ok h hb
  refine f_comp h.calm (by rw [h.N]; exact h.nd) hi hok (fun s H C cl fp => ?_) (fun s H C cl fp => ?_) (fun s H C cl fp => ?_) (notSet_ok hn) fun i hi' => ?_
  · exact hg _ (h.blk scope hk s H C cl fp) rfl
  · exact hc _ (h.blk scope hk s H C cl fp) rfl
  · exact he _ (h.blk scope hk s H C cl fp) rfl
  · exact List.contains_iff_mem.mp (List.all_eq_true.mp hsl i hi')
theorem or_t {sc : SC} {X : Cx} {e : Expr} {c : CE} {b : Bool} (v : (b || (plainT e && chkE Γ c sc e)) = true) (ht : b = true → PT X e (tT Φ X.K c)) (hp : chkE Γ c sc e = true → PE X e (tE Φ X.K c)) : PT X e (tT Φ X.K c) := by
  rcases Bool.or_eq_true_iff.mp v with v | v
  · exact ht v
  · obtain ⟨v1, v2⟩ := Bool.and_eq_true_iff.mp v
    exact t_plain (hp v2) (plainT_ok v1)
theorem isL_list {args : List CE} : isL Φ (.blt .list args) := fun ρ S d S1 h => by
  simp only [evE] at h
  obtain ⟨ds, S2, ha, h⟩ := R.bind_ok h
  obtain ⟨h, _⟩ := lift_ok h
  match vws S2 ds, h with
  | [x], h =>
    cases x with
    | dic t l =>
      have h : (if l.length ≤ LIM then some (D.lst (l.map (·.1))) else none) = some d := h
      split at h
      · cases h
        exact ⟨_, rfl⟩
      · cases h
    | tup l => cases h; exact ⟨_, rfl⟩
    | lst l => cases h; exact ⟨_, rfl⟩
    | _ => cases h
  | [], h => cases h
  | x :: _ :: _, h => cases x <;> cases h
theorem f_list {X : Cx} {p pos : Pos} {es : List Expr} {args : List CE} (hcalm : X.calm = true) (hg : Gl X "list") (hm : X.mg "list" = none) (ha : PA X es (tA Φ X.K args)) (hs : noStar es = true) (hne : es.isEmpty = false) : PE X (.Call (.Name "list" p) es [] pos) (tF Φ X.K (.blt .list args)) := by
  cases es with
  | nil => cases hne
  | cons e es =>
    obtain ⟨he, hs'⟩ := star_cons (env := X.env) hs
    refine PE.pick fun σ H Q ⟨F, m, S, ρ, l, S1, s, en, hev, q⟩ => ?_
    simp only [evE] at hev
    obtain ⟨ds, S2, h1, hev⟩ := R.bind_ok hev
    obtain ⟨h2, rfl⟩ := lift_ok hev
    obtain ⟨r, l', hl', hr, k⟩ := k_list (X := X) hcalm ds _ _ h2
    cases hl'
    refine ⟨_, pe_callTy hr hg hm (by rfl) ha (by decide) (by decide) he (star_any hs'), ?_⟩
    exact tA_one s en h1 fun vs H2 m2 ex s2 e2 r2 => k H2 m2 F vs Q s2 r2 fun xs H3 m3 p hp ex3 s3 h3 r3 => q xs H3 m3 p (ex.none s2 hp) (ex.trans ex3) s3 h3 r3
theorem isD_dict {args : List CE} : isD Φ (.blt .dict args) := fun ρ S d S1 h => by
  simp only [evE] at h
  obtain ⟨ds, S2, ha, h⟩ := R.bind_ok h
  obtain ⟨h, _⟩ := lift_ok h
  match vws S2 ds, h with
  | [x], h =>
    cases x with
    | lst l =>
      have h : (match flatD l with
        | some fl => (putAll true [] fl).map (D.dic true)
        | none => none) = some d := h
      cases hf : flatD l with
      | none => rw [hf] at h; cases h
      | some fl =>
        rw [hf] at h
        obtain ⟨l', _, rfl⟩ := Option.map_eq_some_iff.mp h
        exact ⟨_, rfl⟩
    | _ => cases h
  | [], h => cases h
  | x :: _ :: _, h => cases x <;> cases h
theorem f_dict {X : Cx} {p pos : Pos} {e : Expr} {args : List CE} (hc : X.calm = true) (hu : X.A.units + 66 < cLine) (hw : X.w = HasW.w) (hg : Gl X "dict") (hm : X.mg "dict" = none) (ha : PA X [e] (tA Φ X.K args)) (hs : noStar [e] = true) : PE X (.Call (.Name "dict" p) [e] [] pos) (tFD Φ X.K (.blt .dict args)) := by
  obtain ⟨he, hs'⟩ := star_cons (env := X.env) hs
  refine PE.pick fun σ H Q ⟨F, m, S, ρ, l, S1, s, en, hev, q⟩ => ?_
  simp only [evE] at hev
  obtain ⟨ds, S2, h1, hev⟩ := R.bind_ok hev
  obtain ⟨h2, rfl⟩ := lift_ok hev
  obtain ⟨r, l', hl', hr, k⟩ := k_dict (X := X) hc hu hw ds _ _ h2
  cases hl'
  refine ⟨_, pe_callTy hr hg hm (by rfl) ha (by decide) (by decide) he (star_any hs'), ?_⟩
  exact tA_one s en h1 fun vs H2 m2 ex s2 e2 r2 => k H2 m2 F vs Q s2 r2 fun o H3 m3 p hp ex3 s3 h3 r3 => q o H3 m3 p (ex.none s2 hp) (ex.trans ex3) s3 h3 r3
theorem mth_step {sc : SC} {X : Cx} (h : XOk Γ Φ k sc X) {m : Mth} {o : CE} {args : List CE} {eo e1 : Expr} {apos cpos : Pos} (v2 : notCall eo = true) (v3 : apos.endLine = cpos.line) (v4 : noStar [e1] = true) (v7 : (match m, o with
      | .index, _ => true
      | .count, _ => true
      | .join, _ => true
      | .gindex, .glob _ => true
      | .get, _ => true
      | _, _ => false) = true) (v5 : chkE Γ o sc eo = true) (so : PE X eo (tE Φ X.K o)) (a : AllE Φ X args [e1]) : PE X (.Call (.Attribute eo (mthNm m) apos) [e1] [] cpos) (tE Φ X.K (.mth m o args)) := by
  match args, a with
  | [c], a =>
    cases m
    · exact snd_mth h (.inl rfl) so a.1 v2 v3 v4
    · cases o <;> first | (cases v7; done) | skip
      exact snd_gidx h v5 a.1 v2 v3 v4
    · exact snd_mthC h so a.1 v2 v3 v4
    · cases v7
    · exact snd_mth h (.inr rfl) so a.1 v2 v3 v4
    · exact s_get1 (by have := h.hu; omega) h.wd so a.1 ⟨base_ok v2, by rw [star_all v4]; rfl, by rw [v3]; exact beq_self_eq_true _, by rw [(star_cons v4).1]; rfl⟩
mutual
theorem snd_E : ∀ (c : CE) (sc : SC) (X : Cx), XOk Γ Φ k sc X → ∀ e, chkE Γ c sc e = true → PE X e (tE Φ X.K c)
  | .var i, sc, X, h, e, v => by
    simp only [chkE] at v
    split at v
    · simp only [Bool.and_eq_true, decide_eq_true_eq] at v
      obtain ⟨⟨h1, h2⟩, h3⟩ := v
      obtain ⟨d1, d2, d3⟩ := dbg_ok h3
      exact s_var (by rw [h.N]; exact h1) (vis_ok h h2) d1 d2
    · cases v
  | .cst d, sc, X, h, e, v => by
    simp only [chkE] at v
    split at v
    · rw [of_decide_eq_true v]
      exact s_int
    · rw [eq_of_beq v]
      exact s_bl
    · exact s_non
    · exact s_str (of_decide_eq_true v)
    · exact s_opq0
    · exact s_opq1
    · cases v
  | .glob d, sc, X, h, e, v => by
    simp only [chkE] at v
    split at v
    · rename_i x p
      simp only [Bool.and_eq_true] at v
      obtain ⟨⟨h1, h2⟩, h3⟩ := v
      split at h3
      · rename_i d' hd
        rw [dEq_ok _ _ h3]
        obtain ⟨u, w, m1, m2, m3, _⟩ := h.cons x d' hd
        exact s_glob (gl_ok h h1) m1 m2 m3 (dbg_ok h2).1
      · cases h3
    · cases v
  | .tup cs, sc, X, h, e, v => by
    simp only [chkE] at v
    split at v
    · simp only [Bool.and_eq_true, decide_eq_true_eq] at v
      exact s_tup ((snd_Es cs sc X h _ v.1.1).pa v.1.2) v.2
    · cases v
  | .lst cs, sc, X, h, e, v => by
    simp only [chkE] at v
    split at v
    · simp only [Bool.and_eq_true, decide_eq_true_eq] at v
      exact s_lst ((snd_Es cs sc X h _ v.1.1).pa v.1.2) v.2
    · cases v
  | .dic t cs, sc, X, h, e, v => by
    simp only [chkE] at v
    split at v
    · simp only [Bool.and_eq_true, decide_eq_true_eq] at v
      obtain ⟨⟨⟨⟨rfl, v2⟩, v3⟩, v4⟩, v5⟩ := v
      obtain ⟨a, b, c⟩ := (snd_Es cs sc X h _ v5).pps v2 v3
      exact fd_frz isD_dic (f_dic (by have := h.hu; omega) h.wd a v2 v3 v4 b c)
    · cases v
  | .bop o a b, sc, X, h, e, v => by
    simp only [chkE] at v
    split at v
    · simp only [Bool.and_eq_true, decide_eq_true_eq] at v
      obtain ⟨⟨rfl, v1⟩, v2⟩ := v
      exact s_bop h (snd_E a sc X h _ v1) (snd_E b sc X h _ v2) o
    · cases v
  | .neg a, sc, X, h, e, v => by
    simp only [chkE] at v
    split at v
    · exact s_neg (snd_E a sc X h _ v)
    · cases v
  | .not a, sc, X, h, e, v => by
    simp only [chkE] at v
    split at v
    · exact s_not (snd_E a sc X h _ v)
    · cases v
  | .cmp o a b, sc, X, h, e, v => by
    simp only [chkE] at v
    split at v
    · simp only [Bool.and_eq_true, decide_eq_true_eq, Bool.not_eq_true'] at v
      obtain ⟨⟨⟨rfl, v0⟩, v1⟩, v2⟩ := v
      exact s_cmp (cmpOk_all h o) v0 (snd_E a sc X h _ v1) (snd_E b sc X h _ v2)
    · cases v
  | .cmp2 o o' a b c, sc, X, h, e, v => by
    simp only [chkE] at v
    split at v
    · simp only [Bool.and_eq_true, decide_eq_true_eq, Bool.not_eq_true'] at v
      obtain ⟨⟨⟨⟨⟨rfl, rfl⟩, v0⟩, v1⟩, v2⟩, v3⟩ := v
      exact s_cmp2 (cmpOk_all h o) (cmpOk_all h o') v0 (snd_E a sc X h _ v1) (snd_E b sc X h _ v2) (snd_E c sc X h _ v3)
    · cases v
  | .and a b, sc, X, h, e, v => by
    simp only [chkE] at v
    split at v
    · obtain ⟨v1, v2⟩ := Bool.and_eq_true_iff.mp v
      exact s_and (snd_E a sc X h _ v1) (tail_pe (snd_E b sc X h _ v2))
    · cases v
  | .or a b, sc, X, h, e, v => by
    simp only [chkE] at v
    split at v
    · obtain ⟨v1, v2⟩ := Bool.and_eq_true_iff.mp v
      exact s_or (snd_E a sc X h _ v1) (tail_pe (snd_E b sc X h _ v2))
    · cases v
  | .ite c a b, sc, X, h, e, v => by
    simp only [chkE] at v
    split at v
    · obtain ⟨v1, v3⟩ := Bool.and_eq_true_iff.mp v
      obtain ⟨v1, v2⟩ := Bool.and_eq_true_iff.mp v1
      exact s_ite (or_t v1 (snd_T c sc X h _) (snd_E c sc X h _)) (snd_E a sc X h _ v2) (snd_E b sc X h _ v3)
    · cases v
  | .ix a i, sc, X, h, e, v => by
    simp only [chkE] at v
    split at v
    · simp only [Bool.and_eq_true] at v
      exact s_ix (by have := h.hu; omega) h.wd (notSlice_ok v.1.1) (snd_E a sc X h _ v.1.2) (snd_E i sc X h _ v.2)
    · cases v
  | .sl a lo hi, sc, X, h, e, v => by
    simp only [chkE] at v
    split at v
    · simp only [Bool.and_eq_true] at v
      exact s_sl (snd_E a sc X h _ v.1.1) (snd_O lo sc X h _ v.1.2) (snd_O hi sc X h _ v.2)
    · cases v
  | .call f md args, sc, X, h, e, v => by
    simp only [chkE] at v
    split at v
    · simp only [Bool.and_eq_true] at v
      obtain ⟨⟨⟨⟨v1, v2⟩, v3⟩, v4⟩, v5⟩ := v
      split at v5
      · rename_i y ps hf
        simp only [Bool.and_eq_true, decide_eq_true_eq] at v5
        exact snd_call h v1 v2 (snd_Es args sc X h _ v3) v4 hf v5.1 v5.2
      · cases v5
    · cases v
  | .callk f md args perm, sc, X, h, e, v => by
    simp only [chkE] at v
    split at v
    · simp only [Bool.and_eq_true] at v
      obtain ⟨⟨⟨⟨v1, v2⟩, v3⟩, v4⟩, v5⟩ := v
      split at v5
      · rename_i y ps ks hf hk
        simp only [Bool.and_eq_true, decide_eq_true_eq] at v5
        exact snd_callk h v1 v2 (snd_Es args sc X h _ v3) v4 hf hk v5.1 v5.2
      · cases v5
    · cases v
  | .blt b args, sc, X, h, e, v => by
    simp only [chkE] at v
    split at v
    · split at v
      · rename_i nm q hb
        obtain ⟨q1, q2⟩ := q
        simp only [Bool.and_eq_true, Bool.not_eq_true'] at v
        exact snd_blt h hb v.1.1.1 ((snd_Es args sc X h _ v.1.1.2).pa v.1.2) v.1.2 v.2
      · split at v
        · simp only [Bool.and_eq_true, decide_eq_true_eq] at v
          obtain ⟨⟨⟨⟨⟨v1, v2⟩, rfl⟩, v4⟩, v5⟩, v6⟩ := v
          obtain ⟨rfl, g1, m1⟩ := free_ok h v1
          match args, snd_Es args sc X h _ v6 with
          | [c], a => exact s_isinst h g1 m1 (gl_ok h v2) (h.free _ (List.contains_iff_mem.mp v4)) a.1 v5
        · simp only [Bool.and_eq_true] at v
          obtain ⟨⟨v1, v2⟩, v3⟩ := v
          obtain ⟨rfl, g1, m1⟩ := free_ok h v1
          exact fd_frz isD_dict (f_dict h.calm h.hu h.wd g1 m1 ((snd_Es args sc X h _ v3).pa v2) v2)
        · simp only [Bool.and_eq_true] at v
          obtain ⟨⟨⟨v1, v2⟩, v3⟩, v4⟩ := v
          obtain ⟨rfl, g1, m1⟩ := free_ok h v1
          obtain ⟨rfl, g2, m2⟩ := free_ok h v2
          match args, snd_Es args sc X h _ v4 with
          | [c], a => exact s_sortedSet h g1 m1 g2 m2 a.1 v3
        · simp only [Bool.and_eq_true] at v
          obtain ⟨⟨⟨v1, v2⟩, v3⟩, v4⟩ := v
          obtain ⟨rfl, g1, m1⟩ := free_ok h v1
          obtain ⟨rfl, g2, m2⟩ := free_ok h v2
          match args, snd_Es args sc X h _ v4 with
          | [c], a => exact f_frz isL_listRng (f_listRng1 h.calm g1 m1 g2 m2 a.1 v3)
        · simp only [Bool.and_eq_true] at v
          obtain ⟨⟨⟨v1, v2⟩, v3⟩, v4⟩ := v
          obtain ⟨rfl, g1, m1⟩ := free_ok h v1
          obtain ⟨rfl, g2, m2⟩ := free_ok h v2
          match args, snd_Es args sc X h _ v4 with
          | [c, c'], a => exact f_frz isL_listRng (f_listRng2 h.calm g1 m1 g2 m2 a.1 a.2.1 v3)
        · simp only [Bool.and_eq_true] at v
          obtain ⟨⟨⟨v1, v2⟩, v3⟩, v4⟩ := v
          obtain ⟨rfl, g1, m1⟩ := free_ok h v1
          obtain ⟨rfl, g2, m2⟩ := free_ok h v2
          match args, snd_Es args sc X h _ v4 with
          | [c], a => exact s_lenSet h g1 m1 g2 m2 a.1 v3
        · cases v
    · simp only [Bool.and_eq_true, decide_eq_true_eq] at v
      obtain ⟨rfl, v2⟩ := v
      match args, snd_Es args sc X h _ v2 with
      | [c], a => exact s_rev h a.1
    · cases v
  | .mth m o args, sc, X, h, e, v => by
    simp only [chkE] at v
    split at v
    · rename_i eo nm apos e1 cpos
      simp only [Bool.and_eq_true, decide_eq_true_eq] at v
      obtain ⟨⟨⟨⟨⟨⟨rfl, v2⟩, v3⟩, v4⟩, v5⟩, v6⟩, v7⟩ := v
      have a := snd_Es args sc X h _ v6
      have so := snd_E o sc X h _ v5
      exact mth_step h v2 v3 v4 v7 v5 so a
    · rename_i eo nm apos e1 e2 cpos
      simp only [Bool.and_eq_true, decide_eq_true_eq] at v
      obtain ⟨⟨⟨⟨⟨⟨rfl, v2⟩, v3⟩, v4⟩, v5⟩, v6⟩, v7⟩ := v
      have a := snd_Es args sc X h _ v6
      have so := snd_E o sc X h _ v5
      cases m <;> first | (cases v7; done) | skip
      match args, a with
      | [c1, c2], a => exact s_get2 (by have := h.hu; omega) h.wd so a.1 a.2.1 ⟨base_ok v2, by rw [star_all v4]; rfl, by rw [v3]; exact beq_self_eq_true _, by rw [(star_cons v4).1, (star_cons (star_cons (env := X.env) v4).2).1]; rfl⟩
    · cases v
  | .comp c t own ik src cond, sc, X, h, e, v => by
    simp only [chkE] at v
    split at v
    · simp only [Bool.and_eq_true, decide_eq_true_eq] at v
      obtain ⟨⟨⟨⟨⟨⟨⟨rfl, v1⟩, v2⟩, v3⟩, v4⟩, v5⟩, v6⟩, v7⟩ := v
      exact f_frz isL_comp (snd_comp h v1 v2 v3 (snd_I ik src sc X h _ _ v4) (fun X' h' e' => e' ▸ snd_tg h' t _ v5) (fun X' h' e' => e' ▸ snd_C cond _ X' h' _ v6) fun X' h' e' => e' ▸ snd_E c _ X' h' _ v7)
    · cases v
  | .mut n i args, sc, X, h, e, v => by
    simp only [chkE] at v
    split at v
    · simp only [Bool.and_eq_true] at v
      obtain ⟨⟨⟨v1, v2⟩, v3⟩, v4⟩ := v
      split at v4
      · rename_i m a hm
        simp only [Bool.and_eq_true, decide_eq_true_eq] at v4
        obtain ⟨⟨⟨⟨w1, w2⟩, w3⟩, w4⟩, w5⟩ := v4
        exact snd_mut h (by simp only [Bool.and_eq_true]; exact ⟨⟨v1, v2⟩, v3⟩) hm w1 w2 w3 w4 (snd_Es args sc X h _ w5)
      · cases v4
    · cases v
  | .alloc (.dic t cs), sc, X, h, e, v => by
    simp only [chkE] at v
    split at v
    · simp only [Bool.and_eq_true, decide_eq_true_eq] at v
      obtain ⟨⟨⟨⟨rfl, v2⟩, v3⟩, v4⟩, v5⟩ := v
      obtain ⟨a, b, c⟩ := (snd_Es cs sc X h _ v5).pps v2 v3
      exact fd_alloc isD_dic (f_dic (by have := h.hu; omega) h.wd a v2 v3 v4 b c)
    · cases v
  | .alloc (.lst cs), sc, X, h, e, v => by
    simp only [chkE] at v
    split at v
    · simp only [Bool.and_eq_true, decide_eq_true_eq] at v
      exact f_alloc isL_lst (f_lst ((snd_Es cs sc X h _ v.1.1).pa v.1.2) v.2)
    · cases v
  | .alloc (.comp c t own ik src cond), sc, X, h, e, v => by
    simp only [chkE] at v
    split at v
    · simp only [Bool.and_eq_true, decide_eq_true_eq] at v
      obtain ⟨⟨⟨⟨⟨⟨⟨rfl, v1⟩, v2⟩, v3⟩, v4⟩, v5⟩, v6⟩, v7⟩ := v
      exact f_alloc isL_comp (snd_comp h v1 v2 v3 (snd_I ik src sc X h _ _ v4) (fun X' h' e' => e' ▸ snd_tg h' t _ v5) (fun X' h' e' => e' ▸ snd_C cond _ X' h' _ v6) fun X' h' e' => e' ▸ snd_E c _ X' h' _ v7)
    · cases v
  | .alloc (.blt b args), sc, X, h, e, v => by
    cases b <;> first | (simp [chkE] at v; done) | skip
    case dict =>
      simp only [chkE] at v
      split at v
      · simp only [Bool.and_eq_true] at v
        obtain ⟨⟨v1, v2⟩, v3⟩ := v
        obtain ⟨rfl, g1, m1⟩ := free_ok h v1
        exact fd_alloc isD_dict (f_dict h.calm h.hu h.wd g1 m1 ((snd_Es args sc X h _ v3).pa v2) v2)
      · cases v
    simp only [chkE] at v
    split at v
    · simp only [Bool.and_eq_true, Bool.not_eq_true'] at v
      obtain ⟨⟨⟨v1, v2⟩, v3⟩, v4⟩ := v
      obtain ⟨rfl, g1, m1⟩ := free_ok h v1
      exact f_alloc isL_list (f_list h.calm g1 m1 ((snd_Es args sc X h _ v2).pa v3) v3 v4)
    · cases v
  | .alloc (.var _), sc, X, h, e, v => by simp [chkE] at v
  | .alloc (.cst _), sc, X, h, e, v => by simp [chkE] at v
  | .alloc (.glob _), sc, X, h, e, v => by simp [chkE] at v
  | .alloc (.tup _), sc, X, h, e, v => by simp [chkE] at v
  | .alloc (.bop _ _ _), sc, X, h, e, v => by simp [chkE] at v
  | .alloc (.neg _), sc, X, h, e, v => by simp [chkE] at v
  | .alloc (.not _), sc, X, h, e, v => by simp [chkE] at v
  | .alloc (.cmp _ _ _), sc, X, h, e, v => by simp [chkE] at v
  | .alloc (.cmp2 _ _ _ _ _), sc, X, h, e, v => by simp [chkE] at v
  | .alloc (.and _ _), sc, X, h, e, v => by simp [chkE] at v
  | .alloc (.or _ _), sc, X, h, e, v => by simp [chkE] at v
  | .alloc (.ite _ _ _), sc, X, h, e, v => by simp [chkE] at v
  | .alloc (.ix _ _), sc, X, h, e, v => by simp [chkE] at v
  | .alloc (.sl _ _ _), sc, X, h, e, v => by simp [chkE] at v
  | .alloc (.call _ _ _), sc, X, h, e, v => by simp [chkE] at v
  | .alloc (.callk _ _ _ _), sc, X, h, e, v => by simp [chkE] at v
  | .alloc (.mth _ _ _), sc, X, h, e, v => by simp [chkE] at v
  | .alloc (.mut _ _ _), sc, X, h, e, v => by simp [chkE] at v
  | .alloc (.alloc _), sc, X, h, e, v => by simp [chkE] at v
  | .alloc (.frz _), sc, X, h, e, v => by simp [chkE] at v
  | .frz _, sc, X, h, e, v => by
    simp only [chkE] at v
    cases v
termination_by structural c => c
theorem snd_Es : ∀ (cs : List CE) (sc : SC) (X : Cx), XOk Γ Φ k sc X → ∀ es, chkEs Γ cs sc es = true → AllE Φ X cs es
  | [], sc, X, h, es, v => by
    simp only [chkEs, List.isEmpty_iff] at v
    subst v
    exact trivial
  | c :: cs, sc, X, h, es, v => by
    simp only [chkEs] at v
    split at v
    · obtain ⟨v1, v2⟩ := Bool.and_eq_true_iff.mp v
      exact ⟨snd_E c sc X h _ v1, snd_Es cs sc X h _ v2⟩
    · cases v
termination_by structural cs => cs
theorem snd_T : ∀ (c : CE) (sc : SC) (X : Cx), XOk Γ Φ k sc X → ∀ e, chkT Γ c sc e = true → PT X e (tT Φ X.K c)
  | .not a, sc, X, h, e, v => by
    simp only [chkT] at v
    split at v
    · exact t_not (or_t v (snd_T a sc X h _) (snd_E a sc X h _))
    · cases v
  | .and a b, sc, X, h, e, v => by
    simp only [chkT] at v
    split at v
    · obtain ⟨v1, v2⟩ := Bool.and_eq_true_iff.mp v
      exact (w_and (or_t v1 (snd_T a sc X h _) (snd_E a sc X h _)) (tail_and (or_t v2 (snd_T b sc X h _) (snd_E b sc X h _)))).pt
    · cases v
  | .or a b, sc, X, h, e, v => by
    simp only [chkT] at v
    split at v
    · obtain ⟨v1, v2⟩ := Bool.and_eq_true_iff.mp v
      exact (w_or (or_t v1 (snd_T a sc X h _) (snd_E a sc X h _)) (tail_or (or_t v2 (snd_T b sc X h _) (snd_E b sc X h _)))).pt
    · cases v
  | .cmp o a b, sc, X, h, e, v => by
    simp only [chkT] at v
    split at v
    · simp only [Bool.and_eq_true, decide_eq_true_eq, Bool.not_eq_true'] at v
      obtain ⟨⟨⟨rfl, v0⟩, v1⟩, v2⟩ := v
      exact t_cmp (cmpOk_all h o) v0 (snd_E a sc X h _ v1) (snd_E b sc X h _ v2)
    · cases v
  | .cmp2 o o' a b c, sc, X, h, e, v => by
    simp only [chkT] at v
    split at v
    · simp only [Bool.and_eq_true, decide_eq_true_eq, Bool.not_eq_true'] at v
      obtain ⟨⟨⟨⟨⟨rfl, rfl⟩, v0⟩, v1⟩, v2⟩, v3⟩ := v
      exact t_cmp2 (cmpOk_all h o) (cmpOk_all h o') v0 (snd_E a sc X h _ v1) (snd_E b sc X h _ v2) (snd_E c sc X h _ v3)
    · cases v
  | .var _, sc, X, h, e, v => by simp [chkT] at v
  | .cst _, sc, X, h, e, v => by simp [chkT] at v
  | .glob _, sc, X, h, e, v => by simp [chkT] at v
  | .tup _, sc, X, h, e, v => by simp [chkT] at v
  | .lst _, sc, X, h, e, v => by simp [chkT] at v
  | .dic _ _, sc, X, h, e, v => by simp [chkT] at v
  | .bop _ _ _, sc, X, h, e, v => by simp [chkT] at v
  | .neg _, sc, X, h, e, v => by simp [chkT] at v
  | .ite _ _ _, sc, X, h, e, v => by simp [chkT] at v
  | .ix _ _, sc, X, h, e, v => by simp [chkT] at v
  | .sl _ _ _, sc, X, h, e, v => by simp [chkT] at v
  | .call _ _ _, sc, X, h, e, v => by simp [chkT] at v
  | .callk _ _ _ _, sc, X, h, e, v => by simp [chkT] at v
  | .blt _ _, sc, X, h, e, v => by simp [chkT] at v
  | .mth _ _ _, sc, X, h, e, v => by simp [chkT] at v
  | .comp _ _ _ _ _ _, sc, X, h, e, v => by simp [chkT] at v
  | .mut _ _ _, sc, X, h, e, v => by simp [chkT] at v
  | .alloc _, sc, X, h, e, v => by simp [chkT] at v
  | .frz _, sc, X, h, e, v => by simp [chkT] at v
termination_by structural c => c
theorem snd_O : ∀ (cs : List CE) (sc : SC) (X : Cx), XOk Γ Φ k sc X → ∀ o, chkO Γ cs sc o = true → PO X o (tP Φ X.K cs)
  | [], sc, X, h, o, v => by
    simp only [chkO, Option.isNone_iff_eq_none] at v
    subst v
    exact p_none
  | c :: cs, sc, X, h, o, v => by
    simp only [chkO] at v
    split at v
    · exact p_some (snd_E c sc X h _ v)
    · cases v
termination_by structural cs => cs
theorem snd_C : ∀ (cs : List CE) (sc : SC) (X : Cx), XOk Γ Φ k sc X → ∀ es, chkC Γ cs sc es = true → PTs X es (tTs Φ X.K cs)
  | [], sc, X, h, es, v => by
    simp only [chkC, List.isEmpty_iff] at v
    subst v
    exact ts_nil
  | c :: cs, sc, X, h, es, v => by
    simp only [chkC] at v
    split at v
    · exact ts_one (or_t v (snd_T c sc X h _) (snd_E c sc X h _))
    · cases v
termination_by structural cs => cs
theorem snd_I : ∀ (ik : ItK) (cs : List CE) (sc : SC) (X : Cx), XOk Γ Φ k sc X → ∀ iter tg, chkI Γ ik cs sc iter tg = true → PI X tg iter (tI Φ X.K ik cs)
  | ik, [], sc, X, h, iter, tg, v => by
    simp only [chkI] at v
    cases v
  | .of, c :: cs, sc, X, h, iter, tg, v => by
    simp only [chkI, Bool.and_eq_true, List.isEmpty_iff] at v
    obtain ⟨rfl, v⟩ := v
    exact i_of (snd_E c sc X h _ v)
  | .rng1, c :: cs, sc, X, h, iter, tg, v => by
    simp only [chkI] at v
    split at v
    · simp only [Bool.and_eq_true] at v
      obtain ⟨⟨v1, v2⟩, v3⟩ := v
      obtain ⟨rfl, g1, m1⟩ := free_ok h v1
      exact i_rng1 g1 m1 (a_cons (snd_E c sc X h _ v3) a_nil (star_cons v2).1) (star_cons v2).1
    · cases v
  | .rng2, c :: cs, sc, X, h, iter, tg, v => by
    simp only [chkI] at v
    split at v
    · simp only [Bool.and_eq_true] at v
      obtain ⟨⟨⟨v1, v2⟩, v3⟩, v4⟩ := v
      obtain ⟨rfl, g1, m1⟩ := free_ok h v1
      have a2 := snd_Es cs sc X h _ v4
      have s2 := (star_cons (env := X.env) v2).2
      match cs, a2 with
      | [c'], a2 => exact i_rng2 g1 m1 (a_cons (snd_E c sc X h _ v3) (a_cons a2.1 a_nil (star_cons s2).1) (star_cons v2).1) (by rw [(star_cons v2).1, (star_cons s2).1]; rfl) (by rw [(star_cons s2).1]; rfl)
    · cases v
  | .enum, c :: cs, sc, X, h, iter, tg, v => by
    simp only [chkI] at v
    split at v
    · simp only [Bool.and_eq_true] at v
      obtain ⟨⟨v1, v2⟩, v3⟩ := v
      obtain ⟨rfl, g1, m1⟩ := free_ok h v1
      exact i_enum g1 m1 (a_cons (snd_E c sc X h _ v3) a_nil (star_cons v2).1) (star_cons v2).1
    · cases v
  | .zip2, c :: cs, sc, X, h, iter, tg, v => by
    simp only [chkI] at v
    split at v
    · simp only [Bool.and_eq_true] at v
      obtain ⟨⟨⟨v1, v2⟩, v3⟩, v4⟩ := v
      obtain ⟨rfl, g1, m1⟩ := free_ok h v1
      have a2 := snd_Es cs sc X h _ v4
      have s2 := (star_cons (env := X.env) v2).2
      match cs, a2 with
      | [c'], a2 => exact i_zip2 g1 m1 (a_cons (snd_E c sc X h _ v3) (a_cons a2.1 a_nil (star_cons s2).1) (star_cons v2).1) (star_cons v2).1 (star_any s2)
    · cases v
  | .zip3, c :: cs, sc, X, h, iter, tg, v => by simp [chkI] at v
  | .items, c :: cs, sc, X, h, iter, tg, v => by simp [chkI] at v
  | .keys, c :: cs, sc, X, h, iter, tg, v => by simp [chkI] at v
  | .vals, c :: cs, sc, X, h, iter, tg, v => by simp [chkI] at v
termination_by structural _ cs => cs
end
end
end NG
end

section
set_option autoImplicit false
set_option maxRecDepth 100000
set_option maxHeartbeats 8000000
namespace NG
open PySem PySem.Spec PyProof.Rows L2
variable [HasW]

def swB (sc : SC) (value : Expr) (t : Str) (pos : Pos) : Bool := match value with
  | .ListComp _ _ s p => decide (sc.names.lookup t = some .local) && (pos.line == p.line) && !(s.names.any fun q => q.1 == t && (q.2 == .local || q.2 == .cell))
  | _ => false
def noSw (sc : SC) (tg e : Expr) : Bool := notComp e || (match e, tg with
  | .ListComp a b c d, .Name t pos => !swB sc (.ListComp a b c d) t pos
  | .ListComp _ _ _ _, .Tuple _ _ _ => true
  | .ListComp _ _ _ _, .Subscript _ _ _ => true
  | _, _ => false)
def noPar (sc : SC) (tg e : Expr) : Bool := match tg, e with
  | .Tuple ts _ _, .Tuple vs _ _ => !(ts.length == 2 || ts.length == 3) || (match ts with
    | [.Name x _, .Name y _] => decide (vs.length = 2) && (decide (sc.names.lookup x ≠ some .local) || decide (sc.names.lookup y ≠ some .local)) && noStar vs
    | _ => false)
  | .List _ _, .Tuple _ _ _ => false
  | _, _ => true
def parOk (sc : SC) (names : List (Str × Pos)) (vs : List Expr) : Bool :=
  (names.all fun q => decide (sc.names.lookup q.1 = some .local) && (q.2.line == ((names.head?).map (·.2.line)).getD 0)) && decide ((names.map (·.1)).Nodup) && noStar vs && !(vs.all (foldedForSure 8)) && !(vs.all (constantsAlone 8))
section
variable (Γ : GL)
def chkTT (c : CE) (sc : SC) (e : Expr) : Bool := chkT Γ c sc e || (plainT e && chkE Γ c sc e)
def chkCmp (c : CE) (sc : SC) (e : Expr) : Bool := match c, e with
  | .comp c t own k src cond, .ListComp elt [⟨tg, iter, ifs, as⟩] scope _ => decide (as = 0) && blkB sc scope own && notSet iter && ((slots t).all fun i => own.contains i) && chkI Γ k src sc iter tg && chkTg (inner sc scope) t tg && chkC Γ cond (inner sc scope) ifs && chkE Γ c (inner sc scope) elt
  | _, _ => false
def chkSet (sc : SC) (t : Tg) (c : CE) (tg e : Expr) : Bool :=
  (chkTg sc t tg && chkE Γ c sc e && noSw sc tg e && noPar sc tg e && noStar [tg]) || (match t, tg with
    | .one i, .Name x p => decide (sc.N[i]? = some x) && swB sc e x p && decide (sc.names.lookup x = some .local) && (match c with
      | .alloc c => chkCmp Γ c sc e
      | c => chkCmp Γ c sc e)
    | .tup [.one i, .one j], .Tuple [.Name x p, .Name y q] _ _ => (match c, e with
      | .tup cs, .Tuple vs _ _ => decide (sc.N[i]? = some x) && decide (sc.N[j]? = some y) && decide (i ≠ j) && decide (vs.length = 2) && parOk sc [(x, p), (y, q)] vs && chkEs Γ cs sc vs
      | _, _ => false)
    | .tup [.one i, .one j, .one l], .Tuple [.Name x p, .Name y q, .Name z r] _ _ => (match c, e with
      | .tup cs, .Tuple vs _ _ => decide (sc.N[i]? = some x) && decide (sc.N[j]? = some y) && decide (sc.N[l]? = some z) && decide (i ≠ j) && decide (i ≠ l) && decide (j ≠ l) && decide (vs.length = 3) && parOk sc [(x, p), (y, q), (z, r)] vs && chkEs Γ cs sc vs
      | _, _ => false)
    | _, _ => false)
mutual
def chkS : CS → SC → Stmt → Bool
  | .set t c, sc, s => (match s with
    | .Assign [tg] e _ => chkSet Γ sc t c tg e
    | _ => false)
  | .setIx o i c, sc, s => (match s with
    | .Assign [.Subscript eo ei tp] e _ => notSlice ei && noSw sc (.Subscript eo ei tp) e && chkE Γ o sc eo && chkE Γ i sc ei && chkE Γ c sc e
    | _ => false)
  | .expr c, sc, s => (match s with
    | .Expr e _ => notComp e && chkE Γ c sc e
    | _ => false)
  | .ite c a b, sc, s => (match s with
    | .If e p q _ => chkTT Γ c sc e && chkSs a sc p && chkSs b sc q
    | _ => false)
  | .for t k src body, sc, s => (match s with
    | .For tg iter b [] _ => notSet iter && chkI Γ k src sc iter tg && chkTg sc t tg && chkSs body sc b
    | _ => false)
  | .while c body, sc, s => (match s with
    | .While e b [] _ => chkTT Γ c sc e && chkSs body sc b
    | _ => false)
  | .ret c, sc, s => (match s with
    | .Return (some e) _ => chkE Γ c sc e
    | .Return none _ => (match c with
      | .cst .non => true
      | _ => false)
    | _ => false)
  | .pass, _, s => (match s with
    | .Pass _ => true
    | _ => false)
  | .brk, _, s => (match s with
    | .Break _ => true
    | _ => false)
  | .cont, _, s => (match s with
    | .Continue _ => true
    | _ => false)
  | .raise _ _, _, _ => true
  | .ghost _, _, _ => false
termination_by structural s => s
def chkSs : List CS → SC → List Stmt → Bool
  | [], _, ss => ss.isEmpty
  | c :: cs, sc, ss => (match c with
    | .ghost _ => chkSs cs sc ss
    | c => (match ss with
      | s :: ss => chkS c sc s && chkSs cs sc ss
      | [] => false))
termination_by structural cs => cs
end
end
theorem any_star {f : Expr → Bool} (hf : ∀ e, noStar [e] = true → f e = false) : ∀ {vs : List Expr}, noStar vs = true → vs.any f = false
  | [], _ => rfl
  | e :: es, h => by
    have h3 : noStar es = true := by cases e <;> first | exact h | (simp [noStar] at h)
    have h1 : noStar [e] = true := by cases e <;> first | rfl | (simp [noStar] at h)
    rw [List.any_cons, hf e h1, any_star hf h3]
    rfl
section
variable {Γ : GL} {Φ : Phi} {k W : Nat} {sc : SC} {X : Cx}
theorem sw_eq (h : XOk Γ Φ k sc X) {a : Expr} {b : List Comprehension} {c : Scope} {d p : Pos} {x : Str} {line : Nat} : swapsWith (.ListComp a b c d) (some (.Name x p)) line X.env = pure (swB sc (.ListComp a b c d) x p) := by
  have hb : X.env.blockKind = .function := by
    unfold Env.blockKind
    rw [h.kind]
    rfl
  show (pure (X.env.blockKind == .function && X.env.kindOf x == some .local && p.line == d.line && !(c.names.any fun (n, k) => n == x && (k == .local || k == .cell))) : Sem Bool) = pure _
  congr 1
  rw [hb]
  unfold Env.kindOf swB
  rw [h.names]
  have e1 : (ScopeKind.function == ScopeKind.function) = true := rfl
  rw [e1, Bool.true_and]
  congr 2
  rw [Bool.eq_iff_iff]
  simp
theorem sw_false (h : XOk Γ Φ k sc X) {tg e : Expr} {line : Nat} (v : noSw sc tg e = true) : swapsWithSole [tg] e line X.env = pure false := by
  show swapsWith e (some tg) line X.env = pure false
  unfold noSw at v
  cases e <;> first | rfl | skip
  · cases tg <;> first | rfl | skip
    rw [sw_eq h]
    simp [notComp] at v
    rw [v]
  · simp [notComp] at v
  · simp [notComp] at v
theorem sw_true (h : XOk Γ Φ k sc X) {e : Expr} {x : Str} {p : Pos} {line : Nat} (v : swB sc e x p = true) : swapsWith e (some (.Name x p)) line X.env = pure true := by
  cases e <;> first | (simp [swB] at v; done) | skip
  rw [sw_eq h, v]
theorem par_none (h : XOk Γ Φ k sc X) {tg e : Expr} (v : noPar sc tg e = true) : swappedStores [tg] e X.env = pure none := by
  unfold noPar at v
  cases tg <;> first | rfl | skip
  · cases e <;> first | rfl | (cases v; done)
  · cases e <;> first | rfl | skip
    rename_i ts kt pt vs k2 pt2
    rcases Bool.or_eq_true_iff.mp v with v | v
    · unfold swappedStores
      simp only [v, Bool.true_or]
      rfl
    · split at v
      · rename_i x px y py _
        simp only [Bool.and_eq_true, Bool.or_eq_true, decide_eq_true_eq] at v
        obtain ⟨⟨hl, hxy⟩, hst⟩ := v
        have hb : X.env.blockKind = .function := by
          unfold Env.blockKind
          rw [h.kind]
          rfl
        have hk : ∀ z, X.env.kindOf z = sc.names.lookup z := fun z => by unfold Env.kindOf; rw [h.names]
        unfold swappedStores
        simp only [hl, hb]
        rw [if_neg (by simp), if_neg]
        · have hlen : ¬ (X.env.kindOf x = some .local ∧ X.env.kindOf y = some .local) := fun z => by
            rw [hk, hk] at z
            exact hxy.elim (fun q => q z.1) fun q => q z.2
          by_cases hx : X.env.kindOf x = some .local
          · have hy : X.env.kindOf y ≠ some .local := fun z => hlen ⟨hx, z⟩
            simp [List.filterMap_cons, Expr.pos, hx, hy]
          · by_cases hy : X.env.kindOf y = some .local
            · by_cases hln : py.line = px.line <;> simp [List.filterMap_cons, Expr.pos, hx, hy, hln]
            · simp [List.filterMap_cons, Expr.pos, hx, hy]
        · refine Bool.eq_false_iff.mp (any_star ?_ hst)
          intro e he
          cases e <;> first | rfl | (simp [noStar] at he)
      · cases v
theorem par2_ok (h : XOk Γ Φ k sc X) {x y : Str} {px py pt pt2 : Pos} {kt k2 : Nat} {vs : List Expr} (v : parOk sc [(x, px), (y, py)] vs = true) (hl : vs.length = 2) :
    swappedStores [.Tuple [.Name x px, .Name y py] kt pt] (.Tuple vs k2 pt2) X.env = pure (some [x, y]) := by
  unfold parOk at v
  simp only [Bool.and_eq_true, decide_eq_true_eq, Bool.not_eq_true', List.all_eq_true, List.mem_cons, List.not_mem_nil, or_false, forall_eq_or_imp, forall_eq, List.map_cons, List.map_nil, List.head?_cons, Option.map_some, Option.getD_some, beq_iff_eq] at v
  obtain ⟨⟨⟨⟨⟨v1, v1'⟩, v2⟩, v3⟩, v4⟩, v5⟩ := v
  have hb : X.env.blockKind = .function := by
    unfold Env.blockKind
    rw [h.kind]
    rfl
  have hx : X.env.kindOf x = some .local := by unfold Env.kindOf; rw [h.names]; exact v1.1
  have hy : X.env.kindOf y = some .local := by unfold Env.kindOf; rw [h.names]; exact v1'.1
  have hne : (y == x) = false := by
    simp only [List.nodup_cons, List.mem_singleton] at v2
    exact beq_eq_false_iff_ne.mpr fun z => v2.1 z.symm
  unfold swappedStores
  simp only [hl, hb]
  rw [if_neg (by simp), if_neg]
  · have hpy : py.line = px.line := v1'.2
    simp [Expr.pos, hx, hy, hpy, v4, v5, List.eraseDups_cons, hne]
  · refine Bool.eq_false_iff.mp (any_star ?_ v3)
    intro e he
    cases e <;> first | rfl | (simp [noStar] at he)
theorem par3_ok (h : XOk Γ Φ k sc X) {x y z : Str} {px py pz pt pt2 : Pos} {kt k2 : Nat} {vs : List Expr} (v : parOk sc [(x, px), (y, py), (z, pz)] vs = true) (hl : vs.length = 3) :
    swappedStores [.Tuple [.Name x px, .Name y py, .Name z pz] kt pt] (.Tuple vs k2 pt2) X.env = pure (some [x, y, z]) := by
  unfold parOk at v
  simp only [Bool.and_eq_true, decide_eq_true_eq, Bool.not_eq_true', List.all_eq_true, List.mem_cons, List.not_mem_nil, or_false, forall_eq_or_imp, forall_eq, List.map_cons, List.map_nil, List.head?_cons, Option.map_some, Option.getD_some, beq_iff_eq] at v
  obtain ⟨⟨⟨⟨⟨v1, v1', v1''⟩, v2⟩, v3⟩, v4⟩, v5⟩ := v
  have hb : X.env.blockKind = .function := by
    unfold Env.blockKind
    rw [h.kind]
    rfl
  have hx : X.env.kindOf x = some .local := by unfold Env.kindOf; rw [h.names]; exact v1.1
  have hy : X.env.kindOf y = some .local := by unfold Env.kindOf; rw [h.names]; exact v1'.1
  have hz : X.env.kindOf z = some .local := by unfold Env.kindOf; rw [h.names]; exact v1''.1
  simp only [List.nodup_cons, List.mem_cons, List.not_mem_nil, or_false, not_or] at v2
  have n1 : (y == x) = false := beq_eq_false_iff_ne.mpr fun q => v2.1.1 q.symm
  have n2 : (z == x) = false := beq_eq_false_iff_ne.mpr fun q => v2.1.2 q.symm
  have n3 : (z == y) = false := beq_eq_false_iff_ne.mpr fun q => v2.2.1 q.symm
  unfold swappedStores
  simp only [hl, hb]
  rw [if_neg (by simp), if_neg]
  · have hpy : py.line = px.line := v1'.2
    have hpz : pz.line = px.line := v1''.2
    simp [Expr.pos, hx, hy, hz, hpy, hpz, v4, v5, List.eraseDups_cons, n1, n2, n3]
  · refine Bool.eq_false_iff.mp (any_star ?_ v3)
    intro e he
    cases e <;> first | rfl | (simp [noStar] at he)
end
end NG
end

section
set_option autoImplicit false
set_option maxRecDepth 100000
set_option maxHeartbeats 8000000
namespace NG
open PySem PySem.Spec PyProof.Rows L2
variable [HasW]
section
variable {Γ : GL} {Φ : Phi} {k W : Nat}
theorem snd_TT {sc : SC} {X : Cx} (h : XOk Γ Φ k sc X) {c : CE} {e : Expr} (v : chkTT Γ c sc e = true) : PT X e (tT Φ X.K c) := or_t v (snd_T c sc X h e) (snd_E c sc X h e)
theorem snd_setLc {sc : SC} {X : Cx} (h : XOk Γ Φ k sc X) {i : Nat} {x : Str} {p pos : Pos} {c : CE} {e : Expr} (al : Bool) (h1 : sc.N[i]? = some x) (h2 : swB sc e x p = true) (h3 : sc.names.lookup x = some .local) (v : chkCmp Γ c sc e = true) :
    PS X (.Assign [.Name x p] e pos) (tS W Φ X.K (.set (.one i) (if al then .alloc c else c))) := by
  unfold chkCmp at v
  split at v
  · simp only [Bool.and_eq_true, decide_eq_true_eq] at v
    obtain ⟨⟨⟨⟨⟨⟨⟨rfl, v1⟩, v2⟩, v3⟩, v4⟩, v5⟩, v6⟩, v7⟩ := v
    obtain ⟨o, hok, rfl, hk⟩ := blkB_ok h v1
    refine q_setLc h.calm (by rw [h.N]; exact h.nd) (by rw [h.N]; exact h1) (by rw [h.names]; exact h3) (sw_true h h2) (snd_I _ _ _ _ h _ _ v4) hok (fun s H C cl fp => ?_) (fun s H C cl fp => ?_) (fun s H C cl fp => ?_) (notSet_ok v2) (fun i hi' => ?_) al
    · exact snd_tg (h.blk _ hk s H C cl fp) _ _ v5
    · exact snd_C _ _ _ (h.blk _ hk s H C cl fp) _ v6
    · exact snd_E _ _ _ (h.blk _ hk s H C cl fp) _ v7
    · exact List.contains_iff_mem.mp (List.all_eq_true.mp v3 i hi')
  · cases v
theorem snd_set {sc : SC} {X : Cx} (h : XOk Γ Φ k sc X) {t : Tg} {c : CE} {tg e : Expr} {pos : Pos} (v : chkSet Γ sc t c tg e = true) : PS X (.Assign [tg] e pos) (tS W Φ X.K (.set t c)) := by
  unfold chkSet at v
  rcases Bool.or_eq_true_iff.mp v with v | v
  · simp only [Bool.and_eq_true] at v
    obtain ⟨⟨⟨⟨v1, v2⟩, v3⟩, v4⟩, v5⟩ := v
    exact q_set (snd_E c sc X h e v2) (snd_tg h t tg v1) (sw_false h v3) (par_none h v4) (by rw [(asg_cons v5).1]; rfl)
  · split at v
    · rename_i i x p
      simp only [Bool.and_eq_true, decide_eq_true_eq] at v
      obtain ⟨⟨⟨v1, v2⟩, v3⟩, v4⟩ := v
      split at v4
      · exact snd_setLc h true v1 v2 v3 v4
      · exact snd_setLc h false v1 v2 v3 v4
    · split at v
      · rename_i cs vs k2 pt2 q0
        simp only [Bool.and_eq_true, decide_eq_true_eq] at v
        obtain ⟨⟨⟨⟨⟨v1, v2⟩, v3⟩, v4⟩, v5⟩, v6⟩ := v
        have ha := snd_Es cs sc X h vs v6
        have hl := ha.len
        have hst : noStar vs = true := by
          unfold parOk at v5
          simp only [Bool.and_eq_true] at v5
          exact v5.1.1.2
        have hp := v5
        unfold parOk at hp
        simp only [Bool.and_eq_true, List.all_eq_true, decide_eq_true_eq] at hp
        have l1 := (hp.1.1.1.1 _ (List.mem_cons_self ..)).1
        have l2 := (hp.1.1.1.1 _ (List.mem_cons_of_mem _ (List.mem_cons_self ..))).1
        match vs, v4, cs, hl with
        | [a, b], _, [ca, cb], _ =>
          exact q_par2 h.calm (by rw [h.N]; exact h.nd) (by rw [h.N]; exact v1) (by rw [h.N]; exact v2) v3 (by rw [h.names]; exact l1) (by rw [h.names]; exact l2) (ha.pa hst) (par2_ok h v5 rfl) rfl
      · cases v
    · split at v
      · rename_i cs vs k2 pt2 q0
        simp only [Bool.and_eq_true, decide_eq_true_eq] at v
        obtain ⟨⟨⟨⟨⟨⟨⟨⟨v1, v2⟩, v2'⟩, v3⟩, v3'⟩, v3''⟩, v4⟩, v5⟩, v6⟩ := v
        have ha := snd_Es cs sc X h vs v6
        have hl := ha.len
        have hst : noStar vs = true := by
          unfold parOk at v5
          simp only [Bool.and_eq_true] at v5
          exact v5.1.1.2
        have hp := v5
        unfold parOk at hp
        simp only [Bool.and_eq_true, List.all_eq_true, decide_eq_true_eq] at hp
        have l1 := (hp.1.1.1.1 _ (List.mem_cons_self ..)).1
        have l2 := (hp.1.1.1.1 _ (List.mem_cons_of_mem _ (List.mem_cons_self ..))).1
        have l3 := (hp.1.1.1.1 _ (List.mem_cons_of_mem _ (List.mem_cons_of_mem _ (List.mem_cons_self ..)))).1
        match vs, v4, cs, hl with
        | [a, b, c], _, [ca, cb, cc], _ =>
          exact q_par3 h.calm (by rw [h.N]; exact h.nd) (by rw [h.N]; exact v1) (by rw [h.N]; exact v2) (by rw [h.N]; exact v2') v3 v3' v3'' (by rw [h.names]; exact l1) (by rw [h.names]; exact l2) (by rw [h.names]; exact l3) (ha.pa hst) (par3_ok h v5 rfl) rfl
      · cases v
    · cases v
theorem q_retN {X : Cx} {pos : Pos} : PS X (.Return none pos) (tS W Φ X.K (.ret (.cst .non))) :=
  PS.pick fun D σ H ⟨F, m, S, ρ, fl, S1, s, e, h, q⟩ => by
    refine ⟨_, ps_retN, ?_⟩
    simp only [evS, evE, R.bind] at h
    cases h
    exact q .non H m Ex.refl s .non
theorem xe_own {sc : SC} {X : Cx} (h : XOk Γ Φ k sc X) : PassesOwn (model X.prog X.w) X.A X.env X.xe := by
  rw [h.xe]
  exact PassesOwn.never
theorem ss_step {sc : SC} {X : Cx} {c : CS} {cs : List CS} {ss : List Stmt} (hS : ∀ s, chkS Γ c sc s = true → PS X s (tS W Φ X.K c)) (hSs : ∀ ss, chkSs Γ cs sc ss = true → PSs X ss (tSs W Φ X.K cs)) (v : chkSs Γ (c :: cs) sc ss = true) : PSs X ss (tSs W Φ X.K (c :: cs)) := by
  cases c with
  | ghost i =>
    simp only [chkSs] at v
    exact q_ghost (hSs ss v)
  | _ =>
    cases ss with
    | nil =>
      simp only [chkSs] at v
      cases v
    | cons s ss =>
      simp only [chkSs] at v
      obtain ⟨v1, v2⟩ := Bool.and_eq_true_iff.mp v
      exact q_cons (hS s v1) (hSs ss v2)
mutual
theorem snd_S : ∀ (c : CS) (sc : SC) (X : Cx), XOk Γ Φ k sc X → ∀ s, chkS Γ c sc s = true → PS X s (tS W Φ X.K c)
  | .set t c, sc, X, h, s, v => by
    simp only [chkS] at v
    split at v
    · exact snd_set h v
    · cases v
  | .setIx o i c, sc, X, h, s, v => by
    simp only [chkS] at v
    split at v
    · rename_i eo ei tp e pos
      simp only [Bool.and_eq_true] at v
      obtain ⟨⟨⟨⟨v1, v2⟩, v3⟩, v4⟩, v5⟩ := v
      refine q_setIx (by have := h.hu; omega) h.wd (snd_E o sc X h _ v3) (snd_E i sc X h _ v4) (snd_E c sc X h _ v5) (fun w => ?_) ?_ ?_ ?_
      · cases ei <;> first | rfl | (simp [notSlice] at v1; done)
      · exact sw_false h v2
      · rfl
      · rfl
    · cases v
  | .expr c, sc, X, h, s, v => by
    simp only [chkS] at v
    split at v
    · rename_i e pos
      simp only [Bool.and_eq_true] at v
      refine q_expr (snd_E c sc X h _ v.2) ?_
      have v1 := v.1
      cases e <;> first | rfl | (simp [notComp] at v1; done)
    · cases v
  | .ite c a b, sc, X, h, s, v => by
    simp only [chkS] at v
    split at v
    · simp only [Bool.and_eq_true] at v
      exact q_if (snd_TT h v.1.1) (snd_Ss a sc X h _ v.1.2) (snd_Ss b sc X h _ v.2)
    · cases v
  | .for t ik src body, sc, X, h, s, v => by
    simp only [chkS] at v
    split at v
    · simp only [Bool.and_eq_true] at v
      obtain ⟨⟨⟨v1, v2⟩, v3⟩, v4⟩ := v
      exact q_for (xe_own h) h.calm (snd_I _ _ _ _ h _ _ v2) (snd_tg h _ _ v3) (snd_Ss body sc X h _ v4) (notSet_ok v1)
    · cases v
  | .while c body, sc, X, h, s, v => by
    simp only [chkS] at v
    split at v
    · simp only [Bool.and_eq_true] at v
      exact q_while (xe_own h) (snd_TT h v.1) (snd_Ss body sc X h _ v.2)
    · cases v
  | .ret c, sc, X, h, s, v => by
    simp only [chkS] at v
    split at v
    · exact q_ret (snd_E c sc X h _ v)
    · split at v
      · exact q_retN
      · cases v
    · cases v
  | .pass, sc, X, h, s, v => by
    simp only [chkS] at v
    split at v
    · exact q_pass
    · cases v
  | .brk, sc, X, h, s, v => by
    simp only [chkS] at v
    split at v
    · exact q_brk
    · cases v
  | .cont, sc, X, h, s, v => by
    simp only [chkS] at v
    split at v
    · exact q_cont
    · cases v
  | .raise _ _, sc, X, h, s, v => q_raise
  | .ghost _, sc, X, h, s, v => by
    simp only [chkS] at v
    cases v
termination_by structural c => c
theorem snd_Ss : ∀ (cs : List CS) (sc : SC) (X : Cx), XOk Γ Φ k sc X → ∀ ss, chkSs Γ cs sc ss = true → PSs X ss (tSs W Φ X.K cs)
  | [], sc, X, h, ss, v => by
    simp only [chkSs, List.isEmpty_iff] at v
    subst v
    exact q_nil
  | c :: cs, sc, X, h, ss, v => by
    have hS := snd_S c sc X h
    have hSs := snd_Ss cs sc X h
    exact ss_step hS hSs v
termination_by structural cs => cs
end
end

/-! ## the program -/
structure FI where
  name : Str
  qual : Str
  params : Arguments
  body : List Stmt
  scope : Scope
  N : List Str
  ps : List Str
  fn : Fn
def scopeOk (N ps : List Str) (sc : Scope) : Bool :=
  decide (sc.kind = .function) && !sc.isCoroutine && !sc.isGenerator && decide N.Nodup && decide (N.take ps.length = ps) &&
    ps.all (fun x => decide (sc.names.lookup x = some .local) || decide (sc.names.lookup x = some .cell)) && sc.names.all (fun y => decide (y.2 ≠ .free))
def chkFI (Γ : GL) (f : FI) : Bool :=
  scopeOk f.N f.ps f.scope && plainPs f.params f.ps && decide (f.fn.np = f.ps.length) && decide (f.fn.ns = f.N.length) && chkSs Γ f.fn.body ⟨f.N, f.scope.names, none⟩ f.body
theorem scopeOk_ok {N ps : List Str} {sc : Scope} (h : scopeOk N ps sc = true) : FnScope N ps sc := by
  unfold scopeOk at h
  simp only [Bool.and_eq_true, decide_eq_true_eq, Bool.not_eq_true', List.all_eq_true, Bool.or_eq_true] at h
  obtain ⟨⟨⟨⟨⟨⟨h1, h2⟩, h3⟩, h4⟩, h5⟩, h6⟩, h7⟩ := h
  exact ⟨h1, h2, h3, h4, h5, h6, h7⟩
/-- what is known of the module -/
structure ModOk (Γ : GL) (fns : List FI) (K : PySem.W.Frag) (mg : Str → Option Value) : Prop where
  fns : ∀ (i : Nat) (fi : FI), fns[i]? = some fi → ∃ fa fd, mg fi.name = some (.ref fa) ∧ FunD K fi.name fi.qual fi.params fi.body fi.scope [] [] fa fd
  cons : ∀ x d, Γ.cons.lookup x = some d → ∃ u v, mg x = some u ∧ RelV v u ∧ ConV K d v ∧ KTup K v
  free : ∀ x, x ∈ Γ.free → mg x = none
theorem prog_ok {Γ : GL} {fns : List FI} {P : Program} {w : World} {K : PySem.W.Frag} {mg : Str → Option Value} {base : Heap} {W : Nat} (hwd : w = HasW.w) (M : ModOk Γ fns K mg) (hΓ : Γ.fns = fns.map fun f => (f.name, f.ps)) (hc : ∀ fi ∈ fns, chkFI Γ fi = true) :
    ∀ (k i : Nat) (fi : FI) (fa : Addr) (fd : FuncData), fns[i]? = some fi → mg fi.name = some (.ref fa) → FunD K fi.name fi.qual fi.params fi.body fi.scope [] [] fa fd →
      FnG P w K mg base k fa fd fi.ps (spF (phi W (fun i => (fns[i]?).map (·.fn)) k) K i fi.ps.length)
  | 0, i, fi, fa, fd, hi, hm, F => ⟨fun vs H Q E h => h.1, fun A outer s H args us vs Q hg hr e0 hb r h => by
      obtain ⟨_, _, _, _, _, _, _, _, _, h, _⟩ := h
      cases h⟩
  | k + 1, i, fi, fa, fd, hi, hm, F => by
    have hci := hc fi (List.mem_of_getElem? hi)
    unfold chkFI at hci
    simp only [Bool.and_eq_true, decide_eq_true_eq] at hci
    obtain ⟨⟨⟨⟨c1, c2⟩, c3⟩, c4⟩, c5⟩ := hci
    have S := scopeOk_ok c1
    refine fnG_ev F S (fn := fi.fn) (by rw [hi]; rfl) c3 c4 fun cdv A outer s H hg hr => ?_
    refine PSs.nox ?_
    refine snd_Ss _ ⟨fi.N, fi.scope.names, none⟩ _ ⟨rfl, S.nd, rfl, S.kind, fun x => rfl, rfl, hwd, hg, hr, rfl, fun j x ps hj => ?_, M.cons, M.free⟩ _ c5
    rw [hΓ, List.getElem?_map] at hj
    obtain ⟨fj, hfj, e⟩ := Option.map_eq_some_iff.mp hj
    cases e
    obtain ⟨fa', fd', m1, F1⟩ := M.fns j fj hfj
    have hcj := hc fj (List.mem_of_getElem? hfj)
    unfold chkFI at hcj
    simp only [Bool.and_eq_true] at hcj
    exact ⟨fa', fd', funP m1 F1 hcj.1.1.1.2, prog_ok hwd M hΓ hc k j fj fa' fd' hfj m1 F1⟩
end NG
end

section
set_option autoImplicit false
set_option maxRecDepth 100000
set_option maxHeartbeats 2000000
namespace NG
open PySem PySem.Spec PyProof.Rows L2
variable [HasW]
/-! ## what the head says -/
mutual
def valB (K : PySem.W.Frag) : D → Value → Bool
  | .int i, u => (match u with
    | .int j _ => decide (i = j)
    | _ => false)
  | .str s, u => (match u with
    | .str x _ => decide (toStr s = x)
    | _ => false)
  | .bl a, u => (match u with
    | .bool b => a == b
    | _ => false)
  | .non, u => (match u with
    | .none => true
    | _ => false)
  | .tup ds, u => (match u with
    | .ref a => (match K.lookup a with
      | some ⟨.type c, none, .seq its _, _⟩ => decide (c = "tuple") && decide (its.size ≤ sizeLine) && valsB K ds its.toList
      | _ => false)
    | _ => false)
  | _, _ => false
def valsB (K : PySem.W.Frag) : List D → List Value → Bool
  | [], us => us.isEmpty
  | d :: ds, us => (match us with
    | u :: us => valB K d u && valsB K ds us
    | [] => false)
end
mutual
theorem valB_ok {K : PySem.W.Frag} : ∀ (d : D) (u : Value), valB K d u = true → ∃ v, RelV v u ∧ ConV K d v ∧ KTup K v
  | .int i, u, h => by
    simp only [valB] at h
    split at h
    · rw [of_decide_eq_true h]
      exact ⟨.int _, ⟨_, rfl⟩, fun _ _ _ => .int _, fun a z => by cases z⟩
    · cases h
  | .str s, u, h => by
    simp only [valB] at h
    split at h
    · rw [← of_decide_eq_true h]
      exact ⟨.str _, ⟨_, rfl⟩, fun _ _ _ => .str _, fun a z => by cases z⟩
    · cases h
  | .bl a, u, h => by
    simp only [valB] at h
    split at h
    · rw [eq_of_beq h]
      exact ⟨.bl _, rfl, fun _ _ _ => .bl _, fun a z => by cases z⟩
    · cases h
  | .non, u, h => by
    simp only [valB] at h
    split at h
    · exact ⟨.non, rfl, fun _ _ _ => .non, fun a z => by cases z⟩
    · cases h
  | .tup ds, u, h => by
    simp only [valB] at h
    split at h
    · split at h
      · rename_i c its n sl hk
        simp only [Bool.and_eq_true, decide_eq_true_eq] at h
        obtain ⟨⟨rfl, h2⟩, h3⟩ := h
        obtain ⟨xs, r1, r2⟩ := valsB_ok ds _ h3
        exact ⟨.ref _, rfl, fun H T m => .tupK ⟨_, its, n, hk, rfl, rfl, h2, r1⟩ (r2 H T m), fun a z => by cases z; exact ⟨_, hk, rfl, rfl⟩⟩
      · cases h
    · cases h
  | .undef, u, h => by simp [valB] at h
  | .lst _, u, h => by simp [valB] at h
  | .dic _ _, u, h => by simp [valB] at h
  | .scr _, u, h => by simp [valB] at h
  | .ref _, u, h => by simp [valB] at h
  | .exc _ _, u, h => by simp [valB] at h
  | .clo _ _, u, h => by simp [valB] at h
theorem valsB_ok {K : PySem.W.Frag} : ∀ (ds : List D) (us : List Value), valsB K ds us = true → ∃ xs, Vals xs us ∧ ∀ H T m, Rps K H T m ds xs
  | [], us, h => by
    simp only [valsB, List.isEmpty_iff] at h
    subst h
    exact ⟨[], .nil, fun _ _ _ => .nil⟩
  | d :: ds, us, h => by
    simp only [valsB] at h
    split at h
    · obtain ⟨h1, h2⟩ := Bool.and_eq_true_iff.mp h
      obtain ⟨v, r1, c1, _⟩ := valB_ok d _ h1
      obtain ⟨vs, r2, c2⟩ := valsB_ok ds _ h2
      exact ⟨v :: vs, .cons r1 r2, fun H T m => .cons (c1 H T m) (c2 H T m)⟩
    · cases h
end
def conB (K : PySem.W.Frag) (x : Str) (d : D) : Bool := match PySem.W.nsIn K mainGlobals x with
  | some (some u) => valB K d u
  | _ => false
def exB (cons : List (Str × D)) (K : PySem.W.Frag) : Bool := cons.all fun q => conB K q.1 q.2
theorem conB_ok {K : PySem.W.Frag} {h : Heap} {mg : Str → Option Value} (inK : K.In h) (G : h.Ns mainGlobals mg) {x : Str} {d : D} (c : conB K x d = true) : ∃ u v, mg x = some u ∧ RelV v u ∧ ConV K d v ∧ KTup K v := by
  unfold conB at c
  split at c
  · rename_i u hu
    obtain ⟨v, r, cv⟩ := valB_ok d u c
    exact ⟨u, v, PySem.W.mg_of inK G hu, r, cv⟩
  · cases c
def dsOf (fis : List FI) : List He.DefD := fis.map fun f => ⟨(f.name, none), f.name, f.qual, f.params, f.body, f.scope, [], []⟩
def faOf (fis : List FI) (free : List Str) : List He.Fa := (fis.map fun f => .glo f.name) ++ free.map .free
theorem lookup_mem' {α : Type} {x : Str} {d : α} : ∀ {l : List (Str × α)}, l.lookup x = some d → (x, d) ∈ l
  | [], h => by cases h
  | (y, e) :: l, h => by
    rw [List.lookup_cons] at h
    cases hb : (x == y) with
    | true =>
      rw [hb] at h
      cases h
      rw [eq_of_beq hb]
      exact List.mem_cons_self ..
    | false =>
      rw [hb] at h
      exact List.mem_cons_of_mem _ (lookup_mem' h)
theorem modOk_of {fis : List FI} {Γ : GL} {K : PySem.W.Frag} {h : Heap} {mg : Str → Option Value} (inK : K.In h) (G : h.Ns mainGlobals mg) (S : He.SaysD (faOf fis Γ.free) (dsOf fis) K) (ex : exB Γ.cons K = true) : ModOk Γ fis K mg where
  fns := fun i fi hi => by
    have hm := List.mem_of_getElem? hi
    obtain ⟨fd, F⟩ := He.SaysD.defs S (d := ⟨(fi.name, none), fi.name, fi.qual, fi.params, fi.body, fi.scope, [], []⟩) (List.mem_map.mpr ⟨fi, hm, rfl⟩)
    exact ⟨_, fd, He.glo_ok inK G (He.SaysD.facts S (f := .glo fi.name) (List.mem_append_left _ (List.mem_map.mpr ⟨fi, hm, rfl⟩))), F⟩
  cons := fun x d hx => conB_ok inK G (List.all_eq_true.mp ex (x, d) (lookup_mem' hx))
  free := fun x hx => He.free_ok inK G (He.SaysD.facts S (f := .free x) (List.mem_append_right _ (List.mem_map.mpr ⟨x, hx, rfl⟩)))
/-! the Hook -/
abbrev AlN : Type := He.AlD × Bool
def obsN (n : Nat) (fa : List He.Fa) (fn : List He.DefD) (cons : List (Str × D)) (g : Addr → Option Obj) : AlN := (He.obsD fa fn (He.frG g (He.asD g n)), exB cons (He.frG g (He.asD g n)))
def hookN (n : Nat) (fa : List He.Fa) (fn : List He.DefD) (cons : List (Str × D)) : PySem.W.Hook where
  α := AlN
  obs := fun s => obsN n fa fn cons s.heap.get?
  val := fun _ => (He.valD fn, true)
  says := fun _ h => ∃ K : PySem.W.Frag, K.In h ∧ He.SaysD fa fn K ∧ exB cons K = true
  of := fun _ s e => ⟨He.frG s.heap.get? (He.asD s.heap.get? n), He.frG_in, congrArg (fun z : AlN => z.1) e, congrArg (fun z : AlN => z.2) e⟩
  keeps := fun _ _ _ ⟨K, inK, c⟩ kp => ⟨K, PySem.W.Frag.In.keeps inK kp, c⟩
omit [HasW] in
theorem obsN_eq {n : Nat} {fa : List He.Fa} {fn : List He.DefD} {cons : List (Str × D)} {g : Addr → Option Obj} {s : Shared} (h : ∀ a, g a = s.heap.get? a) : obsN n fa fn cons g = (hookN n fa fn cons).obs s := by
  rw [show g = s.heap.get? from funext h] <;> rfl
omit [HasW] in
/-- the whole: from the law's answer at the evaluator -/
theorem whole {fis : List FI} {Γ : GL} {P : Program} {w : World} {mg : Str → Option Value} {fa : Addr} {h : Heap} {W k li : Nat} {fi : FI} (Y : ∃ K : PySem.W.Frag, K.In h ∧ He.SaysD (faOf fis Γ.free) (dsOf fis) K ∧ exB Γ.cons K = true) (G : h.Ns mainGlobals mg)
    (hΓ : Γ.fns = fis.map fun f => (f.name, f.ps)) (hc : ∀ fi ∈ fis, chkFI Γ fi = true) (hi : fis[li]? = some fi) (hps : fi.ps = [("script" : Str)]) (hmg : mg fi.name = some (.ref fa))
    (ev : ∀ ns : List Int, ns.length ≤ 63 → ∃ S1, phi W (fun i => (fis[i]?).map (·.fn)) k li [.scr (ns.map D.int)] [] = .ok (.bl true) S1) :
    ∃ (K : PySem.W.Frag) (fd : FuncData) (sp : Sp), K.In h ∧ (∀ (s : Shared) (u : Value), BindsTo s fd ⟨[u], []⟩ [(("script" : Str), u)]) ∧
      (∀ (H : Hp) (a : Addr) (ns : List Int), ns.length ≤ 63 → Only H → SqL K H a (ns.map V.int) → sp [.ref a] H (fun v _ => v = .bl true) E0) ∧
      ∀ base : Heap, K.In base → base.Ns mainGlobals mg → FnG P w K mg base k fa fd [("script" : Str)] sp := by
  letI : HasW := ⟨w⟩
  obtain ⟨K, inK, S, ex⟩ := Y
  have M := modOk_of inK G S ex
  obtain ⟨fa', fd, m1, F1⟩ := M.fns li fi hi
  rw [hmg] at m1
  cases m1
  have hci := hc fi (List.mem_of_getElem? hi)
  unfold chkFI at hci
  simp only [Bool.and_eq_true] at hci
  have P1 := funP hmg F1 hci.1.1.1.2
  rw [hps] at P1
  refine ⟨K, fd, spF (phi W (fun i => (fis[i]?).map (·.fn)) k) K li 1, inK, fun s u => P1.pos s [u] rfl, fun H a ns hl _ sq => ?_, fun base inB GB => ?_⟩
  · obtain ⟨S1, e⟩ := ev ns hl
    exact keeps_law sq e
  · have := prog_ok (P := P) (w := w) (base := base) (W := W) rfl (modOk_of inB GB S ex) hΓ hc k li fi fa fd hi hmg F1
    rw [hps] at this
    exact this
end NG
end

section
set_option autoImplicit false
set_option maxRecDepth 100000
set_option maxHeartbeats 0
namespace NgT
open PySem PySem.Spec PyProof.Rows L2 NG
def top (i : Nat) : Stmt := PySem.Challenge.pw_noghostleft_k44_whole_charges_and_levels.main.body.getD i (.Pass ⟨0, 0, 0, 0⟩)
/-- is_integer -/
def b_0 : List CS := [.ret (.and (.blt (.isinst .int) [.var 0]) (.not (.blt (.isinst .bool) [.var 0])))]
def f_0 : FI := ⟨"is_integer", "is_integer", defArgs (top 7), defBody (top 7), defScope (top 7), ["value"], ["value"], ⟨1, 1, b_0⟩⟩
/-- is_between -/
def b_1 : List CS := [.ret (.and (.call 0 1 [.var 0]) (.cmp2 .le .le (.var 1) (.var 0) (.var 2)))]
def f_1 : FI := ⟨"is_between", "is_between", defArgs (top 8), defBody (top 8), defScope (top 8), ["value", "low", "high"], ["value", "low", "high"], ⟨3, 3, b_1⟩⟩
/-- are_between -/
def b_2 : List CS := [.ret (.and (.blt (.isinst .tuple) [.var 0]) (.blt .all [.comp (.call 1 1 [.var 3, .var 1, .var 2]) (.one 3) [3] .of [.var 0] []]))]
def f_2 : FI := ⟨"are_between", "are_between", defArgs (top 9), defBody (top 9), defScope (top 9), ["value", "low", "high", "one"], ["value", "low", "high"], ⟨3, 4, b_2⟩⟩
/-- is_ascending -/
def b_3 : List CS := [.ret (.blt .all [.comp (.cmp .lt (.var 1) (.var 2)) (.tup [.one 1, .one 2]) [1, 2] .zip2 [.var 0, .sl (.var 0) [.cst (.int 1)] []] []])]
def f_3 : FI := ⟨"is_ascending", "is_ascending", defArgs (top 10), defBody (top 10), defScope (top 10), ["items", "one", "other"], ["items"], ⟨1, 3, b_3⟩⟩
/-- is_wave -/
def b_4 : List CS := [.ret (.and (.blt (.isinst .str) [.var 0]) (.and (.cmp .le (.blt .len [.var 0]) (.glob (.int 5000))) (.blt .all [.comp (.cmp .isin (.var 1) (.glob (.tup [.str [100], .str [108], .str [114]]))) (.one 1) [1] .of [.var 0] []])))]
def f_4 : FI := ⟨"is_wave", "is_wave", defArgs (top 18), defBody (top 18), defScope (top 18), ["value", "sign"], ["value"], ⟨1, 2, b_4⟩⟩
/-- check_wave -/
def b_5 : List CS := [.ite (.not (.call 4 1 [.var 0])) [.raise 0 (.cst .non)] []]
def f_5 : FI := ⟨"check_wave", "check_wave", defArgs (top 19), defBody (top 19), defScope (top 19), ["wave"], ["wave"], ⟨1, 1, b_5⟩⟩
/-- check_bound -/
def b_6 : List CS := [.ite (.not (.call 1 1 [.var 0, .cst (.int 0), .glob (.int 20)])) [.raise 0 (.cst .non)] []]
def f_6 : FI := ⟨"check_bound", "check_bound", defArgs (top 22), defBody (top 22), defScope (top 22), ["bound"], ["bound"], ⟨1, 1, b_6⟩⟩
/-- charge_by -/
def b_7 : List CS := [.ret (.bop .sub (.mth .count (.var 0) [.glob (.str [100])]) (.mth .count (.var 0) [.glob (.str [108])]))]
def f_7 : FI := ⟨"charge_by", "charge_by", defArgs (top 23), defBody (top 23), defScope (top 23), ["wave"], ["wave"], ⟨1, 1, b_7⟩⟩
/-- charge_of -/
def b_8 : List CS := [.expr (.call 5 1 [.var 0]), .ret (.call 7 1 [.var 0])]
def f_8 : FI := ⟨"charge_of", "charge_of", defArgs (top 24), defBody (top 24), defScope (top 24), ["wave"], ["wave"], ⟨1, 1, b_8⟩⟩
/-- charges_by -/
def b_9 : List CS := [.ret (.comp (.call 7 1 [.sl (.var 0) [] [.var 1]]) (.one 1) [1] .rng1 [.bop .add (.blt .len [.var 0]) (.cst (.int 1))] [])]
def f_9 : FI := ⟨"charges_by", "charges_by", defArgs (top 25), defBody (top 25), defScope (top 25), ["wave", "many"], ["wave"], ⟨1, 2, b_9⟩⟩
/-- charges_of -/
def b_10 : List CS := [.expr (.call 5 1 [.var 0]), .ret (.blt .tuple [.call 9 1 [.var 0]])]
def f_10 : FI := ⟨"charges_of", "charges_of", defArgs (top 26), defBody (top 26), defScope (top 26), ["wave"], ["wave"], ⟨1, 1, b_10⟩⟩
/-- keeps -/
def b_11 : List CS := [.ret (.blt .all [.comp (.cmp2 .le .le (.bop .sub (.cst (.int 0)) (.var 1)) (.var 2) (.var 1)) (.one 2) [2] .of [.call 9 1 [.var 0]] []])]
def f_11 : FI := ⟨"keeps", "keeps", defArgs (top 27), defBody (top 27), defScope (top 27), ["wave", "bound", "charge"], ["wave", "bound"], ⟨2, 3, b_11⟩⟩
/-- does_keep -/
def b_12 : List CS := [.expr (.call 5 1 [.var 0]), .expr (.call 6 1 [.var 1]), .ret (.call 11 1 [.var 0, .var 1])]
def f_12 : FI := ⟨"does_keep", "does_keep", defArgs (top 28), defBody (top 28), defScope (top 28), ["wave", "bound"], ["wave", "bound"], ⟨2, 2, b_12⟩⟩
/-- least_kept -/
def b_13 : List CS := [.expr (.call 5 1 [.var 0]), .ret (.blt .max1 [.comp (.blt .abs [.var 1]) (.one 1) [1] .of [.call 9 1 [.var 0]] []])]
def f_13 : FI := ⟨"least_kept", "least_kept", defArgs (top 29), defBody (top 29), defScope (top 29), ["wave", "charge"], ["wave"], ⟨1, 2, b_13⟩⟩
/-- are_greys -/
def b_14 : List CS := [.ret (.and (.call 2 1 [.var 0, .cst (.int 0), .glob (.int 7)]) (.and (.cmp2 .le .le (.cst (.int 1)) (.blt .len [.var 0]) (.glob (.int 4))) (.call 3 1 [.var 0])))]
def f_14 : FI := ⟨"are_greys", "are_greys", defArgs (top 34), defBody (top 34), defScope (top 34), ["value"], ["value"], ⟨1, 1, b_14⟩⟩
/-- is_row -/
def b_15 : List CS := [.ret (.and (.blt (.isinst .tuple) [.var 1]) (.and (.cmp .eq (.blt .len [.var 1]) (.var 0)) (.blt .all [.comp (.call 4 1 [.var 2]) (.one 2) [2] .of [.var 1] []])))]
def f_15 : FI := ⟨"is_row", "is_row", defArgs (top 35), defBody (top 35), defScope (top 35), ["many", "value", "wave"], ["many", "value"], ⟨2, 3, b_15⟩⟩
/-- is_table -/
def b_16 : List CS := [.ite (.or (.not (.blt (.isinst .tuple) [.var 0])) (.or (.cmp .ne (.blt .len [.var 0]) (.cst (.int 2))) (.not (.call 14 1 [.ix (.var 0) (.cst (.int 0))])))) [.ret (.cst (.bl false))] [], .set (.tup [.one 2, .one 3]) (.tup [.blt .len [.ix (.var 0) (.cst (.int 0))], .ix (.var 0) (.cst (.int 1))]), .ite (.or (.not (.blt (.isinst .tuple) [.var 3])) (.or (.cmp .ne (.blt .len [.var 3]) (.var 2)) (.not (.blt .all [.comp (.call 15 1 [.var 2, .var 4]) (.one 4) [4] .of [.var 3] []])))) [.ret (.cst (.bl false))] [], .set (.one 1) (.blt .len [.ix (.ix (.var 3) (.cst (.int 0))) (.cst (.int 0))]), .ret (.and (.cmp .le (.var 1) (.glob (.int 40))) (.blt .all [.comp (.blt .all [.comp (.cmp .eq (.blt .len [.var 5]) (.var 1)) (.one 5) [5] .of [.var 4] []]) (.one 4) [4] .of [.var 3] []]))]
def f_16 : FI := ⟨"is_table", "is_table", defArgs (top 36), defBody (top 36), defScope (top 36), ["value", "length", "many", "rows", "row", "wave"], ["value"], ⟨1, 6, b_16⟩⟩
/-- check_table -/
def b_17 : List CS := [.ite (.not (.call 16 1 [.var 0])) [.raise 0 (.cst .non)] []]
def f_17 : FI := ⟨"check_table", "check_table", defArgs (top 37), defBody (top 37), defScope (top 37), ["table"], ["table"], ⟨1, 1, b_17⟩⟩
/-- are_wishes -/
def b_18 : List CS := [.ret (.and (.call 2 1 [.var 1, .cst (.int 0), .bop .sub (.blt .len [.ix (.var 0) (.cst (.int 0))]) (.cst (.int 1))]) (.cmp2 .le .le (.cst (.int 1)) (.blt .len [.var 1]) (.glob (.int 200))))]
def f_18 : FI := ⟨"are_wishes", "are_wishes", defArgs (top 38), defBody (top 38), defScope (top 38), ["table", "value"], ["table", "value"], ⟨2, 2, b_18⟩⟩
/-- check_wishes -/
def b_19 : List CS := [.ite (.not (.call 18 1 [.var 0, .var 1])) [.raise 0 (.cst .non)] []]
def f_19 : FI := ⟨"check_wishes", "check_wishes", defArgs (top 39), defBody (top 39), defScope (top 39), ["table", "wishes"], ["table", "wishes"], ⟨2, 2, b_19⟩⟩
/-- waves_of -/
def b_20 : List CS := [.ret (.comp (.ix (.ix (.ix (.var 0) (.cst (.int 1))) (.var 2)) (.var 3)) (.tup [.one 2, .one 3]) [2, 3] .zip2 [.var 1, .sl (.var 1) [.cst (.int 1)] []] [])]
def f_20 : FI := ⟨"waves_of", "waves_of", defArgs (top 40), defBody (top 40), defScope (top 40), ["table", "wishes", "old", "new"], ["table", "wishes"], ⟨2, 4, b_20⟩⟩
/-- charge_at -/
def b_21 : List CS := [.ret (.call 7 1 [.ix (.ix (.ix (.var 0) (.cst (.int 1))) (.var 1)) (.var 2)])]
def f_21 : FI := ⟨"charge_at", "charge_at", defArgs (top 44), defBody (top 44), defScope (top 44), ["table", "old", "new"], ["table", "old", "new"], ⟨3, 3, b_21⟩⟩
/-- sums_of -/
def b_22 : List CS := [.set (.one 2) (.alloc (.lst [.cst (.int 0)])), .for (.one 3) .of [.call 20 1 [.var 0, .var 1]] [.expr (.mut 0 2 [.bop .add (.ix (.var 2) (.neg (.cst (.int 1)))) (.call 7 1 [.var 3])])], .ghost 2, .ret (.var 2)]
def f_22 : FI := ⟨"sums_of", "sums_of", defArgs (top 45), defBody (top 45), defScope (top 45), ["table", "wishes", "found", "wave"], ["table", "wishes"], ⟨2, 4, b_22⟩⟩
/-- row_charges -/
def b_23 : List CS := [.expr (.call 17 1 [.var 0]), .expr (.call 19 1 [.var 0, .var 1]), .ret (.blt .tuple [.call 22 1 [.var 0, .var 1]])]
def f_23 : FI := ⟨"row_charges", "row_charges", defArgs (top 46), defBody (top 46), defScope (top 46), ["table", "wishes"], ["table", "wishes"], ⟨2, 2, b_23⟩⟩
/-- heights_of -/
def b_24 : List CS := [.ret (.bop .add (.lst [.cst (.int 0)]) (.comp (.call 21 1 [.var 0, .cst (.int 0), .var 1]) (.one 1) [1] .rng2 [.cst (.int 1), .blt .len [.ix (.var 0) (.cst (.int 0))]] []))]
def f_24 : FI := ⟨"heights_of", "heights_of", defArgs (top 47), defBody (top 47), defScope (top 47), ["table", "new"], ["table"], ⟨1, 2, b_24⟩⟩
/-- is_level -/
def b_25 : List CS := [.for (.tup [.one 2, .one 3]) .enum [.ix (.var 0) (.cst (.int 1))] [.for (.one 4) .rng1 [.blt .len [.var 3]] [.ite (.cmp .ne (.call 21 1 [.var 0, .var 2, .var 4]) (.bop .sub (.ix (.var 1) (.var 4)) (.ix (.var 1) (.var 2)))) [.ret (.cst (.bl false))] []]], .ret (.cst (.bl true))]
def f_25 : FI := ⟨"is_level", "is_level", defArgs (top 48), defBody (top 48), defScope (top 48), ["table", "heights", "old", "row", "new"], ["table", "heights"], ⟨2, 5, b_25⟩⟩
/-- rounds_of -/
def b_26 : List CS := [.set (.tup [.one 2, .one 3]) (.tup [.blt .listRng [.blt .len [.ix (.var 0) (.cst (.int 0))]], .alloc (.lst [])]), .for (.one 1) .of [.var 2] [.expr (.mut 0 3 [.tup [.var 1, .var 1]]), .for (.one 4) .of [.var 2] [.expr (.mut 0 3 [.tup [.var 1, .var 4, .var 1]]), .expr (.mut 1 3 [.comp (.tup [.var 1, .var 4, .var 5, .var 1]) (.one 5) [5] .of [.var 2] []])]], .ghost 3, .ret (.var 3)]
def f_26 : FI := ⟨"rounds_of", "rounds_of", defArgs (top 49), defBody (top 49), defScope (top 49), ["table", "one", "places", "found", "two", "three"], ["table"], ⟨1, 6, b_26⟩⟩
/-- level_told -/
def b_27 : List CS := [.expr (.call 17 1 [.var 0]), .ite (.call 25 1 [.var 0, .call 24 1 [.var 0]]) [.ret (.tup [.glob (.str [108, 101, 118, 101, 108]), .blt .tuple [.call 24 1 [.var 0]]])] [], .ret (.tup [.glob (.str [114, 111, 117, 110, 100]), .ix (.comp (.var 1) (.one 1) [1] .of [.call 26 1 [.var 0]] [.cmp .ne (.ix (.call 22 1 [.var 0, .var 1]) (.neg (.cst (.int 1)))) (.cst (.int 0))]) (.cst (.int 0))])]
def f_27 : FI := ⟨"level_told", "level_told", defArgs (top 50), defBody (top 50), defScope (top 50), ["table", "wishes"], ["table"], ⟨1, 2, b_27⟩⟩
/-- shows_level -/
def b_28 : List CS := [.expr (.call 17 1 [.var 0]), .ite (.or (.not (.blt (.isinst .tuple) [.var 1])) (.or (.cmp .ne (.blt .len [.var 1]) (.cst (.int 2))) (.not (.blt (.isinst .str) [.ix (.var 1) (.cst (.int 0))])))) [.ret (.cst (.bl false))] [], .ite (.cmp .eq (.ix (.var 1) (.cst (.int 0))) (.glob (.str [114, 111, 117, 110, 100]))) [.ite (.or (.not (.call 18 1 [.var 0, .ix (.var 1) (.cst (.int 1))])) (.or (.cmp .lt (.blt .len [.ix (.var 1) (.cst (.int 1))]) (.cst (.int 2))) (.cmp .ne (.ix (.ix (.var 1) (.cst (.int 1))) (.cst (.int 0))) (.ix (.ix (.var 1) (.cst (.int 1))) (.neg (.cst (.int 1))))))) [.ret (.cst (.bl false))] [], .ret (.cmp .ne (.ix (.call 22 1 [.var 0, .ix (.var 1) (.cst (.int 1))]) (.neg (.cst (.int 1)))) (.cst (.int 0)))] [], .ite (.or (.cmp .ne (.ix (.var 1) (.cst (.int 0))) (.glob (.str [108, 101, 118, 101, 108]))) (.or (.not (.blt (.isinst .tuple) [.ix (.var 1) (.cst (.int 1))])) (.cmp .ne (.blt .len [.ix (.var 1) (.cst (.int 1))]) (.blt .len [.ix (.var 0) (.cst (.int 0))])))) [.ret (.cst (.bl false))] [], .ret (.and (.blt .all [.comp (.call 0 1 [.var 2]) (.one 2) [2] .of [.ix (.var 1) (.cst (.int 1))] []]) (.call 25 1 [.var 0, .ix (.var 1) (.cst (.int 1))]))]
def f_28 : FI := ⟨"shows_level", "shows_level", defArgs (top 51), defBody (top 51), defScope (top 51), ["table", "value", "height"], ["table", "value"], ⟨2, 3, b_28⟩⟩
/-- _law_pot -/
def b_29 : List CS := [.set (.one 2) (.ite (.cmp .lt (.var 1) (.blt .len [.var 0])) (.ix (.var 0) (.var 1)) (.bop .add (.bop .add (.bop .mod (.blt .sum [.sl (.var 0) [] [.cst (.int 1)]]) (.cst (.int 1000381))) (.bop .mul (.cst (.int 4657)) (.var 1))) (.cst (.int 743)))), .set (.one 3) (.bop .mul (.bop .mod (.blt .int [.blt .abs [.var 2]]) (.bop .pow (.bop .pow (.cst (.int 10)) (.cst (.int 60))) (.cst (.int 5)))) (.blt .int [.cmp .ge (.blt .abs [.var 2]) (.bop .pow (.cst (.int 10)) (.cst (.int 18)))])), .set (.one 4) (.bop .mod (.blt .int [.var 2]) (.cst (.int 2305843009213693951))), .ret (.alloc (.lst [.var 3, .bop .mod (.blt .int [.bop .add (.bop .add (.bop .mul (.var 4) (.cst (.int 63029))) (.bop .mul (.bop .mul (.cst (.int 7219)) (.var 1)) (.var 1))) (.cst (.int 887))]) (.cst (.int 2305843009213693921)), .cst (.int 0)]))]
def f_29 : FI := ⟨"_law_pot", "_law_pot", defArgs (top 53), defBody (top 53), defScope (top 53), ["script", "place", "cell", "own", "small"], ["script", "place"], ⟨2, 5, b_29⟩⟩
/-- _law_take -/
def b_30 : List CS := [.ite (.cmp .gt (.ix (.var 0) (.cst (.int 0))) (.cst (.int 0))) [.set (.one 4) (.bop .mod (.blt .int [.ix (.var 0) (.cst (.int 0))]) (.var 1)), .setIx (.var 0) (.cst (.int 0)) (.bop .fdiv (.ix (.var 0) (.cst (.int 0))) (.var 1)), .ret (.var 4)] [], .setIx (.var 0) (.cst (.int 2)) (.bop .add (.ix (.var 0) (.cst (.int 2))) (.cst (.int 1))), .set (.one 2) (.ix (.lst [.cst (.int 2147481949), .cst (.int 2147481937), .cst (.int 2147481907), .cst (.int 2147481901), .cst (.int 2147481899)]) (.bop .mod (.blt .int [.ix (.var 0) (.cst (.int 2))]) (.cst (.int 5)))), .set (.one 3) (.bop .mod (.blt .int [.bop .pow (.blt .int [.bop .add (.bop .add (.ix (.var 0) (.cst (.int 1))) (.bop .mul (.bop .mul (.cst (.int 69221)) (.ix (.var 0) (.cst (.int 2)))) (.ix (.var 0) (.cst (.int 2))))) (.cst (.int 2297))]) (.cst (.int 3))]) (.var 2)), .set (.one 3) (.bop .mod (.blt .int [.bop .mul (.var 3) (.bop .add (.bop .mod (.blt .int [.var 3]) (.cst (.int 7901))) (.bop .mul (.cst (.int 239)) (.ix (.var 0) (.cst (.int 2)))))]) (.cst (.int 2305843009213693907))), .ret (.bop .mod (.blt .int [.bop .fdiv (.var 3) (.cst (.int 139))]) (.var 1))]
def f_30 : FI := ⟨"_law_take", "_law_take", defArgs (top 54), defBody (top 54), defScope (top 54), ["pot", "upto", "prime", "blend", "digit"], ["pot", "upto"], ⟨2, 5, b_30⟩⟩
/-- _law_of -/
def b_31 : List CS := [.ret (.ix (.var 1) (.call 30 0 [.var 0, .blt .len [.var 1]]))]
def f_31 : FI := ⟨"_law_of", "_law_of", defArgs (top 55), defBody (top 55), defScope (top 55), ["pot", "some"], ["pot", "some"], ⟨2, 2, b_31⟩⟩
/-- _law_some -/
def b_32 : List CS := [.set (.tup [.one 4, .one 5]) (.tup [.alloc (.blt .list [.var 1]), .alloc (.lst [])]), .for (.one 3) .rng1 [.var 2] [.expr (.mut 0 5 [.mut 3 4 [.call 30 0 [.var 0, .blt .len [.var 4]]]])], .ghost 5, .ret (.var 5)]
def f_32 : FI := ⟨"_law_some", "_law_some", defArgs (top 56), defBody (top 56), defScope (top 56), ["pot", "some", "many", "lap", "left", "found"], ["pot", "some", "many"], ⟨3, 6, b_32⟩⟩
/-- _law_cells -/
def b_33 : List CS := [.ret (.blt .listRng [.blt .max2 [.cst (.int 1), .blt .min2 [.var 1, .blt .len [.var 0]]]])]
def f_33 : FI := ⟨"_law_cells", "_law_cells", defArgs (top 57), defBody (top 57), defScope (top 57), ["script", "most"], ["script", "most"], ⟨2, 2, b_33⟩⟩
/-- _law_is_int -/
def b_34 : List CS := [.ret (.and (.blt (.isinst .int) [.var 0]) (.and (.not (.blt (.isinst .bool) [.var 0])) (.cmp2 .le .le (.var 1) (.var 0) (.var 2))))]
def f_34 : FI := ⟨"_law_is_int", "_law_is_int", defArgs (top 58), defBody (top 58), defScope (top 58), ["value", "low", "high"], ["value", "low", "high"], ⟨3, 3, b_34⟩⟩
/-- _law_odd -/
def b_35 : List CS := [.set (.one 1) (.lst [.cst (.non), .cst (.bl true), .cst (.bl false), .cst (.int 0), .cst (.int 1), .neg (.cst (.int 1)), .cst (.int 7), .bop .pow (.cst (.int 10)) (.cst (.int 11)), .cst (.str []), .cst (.str [97]), .cst (.str [119, 97, 118, 101]), .tup [], .tup [.cst (.int 0)], .tup [.cst (.non)], .lst [], .lst [.cst (.int 0)], .cst (.exc 0 .non), .cst (.exc 0 .non), .tup [.tup [.cst (.int 0), .cst (.int 0)]]]), .ret (.call 31 0 [.var 0, .var 1])]
def f_35 : FI := ⟨"_law_odd", "_law_odd", defArgs (top 59), defBody (top 59), defScope (top 59), ["pot", "some"], ["pot"], ⟨1, 2, b_35⟩⟩
/-- _law_bent -/
def b_36 : List CS := [.ite (.and (.blt (.isinst .tuple) [.var 1]) (.and (.cmp .ne (.var 1) (.tup [])) (.cmp .ne (.call 30 0 [.var 0, .cst (.int 5)]) (.cst (.int 0))))) [.set (.one 2) (.call 30 0 [.var 0, .blt .len [.var 1]]), .ret (.bop .add (.bop .add (.sl (.var 1) [] [.var 2]) (.tup [.call 36 0 [.var 0, .ix (.var 1) (.var 2)]])) (.sl (.var 1) [.bop .add (.var 2) (.cst (.int 1))] []))] [], .ite (.blt (.isinst .tuple) [.var 1]) [.set (.one 3) (.blt .list [.var 1]), .ret (.call 31 0 [.var 0, .lst [.var 3, .sl (.var 1) [] [.neg (.cst (.int 1))], .bop .add (.var 1) (.sl (.var 1) [] [.cst (.int 1)]), .bop .add (.var 1) (.tup [.cst (.int 0)]), .blt .rev [.var 1], .tup [.var 1], .sl (.var 3) [] [.cst (.int 1)], .call 35 0 [.var 0]]])] [], .ite (.call 34 1 [.var 1, .neg (.bop .pow (.cst (.int 10)) (.cst (.int 30))), .bop .pow (.cst (.int 10)) (.cst (.int 30))]) [.ret (.call 31 0 [.var 0, .lst [.bop .add (.var 1) (.cst (.int 1)), .bop .sub (.var 1) (.cst (.int 1)), .neg (.var 1), .blt .str [.var 1], .cmp .eq (.var 1) (.cst (.int 1)), .call 35 0 [.var 0]]])] [], .ret (.call 35 0 [.var 0])]
def f_36 : FI := ⟨"_law_bent", "_law_bent", defArgs (top 60), defBody (top 60), defScope (top 60), ["pot", "value", "at", "row"], ["pot", "value"], ⟨2, 4, b_36⟩⟩
/-- _law_wave -/
def b_37 : List CS := [.ret (.mth .join (.cst (.str [])) [.comp (.call 31 0 [.var 0, .lst [.cst (.str [100]), .cst (.str [108]), .cst (.str [114])]]) (.one 2) [2] .rng1 [.call 30 0 [.var 0, .bop .add (.var 1) (.cst (.int 1))]] []])]
def f_37 : FI := ⟨"_law_wave", "_law_wave", defArgs (top 61), defBody (top 61), defScope (top 61), ["pot", "most", "pulse"], ["pot", "most"], ⟨2, 3, b_37⟩⟩
/-- _law_charges -/
def b_38 : List CS := [.set (.one 1) (.alloc (.lst [.cst (.int 0)])), .for (.one 2) .of [.var 0] [.expr (.mut 0 1 [.bop .add (.ix (.var 1) (.neg (.cst (.int 1)))) (.ite (.cmp .eq (.var 2) (.cst (.str [100]))) (.cst (.int 1)) (.ite (.cmp .eq (.var 2) (.cst (.str [108]))) (.neg (.cst (.int 1))) (.cst (.int 0))))])], .ghost 1, .ret (.var 1)]
def f_38 : FI := ⟨"_law_charges", "_law_charges", defArgs (top 62), defBody (top 62), defScope (top 62), ["wave", "found", "pulse"], ["wave"], ⟨1, 3, b_38⟩⟩
/-- _law_table -/
def b_39 : List CS := [.set (.tup [.one 6, .one 7]) (.tup [.bop .add (.cst (.int 1)) (.call 30 0 [.var 0, .cst (.int 4)]), .bop .add (.cst (.int 1)) (.call 30 0 [.var 0, .cst (.int 6)])]), .set (.one 1) (.blt .tuple [.blt .sorted [.call 32 0 [.var 0, .blt .listRng [.cst (.int 8)], .var 6]]]), .set (.one 2) (.comp (.call 30 0 [.var 0, .cst (.int 3)]) (.one 10) [10] .of [.var 1] []), .set (.one 3) (.alloc (.lst [])), .set (.one 4) (.and (.cmp .eq (.call 30 0 [.var 0, .cst (.int 2)]) (.cst (.int 0))) (.cmp .gt (.var 7) (.cst (.int 1)))), .for (.one 5) .rng1 [.var 6] [.set (.one 8) (.alloc (.lst [])), .for (.one 9) .rng1 [.var 6] [.set (.one 11) (.bop .sub (.ix (.var 2) (.var 9)) (.ix (.var 2) (.var 5))), .set (.one 12) (.bop .mul (.lst [.ite (.cmp .gt (.var 11) (.cst (.int 0))) (.cst (.str [100])) (.cst (.str [108]))]) (.blt .abs [.var 11])), .set (.one 12) (.ite (.var 4) (.bop .add (.var 12) (.bop .mul (.lst [.cst (.str [114])]) (.bop .sub (.var 7) (.blt .len [.var 12])))) (.comp (.call 31 0 [.var 0, .lst [.cst (.str [100]), .cst (.str [108]), .cst (.str [114])]]) (.one 13) [13] .rng1 [.var 7] [])), .expr (.mut 0 8 [.mth .join (.cst (.str [])) [.call 32 0 [.var 0, .var 12, .blt .len [.var 12]]]])], .ghost 8, .expr (.mut 0 3 [.blt .tuple [.var 8]])], .ghost 3, .ret (.tup [.var 1, .blt .tuple [.var 3]])]
def f_39 : FI := ⟨"_law_table", "_law_table", defArgs (top 63), defBody (top 63), defScope (top 63), ((["pot", "wished", "heights", "rows", "is_level_v", "old", "many", "size", "row", "new", "grey", "way"] : List PySem.Str) ++ (["signs", "pulse"] : List PySem.Str)), ["pot"], ⟨1, 14, b_39⟩⟩
/-- _law_is_shown -/
def b_40 : List CS := [.set (.one 2) (.blt .len [.ix (.var 0) (.cst (.int 0))]), .ite (.or (.not (.blt (.isinst .tuple) [.var 1])) (.or (.cmp .ne (.blt .len [.var 1]) (.cst (.int 2))) (.or (.not (.blt (.isinst .str) [.ix (.var 1) (.cst (.int 0))])) (.not (.blt (.isinst .tuple) [.ix (.var 1) (.cst (.int 1))]))))) [.ret (.cst (.bl false))] [], .ite (.cmp .eq (.ix (.var 1) (.cst (.int 0))) (.cst (.str [108, 101, 118, 101, 108]))) [.ite (.or (.cmp .ne (.blt .len [.ix (.var 1) (.cst (.int 1))]) (.var 2)) (.not (.blt .all [.comp (.call 34 1 [.var 7, .neg (.bop .pow (.cst (.int 10)) (.cst (.int 30))), .bop .pow (.cst (.int 10)) (.cst (.int 30))]) (.one 7) [7] .of [.ix (.var 1) (.cst (.int 1))] []]))) [.ret (.cst (.bl false))] [], .for (.one 4) .rng1 [.var 2] [.ite (.not (.blt .all [.comp (.cmp .eq (.ix (.call 38 1 [.ix (.ix (.ix (.var 0) (.cst (.int 1))) (.var 4)) (.var 8)]) (.neg (.cst (.int 1)))) (.bop .sub (.ix (.ix (.var 1) (.cst (.int 1))) (.var 8)) (.ix (.ix (.var 1) (.cst (.int 1))) (.var 4)))) (.one 8) [8] .rng1 [.var 2] []])) [.ret (.cst (.bl false))] []], .ret (.cst (.bl true))] [], .ite (.or (.cmp .ne (.ix (.var 1) (.cst (.int 0))) (.cst (.str [114, 111, 117, 110, 100]))) (.or (.not (.cmp2 .le .le (.cst (.int 2)) (.blt .len [.ix (.var 1) (.cst (.int 1))]) (.cst (.int 200)))) (.not (.blt .all [.comp (.call 34 1 [.var 6, .cst (.int 0), .bop .sub (.var 2) (.cst (.int 1))]) (.one 6) [6] .of [.ix (.var 1) (.cst (.int 1))] []])))) [.ret (.cst (.bl false))] [], .set (.one 3) (.blt .sum [.comp (.ix (.call 38 1 [.ix (.ix (.ix (.var 0) (.cst (.int 1))) (.ix (.ix (.var 1) (.cst (.int 1))) (.var 5))) (.ix (.ix (.var 1) (.cst (.int 1))) (.bop .add (.var 5) (.cst (.int 1))))]) (.neg (.cst (.int 1)))) (.one 5) [5] .rng1 [.bop .sub (.blt .len [.ix (.var 1) (.cst (.int 1))]) (.cst (.int 1))] []]), .ret (.and (.cmp .eq (.ix (.ix (.var 1) (.cst (.int 1))) (.cst (.int 0))) (.ix (.ix (.var 1) (.cst (.int 1))) (.neg (.cst (.int 1))))) (.cmp .ne (.var 3) (.cst (.int 0))))]
def f_40 : FI := ⟨"_law_is_shown", "_law_is_shown", defArgs (top 64), defBody (top 64), defScope (top 64), ["table", "value", "many", "total", "old", "at", "place", "height", "new"], ["table", "value"], ⟨2, 9, b_40⟩⟩
/-- _law_right -/
def b_41 : List CS := [.set (.tup [.one 12, .one 13]) (.tup [.call 37 0 [.var 0, .cst (.int 30)], .call 30 0 [.var 0, .cst (.int 21)]]), .set (.one 1) (.call 38 1 [.var 12]), .ite (.or (.cmp .ne (.blt .repr [.call 8 1 [.var 12]]) (.blt .repr [.ix (.var 1) (.neg (.cst (.int 1)))])) (.cmp .ne (.blt .repr [.call 10 1 [.var 12]]) (.blt .repr [.blt .tuple [.var 1]]))) [.ret (.cst (.bl false))] [], .set (.one 2) (.blt .max1 [.comp (.blt .abs [.var 14]) (.one 14) [14] .of [.var 1] []]), .ite (.or (.cmp .ne (.blt .repr [.call 13 1 [.var 12]]) (.blt .repr [.var 2])) (.cmp .ne (.blt .repr [.call 12 1 [.var 12, .var 13]]) (.blt .repr [.cmp .le (.var 2) (.var 13)]))) [.ret (.cst (.bl false))] [], .set (.one 3) (.call 39 0 [.var 0]), .set (.one 4) (.blt .len [.ix (.var 3) (.cst (.int 0))]), .set (.one 5) (.blt .tuple [.comp (.call 30 0 [.var 0, .var 4]) (.one 15) [15] .rng1 [.bop .add (.cst (.int 1)) (.call 30 0 [.var 0, .cst (.int 6)])] []]), .set (.one 6) (.alloc (.lst [.cst (.int 0)])), .for (.one 7) .rng1 [.bop .sub (.blt .len [.var 5]) (.cst (.int 1))] [.expr (.mut 0 6 [.bop .add (.ix (.var 6) (.neg (.cst (.int 1)))) (.ix (.call 38 1 [.ix (.ix (.ix (.var 3) (.cst (.int 1))) (.ix (.var 5) (.var 7))) (.ix (.var 5) (.bop .add (.var 7) (.cst (.int 1))))]) (.neg (.cst (.int 1))))])], .ghost 6, .ite (.cmp .ne (.blt .repr [.call 23 1 [.var 3, .var 5]]) (.blt .repr [.blt .tuple [.var 6]])) [.ret (.cst (.bl false))] [], .set (.one 8) (.blt .tuple [.bop .add (.lst [.cst (.int 0)]) (.comp (.ix (.call 38 1 [.ix (.ix (.ix (.var 3) (.cst (.int 1))) (.cst (.int 0))) (.var 17)]) (.neg (.cst (.int 1)))) (.one 17) [17] .rng2 [.cst (.int 1), .var 4] [])]), .set (.one 9) (.call 27 1 [.var 3]), .ite (.or (.cmp .ne (.cmp .eq (.ix (.var 9) (.cst (.int 0))) (.cst (.str [108, 101, 118, 101, 108]))) (.call 40 1 [.var 3, .tup [.cst (.str [108, 101, 118, 101, 108]), .var 8]])) (.not (.call 40 1 [.var 3, .var 9]))) [.ret (.cst (.bl false))] [], .set (.one 10) (.bop .add (.var 5) (.sl (.var 5) [] [.cst (.int 1)])), .set (.one 11) (.alloc (.lst [.var 9, .blt .list [.var 9], .sl (.var 9) [] [.cst (.int 1)], .bop .add (.var 9) (.tup [.cst (.int 0)]), .blt .rev [.var 9], .tup [.cst (.str [108, 101, 118, 101, 108]), .var 8], .tup [.cst (.str [108, 101, 118, 101, 108]), .blt .rev [.var 8]], .tup [.cst (.str [114, 111, 117, 110, 100]), .var 5], .tup [.cst (.str [114, 111, 117, 110, 100]), .var 10], .cst (.non), .tup []])), .expr (.mut 0 11 [.tup [.cst (.str [108, 101, 118, 101, 108]), .blt .tuple [.comp (.bop .add (.var 18) (.cst (.int 9))) (.one 18) [18] .of [.var 8] []]]]), .expr (.mut 1 11 [.bop .add (.bop .add (.lst [.tup [.cst (.str [76, 101, 118, 101, 108]), .var 8], .tup [.cst (.str [114, 111, 117, 110, 100]), .tup [.cst (.int 0)]], .tup [.cst (.str [114, 111, 117, 110, 100]), .tup [.cst (.int 0), .var 4, .cst (.int 0)]]]) (.comp (.call 36 0 [.var 0, .var 9]) (.one 19) [19] .rng1 [.cst (.int 6)] [])) (.lst [.call 35 0 [.var 0]])]), .ghost 11, .ret (.blt .all [.comp (.cmp .eq (.blt .repr [.call 28 1 [.var 3, .var 16]]) (.blt .repr [.call 40 1 [.var 3, .var 16]])) (.one 16) [16] .of [.var 11] []])]
def f_41 : FI := ⟨"_law_right", "_law_right", defArgs (top 65), defBody (top 65), defScope (top 65), ((["pot", "due", "most", "table", "many", "wishes", "found", "at", "own", "told", "round_one", "values"] : List PySem.Str) ++ (["wave", "bound", "charge", "wish", "value", "new", "height", "lap"] : List PySem.Str)), ["pot"], ⟨1, 20, b_41⟩⟩
/-- law -/
def b_42 : List CS := [.for (.one 1) .of [.call 33 0 [.var 0, .cst (.int 3)]] [.set (.one 2) (.call 29 0 [.var 0, .var 1]), .ite (.not (.blt .all [.comp (.call 41 0 [.var 2]) (.one 3) [3] .rng1 [.cst (.int 6)] []])) [.ret (.cst (.bl false))] []], .ret (.cst (.bl true))]
def f_42 : FI := ⟨"law", "law", defArgs (top 66), defBody (top 66), defScope (top 66), ["script", "place", "pot", "lap"], ["script"], ⟨1, 4, b_42⟩⟩
def fis0 : List FI := [f_0, f_1, f_2, f_3, f_4, f_5, f_6, f_7, f_8, f_9, f_10, f_11]
def fis1 : List FI := [f_12, f_13, f_14, f_15, f_16, f_17, f_18, f_19, f_20, f_21, f_22, f_23]
def fis2 : List FI := [f_24, f_25, f_26, f_27, f_28, f_29, f_30, f_31, f_32, f_33, f_34, f_35]
def fis3 : List FI := [f_36, f_37, f_38, f_39, f_40, f_41, f_42]
def fis : List FI := fis0 ++ fis1 ++ fis2 ++ fis3
def gfns0 : List (Str × List Str) := [("is_integer", ["value"]), ("is_between", ["value", "low", "high"]), ("are_between", ["value", "low", "high"]), ("is_ascending", ["items"]), ("is_wave", ["value"]), ("check_wave", ["wave"]), ("check_bound", ["bound"]), ("charge_by", ["wave"])]
def gfns1 : List (Str × List Str) := [("charge_of", ["wave"]), ("charges_by", ["wave"]), ("charges_of", ["wave"]), ("keeps", ["wave", "bound"]), ("does_keep", ["wave", "bound"]), ("least_kept", ["wave"]), ("are_greys", ["value"]), ("is_row", ["many", "value"])]
def gfns2 : List (Str × List Str) := [("is_table", ["value"]), ("check_table", ["table"]), ("are_wishes", ["table", "value"]), ("check_wishes", ["table", "wishes"]), ("waves_of", ["table", "wishes"]), ("charge_at", ["table", "old", "new"]), ("sums_of", ["table", "wishes"]), ("row_charges", ["table", "wishes"])]
def gfns3 : List (Str × List Str) := [("heights_of", ["table"]), ("is_level", ["table", "heights"]), ("rounds_of", ["table"]), ("level_told", ["table"]), ("shows_level", ["table", "value"]), ("_law_pot", ["script", "place"]), ("_law_take", ["pot", "upto"]), ("_law_of", ["pot", "some"])]
def gfns4 : List (Str × List Str) := [("_law_some", ["pot", "some", "many"]), ("_law_cells", ["script", "most"]), ("_law_is_int", ["value", "low", "high"]), ("_law_odd", ["pot"]), ("_law_bent", ["pot", "value"]), ("_law_wave", ["pot", "most"]), ("_law_charges", ["wave"]), ("_law_table", ["pot"])]
def gfns5 : List (Str × List Str) := [("_law_is_shown", ["table", "value"]), ("_law_right", ["pot"]), ("law", ["script"])]
def gfns : List (Str × List Str) := gfns0 ++ gfns1 ++ gfns2 ++ gfns3 ++ gfns4 ++ gfns5
def gcons0 : List (Str × D) := [("DARK", .str [100]), ("LEVEL", .str [108, 101, 118, 101, 108]), ("LIGHT", .str [108]), ("MOST_BOUND", .int 20), ("MOST_GREY", .int 7), ("MOST_LENGTH", .int 40), ("MOST_PULSES", .int 5000), ("MOST_WISHED", .int 4)]
def gcons1 : List (Str × D) := [("MOST_WISHES", .int 200), ("PULSES", .tup [.str [100], .str [108], .str [114]]), ("ROUND", .str [114, 111, 117, 110, 100])]
def gcons : List (Str × D) := gcons0 ++ gcons1
def gfree0 : List Str := ["abs", "all", "bool", "enumerate", "int", "isinstance", "len", "list", "max", "min", "range", "repr"]
def gfree1 : List Str := ["sorted", "str", "sum", "tuple", "zip"]
def gfree : List Str := gfree0 ++ gfree1
def Γ : GL := ⟨gfns, gcons, gfree⟩
def loose0 : List PySem.Str := ["InkError", "BadBound", "BadTable", "BadWave", "BadWishes", "is_integer", "is_between", "are_between", "is_ascending", "MOST_GREY", "DARK", "LIGHT"]
def loose1 : List PySem.Str := ["REST", "PULSES", "MOST_PULSES", "is_wave", "check_wave", "MOST_BOUND", "check_bound", "charge_by", "charge_of", "charges_by", "charges_of", "keeps"]
def loose2 : List PySem.Str := ["does_keep", "least_kept", "MOST_WISHED", "MOST_LENGTH", "MOST_WISHES", "are_greys", "is_row", "is_table", "check_table", "are_wishes", "check_wishes", "waves_of"]
def loose3 : List PySem.Str := ["LEVEL", "ROUND", "charge_at", "sums_of", "row_charges", "heights_of", "is_level", "rounds_of", "level_told", "shows_level", "_law_pot", "_law_take"]
def loose4 : List PySem.Str := ["_law_of", "_law_some", "_law_cells", "_law_is_int", "_law_odd", "_law_bent", "_law_wave", "_law_charges", "_law_table", "_law_is_shown", "_law_right"]
def loose : List PySem.Str := loose0 ++ loose1 ++ loose2 ++ loose3 ++ loose4
theorem chk : ∀ fi ∈ fis, chkFI Γ fi = true := List.all_eq_true.mp (show (fis.all fun f => chkFI Γ f) = true by decide +kernel)
theorem gfn : Γ.fns = fis.map fun f => (f.name, f.ps) := by rfl
abbrev LRow : PySem.W.OpenRow := PySem.W.OpenLaw.row PySem.Challenge.rw_noghostleft_k44_whole_charges_and_levels
abbrev hk : PySem.W.Hook := hookN 4 (faOf fis gfree) (dsOf fis) gcons
def ob (s : PySem.W.SharedT) : AlN := obsN 4 (faOf fis gfree) (dsOf fis) gcons (HandSHeadRun.getT s)
theorem ob_eq (s : PySem.W.SharedT) : ob s = hk.obs s.abs := obsN_eq (HandSHeadRun.getT_eq s)
theorem run (w : World) : HandSHeadRun.RunEq LRow (PySem.W.view LRow.prog [66]) hk ob 20000 loose w := by
  intro os
  kernel_rfl
abbrev Fs : Nat → Option Fn := fun i => (fis[i]?).map (·.fn)
end NgT
end
section
set_option autoImplicit false
set_option maxRecDepth 100000
set_option maxHeartbeats 1000000
namespace NG
/-! ## what the evaluator's words come to -/
section
variable (S : Store) (i j : Int) (b : Bool) (s : List Nat) (l r : List D) (x y : D)
@[simp] theorem vw_int' : vw S (.int i) = .int i := rfl
@[simp] theorem vw_bl' : vw S (.bl b) = .bl b := rfl
@[simp] theorem vw_str' : vw S (.str s) = .str s := rfl
@[simp] theorem vw_tup' : vw S (.tup l) = .tup l := rfl
@[simp] theorem vw_lst' : vw S (.lst l) = .lst l := rfl
@[simp] theorem vw_scr' : vw S (.scr l) = .scr l := rfl
@[simp] theorem vw_non' : vw S .non = .non := rfl
@[simp] theorem vws_nil' : vws S [] = [] := rfl
@[simp] theorem vws_cons' : vws S (x :: l) = vw S x :: vws S l := rfl
@[simp] theorem mthA_i (ds : List D) : mthA .index S ds = vws S ds := rfl
@[simp] theorem mthA_g (ds : List D) : mthA .gindex S ds = vws S ds := rfl
@[simp] theorem mthA_j (ds : List D) : mthA .join S ds = vws S ds := rfl
@[simp] theorem mthA_t (ds : List D) : mthA .get S ds = ds := rfl
@[simp] theorem tr_bl : truthy (.bl b) = some b := rfl
@[simp] theorem tr_tup : truthy (.tup l) = some (!l.isEmpty) := rfl
@[simp] theorem tr_lst : truthy (.lst l) = some (!l.isEmpty) := rfl
@[simp] theorem bind_ok' {α β : Type} (a : α) (f : α → Store → R β) : (R.ok a S).bind f = f a S := rfl
@[simp] theorem lift_some {α : Type} (a : α) : lift (some a) S = .ok a S := rfl
@[simp] theorem b_len_tup : bltE .len [.tup l] = some (.int l.length) := rfl
@[simp] theorem b_len_lst : bltE .len [.lst l] = some (.int l.length) := rfl
@[simp] theorem b_len_scr : bltE .len [.scr l] = some (.int l.length) := rfl
theorem b_len_str (h : s.length ≤ LIM) : bltE .len [.str s] = some (.int s.length) := if_pos h
@[simp] theorem b_tuple_lst : bltE .tuple [.lst l] = some (.tup l) := rfl
@[simp] theorem b_tuple_tup : bltE .tuple [.tup l] = some (.tup l) := rfl
@[simp] theorem b_list_lst : bltE .list [.lst l] = some (.lst l) := rfl
@[simp] theorem b_list_tup : bltE .list [.tup l] = some (.lst l) := rfl
theorem b_sorted (h : sortable l = true) : bltE .sorted [.lst l] = some (.lst (sortD l)) := if_pos h
@[simp] theorem b_int : bltE .int [.int i] = some (.int i) := rfl
@[simp] theorem b_int_bl : bltE .int [.bl b] = some (.int (if b then 1 else 0)) := rfl
@[simp] theorem b_abs : bltE .abs [.int i] = some (.int (if i < 0 then -i else i)) := rfl
@[simp] theorem b_max2 : bltE .max2 [.int i, .int j] = some (.int (if j > i then j else i)) := rfl
@[simp] theorem b_min2 : bltE .min2 [.int i, .int j] = some (.int (if j < i then j else i)) := rfl
@[simp] theorem b_isi (t : Ty) : bltE (.isinst t) [x] = (isInst t x).map .bl := rfl
@[simp] theorem isi_int_int : isInst .int (.int i) = some true := rfl
@[simp] theorem isi_int_bool : isInst .bool (.int i) = some false := rfl
@[simp] theorem isi_int_str : isInst .str (.int i) = some false := rfl
@[simp] theorem isi_int_tuple : isInst .tuple (.int i) = some false := rfl
@[simp] theorem isi_int_list : isInst .list (.int i) = some false := rfl
@[simp] theorem isi_bl_int : isInst .int (.bl b) = some true := rfl
@[simp] theorem isi_bl_bool : isInst .bool (.bl b) = some true := rfl
@[simp] theorem isi_bl_str : isInst .str (.bl b) = some false := rfl
@[simp] theorem isi_bl_tuple : isInst .tuple (.bl b) = some false := rfl
@[simp] theorem isi_bl_list : isInst .list (.bl b) = some false := rfl
@[simp] theorem isi_str_int : isInst .int (.str s) = some false := rfl
@[simp] theorem isi_str_bool : isInst .bool (.str s) = some false := rfl
@[simp] theorem isi_str_str : isInst .str (.str s) = some true := rfl
@[simp] theorem isi_str_tuple : isInst .tuple (.str s) = some false := rfl
@[simp] theorem isi_str_list : isInst .list (.str s) = some false := rfl
@[simp] theorem isi_tup_int : isInst .int (.tup l) = some false := rfl
@[simp] theorem isi_tup_bool : isInst .bool (.tup l) = some false := rfl
@[simp] theorem isi_tup_str : isInst .str (.tup l) = some false := rfl
@[simp] theorem isi_tup_tuple : isInst .tuple (.tup l) = some true := rfl
@[simp] theorem isi_tup_list : isInst .list (.tup l) = some false := rfl
@[simp] theorem isi_lst_int : isInst .int (.lst l) = some false := rfl
@[simp] theorem isi_lst_bool : isInst .bool (.lst l) = some false := rfl
@[simp] theorem isi_lst_str : isInst .str (.lst l) = some false := rfl
@[simp] theorem isi_lst_tuple : isInst .tuple (.lst l) = some false := rfl
@[simp] theorem isi_lst_list : isInst .list (.lst l) = some true := rfl
@[simp] theorem isi_non_int : isInst .int (.non) = some false := rfl
@[simp] theorem isi_non_bool : isInst .bool (.non) = some false := rfl
@[simp] theorem isi_non_str : isInst .str (.non) = some false := rfl
@[simp] theorem isi_non_tuple : isInst .tuple (.non) = some false := rfl
@[simp] theorem isi_non_list : isInst .list (.non) = some false := rfl
theorem b_all (h : areBls l = true) : bltE .all [.lst l] = (allB l).map .bl := if_pos h
@[simp] theorem o_add : bopE .add (.int i) (.int j) = some (.int (i + j)) := rfl
@[simp] theorem o_sub : bopE .sub (.int i) (.int j) = some (.int (i - j)) := rfl
theorem o_mod (h : j ≠ 0) : bopE .mod (.int i) (.int j) = some (.int (i.fmod j)) := if_pos h
theorem o_fdiv (h : divOk j = true) : bopE .fdiv (.int i) (.int j) = some (.int (i.fdiv j)) := if_pos h
theorem o_mul (h : mulOk i j = true) : bopE .mul (.int i) (.int j) = some (.int (i * j)) := if_pos h
theorem o_pow (h : 0 ≤ j ∧ j ≤ 1000 ∧ i.natAbs < 2 ^ 256) : bopE .pow (.int i) (.int j) = some (.int (i ^ j.toNat)) := if_pos h
theorem o_cat_str {z : List Nat} (h : s.length + z.length ≤ LIM) : bopE .add (.str s) (.str z) = some (.str (s ++ z)) := if_pos h
theorem o_cat_tup (h : l.length + r.length ≤ LIM) : bopE .add (.tup l) (.tup r) = some (.tup (l ++ r)) := if_pos h
theorem o_cat_lst (h : l.length + r.length ≤ LIM) : bopE .add (.lst l) (.lst r) = some (.lst (l ++ r)) := if_pos h
@[simp] theorem c_lt_int : cmpE .lt (.int i) (.int j) = some (decide (i < j)) := rfl
@[simp] theorem c_gt_int : cmpE .gt (.int i) (.int j) = some (decide (j < i)) := rfl
@[simp] theorem c_le_int : cmpE .le (.int i) (.int j) = some (decide (i ≤ j)) := rfl
@[simp] theorem c_ge_int : cmpE .ge (.int i) (.int j) = some (decide (j ≤ i)) := rfl
@[simp] theorem c_eq_int : cmpE .eq (.int i) (.int j) = some (i == j) := rfl
@[simp] theorem c_ne_int : cmpE .ne (.int i) (.int j) = some (!(i == j)) := rfl
theorem c_eq_ok (h : okEq x y = true) : cmpE .eq x y = some (deq x y) := if_pos h
theorem c_ne_ok (h : okEq x y = true) : cmpE .ne x y = some (!deq x y) := if_pos h
end
theorem callP {Φ : Phi} {f : Nat} {ds : List D} {S S1 : Store} {d : D} (hc : cleans ds = true) (h : Φ f ds [] = .ok d S1) (hd : clean d = true) : callE Φ f 1 ds S = .ok d S := by
  unfold callE
  simp [hc, h, hd]
theorem callB {Φ : Phi} {f : Nat} {ds : List D} {S S1 : Store} {b : Bool} (hc : cleans ds = true) (h : Φ f ds [] = .ok (.bl b) S1) (hb : b = true) : callE Φ f 1 ds S = .ok (.bl true) S := by
  subst hb
  exact callP hc h rfl
@[simp] theorem call0 {Φ : Phi} {f : Nat} {ds : List D} {S : Store} : callE Φ f 0 ds S = Φ f ds S := by unfold callE; rfl
theorem compL_filter {t : Tg} {cond : Env → Store → R Bool} {elt : Env → Store → R D} {ρ : Env} {S : Store} (p : D → Bool) (g : D → D) : ∀ {its : List D}, (∀ d ∈ its, ∃ ρ1, asg t d ρ = some ρ1 ∧ cond ρ1 S = .ok (p d) S ∧ (p d = true → elt ρ1 S = .ok (g d) S)) →
    compL t cond elt ρ its S = .ok ((its.filter p).map g) S
  | [], _ => compL_nil
  | d :: ds, h => by
    obtain ⟨ρ1, h1, h2, h3⟩ := h d (List.mem_cons_self ..)
    have ih := compL_filter p g (its := ds) fun x hx => h x (List.mem_cons_of_mem _ hx)
    simp only [compL_cons, h1, h2, R.bind]
    cases hp : p d with
    | true =>
      rw [if_pos rfl, h3 hp]
      simp only [R.bind, ih, List.filter_cons, hp, if_true, List.map_cons]
    | false =>
      rw [if_neg Bool.false_ne_true, ih]
      simp only [List.filter_cons, hp, Bool.false_eq_true, if_false]
theorem compL_map {t : Tg} {cond : Env → Store → R Bool} {elt : Env → Store → R D} {ρ : Env} {S : Store} (g : D → D) : ∀ {its : List D}, (∀ d ∈ its, ∃ ρ1, asg t d ρ = some ρ1 ∧ cond ρ1 S = .ok true S ∧ elt ρ1 S = .ok (g d) S) →
    compL t cond elt ρ its S = .ok (its.map g) S
  | [], _ => compL_nil
  | d :: ds, h => by
    obtain ⟨ρ1, h1, h2, h3⟩ := h d (List.mem_cons_self ..)
    have ih := compL_map g (its := ds) fun x hx => h x (List.mem_cons_of_mem _ hx)
    simp [compL_cons, h1, h2, h3, ih]
theorem allB_map {α : Type} (f : α → Bool) : ∀ l : List α, areBls (l.map fun d => D.bl (f d)) = true ∧ allB (l.map fun d => D.bl (f d)) = some (l.all f)
  | [] => ⟨rfl, rfl⟩
  | d :: l => by
    obtain ⟨h1, h2⟩ := allB_map f l
    refine ⟨h1, ?_⟩
    rw [List.map_cons, List.all_cons]
    cases hd : f d with
    | true => simp only [allB, h2, Bool.true_and]
    | false => simp [allB]
@[simp] theorem b_all_map {α : Type} (f : α → Bool) (l : List α) : bltE .all [.lst (l.map fun d => D.bl (f d))] = some (.bl (l.all f)) := by
  rw [b_all _ (allB_map f l).1, (allB_map f l).2]
  rfl
/-- a loop that keeps P -/
theorem forL_inv {t : Tg} {body : Env → Store → R Fl} (P : Nat → Env → Store → Prop) {its : List D} : ∀ (i : Nat) (ρ : Env) (S : Store), i ≤ its.length → P i ρ S →
    (∀ i d ρ S, its[i]? = some d → P i ρ S → ∃ ρ1 ρ2 S2, asg t d ρ = some ρ1 ∧ (body ρ1 S = .ok (.nx ρ2) S2 ∨ body ρ1 S = .ok (.ct ρ2) S2) ∧ P (i + 1) ρ2 S2) →
    ∃ ρ' S', forL t body (its.drop i) ρ S = .ok (.nx ρ') S' ∧ P its.length ρ' S' := by
  intro i ρ S hi hp step
  obtain ⟨n, hn⟩ : ∃ n, n = its.length - i := ⟨_, rfl⟩
  induction n generalizing i ρ S with
  | zero =>
    have e : i = its.length := by omega
    subst e
    rw [List.drop_length]
    exact ⟨ρ, S, forL_nil, hp⟩
  | succ n ih =>
    have hlt : i < its.length := by omega
    obtain ⟨ρ1, ρ2, S2, h1, h2, h3⟩ := step i its[i] ρ S (List.getElem?_eq_getElem hlt) hp
    rw [List.drop_eq_getElem_cons hlt]
    obtain ⟨ρ', S', e, q⟩ := ih (i + 1) ρ2 S2 (by omega) h3 (by omega)
    refine ⟨ρ', S', ?_, q⟩
    simp only [forL_cons, h1]
    rcases h2 with h2 | h2 <;> simp [h2, e]
theorem cut_drop {α : Type} (l : List α) (n : Nat) : cutL l (some (n : Int)) none = l.drop n := by
  unfold cutL
  simp only [slIx, clampIx]
  rw [if_neg (by omega), Int.toNat_natCast]
  by_cases h : n ≤ l.length
  · rw [Nat.min_eq_left h, List.take_of_length_le (by rw [List.length_drop]; exact Nat.le_refl _)]
  · rw [Nat.min_eq_right (by omega), List.drop_length, List.drop_eq_nil_of_le (by omega)]
    simp
@[simp] theorem cut_drop1 {α : Type} (l : List α) : cutL l (some 1) none = l.drop 1 := cut_drop l 1
theorem cut_take {α : Type} (l : List α) (n : Nat) : cutL l none (some (n : Int)) = l.take n := by
  unfold cutL
  simp only [slIx, clampIx]
  rw [if_neg (by omega), Int.toNat_natCast, List.drop_zero, Nat.sub_zero]
  by_cases h : n ≤ l.length
  · rw [Nat.min_eq_left h]
  · rw [Nat.min_eq_right (by omega), List.take_of_length_le (Nat.le_refl _), List.take_of_length_le (by omega)]
@[simp] theorem cut_take1 {α : Type} (l : List α) : cutL l none (some 1) = l.take 1 := cut_take l 1
@[simp] theorem cut_take3 {α : Type} (l : List α) : cutL l none (some 3) = l.take 3 := cut_take l 3
@[simp] theorem part_nil : partE [] = some none := rfl
@[simp] theorem part_one (i : Int) : partE [.int i] = some (some i) := rfl
theorem at_nat {α : Type} (l : List α) (n : Nat) : atIx l (n : Int) = l[n]? := by
  unfold atIx normIx
  rw [if_neg (by omega)]
  by_cases h : n < l.length
  · rw [if_pos (by omega)]
    simp
  · rw [if_neg (by omega), List.getElem?_eq_none (by omega)]
@[simp] theorem at_0 {α : Type} (l : List α) : atIx l 0 = l[0]? := at_nat l 0
@[simp] theorem at_1 {α : Type} (l : List α) : atIx l 1 = l[1]? := at_nat l 1
@[simp] theorem at_2 {α : Type} (l : List α) : atIx l 2 = l[2]? := at_nat l 2
@[simp] theorem at_3 {α : Type} (l : List α) : atIx l 3 = l[3]? := at_nat l 3
theorem at_last {α : Type} (l : List α) (h : l ≠ []) : atIx l (-1) = l[l.length - 1]? := by
  unfold atIx normIx
  have : 0 < l.length := List.length_pos_iff.mpr h
  rw [if_pos (by omega), if_pos (by omega)]
  show l[((-1 : Int) + (l.length : Int)).toNat]? = _
  rw [show ((-1 : Int) + (l.length : Int)).toNat = l.length - 1 by omega]
@[simp] theorem it_tup (l : List D) : iterE .of [.tup l] = some l := rfl
@[simp] theorem it_lst (l : List D) : iterE .of [.lst l] = some l := rfl
theorem it_str (s : List Nat) (h : s.length ≤ LIM) : iterE .of [.str s] = some (s.map fun c => .str [c]) := if_pos h
theorem it_rng (n : Nat) (h : n ≤ LIM) : iterE .rng1 [.int (n : Int)] = some (rngL 0 n) := by
  show (if -(LIM : Int) ≤ (n : Int) ∧ (n : Int) ≤ LIM then some (rngL 0 (n : Int).toNat) else none) = _
  rw [if_pos (by omega), Int.toNat_natCast]
@[simp] theorem it_enum (l : List D) : iterE .enum [.tup l] = some (enumF 0 l) := rfl
@[simp] theorem it_zip_tup (l r : List D) : iterE .zip2 [.tup l, .tup r] = some (zip2 l r) := rfl
@[simp] theorem it_zip_lst (l r : List D) : iterE .zip2 [.lst l, .lst r] = some (zip2 l r) := rfl
end NG
end

section
set_option autoImplicit false
set_option maxRecDepth 100000
namespace NgB
open NG
abbrev I_is_integer : Nat := 0
abbrev I_is_between : Nat := 1
abbrev I_are_between : Nat := 2
abbrev I_is_ascending : Nat := 3
abbrev I_is_wave : Nat := 4
abbrev I_check_wave : Nat := 5
abbrev I_check_bound : Nat := 6
abbrev I_charge_by : Nat := 7
abbrev I_charge_of : Nat := 8
abbrev I_charges_by : Nat := 9
abbrev I_charges_of : Nat := 10
abbrev I_keeps : Nat := 11
abbrev I_does_keep : Nat := 12
abbrev I_least_kept : Nat := 13
abbrev I_are_greys : Nat := 14
abbrev I_is_row : Nat := 15
abbrev I_is_table : Nat := 16
abbrev I_check_table : Nat := 17
abbrev I_are_wishes : Nat := 18
abbrev I_check_wishes : Nat := 19
abbrev I_waves_of : Nat := 20
abbrev I_charge_at : Nat := 21
abbrev I_sums_of : Nat := 22
abbrev I_row_charges : Nat := 23
abbrev I_heights_of : Nat := 24
abbrev I_is_level : Nat := 25
abbrev I_rounds_of : Nat := 26
abbrev I_level_told : Nat := 27
abbrev I_shows_level : Nat := 28
abbrev I__law_pot : Nat := 29
abbrev I__law_take : Nat := 30
abbrev I__law_of : Nat := 31
abbrev I__law_some : Nat := 32
abbrev I__law_cells : Nat := 33
abbrev I__law_is_int : Nat := 34
abbrev I__law_odd : Nat := 35
abbrev I__law_bent : Nat := 36
abbrev I__law_wave : Nat := 37
abbrev I__law_charges : Nat := 38
abbrev I__law_table : Nat := 39
abbrev I__law_is_shown : Nat := 40
abbrev I__law_right : Nat := 41
abbrev I_law : Nat := 42
def b_is_integer : List CS := [.ret (.and (.blt (.isinst .int) [.var 0]) (.not (.blt (.isinst .bool) [.var 0])))]
def n_is_integer : Fn := ⟨1, 1, b_is_integer⟩
def b_is_between : List CS := [.ret (.and (.call I_is_integer 1 [.var 0]) (.cmp2 .le .le (.var 1) (.var 0) (.var 2)))]
def n_is_between : Fn := ⟨3, 3, b_is_between⟩
def b_are_between : List CS := [.ret (.and (.blt (.isinst .tuple) [.var 0]) (.blt .all [.comp (.call I_is_between 1 [.var 3, .var 1, .var 2]) (.one 3) [3] .of [.var 0] []]))]
def n_are_between : Fn := ⟨3, 4, b_are_between⟩
def b_is_ascending : List CS := [.ret (.blt .all [.comp (.cmp .lt (.var 1) (.var 2)) (.tup [.one 1, .one 2]) [1, 2] .zip2 [.var 0, .sl (.var 0) [.cst (.int 1)] []] []])]
def n_is_ascending : Fn := ⟨1, 3, b_is_ascending⟩
def b_is_wave : List CS := [.ret (.and (.blt (.isinst .str) [.var 0]) (.and (.cmp .le (.blt .len [.var 0]) (.glob (.int 5000))) (.blt .all [.comp (.cmp .isin (.var 1) (.glob (.tup [.str [100], .str [108], .str [114]]))) (.one 1) [1] .of [.var 0] []])))]
def n_is_wave : Fn := ⟨1, 2, b_is_wave⟩
def b_check_wave : List CS := [.ite (.not (.call I_is_wave 1 [.var 0])) [.raise 0 (.cst .non)] []]
def n_check_wave : Fn := ⟨1, 1, b_check_wave⟩
def b_check_bound : List CS := [.ite (.not (.call I_is_between 1 [.var 0, .cst (.int 0), .glob (.int 20)])) [.raise 0 (.cst .non)] []]
def n_check_bound : Fn := ⟨1, 1, b_check_bound⟩
def b_charge_by : List CS := [.ret (.bop .sub (.mth .count (.var 0) [.glob (.str [100])]) (.mth .count (.var 0) [.glob (.str [108])]))]
def n_charge_by : Fn := ⟨1, 1, b_charge_by⟩
def b_charge_of : List CS := [.expr (.call I_check_wave 1 [.var 0]), .ret (.call I_charge_by 1 [.var 0])]
def n_charge_of : Fn := ⟨1, 1, b_charge_of⟩
def b_charges_by : List CS := [.ret (.comp (.call I_charge_by 1 [.sl (.var 0) [] [.var 1]]) (.one 1) [1] .rng1 [.bop .add (.blt .len [.var 0]) (.cst (.int 1))] [])]
def n_charges_by : Fn := ⟨1, 2, b_charges_by⟩
def b_charges_of : List CS := [.expr (.call I_check_wave 1 [.var 0]), .ret (.blt .tuple [.call I_charges_by 1 [.var 0]])]
def n_charges_of : Fn := ⟨1, 1, b_charges_of⟩
def b_keeps : List CS := [.ret (.blt .all [.comp (.cmp2 .le .le (.bop .sub (.cst (.int 0)) (.var 1)) (.var 2) (.var 1)) (.one 2) [2] .of [.call I_charges_by 1 [.var 0]] []])]
def n_keeps : Fn := ⟨2, 3, b_keeps⟩
def b_does_keep : List CS := [.expr (.call I_check_wave 1 [.var 0]), .expr (.call I_check_bound 1 [.var 1]), .ret (.call I_keeps 1 [.var 0, .var 1])]
def n_does_keep : Fn := ⟨2, 2, b_does_keep⟩
def b_least_kept : List CS := [.expr (.call I_check_wave 1 [.var 0]), .ret (.blt .max1 [.comp (.blt .abs [.var 1]) (.one 1) [1] .of [.call I_charges_by 1 [.var 0]] []])]
def n_least_kept : Fn := ⟨1, 2, b_least_kept⟩
def b_are_greys : List CS := [.ret (.and (.call I_are_between 1 [.var 0, .cst (.int 0), .glob (.int 7)]) (.and (.cmp2 .le .le (.cst (.int 1)) (.blt .len [.var 0]) (.glob (.int 4))) (.call I_is_ascending 1 [.var 0])))]
def n_are_greys : Fn := ⟨1, 1, b_are_greys⟩
def b_is_row : List CS := [.ret (.and (.blt (.isinst .tuple) [.var 1]) (.and (.cmp .eq (.blt .len [.var 1]) (.var 0)) (.blt .all [.comp (.call I_is_wave 1 [.var 2]) (.one 2) [2] .of [.var 1] []])))]
def n_is_row : Fn := ⟨2, 3, b_is_row⟩
def b_is_table : List CS := [.ite (.or (.not (.blt (.isinst .tuple) [.var 0])) (.or (.cmp .ne (.blt .len [.var 0]) (.cst (.int 2))) (.not (.call I_are_greys 1 [.ix (.var 0) (.cst (.int 0))])))) [.ret (.cst (.bl false))] [], .set (.tup [.one 2, .one 3]) (.tup [.blt .len [.ix (.var 0) (.cst (.int 0))], .ix (.var 0) (.cst (.int 1))]), .ite (.or (.not (.blt (.isinst .tuple) [.var 3])) (.or (.cmp .ne (.blt .len [.var 3]) (.var 2)) (.not (.blt .all [.comp (.call I_is_row 1 [.var 2, .var 4]) (.one 4) [4] .of [.var 3] []])))) [.ret (.cst (.bl false))] [], .set (.one 1) (.blt .len [.ix (.ix (.var 3) (.cst (.int 0))) (.cst (.int 0))]), .ret (.and (.cmp .le (.var 1) (.glob (.int 40))) (.blt .all [.comp (.blt .all [.comp (.cmp .eq (.blt .len [.var 5]) (.var 1)) (.one 5) [5] .of [.var 4] []]) (.one 4) [4] .of [.var 3] []]))]
def n_is_table : Fn := ⟨1, 6, b_is_table⟩
def b_check_table : List CS := [.ite (.not (.call I_is_table 1 [.var 0])) [.raise 0 (.cst .non)] []]
def n_check_table : Fn := ⟨1, 1, b_check_table⟩
def b_are_wishes : List CS := [.ret (.and (.call I_are_between 1 [.var 1, .cst (.int 0), .bop .sub (.blt .len [.ix (.var 0) (.cst (.int 0))]) (.cst (.int 1))]) (.cmp2 .le .le (.cst (.int 1)) (.blt .len [.var 1]) (.glob (.int 200))))]
def n_are_wishes : Fn := ⟨2, 2, b_are_wishes⟩
def b_check_wishes : List CS := [.ite (.not (.call I_are_wishes 1 [.var 0, .var 1])) [.raise 0 (.cst .non)] []]
def n_check_wishes : Fn := ⟨2, 2, b_check_wishes⟩
def b_waves_of : List CS := [.ret (.comp (.ix (.ix (.ix (.var 0) (.cst (.int 1))) (.var 2)) (.var 3)) (.tup [.one 2, .one 3]) [2, 3] .zip2 [.var 1, .sl (.var 1) [.cst (.int 1)] []] [])]
def n_waves_of : Fn := ⟨2, 4, b_waves_of⟩
def b_charge_at : List CS := [.ret (.call I_charge_by 1 [.ix (.ix (.ix (.var 0) (.cst (.int 1))) (.var 1)) (.var 2)])]
def n_charge_at : Fn := ⟨3, 3, b_charge_at⟩
def b_sums_of : List CS := [.set (.one 2) (.alloc (.lst [.cst (.int 0)])), .for (.one 3) .of [.call I_waves_of 1 [.var 0, .var 1]] [.expr (.mut 0 2 [.bop .add (.ix (.var 2) (.neg (.cst (.int 1)))) (.call I_charge_by 1 [.var 3])])], .ghost 2, .ret (.var 2)]
def n_sums_of : Fn := ⟨2, 4, b_sums_of⟩
def b_row_charges : List CS := [.expr (.call I_check_table 1 [.var 0]), .expr (.call I_check_wishes 1 [.var 0, .var 1]), .ret (.blt .tuple [.call I_sums_of 1 [.var 0, .var 1]])]
def n_row_charges : Fn := ⟨2, 2, b_row_charges⟩
def b_heights_of : List CS := [.ret (.bop .add (.lst [.cst (.int 0)]) (.comp (.call I_charge_at 1 [.var 0, .cst (.int 0), .var 1]) (.one 1) [1] .rng2 [.cst (.int 1), .blt .len [.ix (.var 0) (.cst (.int 0))]] []))]
def n_heights_of : Fn := ⟨1, 2, b_heights_of⟩
def b_is_level : List CS := [.for (.tup [.one 2, .one 3]) .enum [.ix (.var 0) (.cst (.int 1))] [.for (.one 4) .rng1 [.blt .len [.var 3]] [.ite (.cmp .ne (.call I_charge_at 1 [.var 0, .var 2, .var 4]) (.bop .sub (.ix (.var 1) (.var 4)) (.ix (.var 1) (.var 2)))) [.ret (.cst (.bl false))] []]], .ret (.cst (.bl true))]
def n_is_level : Fn := ⟨2, 5, b_is_level⟩
def b_rounds_of : List CS := [.set (.tup [.one 2, .one 3]) (.tup [.blt .listRng [.blt .len [.ix (.var 0) (.cst (.int 0))]], .alloc (.lst [])]), .for (.one 1) .of [.var 2] [.expr (.mut 0 3 [.tup [.var 1, .var 1]]), .for (.one 4) .of [.var 2] [.expr (.mut 0 3 [.tup [.var 1, .var 4, .var 1]]), .expr (.mut 1 3 [.comp (.tup [.var 1, .var 4, .var 5, .var 1]) (.one 5) [5] .of [.var 2] []])]], .ghost 3, .ret (.var 3)]
def n_rounds_of : Fn := ⟨1, 6, b_rounds_of⟩
def b_level_told : List CS := [.expr (.call I_check_table 1 [.var 0]), .ite (.call I_is_level 1 [.var 0, .call I_heights_of 1 [.var 0]]) [.ret (.tup [.glob (.str [108, 101, 118, 101, 108]), .blt .tuple [.call I_heights_of 1 [.var 0]]])] [], .ret (.tup [.glob (.str [114, 111, 117, 110, 100]), .ix (.comp (.var 1) (.one 1) [1] .of [.call I_rounds_of 1 [.var 0]] [.cmp .ne (.ix (.call I_sums_of 1 [.var 0, .var 1]) (.neg (.cst (.int 1)))) (.cst (.int 0))]) (.cst (.int 0))])]
def n_level_told : Fn := ⟨1, 2, b_level_told⟩
def b_shows_level : List CS := [.expr (.call I_check_table 1 [.var 0]), .ite (.or (.not (.blt (.isinst .tuple) [.var 1])) (.or (.cmp .ne (.blt .len [.var 1]) (.cst (.int 2))) (.not (.blt (.isinst .str) [.ix (.var 1) (.cst (.int 0))])))) [.ret (.cst (.bl false))] [], .ite (.cmp .eq (.ix (.var 1) (.cst (.int 0))) (.glob (.str [114, 111, 117, 110, 100]))) [.ite (.or (.not (.call I_are_wishes 1 [.var 0, .ix (.var 1) (.cst (.int 1))])) (.or (.cmp .lt (.blt .len [.ix (.var 1) (.cst (.int 1))]) (.cst (.int 2))) (.cmp .ne (.ix (.ix (.var 1) (.cst (.int 1))) (.cst (.int 0))) (.ix (.ix (.var 1) (.cst (.int 1))) (.neg (.cst (.int 1))))))) [.ret (.cst (.bl false))] [], .ret (.cmp .ne (.ix (.call I_sums_of 1 [.var 0, .ix (.var 1) (.cst (.int 1))]) (.neg (.cst (.int 1)))) (.cst (.int 0)))] [], .ite (.or (.cmp .ne (.ix (.var 1) (.cst (.int 0))) (.glob (.str [108, 101, 118, 101, 108]))) (.or (.not (.blt (.isinst .tuple) [.ix (.var 1) (.cst (.int 1))])) (.cmp .ne (.blt .len [.ix (.var 1) (.cst (.int 1))]) (.blt .len [.ix (.var 0) (.cst (.int 0))])))) [.ret (.cst (.bl false))] [], .ret (.and (.blt .all [.comp (.call I_is_integer 1 [.var 2]) (.one 2) [2] .of [.ix (.var 1) (.cst (.int 1))] []]) (.call I_is_level 1 [.var 0, .ix (.var 1) (.cst (.int 1))]))]
def n_shows_level : Fn := ⟨2, 3, b_shows_level⟩
def b__law_pot : List CS := [.set (.one 2) (.ite (.cmp .lt (.var 1) (.blt .len [.var 0])) (.ix (.var 0) (.var 1)) (.bop .add (.bop .add (.bop .mod (.blt .sum [.sl (.var 0) [] [.cst (.int 1)]]) (.cst (.int 1000381))) (.bop .mul (.cst (.int 4657)) (.var 1))) (.cst (.int 743)))), .set (.one 3) (.bop .mul (.bop .mod (.blt .int [.blt .abs [.var 2]]) (.bop .pow (.bop .pow (.cst (.int 10)) (.cst (.int 60))) (.cst (.int 5)))) (.blt .int [.cmp .ge (.blt .abs [.var 2]) (.bop .pow (.cst (.int 10)) (.cst (.int 18)))])), .set (.one 4) (.bop .mod (.blt .int [.var 2]) (.cst (.int 2305843009213693951))), .ret (.alloc (.lst [.var 3, .bop .mod (.blt .int [.bop .add (.bop .add (.bop .mul (.var 4) (.cst (.int 63029))) (.bop .mul (.bop .mul (.cst (.int 7219)) (.var 1)) (.var 1))) (.cst (.int 887))]) (.cst (.int 2305843009213693921)), .cst (.int 0)]))]
def n__law_pot : Fn := ⟨2, 5, b__law_pot⟩
def b__law_take : List CS := [.ite (.cmp .gt (.ix (.var 0) (.cst (.int 0))) (.cst (.int 0))) [.set (.one 4) (.bop .mod (.blt .int [.ix (.var 0) (.cst (.int 0))]) (.var 1)), .setIx (.var 0) (.cst (.int 0)) (.bop .fdiv (.ix (.var 0) (.cst (.int 0))) (.var 1)), .ret (.var 4)] [], .setIx (.var 0) (.cst (.int 2)) (.bop .add (.ix (.var 0) (.cst (.int 2))) (.cst (.int 1))), .set (.one 2) (.ix (.lst [.cst (.int 2147481949), .cst (.int 2147481937), .cst (.int 2147481907), .cst (.int 2147481901), .cst (.int 2147481899)]) (.bop .mod (.blt .int [.ix (.var 0) (.cst (.int 2))]) (.cst (.int 5)))), .set (.one 3) (.bop .mod (.blt .int [.bop .pow (.blt .int [.bop .add (.bop .add (.ix (.var 0) (.cst (.int 1))) (.bop .mul (.bop .mul (.cst (.int 69221)) (.ix (.var 0) (.cst (.int 2)))) (.ix (.var 0) (.cst (.int 2))))) (.cst (.int 2297))]) (.cst (.int 3))]) (.var 2)), .set (.one 3) (.bop .mod (.blt .int [.bop .mul (.var 3) (.bop .add (.bop .mod (.blt .int [.var 3]) (.cst (.int 7901))) (.bop .mul (.cst (.int 239)) (.ix (.var 0) (.cst (.int 2)))))]) (.cst (.int 2305843009213693907))), .ret (.bop .mod (.blt .int [.bop .fdiv (.var 3) (.cst (.int 139))]) (.var 1))]
def n__law_take : Fn := ⟨2, 5, b__law_take⟩
def b__law_of : List CS := [.ret (.ix (.var 1) (.call I__law_take 0 [.var 0, .blt .len [.var 1]]))]
def n__law_of : Fn := ⟨2, 2, b__law_of⟩
def b__law_some : List CS := [.set (.tup [.one 4, .one 5]) (.tup [.alloc (.blt .list [.var 1]), .alloc (.lst [])]), .for (.one 3) .rng1 [.var 2] [.expr (.mut 0 5 [.mut 3 4 [.call I__law_take 0 [.var 0, .blt .len [.var 4]]]])], .ghost 5, .ret (.var 5)]
def n__law_some : Fn := ⟨3, 6, b__law_some⟩
def b__law_cells : List CS := [.ret (.blt .listRng [.blt .max2 [.cst (.int 1), .blt .min2 [.var 1, .blt .len [.var 0]]]])]
def n__law_cells : Fn := ⟨2, 2, b__law_cells⟩
def b__law_is_int : List CS := [.ret (.and (.blt (.isinst .int) [.var 0]) (.and (.not (.blt (.isinst .bool) [.var 0])) (.cmp2 .le .le (.var 1) (.var 0) (.var 2))))]
def n__law_is_int : Fn := ⟨3, 3, b__law_is_int⟩
def b__law_odd : List CS := [.set (.one 1) (.lst [.cst (.non), .cst (.bl true), .cst (.bl false), .cst (.int 0), .cst (.int 1), .neg (.cst (.int 1)), .cst (.int 7), .bop .pow (.cst (.int 10)) (.cst (.int 11)), .cst (.str []), .cst (.str [97]), .cst (.str [119, 97, 118, 101]), .tup [], .tup [.cst (.int 0)], .tup [.cst (.non)], .lst [], .lst [.cst (.int 0)], .cst (.exc 0 .non), .cst (.exc 0 .non), .tup [.tup [.cst (.int 0), .cst (.int 0)]]]), .ret (.call I__law_of 0 [.var 0, .var 1])]
def n__law_odd : Fn := ⟨1, 2, b__law_odd⟩
def b__law_bent : List CS := [.ite (.and (.blt (.isinst .tuple) [.var 1]) (.and (.cmp .ne (.var 1) (.tup [])) (.cmp .ne (.call I__law_take 0 [.var 0, .cst (.int 5)]) (.cst (.int 0))))) [.set (.one 2) (.call I__law_take 0 [.var 0, .blt .len [.var 1]]), .ret (.bop .add (.bop .add (.sl (.var 1) [] [.var 2]) (.tup [.call I__law_bent 0 [.var 0, .ix (.var 1) (.var 2)]])) (.sl (.var 1) [.bop .add (.var 2) (.cst (.int 1))] []))] [], .ite (.blt (.isinst .tuple) [.var 1]) [.set (.one 3) (.blt .list [.var 1]), .ret (.call I__law_of 0 [.var 0, .lst [.var 3, .sl (.var 1) [] [.neg (.cst (.int 1))], .bop .add (.var 1) (.sl (.var 1) [] [.cst (.int 1)]), .bop .add (.var 1) (.tup [.cst (.int 0)]), .blt .rev [.var 1], .tup [.var 1], .sl (.var 3) [] [.cst (.int 1)], .call I__law_odd 0 [.var 0]]])] [], .ite (.call I__law_is_int 1 [.var 1, .neg (.bop .pow (.cst (.int 10)) (.cst (.int 30))), .bop .pow (.cst (.int 10)) (.cst (.int 30))]) [.ret (.call I__law_of 0 [.var 0, .lst [.bop .add (.var 1) (.cst (.int 1)), .bop .sub (.var 1) (.cst (.int 1)), .neg (.var 1), .blt .str [.var 1], .cmp .eq (.var 1) (.cst (.int 1)), .call I__law_odd 0 [.var 0]]])] [], .ret (.call I__law_odd 0 [.var 0])]
def n__law_bent : Fn := ⟨2, 4, b__law_bent⟩
def b__law_wave : List CS := [.ret (.mth .join (.cst (.str [])) [.comp (.call I__law_of 0 [.var 0, .lst [.cst (.str [100]), .cst (.str [108]), .cst (.str [114])]]) (.one 2) [2] .rng1 [.call I__law_take 0 [.var 0, .bop .add (.var 1) (.cst (.int 1))]] []])]
def n__law_wave : Fn := ⟨2, 3, b__law_wave⟩
def b__law_charges : List CS := [.set (.one 1) (.alloc (.lst [.cst (.int 0)])), .for (.one 2) .of [.var 0] [.expr (.mut 0 1 [.bop .add (.ix (.var 1) (.neg (.cst (.int 1)))) (.ite (.cmp .eq (.var 2) (.cst (.str [100]))) (.cst (.int 1)) (.ite (.cmp .eq (.var 2) (.cst (.str [108]))) (.neg (.cst (.int 1))) (.cst (.int 0))))])], .ghost 1, .ret (.var 1)]
def n__law_charges : Fn := ⟨1, 3, b__law_charges⟩
def b__law_table : List CS := [.set (.tup [.one 6, .one 7]) (.tup [.bop .add (.cst (.int 1)) (.call I__law_take 0 [.var 0, .cst (.int 4)]), .bop .add (.cst (.int 1)) (.call I__law_take 0 [.var 0, .cst (.int 6)])]), .set (.one 1) (.blt .tuple [.blt .sorted [.call I__law_some 0 [.var 0, .blt .listRng [.cst (.int 8)], .var 6]]]), .set (.one 2) (.comp (.call I__law_take 0 [.var 0, .cst (.int 3)]) (.one 10) [10] .of [.var 1] []), .set (.one 3) (.alloc (.lst [])), .set (.one 4) (.and (.cmp .eq (.call I__law_take 0 [.var 0, .cst (.int 2)]) (.cst (.int 0))) (.cmp .gt (.var 7) (.cst (.int 1)))), .for (.one 5) .rng1 [.var 6] [.set (.one 8) (.alloc (.lst [])), .for (.one 9) .rng1 [.var 6] [.set (.one 11) (.bop .sub (.ix (.var 2) (.var 9)) (.ix (.var 2) (.var 5))), .set (.one 12) (.bop .mul (.lst [.ite (.cmp .gt (.var 11) (.cst (.int 0))) (.cst (.str [100])) (.cst (.str [108]))]) (.blt .abs [.var 11])), .set (.one 12) (.ite (.var 4) (.bop .add (.var 12) (.bop .mul (.lst [.cst (.str [114])]) (.bop .sub (.var 7) (.blt .len [.var 12])))) (.comp (.call I__law_of 0 [.var 0, .lst [.cst (.str [100]), .cst (.str [108]), .cst (.str [114])]]) (.one 13) [13] .rng1 [.var 7] [])), .expr (.mut 0 8 [.mth .join (.cst (.str [])) [.call I__law_some 0 [.var 0, .var 12, .blt .len [.var 12]]]])], .ghost 8, .expr (.mut 0 3 [.blt .tuple [.var 8]])], .ghost 3, .ret (.tup [.var 1, .blt .tuple [.var 3]])]
def n__law_table : Fn := ⟨1, 14, b__law_table⟩
def b__law_is_shown : List CS := [.set (.one 2) (.blt .len [.ix (.var 0) (.cst (.int 0))]), .ite (.or (.not (.blt (.isinst .tuple) [.var 1])) (.or (.cmp .ne (.blt .len [.var 1]) (.cst (.int 2))) (.or (.not (.blt (.isinst .str) [.ix (.var 1) (.cst (.int 0))])) (.not (.blt (.isinst .tuple) [.ix (.var 1) (.cst (.int 1))]))))) [.ret (.cst (.bl false))] [], .ite (.cmp .eq (.ix (.var 1) (.cst (.int 0))) (.cst (.str [108, 101, 118, 101, 108]))) [.ite (.or (.cmp .ne (.blt .len [.ix (.var 1) (.cst (.int 1))]) (.var 2)) (.not (.blt .all [.comp (.call I__law_is_int 1 [.var 7, .neg (.bop .pow (.cst (.int 10)) (.cst (.int 30))), .bop .pow (.cst (.int 10)) (.cst (.int 30))]) (.one 7) [7] .of [.ix (.var 1) (.cst (.int 1))] []]))) [.ret (.cst (.bl false))] [], .for (.one 4) .rng1 [.var 2] [.ite (.not (.blt .all [.comp (.cmp .eq (.ix (.call I__law_charges 1 [.ix (.ix (.ix (.var 0) (.cst (.int 1))) (.var 4)) (.var 8)]) (.neg (.cst (.int 1)))) (.bop .sub (.ix (.ix (.var 1) (.cst (.int 1))) (.var 8)) (.ix (.ix (.var 1) (.cst (.int 1))) (.var 4)))) (.one 8) [8] .rng1 [.var 2] []])) [.ret (.cst (.bl false))] []], .ret (.cst (.bl true))] [], .ite (.or (.cmp .ne (.ix (.var 1) (.cst (.int 0))) (.cst (.str [114, 111, 117, 110, 100]))) (.or (.not (.cmp2 .le .le (.cst (.int 2)) (.blt .len [.ix (.var 1) (.cst (.int 1))]) (.cst (.int 200)))) (.not (.blt .all [.comp (.call I__law_is_int 1 [.var 6, .cst (.int 0), .bop .sub (.var 2) (.cst (.int 1))]) (.one 6) [6] .of [.ix (.var 1) (.cst (.int 1))] []])))) [.ret (.cst (.bl false))] [], .set (.one 3) (.blt .sum [.comp (.ix (.call I__law_charges 1 [.ix (.ix (.ix (.var 0) (.cst (.int 1))) (.ix (.ix (.var 1) (.cst (.int 1))) (.var 5))) (.ix (.ix (.var 1) (.cst (.int 1))) (.bop .add (.var 5) (.cst (.int 1))))]) (.neg (.cst (.int 1)))) (.one 5) [5] .rng1 [.bop .sub (.blt .len [.ix (.var 1) (.cst (.int 1))]) (.cst (.int 1))] []]), .ret (.and (.cmp .eq (.ix (.ix (.var 1) (.cst (.int 1))) (.cst (.int 0))) (.ix (.ix (.var 1) (.cst (.int 1))) (.neg (.cst (.int 1))))) (.cmp .ne (.var 3) (.cst (.int 0))))]
def n__law_is_shown : Fn := ⟨2, 9, b__law_is_shown⟩
def b__law_right : List CS := [.set (.tup [.one 12, .one 13]) (.tup [.call I__law_wave 0 [.var 0, .cst (.int 30)], .call I__law_take 0 [.var 0, .cst (.int 21)]]), .set (.one 1) (.call I__law_charges 1 [.var 12]), .ite (.or (.cmp .ne (.blt .repr [.call I_charge_of 1 [.var 12]]) (.blt .repr [.ix (.var 1) (.neg (.cst (.int 1)))])) (.cmp .ne (.blt .repr [.call I_charges_of 1 [.var 12]]) (.blt .repr [.blt .tuple [.var 1]]))) [.ret (.cst (.bl false))] [], .set (.one 2) (.blt .max1 [.comp (.blt .abs [.var 14]) (.one 14) [14] .of [.var 1] []]), .ite (.or (.cmp .ne (.blt .repr [.call I_least_kept 1 [.var 12]]) (.blt .repr [.var 2])) (.cmp .ne (.blt .repr [.call I_does_keep 1 [.var 12, .var 13]]) (.blt .repr [.cmp .le (.var 2) (.var 13)]))) [.ret (.cst (.bl false))] [], .set (.one 3) (.call I__law_table 0 [.var 0]), .set (.one 4) (.blt .len [.ix (.var 3) (.cst (.int 0))]), .set (.one 5) (.blt .tuple [.comp (.call I__law_take 0 [.var 0, .var 4]) (.one 15) [15] .rng1 [.bop .add (.cst (.int 1)) (.call I__law_take 0 [.var 0, .cst (.int 6)])] []]), .set (.one 6) (.alloc (.lst [.cst (.int 0)])), .for (.one 7) .rng1 [.bop .sub (.blt .len [.var 5]) (.cst (.int 1))] [.expr (.mut 0 6 [.bop .add (.ix (.var 6) (.neg (.cst (.int 1)))) (.ix (.call I__law_charges 1 [.ix (.ix (.ix (.var 3) (.cst (.int 1))) (.ix (.var 5) (.var 7))) (.ix (.var 5) (.bop .add (.var 7) (.cst (.int 1))))]) (.neg (.cst (.int 1))))])], .ghost 6, .ite (.cmp .ne (.blt .repr [.call I_row_charges 1 [.var 3, .var 5]]) (.blt .repr [.blt .tuple [.var 6]])) [.ret (.cst (.bl false))] [], .set (.one 8) (.blt .tuple [.bop .add (.lst [.cst (.int 0)]) (.comp (.ix (.call I__law_charges 1 [.ix (.ix (.ix (.var 3) (.cst (.int 1))) (.cst (.int 0))) (.var 17)]) (.neg (.cst (.int 1)))) (.one 17) [17] .rng2 [.cst (.int 1), .var 4] [])]), .set (.one 9) (.call I_level_told 1 [.var 3]), .ite (.or (.cmp .ne (.cmp .eq (.ix (.var 9) (.cst (.int 0))) (.cst (.str [108, 101, 118, 101, 108]))) (.call I__law_is_shown 1 [.var 3, .tup [.cst (.str [108, 101, 118, 101, 108]), .var 8]])) (.not (.call I__law_is_shown 1 [.var 3, .var 9]))) [.ret (.cst (.bl false))] [], .set (.one 10) (.bop .add (.var 5) (.sl (.var 5) [] [.cst (.int 1)])), .set (.one 11) (.alloc (.lst [.var 9, .blt .list [.var 9], .sl (.var 9) [] [.cst (.int 1)], .bop .add (.var 9) (.tup [.cst (.int 0)]), .blt .rev [.var 9], .tup [.cst (.str [108, 101, 118, 101, 108]), .var 8], .tup [.cst (.str [108, 101, 118, 101, 108]), .blt .rev [.var 8]], .tup [.cst (.str [114, 111, 117, 110, 100]), .var 5], .tup [.cst (.str [114, 111, 117, 110, 100]), .var 10], .cst (.non), .tup []])), .expr (.mut 0 11 [.tup [.cst (.str [108, 101, 118, 101, 108]), .blt .tuple [.comp (.bop .add (.var 18) (.cst (.int 9))) (.one 18) [18] .of [.var 8] []]]]), .expr (.mut 1 11 [.bop .add (.bop .add (.lst [.tup [.cst (.str [76, 101, 118, 101, 108]), .var 8], .tup [.cst (.str [114, 111, 117, 110, 100]), .tup [.cst (.int 0)]], .tup [.cst (.str [114, 111, 117, 110, 100]), .tup [.cst (.int 0), .var 4, .cst (.int 0)]]]) (.comp (.call I__law_bent 0 [.var 0, .var 9]) (.one 19) [19] .rng1 [.cst (.int 6)] [])) (.lst [.call I__law_odd 0 [.var 0]])]), .ghost 11, .ret (.blt .all [.comp (.cmp .eq (.blt .repr [.call I_shows_level 1 [.var 3, .var 16]]) (.blt .repr [.call I__law_is_shown 1 [.var 3, .var 16]])) (.one 16) [16] .of [.var 11] []])]
def n__law_right : Fn := ⟨1, 20, b__law_right⟩
def b_law : List CS := [.for (.one 1) .of [.call I__law_cells 0 [.var 0, .cst (.int 3)]] [.set (.one 2) (.call I__law_pot 0 [.var 0, .var 1]), .ite (.not (.blt .all [.comp (.call I__law_right 0 [.var 2]) (.one 3) [3] .rng1 [.cst (.int 6)] []])) [.ret (.cst (.bl false))] []], .ret (.cst (.bl true))]
def n_law : Fn := ⟨1, 4, b_law⟩
def fl0 : List Fn := [n_is_integer, n_is_between, n_are_between, n_is_ascending, n_is_wave, n_check_wave, n_check_bound, n_charge_by, n_charge_of, n_charges_by, n_charges_of, n_keeps]
def fl1 : List Fn := [n_does_keep, n_least_kept, n_are_greys, n_is_row, n_is_table, n_check_table, n_are_wishes, n_check_wishes, n_waves_of, n_charge_at, n_sums_of, n_row_charges]
def fl2 : List Fn := [n_heights_of, n_is_level, n_rounds_of, n_level_told, n_shows_level, n__law_pot, n__law_take, n__law_of, n__law_some, n__law_cells, n__law_is_int, n__law_odd]
def fl3 : List Fn := [n__law_bent, n__law_wave, n__law_charges, n__law_table, n__law_is_shown, n__law_right, n_law]
def fl : List Fn := fl0 ++ fl1 ++ fl2 ++ fl3
abbrev Tb : Nat → Option Fn := fun i => fl[i]?
end NgB
end

section
set_option autoImplicit false
set_option maxRecDepth 100000
set_option maxHeartbeats 1000000
namespace NgB
open NG
abbrev Ph (k : Nat) : Phi := phi 1000 Tb k
theorem ph (k f : Nat) (ds : List D) (S : Store) (fn : Fn) (h : fl[f]? = some fn) : Ph (k + 1) f ds S = runFn 1000 (Ph k) fn ds S := by
  show (match Tb f with | some fn => runFn 1000 (phi 1000 Tb k) fn ds S | none => .bad) = _
  rw [show Tb f = some fn from h]
theorem is_integer_ok (k : Nat) (S : Store) : (∀ i, Ph (k + 1) I_is_integer [.int i] S = .ok (.bl true) S) ∧ ∀ b, Ph (k + 1) I_is_integer [.bl b] S = .ok (.bl false) S := by
  refine ⟨fun i => ?_, fun b => ?_⟩
  · rw [ph k I_is_integer _ _ n_is_integer rfl]
    simp [runFn, n_is_integer, b_is_integer, evSs, evS, evE, evEs]
  · rw [ph k I_is_integer _ _ n_is_integer rfl]
    simp [runFn, n_is_integer, b_is_integer, evSs, evS, evE, evEs]
/-- what is_between asks of an int or a bool -/
def btw (lo hi : Int) : D → Bool
  | .int v => decide (lo ≤ v) && decide (v ≤ hi)
  | _ => false
def ib : D → Bool
  | .int _ => true
  | .bl _ => true
  | _ => false
theorem is_between_ok (k : Nat) (S : Store) (d : D) (lo hi : Int) (h : ib d = true) : Ph (k + 2) I_is_between [d, .int lo, .int hi] S = .ok (.bl (btw lo hi d)) S := by
  rw [ph (k + 1) I_is_between _ _ n_is_between rfl]
  cases d <;> first | (simp [ib] at h; done) | skip
  · have := callP (S := S) (f := I_is_integer) (ds := [.bl ‹_›]) rfl ((is_integer_ok k []).2 _) rfl
    simp [runFn, n_is_between, b_is_between, evSs, evS, evE, evEs, this, btw]
  · rename_i i
    have := callP (S := S) (f := I_is_integer) (ds := [.int i]) rfl ((is_integer_ok k []).1 i) rfl
    simp [runFn, n_is_between, b_is_between, evSs, evS, evE, evEs, this, btw]
    by_cases h1 : lo ≤ i <;> simp [h1]
theorem cleans_ib : ∀ {l : List D}, l.all ib = true → cleans l = true
  | [], _ => rfl
  | d :: l, h => by
    rw [List.all_cons, Bool.and_eq_true] at h
    simp only [cleans, Bool.and_eq_true]
    refine ⟨?_, cleans_ib h.2⟩
    have := h.1
    cases d <;> first | rfl | (simp [ib] at this)
theorem ib_vw {d : D} (h : ib d = true) (S : Store) : vw S d = d ∧ clean d = true ∧ ∀ {α : Type} (a b : α), (match d with | .undef => a | _ => b) = b := by
  cases d <;> first | (simp [ib] at h; done) | exact ⟨rfl, rfl, fun _ _ => rfl⟩
theorem var_ok {Φ : Phi} {i : Nat} {ρ : Env} {S : Store} {d : D} (h : ρ[i]? = some d) (hu : clean d = true) : evE Φ (.var i) ρ S = .ok d S := by
  simp only [evE, h]
  cases d <;> first | rfl | (simp [clean] at hu)
theorem are_between_ok (k : Nat) (S : Store) (xs : List D) (lo hi : Int) (h : xs.all ib = true) : Ph (k + 3) I_are_between [.tup xs, .int lo, .int hi] S = .ok (.bl (xs.all (btw lo hi))) S := by
  rw [ph (k + 2) I_are_between _ _ n_are_between rfl]
  simp [runFn, n_are_between, b_are_between, evSs, evS, evE, evEs, wipe]
  rw [compL_map (fun d => .bl (btw lo hi d)) fun d hd => ?_]
  · simp
  · have hib := List.all_eq_true.mp h d hd
    refine ⟨[.tup xs, .int lo, .int hi, d], by simp [asg], rfl, ?_⟩
    have hc := (ib_vw hib S).2.1
    have := callP (S := S) (f := I_is_between) (ds := [d, .int lo, .int hi]) (by simp [cleans, hc, clean]) (is_between_ok k [] d lo hi hib) rfl
    simp only [evE, evEs, List.getElem?_cons_zero, List.getElem?_cons_succ]
    cases d <;> first | (simp [ib] at hib; done) | simp [this]
theorem are_between_no (k : Nat) (S : Store) (d : D) (lo hi : Int) (h : clean d = true) (hd : ∀ t l, d ≠ .dic t l) (hr : ∀ l, d ≠ .tup l) : Ph (k + 1) I_are_between [d, .int lo, .int hi] S = .ok (.bl false) S := by
  rw [ph k I_are_between _ _ n_are_between rfl]
  cases d <;> first | (simp [clean] at h; done) | (exact absurd rfl (hr _)) | (exact absurd rfl (hd _ _)) | (simp [runFn, n_are_between, b_are_between, evSs, evS, evE, evEs]; done) | rfl
/-! texts of numbers: ints in a tuple -/
def I (n : Nat) : D := .int (n : Int)
def tI (l : List Nat) : D := .tup (l.map I)
theorem ib_I (l : List Nat) : (l.map I).all ib = true := by
  rw [List.all_map]
  exact List.all_eq_true.mpr fun _ _ => rfl
theorem clean_tI (l : List Nat) : clean (tI l) = true := by
  unfold tI
  simp only [clean]
  exact cleans_ib (ib_I l)
/-- all next ones are greater -/
def asc : List Nat → Bool
  | x :: y :: r => decide (x < y) && asc (y :: r)
  | _ => true
def ltP : D → Bool
  | .tup [.int i, .int j] => decide (i < j)
  | _ => false
theorem all_zip : ∀ l : List Nat, (zip2 (l.map I) (l.map I).tail).all ltP = asc l
  | [] => rfl
  | [x] => rfl
  | x :: y :: r => by
    have ih := all_zip (y :: r)
    simp only [List.map_cons, List.tail_cons] at ih ⊢
    simp only [zip2, List.all_cons, asc]
    rw [ih]
    simp [I, ltP]
theorem zip2_mem : ∀ {l r : List D} {d : D}, d ∈ zip2 l r → ∃ a b, a ∈ l ∧ b ∈ r ∧ d = .tup [a, b]
  | [], r, d, h => by simp [zip2] at h
  | x :: xs, [], d, h => by simp [zip2] at h
  | x :: xs, y :: ys, d, h => by
    rcases List.mem_cons.mp (show d ∈ .tup [x, y] :: zip2 xs ys from h) with e | h
    · exact ⟨x, y, List.mem_cons_self .., List.mem_cons_self .., e⟩
    · obtain ⟨a, b, h1, h2, h3⟩ := zip2_mem h
      exact ⟨a, b, List.mem_cons_of_mem _ h1, List.mem_cons_of_mem _ h2, h3⟩
theorem is_ascending_ok (k : Nat) (S : Store) (l : List Nat) : Ph (k + 1) I_is_ascending [tI l] S = .ok (.bl (asc l)) S := by
  rw [ph k I_is_ascending _ _ n_is_ascending rfl]
  simp [runFn, n_is_ascending, b_is_ascending, evSs, evS, evE, evEs, tI, wipe]
  rw [compL_map (fun d => .bl (ltP d)) fun d hd => ?_]
  · simp [all_zip l]
  · obtain ⟨a, b, ha, hb, rfl⟩ := zip2_mem hd
    obtain ⟨x, _, rfl⟩ := List.mem_map.mp ha
    obtain ⟨y, _, rfl⟩ := List.mem_map.mp (List.mem_of_mem_tail hb)
    exact ⟨[tI l, I x, I y], by simp [asg, asgs, tI], rfl, by simp [I, ltP]⟩
/-! ## inks -/
/-- rows of an ink, as the law draws them -/
structure InkOk (n : Nat) (g d l r : List Nat) : Prop where
  n1 : 1 ≤ n
  n2 : n ≤ 10
  hg : g.length = n
  hd : d.length = n
  hl : l.length = n
  hr : r.length = n
  gb : ∀ x ∈ g, x ≤ 7
  db : ∀ x ∈ d, x < n
  lb : ∀ x ∈ l, x < n
  rb : ∀ x ∈ r, x < n
def ink (g d l r : List Nat) : D := .tup [tI g, tI d, tI l, tI r]
theorem clean_ink (g d l r : List Nat) : clean (ink g d l r) = true := by
  simp [ink, clean, cleans, clean_tI]
theorem btw_I {n x : Nat} : btw 0 (n : Int) (I x) = decide (x ≤ n) := by
  simp [btw, I]
theorem all_btw (l : List Nat) (n : Nat) : (l.map I).all (btw 0 (n : Int)) = l.all fun x => decide (x ≤ n) := by
  rw [List.all_map]
  congr 1
  funext x
  exact btw_I
/-- one row of an ink -/
def rowB (n : Nat) : D → Bool
  | .tup r => r.all (btw 0 ((n : Int) - 1)) && decide (r.length = n)
  | _ => false
/-- tuples of ints or bools -/
def isRow : D → Bool
  | .tup r => r.all ib
  | _ => false
theorem isRow_clean {d : D} (h : isRow d = true) : clean d = true := by
  cases d <;> first | (simp [isRow] at h; done) | skip
  simp only [isRow] at h
  simp only [clean]
  exact cleans_ib h
theorem rows_clean : ∀ {l : List D}, l.all isRow = true → cleans l = true
  | [], _ => rfl
  | d :: l, h => by
    rw [List.all_cons, Bool.and_eq_true] at h
    simp only [cleans, isRow_clean h.1, rows_clean h.2, Bool.and_self]
theorem isRow_tI (l : List Nat) : isRow (tI l) = true := ib_I l
theorem rowB_tI {n : Nat} {l : List Nat} (h1 : l.length = n) (h2 : ∀ x ∈ l, x < n) : rowB n (tI l) = true := by
  simp only [rowB, tI, Bool.and_eq_true, decide_eq_true_eq, List.length_map]
  refine ⟨?_, h1⟩
  rw [List.all_map]
  refine List.all_eq_true.mpr fun x hx => ?_
  have := h2 x hx
  simp [btw, I]
  omega
end NgB
end

section
set_option autoImplicit false
set_option maxRecDepth 100000
set_option maxHeartbeats 1000000
namespace NgB
open NG
/-- the numbers, each once, the smallest first -/
def sd (l : List Nat) : List D := sortD (dedup (l.map I))
theorem areInts_I : ∀ l : List Nat, areInts (l.map I) = some (l.map fun n : Nat => (n : Int))
  | [] => rfl
  | x :: l => by
    show (areInts (l.map I)).map ((x : Int) :: ·) = _
    rw [areInts_I l]
    rfl
theorem dedup_le : ∀ l : List D, (dedup l).length ≤ l.length
  | [] => Nat.le_refl _
  | x :: l => by
    have := dedup_le l
    have h2 := List.length_filter_le (fun y => !deq x y) (dedup l)
    simp only [dedup, List.length_cons]
    omega
theorem b_ssetI {x : D} (l : List Nat) (hx : seqOf x = some (l.map I)) (h : l.length ≤ 63) : bltE .sortedSet [x] = some (.lst (sd l)) := by
  have h2 := dedup_le (l.map I)
  rw [List.length_map] at h2
  show (match seqOf x with
    | some l => match areInts l with
      | some _ => if (dedup l).length < 64 ∧ l.length ≤ 4000 then some (D.lst (sortD (dedup l))) else none
      | none => if l.all setKey && decide (l.length < 64) then some (D.lst (sortD (dedup l))) else none
    | none => none) = _
  rw [hx]
  show (match areInts (l.map I) with
      | some _ => if (dedup (l.map I)).length < 64 ∧ (l.map I).length ≤ 4000 then some (D.lst (sortD (dedup (l.map I)))) else none
      | none => if (l.map I).all setKey && decide ((l.map I).length < 64) then some (D.lst (sortD (dedup (l.map I)))) else none) = _
  rw [areInts_I]
  exact if_pos ⟨by omega, by rw [List.length_map]; omega⟩
theorem b_sset (l : List Nat) (h : l.length ≤ 63) : bltE .sortedSet [.lst (l.map I)] = some (.lst (sd l)) := b_ssetI l rfl h
theorem get_I (l : List Nat) (i : Nat) (h : i < l.length) : (l.map I)[i]? = some (I (l.getD i 0)) := by
  rw [List.getElem?_map, List.getD_eq_getElem?_getD, List.getElem?_eq_getElem h]
  rfl
/-- a lot of an ink of n states -/
structure LotOk (n : Nat) (t : List Nat) : Prop where
  ne : t ≠ []
  lt : ∀ x ∈ t, x < n
  up : asc t = true
theorem lot_ne {t : List Nat} (h : t ≠ []) : deq (tI t) (.tup []) = false := by
  cases t with
  | nil => exact absurd rfl h
  | cons x t => rfl
theorem py_I : ∀ l : List Nat, arePy (l.map I) = true
  | [] => rfl
  | x :: l => by simp [arePy, isPy, I, py_I l]
theorem dep_I : ∀ l : List Nat, ddepths (l.map I) = 0
  | [] => rfl
  | x :: l => by simp [ddepths, ddepth, I, dep_I l]
end NgB
end

section
set_option autoImplicit false
set_option maxRecDepth 100000
set_option maxHeartbeats 1000000
namespace NgB
open NG
/-! ## sorted(set(..)) of numbers -/
def insN (x : Nat) : List Nat → List Nat
  | [] => [x]
  | y :: ys => if y < x then y :: insN x ys else x :: y :: ys
def sortN : List Nat → List Nat
  | [] => []
  | x :: xs => insN x (sortN xs)
def dedN : List Nat → List Nat
  | [] => []
  | x :: xs => x :: (dedN xs).filter fun y => !(x == y)
def sdN (l : List Nat) : List Nat := sortN (dedN l)
theorem dlt_I (x y : Nat) : dlt (I x) (I y) = decide (x < y) := by
  simp [I, dlt]
theorem deq_I (x y : Nat) : deq (I x) (I y) = (x == y) := by
  rw [Bool.eq_iff_iff]
  simp [I, deq]
  omega
theorem ins_I (x : Nat) : ∀ l : List Nat, insD (I x) (l.map I) = (insN x l).map I
  | [] => rfl
  | y :: ys => by
    simp only [List.map_cons, insD, insN, dlt_I, decide_eq_true_eq]
    split
    · rw [ins_I x ys]
      rfl
    · rfl
theorem sort_I : ∀ l : List Nat, sortD (l.map I) = (sortN l).map I
  | [] => rfl
  | x :: xs => by
    simp only [List.map_cons, sortD, sortN]
    rw [sort_I xs, ins_I]
theorem ded_I : ∀ l : List Nat, dedup (l.map I) = (dedN l).map I
  | [] => rfl
  | x :: xs => by
    simp only [List.map_cons, dedup, dedN]
    rw [ded_I xs, List.filter_map]
    congr 2
    congr 1
    funext y
    simp only [Function.comp, deq_I]
theorem sd_I (l : List Nat) : sd l = (sdN l).map I := by
  unfold sd sdN
  rw [ded_I, sort_I]
theorem mem_insN {x z : Nat} : ∀ {l : List Nat}, z ∈ insN x l ↔ z = x ∨ z ∈ l
  | [] => by simp [insN]
  | y :: ys => by
    simp only [insN]
    split
    · rw [List.mem_cons, mem_insN, List.mem_cons]
      constructor
      · rintro (h | h | h)
        · exact .inr (.inl h)
        · exact .inl h
        · exact .inr (.inr h)
      · rintro (h | h | h)
        · exact .inr (.inl h)
        · exact .inl h
        · exact .inr (.inr h)
    · rw [List.mem_cons]
theorem mem_sortN {z : Nat} : ∀ {l : List Nat}, z ∈ sortN l ↔ z ∈ l
  | [] => Iff.rfl
  | x :: xs => by
    simp only [sortN]
    rw [mem_insN, mem_sortN, List.mem_cons]
theorem mem_dedN {z : Nat} : ∀ {l : List Nat}, z ∈ dedN l ↔ z ∈ l
  | [] => Iff.rfl
  | x :: xs => by
    simp only [dedN]
    rw [List.mem_cons, List.mem_filter, mem_dedN, List.mem_cons]
    constructor
    · rintro (h | h)
      · exact .inl h
      · exact .inr h.1
    · rintro (h | h)
      · exact .inl h
      · by_cases e : z = x
        · exact .inl e
        · refine .inr ⟨h, ?_⟩
          simp
          omega
theorem mem_sdN {z : Nat} {l : List Nat} : z ∈ sdN l ↔ z ∈ l := by
  unfold sdN
  rw [mem_sortN, mem_dedN]
theorem dedN_nodup : ∀ l : List Nat, (dedN l).Nodup
  | [] => List.nodup_nil
  | x :: xs => by
    simp only [dedN]
    rw [List.nodup_cons]
    refine ⟨fun h => ?_, (dedN_nodup xs).filter _⟩
    have := (List.mem_filter.mp h).2
    simp at this
def up (l : List Nat) : Prop := l.Pairwise (· < ·)
theorem insN_up {x : Nat} : ∀ {l : List Nat}, up l → x ∉ l → up (insN x l)
  | [], _, _ => by simp [insN, up]
  | y :: ys, h, hx => by
    obtain ⟨h1, h2⟩ := List.pairwise_cons.mp h
    simp only [insN]
    split
    · rename_i hlt
      refine List.pairwise_cons.mpr ⟨fun z hz => ?_, insN_up h2 fun q => hx (List.mem_cons_of_mem _ q)⟩
      rcases mem_insN.mp hz with e | hz
      · omega
      · exact h1 z hz
    · rename_i hge
      have hne : y ≠ x := fun e => hx (by rw [e]; exact List.mem_cons_self ..)
      refine List.pairwise_cons.mpr ⟨fun z hz => ?_, h⟩
      rcases List.mem_cons.mp hz with e | hz
      · omega
      · have := h1 z hz
        omega
theorem sortN_up : ∀ {l : List Nat}, l.Nodup → up (sortN l)
  | [], _ => List.Pairwise.nil
  | x :: xs, h => by
    rw [List.nodup_cons] at h
    exact insN_up (sortN_up h.2) fun q => h.1 (mem_sortN.mp q)
theorem sdN_up (l : List Nat) : up (sdN l) := sortN_up (dedN_nodup l)
theorem asc_up : ∀ {l : List Nat}, asc l = true ↔ up l
  | [] => by simp [asc, up]
  | [x] => by simp [asc, up]
  | x :: y :: r => by
    simp only [asc, Bool.and_eq_true, decide_eq_true_eq]
    rw [asc_up (l := y :: r)]
    constructor
    · rintro ⟨h1, h2⟩
      refine List.pairwise_cons.mpr ⟨fun z hz => ?_, h2⟩
      rcases List.mem_cons.mp hz with e | hz
      · omega
      · have := (List.pairwise_cons.mp h2).1 z hz
        omega
    · intro h
      obtain ⟨h1, h2⟩ := List.pairwise_cons.mp h
      exact ⟨h1 y (List.mem_cons_self ..), h2⟩
theorem up_ext : ∀ {l r : List Nat}, up l → up r → (∀ x, x ∈ l ↔ x ∈ r) → l = r
  | [], [], _, _, _ => rfl
  | [], y :: r, _, _, h => absurd ((h y).mpr (List.mem_cons_self ..)) (by simp)
  | x :: l, [], _, _, h => absurd ((h x).mp (List.mem_cons_self ..)) (by simp)
  | x :: l, y :: r, h1, h2, h => by
    obtain ⟨a1, a2⟩ := List.pairwise_cons.mp h1
    obtain ⟨b1, b2⟩ := List.pairwise_cons.mp h2
    have hxy : x = y := by
      rcases List.mem_cons.mp ((h x).mp (List.mem_cons_self ..)) with e | hx
      · exact e
      · rcases List.mem_cons.mp ((h y).mpr (List.mem_cons_self ..)) with e | hy
        · exact e.symm
        · have := a1 y hy
          have := b1 x hx
          omega
    subst hxy
    rw [up_ext a2 b2 fun z => ⟨fun hz => ?_, fun hz => ?_⟩]
    · rcases List.mem_cons.mp ((h z).mp (List.mem_cons_of_mem _ hz)) with e | q
      · have := a1 z hz
        omega
      · exact q
    · rcases List.mem_cons.mp ((h z).mpr (List.mem_cons_of_mem _ hz)) with e | q
      · have := b1 z hz
        omega
      · exact q
theorem sdN_ext {l r : List Nat} (h : ∀ x, x ∈ l ↔ x ∈ r) : sdN l = sdN r := up_ext (sdN_up l) (sdN_up r) fun x => by rw [mem_sdN, mem_sdN, h]
theorem sdN_le (l : List Nat) : (sdN l).length ≤ l.length := by
  have h1 := dedup_le (l.map I)
  rw [ded_I, List.length_map, List.length_map] at h1
  have h2 : ∀ l : List Nat, (sortN l).length = l.length := by
    intro l
    induction l with
    | nil => rfl
    | cons x l ih =>
      have : ∀ l : List Nat, (insN x l).length = l.length + 1 := by
        intro l
        induction l with
        | nil => rfl
        | cons y l ih => simp only [insN]; split <;> simp [ih]
      simp only [sortN, this, ih, List.length_cons]
  unfold sdN
  rw [h2]
  exact h1
theorem lot_sdN {n : Nat} {l : List Nat} (h0 : l ≠ []) (h1 : ∀ x ∈ l, x < n) : LotOk n (sdN l) := by
  refine ⟨fun z => ?_, fun x hx => h1 x (mem_sdN.mp hx), asc_up.mpr (sdN_up l)⟩
  cases l with
  | nil => exact h0 rfl
  | cons x l =>
    have : x ∈ sdN (x :: l) := mem_sdN.mpr (List.mem_cons_self ..)
    rw [z] at this
    cases this
theorem clean_L (l : List Nat) : clean (.lst (l.map I)) = true := by
  simp only [clean]
  exact cleans_ib (ib_I l)
theorem b_sset' (l : List Nat) (h : l.length ≤ 63) : bltE .sortedSet [.lst (l.map I)] = some (.lst ((sdN l).map I)) := by
  rw [b_sset l h, sd_I]
/-! ## waves -/
def isP (c : Nat) : Prop := c = 100 ∨ c = 108 ∨ c = 114
structure WaveOk (w : List Nat) : Prop where
  sg : ∀ c ∈ w, isP c
  ln : w.length ≤ 5000
def rowp (d l r : List Nat) (c : Nat) : List Nat := if c = 100 then d else if c = 108 then l else r
def st1 (d l r : List Nat) (s c : Nat) : Nat := (rowp d l r c).getD s 0
def stW (d l r : List Nat) (s : Nat) (w : List Nat) : Nat := w.foldl (st1 d l r) s
def statesN (g : List Nat) (x : Nat) : List Nat := (List.range g.length).filter fun i => g.getD i 0 == x
theorem enumF_I : ∀ (l : List Nat) (n : Nat), enumF n (l.map I) = (l.zipIdx n).map fun q => .tup [I q.2, I q.1]
  | [], _ => rfl
  | x :: l, n => by
    simp only [List.map_cons, enumF, List.zipIdx_cons]
    rw [enumF_I l (n + 1)]
    rfl
end NgB
end

section
set_option autoImplicit false
set_option maxRecDepth 100000
set_option maxHeartbeats 1000000
namespace NgB
open NG
theorem zipIdx_range (g : List Nat) : g.zipIdx = (List.range g.length).map fun i => (g.getD i 0, i) := by
  refine List.ext_getElem? fun i => ?_
  rw [List.getElem?_zipIdx, List.getElem?_map]
  by_cases h : i < g.length
  · simp [h]
  · rw [List.getElem?_eq_none (by omega), List.getElem?_eq_none (by simp; omega)]
    rfl
theorem rng_I (n : Nat) : rngL 0 n = (List.range n).map I := by
  have f : ∀ (n lo : Nat), rngL (lo : Int) n = (List.range' lo n).map I := by
    intro n
    induction n with
    | zero => intro lo; rfl
    | succ n ih =>
      intro lo
      rw [rngL, List.range'_succ, List.map_cons, ← ih (lo + 1)]
      rfl
  rw [List.range_eq_range']
  exact f n 0
def eqP (x : Nat) : D → Bool
  | .tup [_, .int v] => v == (x : Int)
  | _ => false
def fstD : D → D
  | .tup [a, _] => a
  | d => d
/-! ## waves -/
def pls : D := .tup [.str [100], .str [108], .str [114]]
def isPb (c : Nat) : Bool := c == 100 || c == 108 || c == 114
theorem isin_ok {c : Nat} (h : c < 1114112) : cmpE .isin (.str [c]) pls = some (isPb c) := by
  show (if isPy (.str [c]) && arePy [D.str [100], .str [108], .str [114]] && decide (ddepth (.str [c]) ≤ 60) && decide (ddepths [D.str [100], .str [108], .str [114]] ≤ 60) then some (dmem (.str [c]) [D.str [100], .str [108], .str [114]]) else none) = _
  rw [if_pos (by simp [isPy, arePy, ddepth, ddepths, h])]
  simp [dmem, deq, isPb]
  rw [Bool.eq_iff_iff]
  simp
  omega
def sgB : D → Bool
  | .str [c] => isPb c
  | _ => false
theorem is_wave_str (k : Nat) (S : Store) (w : List Nat) (h1 : w.length ≤ LIM) (h2 : ∀ c ∈ w, c < 1114112) : Ph (k + 1) I_is_wave [.str w] S = .ok (.bl (decide (w.length ≤ 5000) && w.all isPb)) S := by
  rw [ph k I_is_wave _ _ n_is_wave rfl]
  simp [runFn, n_is_wave, b_is_wave, evSs, evS, evE, evEs, wipe, b_len_str w h1]
  by_cases h3 : w.length ≤ 5000
  · have h3' : ((w.length : Int) ≤ 5000) := by omega
    simp [h3', h3, it_str w h1]
    rw [compL_map (fun d => .bl (sgB d)) fun q hq => ?_]
    · rw [List.map_map]
      have e : ((fun d => D.bl (sgB d)) ∘ fun c => D.str [c]) = fun c => D.bl (isPb c) := rfl
      rw [e]
      simp
    · obtain ⟨c, hc, rfl⟩ := List.mem_map.mp hq
      refine ⟨[.str w, .str [c]], by simp [asg], rfl, ?_⟩
      have := isin_ok (h2 c hc)
      unfold pls at this
      simp [this, sgB]
  · have h3' : ¬ ((w.length : Int) ≤ 5000) := by omega
    simp [h3', h3]
theorem is_wave_no (k : Nat) (S : Store) (d : D) (h : clean d = true) (hd : ∀ t l, d ≠ .dic t l) (hr : ∀ s, d ≠ .str s) : Ph (k + 1) I_is_wave [d] S = .ok (.bl false) S := by
  rw [ph k I_is_wave _ _ n_is_wave rfl]
  cases d <;> first | (simp [clean] at h; done) | (exact absurd rfl (hr _)) | (exact absurd rfl (hd _ _)) | (simp [runFn, n_is_wave, b_is_wave, evSs, evS, evE, evEs]; done) | rfl
theorem lim_big : (5000 : Nat) ≤ LIM := by unfold LIM; omega
theorem wave_all {w : List Nat} (h : WaveOk w) : w.all isPb = true := List.all_eq_true.mpr fun c hc => by
  rcases h.sg c hc with rfl | rfl | rfl <;> rfl
theorem wave_cp {w : List Nat} (h : WaveOk w) : ∀ c ∈ w, c < 1114112 := fun c hc => by
  rcases h.sg c hc with rfl | rfl | rfl <;> omega
theorem row_lt {n : Nat} {g d l r : List Nat} (h : InkOk n g d l r) (c : Nat) : (rowp d l r c).length = n ∧ ∀ x ∈ rowp d l r c, x < n := by
  unfold rowp
  split
  · exact ⟨h.hd, h.db⟩
  · split
    · exact ⟨h.hl, h.lb⟩
    · exact ⟨h.hr, h.rb⟩
theorem getD_mem {l : List Nat} {i : Nat} (h : i < l.length) : l.getD i 0 ∈ l := by
  rw [List.getD_eq_getElem?_getD, List.getElem?_eq_getElem h]
  exact List.getElem_mem h
theorem st1_lt {n : Nat} {g d l r : List Nat} (h : InkOk n g d l r) {s c : Nat} (hs : s < n) : st1 d l r s c < n := by
  obtain ⟨h1, h2⟩ := row_lt h c
  exact h2 _ (getD_mem (by rw [h1]; exact hs))
theorem stW_lt {n : Nat} {g d l r : List Nat} (h : InkOk n g d l r) : ∀ {w : List Nat} {s : Nat}, s < n → stW d l r s w < n
  | [], _, hs => hs
  | c :: w, _, hs => stW_lt h (w := w) (st1_lt h hs)
theorem stW_app (d l r : List Nat) (s : Nat) (w v : List Nat) : stW d l r s (w ++ v) = stW d l r (stW d l r s w) v := by
  unfold stW
  rw [List.foldl_append]
theorem stW_snoc (d l r : List Nat) (s : Nat) (w : List Nat) (c : Nat) : stW d l r s (w ++ [c]) = st1 d l r (stW d l r s w) c := by
  rw [stW_app]
  rfl
end NgB
end

section
set_option autoImplicit false
set_option maxRecDepth 100000
set_option maxHeartbeats 1000000
/-! ## rules, one for each form: what it comes to, from what its parts come to -/
namespace NG
def isU : D → Bool
  | .undef => true
  | _ => false
def ixE (x y : D) : Option D :=
  match x with
  | .tup l => match y with
    | .int i => atIx l i
    | _ => none
  | .lst l => match y with
    | .int i => atIx l i
    | _ => none
  | .scr l => match y with
    | .int i => atIx l i
    | _ => none
  | .dic t l => if isKey t y = true then dget y l else none
  | _ => none
def slE (x : D) (l h : Option Int) : Option D :=
  match x with
  | .tup xs => some (.tup (cutL xs l h))
  | .lst xs => some (.lst (cutL xs l h))
  | .scr xs => some (.lst (cutL xs l h))
  | .str xs => if xs.length ≤ LIM then some (.str (cutL xs l h)) else none
  | _ => none
section
variable {Φ : Phi} {ρ : Env} {S S1 S2 S3 : Store} {d x y z : D} {i : Nat} {a b c e o : CE} {es src : List CE} {ds as : List D}
theorem E.var (h : ρ[i]? = some d) (hu : isU d = false) : evE Φ (.var i) ρ S = .ok d S := by
  unfold evE
  rw [h]
  cases d <;> first | rfl | cases hu
theorem E.cst : evE Φ (.cst d) ρ S = .ok d S := by unfold evE; rfl
theorem E.glob : evE Φ (.glob d) ρ S = .ok d S := by unfold evE; rfl
theorem E.tup (h : evEs Φ es ρ S = .ok ds S1) : evE Φ (.tup es) ρ S = .ok (.tup ds) S1 := by
  unfold evE; rw [h]; rfl
theorem E.lst (h : evEs Φ es ρ S = .ok ds S1) : evE Φ (.lst es) ρ S = .ok (.lst ds) S1 := by
  unfold evE; rw [h]; rfl
theorem E.bop {w : BOp} (h1 : evE Φ a ρ S = .ok x S1) (h2 : evE Φ b ρ S1 = .ok y S2) (h3 : bopE w (vw S2 x) (vw S2 y) = some z) : evE Φ (.bop w a b) ρ S = .ok z S2 := by
  unfold evE
  simp only [h1, h2, h3, bind_ok', lift_some]
theorem E.neg {j : Int} (h1 : evE Φ a ρ S = .ok (.int j) S1) : evE Φ (.neg a) ρ S = .ok (.int (-j)) S1 := by
  unfold evE
  simp only [h1, bind_ok']
theorem E.not {t : Bool} (h1 : evE Φ a ρ S = .ok x S1) (h2 : truthy (vw S1 x) = some t) : evE Φ (.not a) ρ S = .ok (.bl (!t)) S1 := by
  unfold evE
  simp only [h1, h2, bind_ok']
theorem E.cmp {w : COp} {t : Bool} (h1 : evE Φ a ρ S = .ok x S1) (h2 : evE Φ b ρ S1 = .ok y S2) (h3 : cmpE w (vw S2 x) (vw S2 y) = some t) : evE Φ (.cmp w a b) ρ S = .ok (.bl t) S2 := by
  unfold evE
  simp only [h1, h2, h3, bind_ok', lift_some, Option.map_some]
theorem E.and {t : Bool} {r : R D} (h1 : evE Φ a ρ S = .ok x S1) (h2 : truthy (vw S1 x) = some t) (h3 : cond t (evE Φ b ρ S1) (.ok x S1) = r) : evE Φ (.and a b) ρ S = r := by
  unfold evE
  simp only [h1, h2, bind_ok']
  cases t <;> exact h3
theorem E.or {t : Bool} {r : R D} (h1 : evE Φ a ρ S = .ok x S1) (h2 : truthy (vw S1 x) = some t) (h3 : cond t (.ok x S1) (evE Φ b ρ S1) = r) : evE Φ (.or a b) ρ S = r := by
  unfold evE
  simp only [h1, h2, bind_ok']
  cases t <;> exact h3
theorem E.ite {t : Bool} {r : R D} (h1 : evE Φ c ρ S = .ok x S1) (h2 : truthy (vw S1 x) = some t) (h3 : cond t (evE Φ a ρ S1) (evE Φ b ρ S1) = r) : evE Φ (.ite c a b) ρ S = r := by
  unfold evE
  simp only [h1, h2, bind_ok']
  cases t <;> exact h3
theorem condT {α : Type} {u v r : α} (h : u = r) : cond true u v = r := h
theorem condF {α : Type} {u v r : α} (h : v = r) : cond false u v = r := h
theorem E.ix (h1 : evE Φ a ρ S = .ok x S1) (h2 : evE Φ b ρ S1 = .ok y S2) (h3 : ixE (vw S2 x) y = some z) : evE Φ (.ix a b) ρ S = .ok z S2 := by
  unfold evE
  simp only [h1, h2, bind_ok']
  unfold ixE at h3
  split at h3 <;> first | cases h3 | skip
  all_goals
    rename_i he
    split at h3 <;> first | cases h3 | skip
    rename_i he'
    first
    | (simp only [he, h3, lift_some]; done)
    | (simp only [he, h3, lift_some]; rw [if_pos he'])
theorem E.sl {lo hi : List CE} {ls hs : List D} {l h : Option Int} (h1 : evE Φ a ρ S = .ok x S1) (h2 : evEs Φ lo ρ S1 = .ok ls S2) (h3 : evEs Φ hi ρ S2 = .ok hs S3) (h4 : partE ls = some l) (h5 : partE hs = some h) (h6 : slE (vw S3 x) l h = some z) :
    evE Φ (.sl a lo hi) ρ S = .ok z S3 := by
  unfold evE
  simp only [h1, h2, h3, h4, h5, bind_ok']
  unfold slE at h6
  split at h6 <;> first | (rename_i he; rw [he]; cases h6; rfl) | (cases h6; rfl) | skip
  · rename_i he
    (try rw [he])
    split at h6
    · rename_i hl
      cases h6
      simp only [hl, if_true]
    · cases h6
  · cases h6
theorem E.call {f md : Nat} {r : R D} (h1 : evEs Φ es ρ S = .ok ds S1) (h2 : callE Φ f md ds S1 = r) : evE Φ (.call f md es) ρ S = r := by
  unfold evE
  simp only [h1, bind_ok']
  exact h2
theorem E.callk {f md : Nat} {perm : List Nat} {r : R D} (h1 : evEs Φ es ρ S = .ok ds S1) (h2 : callE Φ f md (pick perm ds) S1 = r) : evE Φ (.callk f md es perm) ρ S = r := by
  unfold evE
  simp only [h1, bind_ok']
  exact h2
theorem E.blt {w : Blt} (h1 : evEs Φ es ρ S = .ok ds S1) (h2 : bltE w (vws S1 ds) = some z) : evE Φ (.blt w es) ρ S = .ok z S1 := by
  unfold evE
  simp only [h1, h2, bind_ok', lift_some]
theorem E.mth {m : Mth} (h1 : evE Φ o ρ S = .ok x S1) (h2 : rcvOk m S1 x = true) (h3 : evEs Φ es ρ S1 = .ok ds S2) (h4 : mthE m (vw S2 x) (mthA m S2 ds) = some z) : evE Φ (.mth m o es) ρ S = .ok z S2 := by
  unfold evE
  simp only [h1, h2, h3, h4, bind_ok', if_true, lift_some]
theorem E.comp {t : Tg} {own : List Nat} {k : ItK} {cs : List CE} {its ys : List D} (h1 : evEs Φ src ρ S = .ok ds S1) (h2 : iterE k ds = some its) (h3 : compL t (evC Φ cs) (evE Φ e) (wipe ρ own) its S1 = .ok ys S2) : evE Φ (.comp e t own k src cs) ρ S = .ok (.lst ys) S2 := by
  unfold evE
  simp only [h1, h2, h3, bind_ok']
theorem E.mut {k n : Nat} {cl cl' : Cell} (h0 : ρ[i]? = some (.ref n)) (hl : liveL S n = true) (h1 : evEs Φ es ρ S = .ok ds S1) (h2 : S1[n]? = some cl) (h3 : mutE k cl (mutA k S1 ds) = some (x, cl')) : evE Φ (.mut k i es) ρ S = .ok x (S1.set n cl') := by
  unfold evE
  simp only [h0, hl, h1, h2, h3, bind_ok', if_true]
theorem E.alloc {l : List D} (h1 : evE Φ a ρ S = .ok (.lst l) S1) : evE Φ (.alloc a) ρ S = .ok (.ref S1.length) (S1 ++ [.lst l]) := by
  unfold evE
  simp only [h1, bind_ok']
theorem E.allocD {t : Bool} {l : List (D × D)} (h1 : evE Φ a ρ S = .ok (.dic t l) S1) : evE Φ (.alloc a) ρ S = .ok (.ref S1.length) (S1 ++ [.dic t l]) := by
  unfold evE
  simp only [h1, bind_ok']
theorem E.dic {t : Bool} {l : List (D × D)} (h1 : evEs Φ es ρ S = .ok ds S1) (h2 : mkDic t ds = some l) : evE Φ (.dic t es) ρ S = .ok (.dic t l) S1 := by
  unfold evE
  simp only [h1, bind_ok', h2, Option.map_some, lift_some]
theorem Es.nil : evEs Φ [] ρ S = .ok [] S := by unfold evEs; rfl
theorem Es.cons {xs : List D} (h1 : evE Φ e ρ S = .ok x S1) (h2 : evEs Φ es ρ S1 = .ok xs S2) : evEs Φ (e :: es) ρ S = .ok (x :: xs) S2 := by
  unfold evEs
  simp only [h1, h2, bind_ok']
theorem C.nil : evC Φ [] ρ S = .ok true S := by unfold evC; rfl
theorem C.one {t : Bool} (h1 : evE Φ e ρ S = .ok x S1) (h2 : truthy (vw S1 x) = some t) : evC Φ (e :: es) ρ S = .ok t S1 := by
  unfold evC
  simp only [h1, h2, bind_ok', lift_some]
end
section
variable {W : Nat} {Φ : Phi} {ρ ρ1 : Env} {S S1 S2 S3 : Store} {d x y z : D} {i : Nat} {a b c e o : CE} {es src : List CE} {ds : List D} {t : Tg} {A B ss : List CS} {r : R Fl}
theorem T.set (h1 : evE Φ e ρ S = .ok x S1) (h2 : asg t x ρ = some ρ1) : evS W Φ (.set t e) ρ S = .ok (.nx ρ1) S1 := by
  unfold evS
  simp only [h1, h2, bind_ok']
theorem T.setIx {n : Nat} {cl cl' : Cell} (h1 : evE Φ e ρ S = .ok x S1) (h2 : evE Φ o ρ S1 = .ok (.ref n) S2) (h3 : evE Φ c ρ S2 = .ok z S3) (h4 : S3[n]? = some cl) (h5 : setIxE cl z x = some cl') : evS W Φ (.setIx o c e) ρ S = .ok (.nx ρ) (S3.set n cl') := by
  unfold evS
  simp only [h1, h2, h3, h4, h5, bind_ok']
theorem T.expr (h1 : evE Φ e ρ S = .ok x S1) : evS W Φ (.expr e) ρ S = .ok (.nx ρ) S1 := by
  unfold evS
  simp only [h1, bind_ok']
theorem T.ite {u : Bool} (h1 : evE Φ c ρ S = .ok x S1) (h2 : truthy (vw S1 x) = some u) (h3 : cond u (evSs W Φ A ρ S1) (evSs W Φ B ρ S1) = r) : evS W Φ (.ite c A B) ρ S = r := by
  unfold evS
  simp only [h1, h2, bind_ok']
  cases u <;> exact h3
theorem T.for {k : ItK} {its : List D} (h1 : evEs Φ src ρ S = .ok ds S1) (h2 : iterE k ds = some its) (h3 : forL t (evSs W Φ A) its ρ S1 = r) : evS W Φ (.for t k src A) ρ S = r := by
  unfold evS
  simp only [h1, h2, bind_ok']
  exact h3
theorem T.while (h : whileL (fun ρ S => (evE Φ c ρ S).bind fun x S1 => lift (truthy (vw S1 x)) S1) (evSs W Φ A) W ρ S = r) : evS W Φ (.while c A) ρ S = r := by
  unfold evS
  exact h
theorem T.ret (h1 : evE Φ e ρ S = .ok x S1) : evS W Φ (.ret e) ρ S = .ok (.rt x) S1 := by
  unfold evS
  simp only [h1, bind_ok']
theorem T.ghost {n : Nat} {l : List D} (h1 : ρ[i]? = some (.ref n)) (h2 : S[n]? = some (.lst l)) : evS W Φ (.ghost i) ρ S = .ok (.nx (ρ.set i (.lst l))) (S.set n .dead) := by
  unfold evS
  simp only [h1, h2]
theorem T.ghostD {n : Nat} {t : Bool} {l : List (D × D)} (h1 : ρ[i]? = some (.ref n)) (h2 : S[n]? = some (.dic t l)) : evS W Φ (.ghost i) ρ S = .ok (.nx (ρ.set i (.dic t l))) (S.set n .dead) := by
  unfold evS
  simp only [h1, h2]
theorem Ts.nil : evSs W Φ [] ρ S = .ok (.nx ρ) S := by unfold evSs; rfl
theorem Ts.nx {s : CS} (h1 : evS W Φ s ρ S = .ok (.nx ρ1) S1) (h2 : evSs W Φ ss ρ1 S1 = r) : evSs W Φ (s :: ss) ρ S = r := by
  unfold evSs
  simp only [h1, bind_ok']
  exact h2
theorem Ts.rt {s : CS} (h1 : evS W Φ s ρ S = .ok (.rt x) S1) : evSs W Φ (s :: ss) ρ S = .ok (.rt x) S1 := by
  unfold evSs
  simp only [h1, bind_ok']
theorem runR {fn : Fn} (h0 : ds.length = fn.np) (h : evSs W Φ fn.body (ds ++ List.replicate (fn.ns - fn.np) .undef) S = .ok (.rt x) S1) : runFn W Φ fn ds S = .ok x S1 := by
  unfold runFn
  rw [if_pos h0, h]
  rfl
theorem runN {fn : Fn} (h0 : ds.length = fn.np) (h : evSs W Φ fn.body (ds ++ List.replicate (fn.ns - fn.np) .undef) S = .ok (.nx ρ) S1) : runFn W Φ fn ds S = .ok .non S1 := by
  unfold runFn
  rw [if_pos h0, h]
  rfl
end
section
variable {W : Nat} {Φ : Phi} {ρ : Env} {S S1 : Store} {x : D} {e : CE} {ss : List CS} {r : R Fl}
theorem Ts.nil' (h : .ok (.nx ρ) S = r) : evSs W Φ [] ρ S = r := by unfold evSs; exact h
theorem Ts.ret' (h1 : evE Φ e ρ S = .ok x S1) (h2 : .ok (.rt x) S1 = r) : evSs W Φ (.ret e :: ss) ρ S = r := by
  unfold evSs evS
  simp only [h1, bind_ok']
  exact h2
end
end NG
end

section
set_option autoImplicit false
set_option maxRecDepth 100000
set_option maxHeartbeats 1000000
/-! ## rules again, with the views of references apart: facts are matched as they stand -/
namespace NG
def isRef : D → Bool
  | .ref _ => true
  | _ => false
def noRef : List D → Bool
  | [] => true
  | d :: ds => !isRef d && noRef ds
theorem vw_id {S : Store} {x : D} (h : isRef x = false) : vw S x = x := by
  cases x <;> first | rfl | cases h
theorem vq_lst {S : Store} {n : Nat} {l : List D} (h : S[n]? = some (.lst l)) : vw S (.ref n) = .lst l := by
  simp only [vw, h]
theorem vq_dic {S : Store} {n : Nat} {t : Bool} {l : List (D × D)} (h : S[n]? = some (.dic t l)) : vw S (.ref n) = .dic t l := by
  simp only [vw, h]
theorem vws_nil {S : Store} : vws S [] = [] := rfl
theorem vws_cons {S : Store} {x x' : D} {ds ds' : List D} (h : vw S x = x') (h' : vws S ds = ds') : vws S (x :: ds) = x' :: ds' := by
  unfold vws at *
  rw [List.map_cons, h, h']
theorem mthA_x {S : Store} {ds ds' : List D} (h : vws S ds = ds') : mthA .index S ds = ds' := h
theorem mthA_gx {S : Store} {ds ds' : List D} (h : vws S ds = ds') : mthA .gindex S ds = ds' := h
theorem mthA_jx {S : Store} {ds ds' : List D} (h : vws S ds = ds') : mthA .join S ds = ds' := h
theorem mthA_tx {S : Store} {ds : List D} : mthA .get S ds = ds := rfl
theorem mutA_0 {S : Store} {ds : List D} : mutA 0 S ds = ds := rfl
theorem mutA_1 {S : Store} {ds ds' : List D} (h : vws S ds = ds') : mutA 1 S ds = ds' := h
theorem mutA_2 {S : Store} {ds : List D} : mutA 2 S ds = ds := rfl
theorem mutA_3 {S : Store} {ds : List D} : mutA 3 S ds = ds := rfl
section
variable {Φ : Phi} {ρ : Env} {S S1 S2 S3 : Store} {d x y z x' y' : D} {i : Nat} {a b c e o : CE} {es src : List CE} {ds ds' as : List D}
theorem F.bop {w : BOp} (h1 : evE Φ a ρ S = .ok x S1) (h2 : evE Φ b ρ S1 = .ok y S2) (v1 : vw S2 x = x') (v2 : vw S2 y = y') (h3 : bopE w x' y' = some z) : evE Φ (.bop w a b) ρ S = .ok z S2 := by
  subst v1 v2; exact E.bop h1 h2 h3
theorem F.cmp {w : COp} {t : Bool} (h1 : evE Φ a ρ S = .ok x S1) (h2 : evE Φ b ρ S1 = .ok y S2) (v1 : vw S2 x = x') (v2 : vw S2 y = y') (h3 : cmpE w x' y' = some t) : evE Φ (.cmp w a b) ρ S = .ok (.bl t) S2 := by
  subst v1 v2; exact E.cmp h1 h2 h3
theorem F.ix (h1 : evE Φ a ρ S = .ok x S1) (h2 : evE Φ b ρ S1 = .ok y S2) (v1 : vw S2 x = x') (h3 : ixE x' y = some z) : evE Φ (.ix a b) ρ S = .ok z S2 := by
  subst v1; exact E.ix h1 h2 h3
theorem F.sl {lo hi : List CE} {ls hs : List D} {l h : Option Int} (h1 : evE Φ a ρ S = .ok x S1) (h2 : evEs Φ lo ρ S1 = .ok ls S2) (h3 : evEs Φ hi ρ S2 = .ok hs S3) (h4 : partE ls = some l) (h5 : partE hs = some h) (v1 : vw S3 x = x') (h6 : slE x' l h = some z) :
    evE Φ (.sl a lo hi) ρ S = .ok z S3 := by
  subst v1; exact E.sl h1 h2 h3 h4 h5 h6
theorem F.blt {w : Blt} (h1 : evEs Φ es ρ S = .ok ds S1) (v1 : vws S1 ds = ds') (h2 : bltE w ds' = some z) : evE Φ (.blt w es) ρ S = .ok z S1 := by
  subst v1; exact E.blt h1 h2
theorem F.mth {m : Mth} (h1 : evE Φ o ρ S = .ok x S1) (h2 : rcvOk m S1 x = true) (h3 : evEs Φ es ρ S1 = .ok ds S2) (v1 : vw S2 x = x') (v2 : mthA m S2 ds = ds') (h4 : mthE m x' ds' = some z) : evE Φ (.mth m o es) ρ S = .ok z S2 := by
  subst v1 v2; exact E.mth h1 h2 h3 h4
theorem F.mut {k n : Nat} {cl cl' : Cell} (h0 : ρ[i]? = some (.ref n)) (hl : liveL S n = true) (h1 : evEs Φ es ρ S = .ok ds S1) (h2 : S1[n]? = some cl) (v1 : mutA k S1 ds = ds') (h3 : mutE k cl ds' = some (x, cl')) : evE Φ (.mut k i es) ρ S = .ok x (S1.set n cl') := by
  subst v1; exact E.mut h0 hl h1 h2 h3
theorem F.mutS {k n : Nat} {cl cl' : Cell} (h0 : ρ[i]? = some (.ref n)) (hl : liveL S n = true) (h1 : evEs Φ es ρ S = .ok ds S1) (h2 : S1[n]? = some cl) (v1 : mutA k S1 ds = ds') (h3 : mutE k cl ds' = some (x, cl')) (e : S1.set n cl' = S2) : evE Φ (.mut k i es) ρ S = .ok x S2 := by
  subst e; exact F.mut h0 hl h1 h2 v1 h3
theorem F.ghost {W n : Nat} {l : List D} {ρ1 : Env} (h1 : ρ[i]? = some (.ref n)) (h2 : S[n]? = some (.lst l)) (e : ρ.set i (.lst l) = ρ1) (e' : S.set n .dead = S1) : evS W Φ (.ghost i) ρ S = .ok (.nx ρ1) S1 := by
  subst e e'; exact T.ghost h1 h2
theorem F.ghostD {W n : Nat} {t : Bool} {l : List (D × D)} {ρ1 : Env} (h1 : ρ[i]? = some (.ref n)) (h2 : S[n]? = some (.dic t l)) (e : ρ.set i (.dic t l) = ρ1) (e' : S.set n .dead = S1) : evS W Φ (.ghost i) ρ S = .ok (.nx ρ1) S1 := by
  subst e e'; exact T.ghostD h1 h2
theorem F.setIx {W n : Nat} {cl cl' : Cell} {S4 : Store} (h1 : evE Φ e ρ S = .ok x S1) (h2 : evE Φ o ρ S1 = .ok (.ref n) S2) (h3 : evE Φ c ρ S2 = .ok z S3) (h4 : S3[n]? = some cl) (h5 : setIxE cl z x = some cl') (q : S3.set n cl' = S4) : evS W Φ (.setIx o c e) ρ S = .ok (.nx ρ) S4 := by
  subst q; exact T.setIx h1 h2 h3 h4 h5
theorem condT' {α : Type} {t : Bool} {u v r : α} (e : t = true) (h : u = r) : cond t u v = r := by subst e; exact h
theorem condF' {α : Type} {t : Bool} {u v r : α} (e : t = false) (h : v = r) : cond t u v = r := by subst e; exact h
theorem live_of {n : Nat} {l : List D} (h : S[n]? = some (.lst l)) : liveL S n = true := by unfold liveL; rw [h]
theorem callE_fact {f md : Nat} {S' : Store} {r : R D} (h : callE Φ f md ds' S' = r) (e : ds = ds') (e' : S = S') : callE Φ f md ds S = r := by subst e e'; exact h
theorem compL_fact {t : Tg} {cond : Env → Store → R Bool} {elt : Env → Store → R D} {ρ' : Env} {its : List D} {S' : Store} {r : R (List D)} (h : compL t cond elt ρ' its S' = r) (e : ρ = ρ') (e' : S = S') : compL t cond elt ρ its S = r := by subst e e'; exact h
theorem forL_fact {t : Tg} {body : Env → Store → R Fl} {ρ' : Env} {its : List D} {S' : Store} {r : R Fl} (h : forL t body its ρ' S' = r) (e : ρ = ρ') (e' : S = S') : forL t body its ρ S = r := by subst e e'; exact h
theorem whileL_fact {c : Env → Store → R Bool} {body : Env → Store → R Fl} {n : Nat} {ρ' : Env} {S' : Store} {r : R Fl} (h : whileL c body n ρ' S' = r) (e : ρ = ρ') (e' : S = S') : whileL c body n ρ S = r := by subst e e'; exact h
end
end NG
end

section
set_option autoImplicit false
set_option maxRecDepth 100000
set_option maxHeartbeats 1000000
namespace NgB
open NG
/-! ### the pot of numbers -/
def PotAt (n b : Nat) (S : Store) : Prop := ∃ a v c : Nat, S[n]? = some (.lst [I a, I v, I c]) ∧ v < 2305843009213693951 ∧ c ≤ b
structure Keep (n : Nat) (S S' : Store) : Prop where
  len : S'.length = S.length
  oth : ∀ m, m ≠ n → S'[m]? = S[m]?
theorem Keep.refl (n : Nat) (S : Store) : Keep n S S := ⟨rfl, fun _ _ => rfl⟩
theorem Keep.trans {n : Nat} {S S1 S2 : Store} (h : Keep n S S1) (h' : Keep n S1 S2) : Keep n S S2 := ⟨h'.len.trans h.len, fun m hm => (h'.oth m hm).trans (h.oth m hm)⟩
theorem Keep.set (n : Nat) (S : Store) (c : Cell) : Keep n S (S.set n c) := ⟨List.length_set .., fun m hm => List.getElem?_set_ne (Ne.symm hm)⟩
theorem PotAt.mono {n b b' : Nat} {S : Store} (h : PotAt n b S) (hb : b ≤ b') : PotAt n b' S := by
  obtain ⟨a, v, c, h1, h2, h3⟩ := h
  exact ⟨a, v, c, h1, h2, by omega⟩
theorem mod_I (x y : Nat) (h : 0 < y) : bopE .mod (I x) (I y) = some (I (x % y)) := by
  show bopE .mod (.int x) (.int y) = _
  rw [o_mod _ _ (by omega), Int.fmod_eq_emod_of_nonneg _ (by omega)]
  rfl
theorem fdiv_I (x y : Nat) (h : 0 < y) (h2 : y < 1073741824) : bopE .fdiv (I x) (I y) = some (I (x / y)) := by
  show bopE .fdiv (.int x) (.int y) = _
  rw [o_fdiv _ _ (by simp [divOk]; omega), Int.fdiv_eq_ediv_of_nonneg _ (by omega)]
  rfl
theorem add_I (x y : Nat) : bopE .add (I x) (I y) = some (I (x + y)) := rfl
theorem mul_I (x y : Nat) (h : x < P64.toNat) : bopE .mul (I x) (I y) = some (I (x * y)) := by
  show bopE .mul (.int x) (.int y) = _
  rw [o_mul _ _ (by simp [mulOk]; unfold P64 at *; simp at h ⊢; omega)]
  rfl
theorem pow_I (x y : Nat) (h : x < 2 ^ 256) (h2 : y ≤ 1000) : bopE .pow (I x) (I y) = some (I (x ^ y)) := by
  show bopE .pow (.int x) (.int y) = _
  rw [o_pow _ _ ⟨by omega, by omega, by simpa using h⟩]
  simp [I]
theorem gt0_I (x : Nat) : cmpE .gt (I x) (.int 0) = some (decide (0 < x)) := by
  show some (decide ((0 : Int) < x)) = _
  congr 1
  simp
theorem vw_ref {S : Store} {n : Nat} {l : List D} (h : S[n]? = some (.lst l)) : vw S (.ref n) = .lst l := by
  simp [vw, h]
theorem set_vw {S : Store} {n : Nat} {l l' : List D} (h : S[n]? = some (.lst l)) : (S.set n (.lst l'))[n]? = some (.lst l') := by
  have := (List.getElem?_eq_some_iff.mp h).1
  simp [this]
end NgB
end

section
set_option autoImplicit false
set_option maxRecDepth 100000
set_option maxHeartbeats 1000000
namespace NgB
open NG
local macro_rules | `(tactic| nomatch $ts,*) => `(tactic| repeat' (first
    | (first
      | ((with_reducible apply E.var); exact rfl; exact rfl)
      | ((with_reducible show asg _ _ _ = _); exact rfl)
      | ((with_reducible show truthy _ = _); exact rfl))
    | (with_reducible first
      | apply E.var | apply E.cst | apply E.glob | apply Es.nil | apply C.nil | apply Ts.nil'
      | apply E.tup | apply E.lst | apply E.bop | apply E.neg | apply E.not | apply E.cmp | apply E.and | apply E.or | apply E.ite | apply E.ix | apply E.sl
      | apply E.call | apply E.callk | apply E.blt | apply E.mth | apply E.comp | apply E.mut | apply E.alloc
      | apply Es.cons | apply C.one | apply Ts.ret' | apply Ts.nx
      | apply T.set | apply T.setIx | apply T.expr | apply T.ite | apply T.for | apply T.while | apply T.ret | apply T.ghost
      | apply condT | apply condF)
    $[| with_reducible exact $ts]*
    $[| exact $ts]*
    | exact (rfl : (_ : Option _) = _) | exact (rfl : (_ : Bool) = _) | exact (rfl : R.ok _ _ = R.ok _ _)))
local macro_rules | `(tactic| rwa [$[$ts:term],*]) => `(tactic| first
    | ((with_reducible show callE _ _ _ _ _ = _); (first $[| ((with_reducible refine callE_fact $ts ?_ ?_) <;> exact rfl)]*))
    | ((with_reducible show compL _ _ _ _ _ _ = _); (first $[| ((with_reducible refine compL_fact $ts ?_ ?_) <;> exact rfl)]*))
    | ((with_reducible show forL _ _ _ _ _ = _); (first $[| ((with_reducible refine forL_fact $ts ?_ ?_) <;> exact rfl)]*))
    | ((with_reducible show whileL _ _ _ _ _ = _); (first $[| ((with_reducible refine whileL_fact $ts ?_ ?_) <;> exact rfl)]*)))
local macro_rules | `(tactic| exists $ts,*) => `(tactic| repeat' (first
    | (first
      | ((with_reducible apply E.var); exact rfl; exact rfl)
      | ((with_reducible show asg _ _ _ = _); exact rfl)
      | ((with_reducible show truthy _ = _); exact rfl)
      | ((with_reducible show R.ok _ _ = R.ok _ _); exact rfl)
      | ((with_reducible apply vw_id); exact rfl)
      | ((with_reducible apply condT'); exact rfl)
      | ((with_reducible apply condF'); exact rfl))
    | (with_reducible first
      | apply E.cst | apply E.glob | apply Es.nil | apply C.nil | apply Ts.nil'
      | apply E.tup | apply E.lst | apply E.dic | apply F.bop | apply E.neg | apply E.not | apply F.cmp | apply E.and | apply E.or | apply E.ite | apply F.ix | apply F.sl
      | apply E.call | apply E.callk | apply F.blt | apply F.mth | apply E.comp | apply F.mutS | apply E.alloc
      | apply Es.cons | apply C.one | apply Ts.ret' | apply Ts.nx
      | apply T.set | apply F.setIx | apply T.expr | apply T.ite | apply T.for | apply T.while | apply T.ret | apply F.ghost
      | apply vws_nil | apply vws_cons | apply mutA_0 | apply mutA_1 | apply mutA_2 | apply mutA_3 | apply mthA_x | apply mthA_gx | apply mthA_jx | apply mthA_tx)
    | rwa [$[$ts:term],*]
    $[| with_reducible exact $ts]*
    | exact (rfl : (_ : Option _) = _) | exact (rfl : (_ : Bool) = _) | exact (rfl : (_ : List _) = _)))
theorem prime_I (j : Nat) (h : j < 5) : ∃ q, 0 < q ∧ q < 2147483648 ∧ ixE (.lst [.int 2147481949, .int 2147481937, .int 2147481907, .int 2147481901, .int 2147481899]) (I j) = some (I q) := by
  rcases j with _ | _ | _ | _ | _ | j
  · exact ⟨2147481949, by omega, by omega, rfl⟩
  · exact ⟨2147481937, by omega, by omega, rfl⟩
  · exact ⟨2147481907, by omega, by omega, rfl⟩
  · exact ⟨2147481901, by omega, by omega, rfl⟩
  · exact ⟨2147481899, by omega, by omega, rfl⟩
  · omega
theorem add_1 (c : Nat) : bopE .add (I c) (.int 1) = some (I (c + 1)) := rfl
theorem take_ok (k : Nat) {n b : Nat} {S : Store} (h : PotAt n b S) (hb : b ≤ 1000000) {u : Nat} (h1 : 1 ≤ u) (h2 : u ≤ 1000) :
    ∃ x S', Ph (k + 1) I__law_take [.ref n, I u] S = .ok (I x) S' ∧ x < u ∧ PotAt n (b + 1) S' ∧ Keep n S S' := by
  obtain ⟨a, v, c, hS, hv, hc⟩ := h
  have vS := vw_ref hS
  have x0 : ixE (vw S (.ref n)) (.int 0) = some (I a) := by rw [vS]; rfl
  have x2 : ixE (vw S (.ref n)) (.int 2) = some (I c) := by rw [vS]; rfl
  rw [ph k I__law_take _ _ n__law_take rfl]
  by_cases ha : 0 < a
  · have g1 : cmpE .gt (I a) (.int 0) = some true := by rw [gt0_I]; simp [ha]
    have m1 := mod_I a u (by omega)
    have f1 := fdiv_I a u (by omega) (by omega)
    have t1 : setIxE (.lst [I a, I v, I c]) (.int 0) (I (a / u)) = some (.lst [I (a / u), I v, I c]) := rfl
    refine ⟨a % u, S.set n (.lst [I (a / u), I v, I c]), ?_, Nat.mod_lt _ (by omega), ⟨a / u, v, c, set_vw hS, hv, by omega⟩, Keep.set ..⟩
    refine runR (S1 := S.set n (.lst [I (a / u), I v, I c])) rfl ?_
    dsimp only [n__law_take, b__law_take]
    apply Ts.rt
    apply T.ite
    (nomatch x0, g1, m1, f1, hS, t1)
  · have g1 : cmpE .gt (I a) (.int 0) = some false := by rw [gt0_I]; simp [ha]
    have a1 := add_1 c
    have t1 : setIxE (.lst [I a, I v, I c]) (.int 2) (I (c + 1)) = some (.lst [I a, I v, I (c + 1)]) := rfl
    have hS1 := set_vw (l' := [I a, I v, I (c + 1)]) hS
    have vS1 := vw_ref hS1
    have y1 : ixE (vw (S.set n (.lst [I a, I v, I (c + 1)])) (.ref n)) (.int 1) = some (I v) := by rw [vS1]; rfl
    have y2 : ixE (vw (S.set n (.lst [I a, I v, I (c + 1)])) (.ref n)) (.int 2) = some (I (c + 1)) := by rw [vS1]; rfl
    have m4 : bopE .mod (I (c + 1)) (.int 5) = some (I ((c + 1) % 5)) := mod_I (c + 1) 5 (by omega)
    obtain ⟨q, q1, q2, q3⟩ := prime_I ((c + 1) % 5) (Nat.mod_lt _ (by omega))
    have hP : P64.toNat = 18446744073709551616 := rfl
    obtain ⟨K, hK⟩ : ∃ K : Nat, K = 69221 := ⟨_, rfl⟩
    obtain ⟨c1, hc1⟩ : ∃ c1, c1 = c + 1 := ⟨_, rfl⟩
    obtain ⟨W1, hW1⟩ : ∃ W1, W1 = K * c1 := ⟨_, rfl⟩
    obtain ⟨W2, hW2⟩ : ∃ W2, W2 = W1 * c1 := ⟨_, rfl⟩
    obtain ⟨L, hL⟩ : ∃ L : Nat, L = 2297 := ⟨_, rfl⟩
    obtain ⟨B, hB⟩ : ∃ B, B = v + W2 + L := ⟨_, rfl⟩
    obtain ⟨C, hC⟩ : ∃ C, C = B ^ 3 := ⟨_, rfl⟩
    have hW1b : W1 ≤ 69221 * 1000001 := by
      rw [hW1, hK]
      omega
    have hW2b : W2 ≤ 69221 * 1000001 * 1000001 := by
      rw [hW2]
      exact Nat.mul_le_mul hW1b (by omega)
    have w1 : bopE .mul (I K) (I c1) = some (I W1) := by rw [hW1]; exact mul_I _ _ (by omega)
    have w2 : bopE .mul (I W1) (I c1) = some (I W2) := by rw [hW2]; exact mul_I _ _ (by omega)
    have w3 : bopE .add (I v) (I W2) = some (I (v + W2)) := add_I ..
    have w4 : bopE .add (I (v + W2)) (I L) = some (I B) := by rw [hB]; exact add_I ..
    have p1 : bopE .pow (I B) (I 3) = some (I C) := by
      rw [hC]
      refine pow_I B 3 ?_ (by omega)
      have : (2 : Nat) ^ 256 = 115792089237316195423570985008687907853269984665640564039457584007913129639936 := by decide
      rw [this]
      omega
    have w1 : bopE .mul (.int 69221) (I c1) = some (I W1) := by
      rw [hK] at w1
      exact w1
    have w4 : bopE .add (I (v + W2)) (.int 2297) = some (I B) := by
      rw [hL] at w4
      exact w4
    have p1 : bopE .pow (I B) (.int 3) = some (I C) := p1
    rw [← hc1] at a1 t1 hS1 y1 y2 vS1 m4 q3
    clear hC hB hW2 hW1 hK hL hW1b hW2b
    have m5 := mod_I C q q1
    have hy := Nat.mod_lt C q1
    generalize C % q = y at *
    have m6 : bopE .mod (I y) (.int 7901) = some (I (y % 7901)) := mod_I y 7901 (by omega)
    obtain ⟨M, hM⟩ : ∃ M : Nat, M = 239 := ⟨_, rfl⟩
    obtain ⟨W5, hW5⟩ : ∃ W5, W5 = M * c1 := ⟨_, rfl⟩
    obtain ⟨W6, hW6⟩ : ∃ W6, W6 = y % 7901 + W5 := ⟨_, rfl⟩
    obtain ⟨W7, hW7⟩ : ∃ W7, W7 = y * W6 := ⟨_, rfl⟩
    obtain ⟨W8, hW8⟩ : ∃ W8, W8 = W7 % 2305843009213693907 := ⟨_, rfl⟩
    obtain ⟨W9, hW9⟩ : ∃ W9, W9 = W8 / 139 := ⟨_, rfl⟩
    have w5 : bopE .mul (I M) (I c1) = some (I W5) := by rw [hW5]; exact mul_I _ _ (by omega)
    have w6 : bopE .add (I (y % 7901)) (I W5) = some (I W6) := by rw [hW6]; exact add_I ..
    have w7 : bopE .mul (I y) (I W6) = some (I W7) := by rw [hW7]; exact mul_I _ _ (by omega)
    have f6 : bopE .mod (I W7) (I 2305843009213693907) = some (I W8) := by rw [hW8]; exact mod_I W7 2305843009213693907 (by omega)
    have f7 : bopE .fdiv (I W8) (I 139) = some (I W9) := by rw [hW9]; exact fdiv_I W8 139 (by omega) (by omega)
    have w5 : bopE .mul (.int 239) (I c1) = some (I W5) := by
      rw [hM] at w5
      exact w5
    have f6 : bopE .mod (I W7) (.int 2305843009213693907) = some (I W8) := f6
    have f7 : bopE .fdiv (I W8) (.int 139) = some (I W9) := f7
    clear hW9 hW8 hW7 hW6 hW5 hM
    have m8 := mod_I W9 u (by omega)
    rw [hc1] at hS1
    refine ⟨W9 % u, S.set n (.lst [I a, I v, I c1]), ?_, Nat.mod_lt _ (by omega), ⟨a, v, c1, by rw [hc1]; exact hS1, hv, by omega⟩, Keep.set ..⟩
    rw [← hc1] at hS1
    refine runR (S1 := S.set n (.lst [I a, I v, I c1])) rfl ?_
    dsimp only [n__law_take, b__law_take]
    have zz : ∀ x : Nat, bltE .int [I x] = some (I x) := fun _ => rfl
    (exists zz _, vq_lst hS, vq_lst hS1, x0, x2, g1, a1, hS, t1, y1, y2, m4, q3, w1, w2, w3, w4, p1, m5, m6, w5, w6, w7, f6, f7, m8)
end NgB
end

section
set_option autoImplicit false
set_option maxRecDepth 100000
set_option maxHeartbeats 1000000
namespace NgB
open NG
local macro_rules | `(tactic| nomatch $ts,*) => `(tactic| repeat' (first
    | (first
      | ((with_reducible apply E.var); exact rfl; exact rfl)
      | ((with_reducible show asg _ _ _ = _); exact rfl)
      | ((with_reducible show truthy _ = _); exact rfl))
    | (with_reducible first
      | apply E.var | apply E.cst | apply E.glob | apply Es.nil | apply C.nil | apply Ts.nil'
      | apply E.tup | apply E.lst | apply E.bop | apply E.neg | apply E.not | apply E.cmp | apply E.and | apply E.or | apply E.ite | apply E.ix | apply E.sl
      | apply E.call | apply E.callk | apply E.blt | apply E.mth | apply E.comp | apply E.mut | apply E.alloc
      | apply Es.cons | apply C.one | apply Ts.ret' | apply Ts.nx
      | apply T.set | apply T.setIx | apply T.expr | apply T.ite | apply T.for | apply T.while | apply T.ret | apply T.ghost
      | apply condT | apply condF)
    $[| with_reducible exact $ts]*
    $[| exact $ts]*
    | exact (rfl : (_ : Option _) = _) | exact (rfl : (_ : Bool) = _) | exact (rfl : R.ok _ _ = R.ok _ _)))
local macro_rules | `(tactic| rwa [$[$ts:term],*]) => `(tactic| first
    | ((with_reducible show callE _ _ _ _ _ = _); (first $[| ((with_reducible refine callE_fact $ts ?_ ?_) <;> exact rfl)]*))
    | ((with_reducible show compL _ _ _ _ _ _ = _); (first $[| ((with_reducible refine compL_fact $ts ?_ ?_) <;> exact rfl)]*))
    | ((with_reducible show forL _ _ _ _ _ = _); (first $[| ((with_reducible refine forL_fact $ts ?_ ?_) <;> exact rfl)]*))
    | ((with_reducible show whileL _ _ _ _ _ = _); (first $[| ((with_reducible refine whileL_fact $ts ?_ ?_) <;> exact rfl)]*)))
local macro_rules | `(tactic| exists $ts,*) => `(tactic| repeat' (first
    | (first
      | ((with_reducible apply E.var); exact rfl; exact rfl)
      | ((with_reducible show asg _ _ _ = _); exact rfl)
      | ((with_reducible show truthy _ = _); exact rfl)
      | ((with_reducible show R.ok _ _ = R.ok _ _); exact rfl)
      | ((with_reducible apply vw_id); exact rfl)
      | ((with_reducible apply condT'); exact rfl)
      | ((with_reducible apply condF'); exact rfl))
    | (with_reducible first
      | apply E.cst | apply E.glob | apply Es.nil | apply C.nil | apply Ts.nil'
      | apply E.tup | apply E.lst | apply E.dic | apply F.bop | apply E.neg | apply E.not | apply F.cmp | apply E.and | apply E.or | apply E.ite | apply F.ix | apply F.sl
      | apply E.call | apply E.callk | apply F.blt | apply F.mth | apply E.comp | apply F.mutS | apply E.alloc
      | apply Es.cons | apply C.one | apply Ts.ret' | apply Ts.nx
      | apply T.set | apply F.setIx | apply T.expr | apply T.ite | apply T.for | apply T.while | apply T.ret | apply F.ghost
      | apply vws_nil | apply vws_cons | apply mutA_0 | apply mutA_1 | apply mutA_2 | apply mutA_3 | apply mthA_x | apply mthA_gx | apply mthA_jx | apply mthA_tx)
    | rwa [$[$ts:term],*]
    $[| with_reducible exact $ts]*
    | exact (rfl : (_ : Option _) = _) | exact (rfl : (_ : Bool) = _) | exact (rfl : (_ : List _) = _)))
theorem lt_I (x y : Nat) : cmpE .lt (I x) (I y) = some (decide (x < y)) := by
  show some (decide ((x : Int) < (y : Int))) = _
  congr 1
  simp
theorem ge_I (x y : Nat) : cmpE .ge (I x) (I y) = some (decide (y ≤ x)) := by
  show some (decide ((y : Int) ≤ (x : Int))) = _
  congr 1
  simp
theorem abs_I (z : Int) : bltE .abs [.int z] = some (I z.natAbs) := by
  rw [b_abs]
  congr 1
  unfold I
  congr 1
  split <;> omega
theorem modz_I (z : Int) (y : Nat) (h : 0 < y) : ∃ v, v < y ∧ bopE .mod (.int z) (I y) = some (I v) := by
  have h1 : 0 ≤ z % (y : Int) := Int.emod_nonneg _ (by omega)
  have h2 : z % (y : Int) < y := Int.emod_lt_of_pos _ (by omega)
  refine ⟨(z % (y : Int)).toNat, by omega, ?_⟩
  show bopE .mod (.int z) (.int y) = _
  rw [o_mod _ _ (by omega), Int.fmod_eq_emod_of_nonneg _ (by omega)]
  congr 1
  unfold I
  congr 1
  omega
theorem mul_01 (x y : Nat) (h : y ≤ 1) : bopE .mul (I x) (I y) = some (I (x * y)) := by
  show bopE .mul (.int x) (.int y) = _
  rw [o_mul _ _ (by simp [mulOk]; unfold P64 at *; omega)]
  rfl
theorem bl_I (t : Bool) : bltE .int [.bl t] = some (I t.toNat) := by
  cases t <;> rfl
theorem len_scr (ns : List Int) : bltE .len [.scr (ns.map D.int)] = some (I ns.length) := by
  show some (D.int (ns.map D.int).length) = _
  rw [List.length_map]
  rfl
theorem ten60 : bopE .pow (.int 10) (.int 60) = some (I (10 ^ 60)) := pow_I 10 60 (by decide) (by omega)
theorem ten60_5 : bopE .pow (I (10 ^ 60)) (.int 5) = some (I ((10 ^ 60) ^ 5)) := pow_I (10 ^ 60) 5 (by decide) (by omega)
theorem ten18 : bopE .pow (.int 10) (.int 18) = some (I (10 ^ 18)) := pow_I 10 18 (by decide) (by omega)
theorem int_I (z : Int) : bltE .int [.int z] = some (.int z) := rfl
theorem pot_val (Φ : Phi) (S : Store) (ns : List Int) (j : Nat) (hj : j < ns.length ∨ (ns = [] ∧ j = 0)) : ∃ z, evE Φ (.ite (.cmp .lt (.var 1) (.blt .len [.var 0])) (.ix (.var 0) (.var 1)) (.bop .add (.bop .add (.bop .mod (.blt .sum [.sl (.var 0) [] [.cst (.int 1)]]) (.cst (.int 1000381))) (.bop .mul (.cst (.int 4657)) (.var 1))) (.cst (.int 743)))) [.scr (ns.map D.int), I j, .undef, .undef, .undef] S = .ok (.int z) S := by
  rcases hj with hj | ⟨rfl, rfl⟩
  · have l1 := len_scr ns
    have c1 : cmpE .lt (I j) (I ns.length) = some true := by rw [lt_I]; simp [hj]
    have x1 : ixE (.scr (ns.map D.int)) (I j) = some (.int ns[j]) := by
      show atIx (ns.map D.int) (j : Int) = _
      rw [at_nat]
      simp [hj]
    exact ⟨ns[j], by (nomatch l1, c1, x1)⟩
  · exact ⟨743, rfl⟩
theorem pot_ok (k : Nat) (S : Store) (ns : List Int) (j : Nat) (hj : j < ns.length ∨ (ns = [] ∧ j = 0)) (hj2 : j ≤ 3) : ∃ S', Ph (k + 1) I__law_pot [.scr (ns.map D.int), I j] S = .ok (.ref S.length) S' ∧ PotAt S.length 0 S' := by
  obtain ⟨z, hz⟩ := pot_val (Ph k) S ns j hj
  have a1 := abs_I z
  have m1 := mod_I z.natAbs ((10 ^ 60) ^ 5) (by decide)
  have g1 := ge_I z.natAbs (10 ^ 18)
  have b1 := bl_I (decide (10 ^ 18 ≤ z.natAbs))
  have w1 := mul_01 (z.natAbs % (10 ^ 60) ^ 5) (decide (10 ^ 18 ≤ z.natAbs)).toNat (Bool.toNat_le _)
  obtain ⟨v, v1, v2⟩ := modz_I z 2305843009213693951 (by omega)
  have v2 : bopE .mod (.int z) (.int 2305843009213693951) = some (I v) := v2
  have hP : P64.toNat = 18446744073709551616 := rfl
  obtain ⟨K, hK⟩ : ∃ K : Nat, K = 63029 := ⟨_, rfl⟩
  obtain ⟨L, hL⟩ : ∃ L : Nat, L = 7219 := ⟨_, rfl⟩
  obtain ⟨M, hM⟩ : ∃ M : Nat, M = 887 := ⟨_, rfl⟩
  obtain ⟨V3, h3⟩ : ∃ V3, V3 = v * K := ⟨_, rfl⟩
  obtain ⟨V4, h4⟩ : ∃ V4, V4 = L * j := ⟨_, rfl⟩
  obtain ⟨V2, h2⟩ : ∃ V2, V2 = V4 * j := ⟨_, rfl⟩
  obtain ⟨V1, h1⟩ : ∃ V1, V1 = V3 + V2 := ⟨_, rfl⟩
  obtain ⟨V5, h5⟩ : ∃ V5, V5 = V1 + M := ⟨_, rfl⟩
  have w2 : bopE .mul (I v) (I K) = some (I V3) := by rw [h3]; exact mul_I _ _ (by omega)
  have w3 : bopE .mul (I L) (I j) = some (I V4) := by rw [h4]; exact mul_I _ _ (by omega)
  have w4 : bopE .mul (I V4) (I j) = some (I V2) := by
    rw [h2]
    refine mul_I _ _ ?_
    rw [h4, hL]
    omega
  have w5 : bopE .add (I V3) (I V2) = some (I V1) := by rw [h1]; exact add_I ..
  have w6 : bopE .add (I V1) (I M) = some (I V5) := by rw [h5]; exact add_I ..
  rw [hK] at w2
  rw [hL] at w3
  rw [hM] at w6
  have w2 : bopE .mul (I v) (.int 63029) = some (I V3) := w2
  have w3 : bopE .mul (.int 7219) (I j) = some (I V4) := w3
  have w6 : bopE .add (I V1) (.int 887) = some (I V5) := w6
  clear h5 h1 h2 h4 h3 hM hL hK
  have w7 : bopE .mod (I V5) (.int 2305843009213693921) = some (I (V5 % 2305843009213693921)) := mod_I V5 2305843009213693921 (by omega)
  have hv := Nat.mod_lt V5 (show 0 < 2305843009213693921 by omega)
  obtain ⟨V6, h6⟩ : ∃ V6, V6 = V5 % 2305843009213693921 := ⟨_, rfl⟩
  obtain ⟨O, hO⟩ : ∃ O, O = z.natAbs % (10 ^ 60) ^ 5 * (decide (10 ^ 18 ≤ z.natAbs)).toNat := ⟨_, rfl⟩
  rw [← h6] at w7 hv
  rw [← hO] at w1
  refine ⟨S ++ [.lst [I O, I V6, I 0]], ?_, O, V6, 0, by simp, by omega, by omega⟩
  rw [ph k I__law_pot _ _ n__law_pot rfl]
  refine runR (fn := n__law_pot) (ds := [.scr (ns.map D.int), I j]) rfl ?_
  dsimp only [n__law_pot, b__law_pot]
  have t60 := ten60
  have t605 := ten60_5
  have t18 := ten18
  have hi := int_I z
  refine Ts.nx (T.set hz rfl) ?_
  have zz : ∀ x : Nat, bltE .int [I x] = some (I x) := fun _ => rfl
  (exists zz _, a1, m1, g1, b1, w1, v2, w2, w3, w4, w5, w6, w7, t60, t605, t18, hi)
theorem of_ok (k : Nat) {n b : Nat} {S : Store} (h : PotAt n b S) (hb : b ≤ 1000000) (l : List D) (h1 : l ≠ []) (h2 : l.length ≤ 1000) :
    ∃ (x : Nat) (S' : Store) (d : D), Ph (k + 2) I__law_of [.ref n, .lst l] S = .ok d S' ∧ l[x]? = some d ∧ PotAt n (b + 1) S' ∧ Keep n S S' := by
  have hl : 0 < l.length := List.length_pos_iff.mpr h1
  obtain ⟨x, S', t, hx, hp, hk⟩ := take_ok k h hb (u := l.length) (by omega) h2
  have t' : callE (Ph (k + 1)) I__law_take 0 [.ref n, I l.length] S = .ok (I x) S' := call0.trans t
  have l1 : bltE .len [.lst l] = some (I l.length) := rfl
  have x1 : ixE (.lst l) (I x) = some l[x] := by
    show atIx l (x : Int) = _
    rw [at_nat]
    simp [hx]
  refine ⟨x, S', l[x], ?_, List.getElem?_eq_getElem hx, hp, hk⟩
  rw [ph (k + 1) I__law_of _ _ n__law_of rfl]
  refine runR (S1 := S') rfl ?_
  dsimp only [n__law_of, b__law_of]
  (nomatch t', l1, x1)
/-- a comprehension that takes -/
theorem compL_st {t : Tg} {elt : Env → Store → R D} {cond : Env → Store → R Bool} {ρ : Env} (Q : D → Prop) (P : Nat → Store → Prop) : ∀ (its : List D) (i : Nat) (S : Store), P i S →
    (∀ i d S, d ∈ its → P i S → ∃ ρ1 y S', asg t d ρ = some ρ1 ∧ cond ρ1 S = .ok true S ∧ elt ρ1 S = .ok y S' ∧ Q y ∧ P (i + 1) S') →
    ∃ ys S', compL t cond elt ρ its S = .ok ys S' ∧ ys.length = its.length ∧ (∀ y ∈ ys, Q y) ∧ P (i + its.length) S'
  | [], i, S, h, _ => ⟨[], S, by unfold compL; rfl, rfl, fun y hy => (List.not_mem_nil hy).elim, h⟩
  | d :: its, i, S, h, step => by
    obtain ⟨ρ1, y, S1, h1, h2, h3, h4, h5⟩ := step i d S (List.mem_cons_self ..) h
    obtain ⟨ys, S2, g1, g2, g3, g4⟩ := compL_st Q P its (i + 1) S1 h5 fun i d S hd => step i d S (List.mem_cons_of_mem _ hd)
    refine ⟨y :: ys, S2, ?_, by rw [List.length_cons, List.length_cons, g2], fun z hz => ?_, ?_⟩
    · rw [compL_cons]
      simp only [h1, h2, bind_ok', if_true, h3, g1]
    · rcases List.mem_cons.mp hz with rfl | hz
      · exact h4
      · exact g3 z hz
    · rw [List.length_cons, show i + (its.length + 1) = i + 1 + its.length from by omega]
      exact g4
end NgB
end

section
set_option autoImplicit false
set_option maxRecDepth 100000
set_option maxHeartbeats 1000000
namespace NgB
open NG
theorem toN (p : Nat → Prop) : ∀ (ys : List D), (∀ y ∈ ys, ∃ x, y = I x ∧ p x) → ∃ l : List Nat, ys = l.map I ∧ ∀ x ∈ l, p x
  | [], _ => ⟨[], rfl, fun x hx => (List.not_mem_nil hx).elim⟩
  | y :: ys, h => by
    obtain ⟨x, rfl, hx⟩ := h y (List.mem_cons_self ..)
    obtain ⟨l, rfl, hl⟩ := toN p ys fun z hz => h z (List.mem_cons_of_mem _ hz)
    exact ⟨x :: l, rfl, fun z hz => by
      rcases List.mem_cons.mp hz with rfl | hz
      · exact hx
      · exact hl z hz⟩
theorem comp_go {Φ : Phi} {t : Tg} {n m B : Nat} (p : Nat → Prop) {e : CE} {W : Env} (F : D → Env) (ht : ∀ d, asg t d W = some (F d))
    (step : ∀ i S b', i < m → PotAt n b' S → b' < B → ∃ x S', evE Φ e (F (I i)) S = .ok (I x) S' ∧ p x ∧ PotAt n (b' + 1) S' ∧ Keep n S S') : ∀ (its : List Nat) (b : Nat) (S : Store), (∀ i ∈ its, i < m) → b + its.length ≤ B → PotAt n b S →
    ∃ (l : List Nat) (S' : Store), compL t (evC Φ []) (evE Φ e) W (its.map I) S = .ok (l.map I) S' ∧ l.length = its.length ∧ (∀ x ∈ l, p x) ∧ PotAt n (b + its.length) S' ∧ Keep n S S'
  | [], b, S, _, _, h => ⟨[], S, by unfold compL; rfl, rfl, fun y hy => (List.not_mem_nil hy).elim, h, Keep.refl ..⟩
  | i :: its, b, S, hi, hb, h => by
    rw [List.length_cons] at hb
    obtain ⟨x, S1, h1, h2, h3, h4⟩ := step i S b (hi i (List.mem_cons_self ..)) h (by omega)
    obtain ⟨l, S2, g1, g2, g3, g4, g5⟩ := comp_go p F ht step its (b + 1) S1 (fun j hj => hi j (List.mem_cons_of_mem _ hj)) (by omega) h3
    refine ⟨x :: l, S2, ?_, by rw [List.length_cons, List.length_cons, g2], fun z hz => ?_, ?_, h4.trans g5⟩
    · rw [List.map_cons, List.map_cons]
      rw [compL_cons]
      have hc : evC Φ [] (F (I i)) S = .ok true S := C.nil
      simp only [ht, hc, bind_ok', if_true, h1, g1]
    · rcases List.mem_cons.mp hz with rfl | hz
      · exact h2
      · exact g3 z hz
    · rw [List.length_cons, show b + (its.length + 1) = b + 1 + its.length from by omega]
      exact g4
theorem comp_takes {Φ : Phi} {t : Tg} {n b m : Nat} (p : Nat → Prop) {e : CE} {W : Env} (F : D → Env) {S : Store} (ht : ∀ d, asg t d W = some (F d)) (h : PotAt n b S)
    (step : ∀ i S b', i < m → PotAt n b' S → b' < b + m → ∃ x S', evE Φ e (F (I i)) S = .ok (I x) S' ∧ p x ∧ PotAt n (b' + 1) S' ∧ Keep n S S') :
    ∃ (l : List Nat) (S' : Store), compL t (evC Φ []) (evE Φ e) W ((List.range m).map I) S = .ok (l.map I) S' ∧ l.length = m ∧ (∀ x ∈ l, p x) ∧ PotAt n (b + m) S' ∧ Keep n S S' := by
  have := comp_go p F ht step (List.range m) b S (fun i hi => List.mem_range.mp hi) (by rw [List.length_range]; omega) h
  rw [List.length_range] at this
  exact this
theorem sortN_len (l : List Nat) : (sortN l).length = l.length := by
  have ins : ∀ (x : Nat) (l : List Nat), (insN x l).length = l.length + 1 := by
    intro x l
    induction l with
    | nil => rfl
    | cons y l ih =>
      simp only [insN]
      split <;> simp_all
  induction l with
  | nil => rfl
  | cons x l ih => rw [sortN, ins, ih, List.length_cons]
theorem take' (k : Nat) {n b : Nat} {S : Store} (h : PotAt n b S) (hb : b ≤ 1000000) {u : Nat} (h1 : 1 ≤ u) (h2 : u ≤ 1000) :
    ∃ x S', callE (Ph (k + 1)) I__law_take 0 [.ref n, I u] S = .ok (I x) S' ∧ x < u ∧ PotAt n (b + 1) S' ∧ Keep n S S' := by
  obtain ⟨x, S', t, r⟩ := take_ok k h hb h1 h2
  exact ⟨x, S', call0.trans t, r⟩
theorem add1_I (x : Nat) : bopE .add (.int 1) (I x) = some (I (1 + x)) := add_I 1 x
theorem sub1_I (x : Nat) (h : 1 ≤ x) : bopE .sub (I x) (.int 1) = some (I (x - 1)) := by
  show some (D.int ((x : Int) - 1)) = _
  congr 1
  unfold I
  congr 1
  omega
theorem min2_I (x y : Nat) : bltE .min2 [I x, I y] = some (I (min x y)) := by
  show some (D.int (if (y : Int) < x then y else x)) = _
  congr 1
  unfold I
  congr 1
  split <;> omega
theorem max2_0 (z : Int) : bltE .max2 [.int 0, .int z] = some (I z.toNat) := by
  show some (D.int (if z > 0 then z else 0)) = _
  congr 1
  unfold I
  congr 1
  split <;> omega
theorem int_N (x : Nat) : bltE .int [I x] = some (I x) := rfl
theorem rng_ok (n : Nat) (h : n ≤ LIM) : iterE .rng1 [I n] = some ((List.range n).map I) := by
  rw [← rng_I]
  exact it_rng n h
theorem sortable_I (l : List Nat) : sortable (l.map I) = true := by
  unfold sortable
  rw [py_I, dep_I]
  have h1 : ((l.map I).all fun x => (l.map I).all fun y => alike x y) = true := by
    rw [List.all_map, List.all_eq_true]
    intro x _
    show ((l.map I).all fun y => alike (I x) y) = true
    rw [List.all_map, List.all_eq_true]
    intro y _
    rfl
  rw [h1]
  simp only [Bool.and_eq_true, Bool.or_eq_true, List.all_eq_true, decide_eq_true_eq]
  refine ⟨⟨⟨trivial, by omega⟩, trivial⟩, .inr fun x hx => ?_⟩
  obtain ⟨y, _, rfl⟩ := List.mem_map.mp hx
  rfl
theorem sorted_I (l : List Nat) : bltE .sorted [.lst (l.map I)] = some (.lst ((sortN l).map I)) := by
  rw [b_sorted _ (sortable_I l), sort_I]
theorem nodup_le : ∀ {n : Nat} {l : List Nat}, l.Nodup → (∀ x ∈ l, x < n) → l.length ≤ n
  | 0, [], _, _ => Nat.le_refl _
  | 0, x :: l, _, h => absurd (h x (List.mem_cons_self ..)) (by omega)
  | n + 1, l, hn, h => by
    by_cases hm : n ∈ l
    · have := nodup_le (n := n) (l := l.erase n) (hn.erase n) fun x hx => by
        have h1 := (hn.mem_erase_iff).mp hx
        have := h x h1.2
        have := h1.1
        omega
      rw [List.length_erase_of_mem hm] at this
      omega
    · have := nodup_le (n := n) hn fun x hx => by
        have := h x hx
        have : x ≠ n := fun e => hm (e ▸ hx)
        omega
      omega
theorem len_I (l : List Nat) : bltE .len [tI l] = some (I l.length) := by
  show some (D.int (List.map I l).length) = _
  rw [List.length_map]
  rfl
theorem len_L (l : List Nat) : bltE .len [.lst (l.map I)] = some (I l.length) := by
  show some (D.int (List.map I l).length) = _
  rw [List.length_map]
  rfl
theorem drop_I (l : List Nat) (p : Nat) : slE (.lst (l.map I)) (some (p : Int)) none = some (.lst ((l.drop p).map I)) := by
  show some (D.lst (cutL (l.map I) (some (p : Int)) none)) = _
  rw [cut_drop, List.map_drop]
end NgB
end

section
set_option autoImplicit false
set_option maxRecDepth 100000
set_option maxHeartbeats 1000000
namespace NgB
open NG
local macro_rules | `(tactic| nomatch $ts,*) => `(tactic| repeat' (first
    | (first
      | ((with_reducible apply E.var); exact rfl; exact rfl)
      | ((with_reducible show asg _ _ _ = _); exact rfl)
      | ((with_reducible show truthy _ = _); exact rfl))
    | (with_reducible first
      | apply E.var | apply E.cst | apply E.glob | apply Es.nil | apply C.nil | apply Ts.nil'
      | apply E.tup | apply E.lst | apply E.bop | apply E.neg | apply E.not | apply E.cmp | apply E.and | apply E.or | apply E.ite | apply E.ix | apply E.sl
      | apply E.call | apply E.callk | apply E.blt | apply E.mth | apply E.comp | apply E.mut | apply E.alloc
      | apply Es.cons | apply C.one | apply Ts.ret' | apply Ts.nx
      | apply T.set | apply T.setIx | apply T.expr | apply T.ite | apply T.for | apply T.while | apply T.ret | apply T.ghost
      | apply condT | apply condF)
    $[| with_reducible exact $ts]*
    $[| exact $ts]*
    | exact (rfl : (_ : Option _) = _) | exact (rfl : (_ : Bool) = _) | exact (rfl : R.ok _ _ = R.ok _ _)))
theorem comp_sub {Φ : Phi} {t : Tg} {n m B : Nat} {e ce : CE} {W : Env} (F : D → Env) (ht : ∀ d, asg t d W = some (F d)) (he : ∀ i S, evE Φ e (F (I i)) S = .ok (I i) S)
    (step : ∀ i S b', i < m → PotAt n b' S → b' < B → ∃ q S', evC Φ [ce] (F (I i)) S = .ok q S' ∧ PotAt n (b' + 1) S' ∧ Keep n S S') : ∀ (its : List Nat) (b : Nat) (S : Store), (∀ i ∈ its, i < m) → b + its.length ≤ B → PotAt n b S →
    ∃ (l : List Nat) (S' : Store), compL t (evC Φ [ce]) (evE Φ e) W (its.map I) S = .ok (l.map I) S' ∧ l.Sublist its ∧ PotAt n (b + its.length) S' ∧ Keep n S S'
  | [], b, S, _, _, h => ⟨[], S, by unfold compL; rfl, List.Sublist.refl _, h, Keep.refl ..⟩
  | i :: its, b, S, hi, hb, h => by
    rw [List.length_cons] at hb
    obtain ⟨q, S1, h1, h3, h4⟩ := step i S b (hi i (List.mem_cons_self ..)) h (by omega)
    obtain ⟨l, S2, g1, g2, g4, g5⟩ := comp_sub F ht he step its (b + 1) S1 (fun j hj => hi j (List.mem_cons_of_mem _ hj)) (by omega) h3
    rw [List.length_cons, show b + (its.length + 1) = b + 1 + its.length from by omega]
    cases q with
    | true =>
      refine ⟨i :: l, S2, ?_, g2.cons₂ _, g4, h4.trans g5⟩
      rw [List.map_cons, List.map_cons]
      rw [compL_cons]
      simp only [ht, h1, bind_ok', if_true, he, g1]
    | false =>
      refine ⟨l, S2, ?_, g2.cons _, g4, h4.trans g5⟩
      rw [List.map_cons]
      rw [compL_cons]
      simp only [ht, h1, bind_ok', Bool.false_eq_true, if_false, g1]
theorem eq0_I (x : Nat) : cmpE .eq (I x) (.int 0) = some (x == 0) := by
  rw [show (D.int 0) = I 0 from rfl, c_eq_ok _ _ rfl, deq_I]
theorem join_ok (w : List Nat) (h : w.length ≤ LIM) : mthE .join (.str []) [.lst (w.map fun c => .str [c])] = some (.str w) := by
  have h1 : ∀ w : List Nat, areStrs (w.map fun c => .str [c]) = some (w.map fun c => [c]) := by
    intro w
    induction w with
    | nil => rfl
    | cons c w ih => simp only [List.map_cons, areStrs, ih, Option.map_some]
  have h2 : ∀ w : List Nat, joinS [] (w.map fun c => [c]) = w := by
    intro w
    induction w with
    | nil => rfl
    | cons c w ih =>
      cases w with
      | nil => rfl
      | cons c' w =>
        simp only [List.map_cons, joinS] at ih ⊢
        rw [ih]
        rfl
  have h3 : ∀ w : List Nat, ((w.map fun c => [c]).map List.length).sum = w.length := by
    intro w
    induction w with
    | nil => rfl
    | cons c w ih =>
      simp only [List.map_cons, List.sum_cons, ih, List.length_cons, List.length_nil]
      omega
  unfold mthE
  simp only [seqOf, h1, h2, h3]
  simp [h]
theorem comp_goD {Φ : Phi} {t : Tg} {n m B : Nat} (Q : D → Prop) {e : CE} {W : Env} (F : D → Env) (ht : ∀ d, asg t d W = some (F d))
    (step : ∀ i S b', i < m → PotAt n b' S → b' < B → ∃ y S', evE Φ e (F (I i)) S = .ok y S' ∧ Q y ∧ PotAt n (b' + 1) S' ∧ Keep n S S') : ∀ (its : List Nat) (b : Nat) (S : Store), (∀ i ∈ its, i < m) → b + its.length ≤ B → PotAt n b S →
    ∃ (l : List D) (S' : Store), compL t (evC Φ []) (evE Φ e) W (its.map I) S = .ok l S' ∧ l.length = its.length ∧ (∀ x ∈ l, Q x) ∧ PotAt n (b + its.length) S' ∧ Keep n S S'
  | [], b, S, _, _, h => ⟨[], S, by unfold compL; rfl, rfl, fun y hy => (List.not_mem_nil hy).elim, h, Keep.refl ..⟩
  | i :: its, b, S, hi, hb, h => by
    rw [List.length_cons] at hb
    obtain ⟨x, S1, h1, h2, h3, h4⟩ := step i S b (hi i (List.mem_cons_self ..)) h (by omega)
    obtain ⟨l, S2, g1, g2, g3, g4, g5⟩ := comp_goD Q F ht step its (b + 1) S1 (fun j hj => hi j (List.mem_cons_of_mem _ hj)) (by omega) h3
    refine ⟨x :: l, S2, ?_, by rw [List.length_cons, List.length_cons, g2], fun z hz => ?_, ?_, h4.trans g5⟩
    · rw [List.map_cons]
      rw [compL_cons]
      have hc : evC Φ [] (F (I i)) S = .ok true S := C.nil
      simp only [ht, hc, bind_ok', if_true, h1, g1]
    · rcases List.mem_cons.mp hz with rfl | hz
      · exact h2
      · exact g3 z hz
    · rw [List.length_cons, show b + (its.length + 1) = b + 1 + its.length from by omega]
      exact g4
theorem toS : ∀ (ys : List D), (∀ y ∈ ys, ∃ c, y = .str [c] ∧ isP c) → ∃ w : List Nat, ys = w.map (fun c => .str [c]) ∧ ∀ c ∈ w, isP c
  | [], _ => ⟨[], rfl, fun x hx => (List.not_mem_nil hx).elim⟩
  | y :: ys, h => by
    obtain ⟨x, rfl, hx⟩ := h y (List.mem_cons_self ..)
    obtain ⟨l, rfl, hl⟩ := toS ys fun z hz => h z (List.mem_cons_of_mem _ hz)
    exact ⟨x :: l, rfl, fun z hz => by
      rcases List.mem_cons.mp hz with rfl | hz
      · exact hx
      · exact hl z hz⟩
theorem law_wave_ok (k : Nat) {n b : Nat} {S : Store} (h : PotAt n b S) (hb : b ≤ 900000) (u : Nat) (hu : u ≤ 40) :
    ∃ w S', Ph (k + 3) I__law_wave [.ref n, I u] S = .ok (.str w) S' ∧ w.length ≤ u ∧ (∀ c ∈ w, isP c) ∧ PotAt n (b + 100) S' ∧ Keep n S S' := by
  have hL' : (LIM : Nat) = 16777216 := rfl
  have a1 := add_1 u
  obtain ⟨m, S1, t1, hm, p1, k1⟩ := take' (k + 1) h (by omega) (u := u + 1) (by omega) (by omega)
  have rg := rng_ok m (by omega)
  obtain ⟨ys, S2, e2, hl, hq, p2, k2⟩ := comp_goD (Φ := Ph (k + 2)) (t := .one 2) (n := n) (m := m) (B := b + 1 + m) (fun y => ∃ c, y = .str [c] ∧ isP c) (e := .call I__law_of 0 [.var 0, .lst [.cst (.str [100]), .cst (.str [108]), .cst (.str [114])]]) (W := [.ref n, I u, .undef]) (fun q => [.ref n, I u, q]) (fun q => rfl) (fun i S b' hi hp hb' => by
    obtain ⟨x, S', y, t, hy, hp', hk⟩ := of_ok k hp (by omega) [.str [100], .str [108], .str [114]] (by simp) (by simp)
    have t : callE (Ph (k + 2)) I__law_of 0 [.ref n, .lst [.str [100], .str [108], .str [114]]] S = .ok y S' := call0.trans t
    refine ⟨y, S', by (nomatch t), ?_, hp', hk⟩
    rcases x with _ | _ | _ | x
    · exact ⟨100, (Option.some.inj hy).symm, .inl rfl⟩
    · exact ⟨108, (Option.some.inj hy).symm, .inr (.inl rfl)⟩
    · exact ⟨114, (Option.some.inj hy).symm, .inr (.inr rfl)⟩
    · simp at hy) (List.range m) (b + 1) S1 (fun i hi => List.mem_range.mp hi) (by rw [List.length_range]; omega) p1
  rw [List.length_range] at hl p2
  obtain ⟨w, rfl, hw⟩ := toS ys hq
  rw [List.length_map] at hl
  have j1 := join_ok w (by omega)
  refine ⟨w, S2, ?_, by omega, hw, p2.mono (by omega), k1.trans k2⟩
  rw [ph (k + 2) I__law_wave _ _ n__law_wave rfl]
  refine runR (fn := n__law_wave) (ds := [.ref n, I u]) rfl ?_
  dsimp only [n__law_wave, b__law_wave]
  (nomatch a1, t1, rg, e2, j1)
theorem cells_ok (k : Nat) (S : Store) (ns : List Int) : ∃ m, 1 ≤ m ∧ m ≤ 3 ∧ (∀ j, j < m → j < ns.length ∨ (ns = [] ∧ j = 0)) ∧ Ph (k + 1) I__law_cells [.scr (ns.map D.int), .int 3] S = .ok (.lst ((List.range m).map I)) S := by
  have l1 := len_scr ns
  have m1 := min2_I 3 ns.length
  have m1 : bltE .min2 [.int 3, I ns.length] = some (I (min 3 ns.length)) := m1
  have m2 : bltE .max2 [.int 1, I (min 3 ns.length)] = some (I (max 1 (min 3 ns.length))) := by
    show some (D.int (if ((min 3 ns.length : Nat) : Int) > 1 then ((min 3 ns.length : Nat) : Int) else 1)) = _
    congr 1
    unfold I
    congr 1
    split <;> omega
  have hL' : (LIM : Nat) = 16777216 := rfl
  have m3 : bltE .listRng [I (max 1 (min 3 ns.length))] = some (.lst ((List.range (max 1 (min 3 ns.length))).map I)) := by
    show (if _ then _ else _) = _
    rw [if_pos ⟨by omega, by omega⟩, show ((max 1 (min 3 ns.length) : Nat) : Int).toNat = max 1 (min 3 ns.length) from rfl, rng_I]
  refine ⟨max 1 (min 3 ns.length), by omega, by omega, fun j hj => ?_, ?_⟩
  · by_cases h : j < ns.length
    · exact .inl h
    · right
      have : ns.length = 0 := by omega
      exact ⟨List.eq_nil_of_length_eq_zero this, by omega⟩
  · rw [ph k I__law_cells _ _ n__law_cells rfl]
    refine runR (fn := n__law_cells) (ds := [.scr (ns.map D.int), .int 3]) rfl ?_
    dsimp only [n__law_cells, b__law_cells]
    (nomatch l1, m1, m2, m3)
end NgB
end

section
set_option autoImplicit false
set_option maxRecDepth 100000
set_option maxHeartbeats 1000000
namespace NgB
open NG
structure Sh (L k : Nat) (d : D) : Prop where
  ok : showable d = true
  dp : ddepth d ≤ k
  ln : (shown d).length ≤ L
  cp : ∀ x ∈ shown d, x < 1114112
theorem shI_ok {n : Nat} (h : n < 10) : Sh 1 0 (I n) := by
  have : n = 0 ∨ n = 1 ∨ n = 2 ∨ n = 3 ∨ n = 4 ∨ n = 5 ∨ n = 6 ∨ n = 7 ∨ n = 8 ∨ n = 9 := by omega
  rcases this with rfl | rfl | rfl | rfl | rfl | rfl | rfl | rfl | rfl | rfl <;> exact ⟨by decide, by decide, by decide, by decide⟩

theorem join_len {L : Nat} : ∀ (l : List D), (∀ x ∈ l, (shown x).length ≤ L ∧ ∀ c ∈ shown x, c < 1114112) → (joinS [44, 32] (showns l)).length ≤ l.length * (L + 2) ∧ ∀ c ∈ joinS [44, 32] (showns l), c < 1114112
  | [], _ => ⟨Nat.zero_le _, fun c hc => by simp [showns, joinS] at hc⟩
  | [x], h => by
    obtain ⟨h1, h2⟩ := h x (List.mem_cons_self ..)
    simp only [showns, joinS, List.length_cons, List.length_nil]
    exact ⟨by omega, h2⟩
  | x :: y :: l, h => by
    obtain ⟨h1, h2⟩ := h x (List.mem_cons_self ..)
    obtain ⟨i1, i2⟩ := join_len (y :: l) fun z hz => h z (List.mem_cons_of_mem _ hz)
    simp only [showns, joinS, List.length_cons, List.length_append, List.length_nil] at i1 i2 ⊢
    refine ⟨by rw [Nat.succ_mul]; omega, fun c hc => ?_⟩
    rcases List.mem_append.mp hc with hc | hc
    · rcases List.mem_append.mp hc with hc | hc
      · exact h2 c hc
      · simp at hc
        omega
    · exact i2 c hc

theorem shT_ok {L k : Nat} {l : List D} (h : ∀ x ∈ l, Sh L k x) : Sh (l.length * (L + 2) + 4) (k + 1) (.tup l) := by
  have h1 : showables l = true := by
    induction l with
    | nil => rfl
    | cons x l ih =>
      simp only [showables, (h x (List.mem_cons_self ..)).ok, ih fun z hz => h z (List.mem_cons_of_mem _ hz), Bool.and_self]
  have h2 : ddepths l ≤ k := by
    induction l with
    | nil => exact Nat.zero_le _
    | cons x l ih =>
      have := (h x (List.mem_cons_self ..)).dp
      have := ih (fun z hz => h z (List.mem_cons_of_mem _ hz)) (by simp only [showables, Bool.and_eq_true] at h1; exact h1.2)
      simp only [ddepths]
      omega
  obtain ⟨j1, j2⟩ := join_len (L := L) l fun x hx => ⟨(h x hx).ln, (h x hx).cp⟩
  refine ⟨h1, by simp only [ddepth]; omega, ?_, ?_⟩
  · match l, j1 with
    | [], _ => simp [shown]
    | [x], j1 =>
      simp only [showns, joinS, List.length_cons, List.length_nil] at j1
      simp [shown]
      omega
    | x :: y :: r, j1 =>
      simp only [showns, List.length_cons] at j1
      simp [shown, showns]
      omega
  · match l, j2 with
    | [], _ => simp [shown]
    | [x], j2 =>
      simp only [showns, joinS] at j2
      intro c hc
      simp [shown] at hc
      rcases hc with rfl | hc | rfl | rfl
      · omega
      · exact j2 c hc
      · omega
      · omega
    | x :: y :: r, j2 =>
      simp only [showns] at j2
      intro c hc
      simp [shown, showns] at hc
      rcases hc with rfl | hc | rfl
      · omega
      · exact j2 c hc
      · omega

theorem Sh.mono {L L' k k' : Nat} {d : D} (h : Sh L k d) (h1 : L ≤ L') (h2 : k ≤ k') : Sh L' k' d := ⟨h.ok, Nat.le_trans h.dp h2, Nat.le_trans h.ln h1, h.cp⟩
theorem shB_ok (b : Bool) : Sh 5 0 (.bl b) := by
  cases b <;> exact ⟨by decide, by decide, by decide, by decide⟩
theorem repr_ok {L k : Nat} {d : D} (h : Sh L k d) (h1 : L ≤ 100000) (h2 : k ≤ 60) : bltE .repr [d] = some (.str (shown d)) := by
  have hL' : (LIM : Nat) = 16777216 := rfl
  have a := h.dp
  have b := h.ln
  show (if _ then _ else _) = _
  rw [if_pos (by rw [h.ok, decide_eq_true (show ddepth d ≤ 60 by omega), decide_eq_true (show (shown d).length ≤ LIM by omega)]; rfl)]
theorem shL_ok {l : List Nat} (h : ∀ x ∈ l, x < 10) : Sh (l.length * 3 + 4) 1 (tI l) := by
  have := shT_ok (L := 1) (k := 0) (l := l.map I) fun x hx => by
    obtain ⟨y, hy, rfl⟩ := List.mem_map.mp hx
    exact shI_ok (h y hy)
  rw [List.length_map] at this
  exact this
end NgB
end

section
set_option autoImplicit false
set_option maxRecDepth 100000
set_option maxHeartbeats 1000000
namespace NgB
open NG
local macro_rules | `(tactic| rwa [$[$ts:term],*]) => `(tactic| first
    | ((with_reducible show callE _ _ _ _ _ = _); (first $[| ((with_reducible refine callE_fact $ts ?_ ?_) <;> exact rfl)]*))
    | ((with_reducible show compL _ _ _ _ _ _ = _); (first $[| ((with_reducible refine compL_fact $ts ?_ ?_) <;> exact rfl)]*))
    | ((with_reducible show forL _ _ _ _ _ = _); (first $[| ((with_reducible refine forL_fact $ts ?_ ?_) <;> exact rfl)]*))
    | ((with_reducible show whileL _ _ _ _ _ = _); (first $[| ((with_reducible refine whileL_fact $ts ?_ ?_) <;> exact rfl)]*)))
local macro_rules | `(tactic| exists $ts,*) => `(tactic| repeat' (first
    | (first
      | ((with_reducible apply E.var); exact rfl; exact rfl)
      | ((with_reducible show asg _ _ _ = _); exact rfl)
      | ((with_reducible show truthy _ = _); exact rfl)
      | ((with_reducible show R.ok _ _ = R.ok _ _); exact rfl)
      | ((with_reducible apply vw_id); exact rfl)
      | ((with_reducible apply condT'); exact rfl)
      | ((with_reducible apply condF'); exact rfl))
    | (with_reducible first
      | apply E.cst | apply E.glob | apply Es.nil | apply C.nil | apply Ts.nil'
      | apply E.tup | apply E.lst | apply E.dic | apply F.bop | apply E.neg | apply E.not | apply F.cmp | apply E.and | apply E.or | apply E.ite | apply F.ix | apply F.sl
      | apply E.call | apply E.callk | apply F.blt | apply F.mth | apply E.comp | apply F.mutS | apply E.alloc
      | apply Es.cons | apply C.one | apply Ts.ret' | apply Ts.nx
      | apply T.set | apply F.setIx | apply T.expr | apply T.ite | apply T.for | apply T.while | apply T.ret | apply F.ghost
      | apply vws_nil | apply vws_cons | apply mutA_0 | apply mutA_1 | apply mutA_2 | apply mutA_3 | apply mthA_x | apply mthA_gx | apply mthA_jx | apply mthA_tx)
    | rwa [$[$ts:term],*]
    $[| with_reducible exact $ts]*
    | exact (rfl : (_ : Option _) = _) | exact (rfl : (_ : Bool) = _) | exact (rfl : (_ : List _) = _)))
abbrev zD (l : List Int) : List D := l.map D.int
def Wv (w : List Nat) : Prop := ∀ c ∈ w, isP c
theorem clean_zD : ∀ l : List Int, cleans (zD l) = true
  | [] => rfl
  | x :: l => by
    show (true && cleans (zD l)) = true
    rw [clean_zD l]
    rfl
/-- what a wave leaves -/
def chW (w : List Nat) : Int := (w.count 100 : Int) - (w.count 108 : Int)
def preW (w : List Nat) : List Int := (List.range (w.length + 1)).map fun i => chW (w.take i)
def sgn (c : Nat) : Int := if c = 100 then 1 else if c = 108 then -1 else 0
theorem chW_snoc (w : List Nat) (c : Nat) : chW (w ++ [c]) = chW w + sgn c := by
  unfold chW sgn
  rw [List.count_append, List.count_append, List.count_singleton, List.count_singleton]
  by_cases h1 : c = 100
  · subst h1; simp; omega
  · by_cases h2 : c = 108
    · subst h2; simp; omega
    · simp [h1, h2]
theorem compI {t : Tg} {cond : Env → Store → R Bool} {elt : Env → Store → R D} {ρ : Env} {S : Store} (g : Nat → D) {l : List Nat} (h : ∀ x ∈ l, ∃ ρ1, asg t (I x) ρ = some ρ1 ∧ cond ρ1 S = .ok true S ∧ elt ρ1 S = .ok (g x) S) :
    compL t cond elt ρ (l.map I) S = .ok (l.map g) S := by
  have e := compL_map (t := t) (cond := cond) (elt := elt) (ρ := ρ) (S := S) (fun d => match d with | .int i => g i.toNat | _ => .non) (its := l.map I) fun d hd => by
    obtain ⟨x, hx, rfl⟩ := List.mem_map.mp hd
    obtain ⟨ρ1, h1, h2, h3⟩ := h x hx
    exact ⟨ρ1, h1, h2, h3⟩
  rw [e, List.map_map]
  rfl
theorem charge_by_ok (k : Nat) (S : Store) (w : List Nat) : Ph (k + 1) I_charge_by [.str w] S = .ok (.int (chW w)) S := by
  rw [ph k I_charge_by _ _ n_charge_by rfl]
  refine runR (fn := n_charge_by) (ds := [.str w]) rfl ?_
  dsimp only [n_charge_by, b_charge_by]
  refine Ts.rt (T.ret ?_)
  have e1 : ∀ c, evE (Ph k) (.mth .count (.var 0) [.glob (.str [c])]) [.str w] S = .ok (.int ((w.count c : Nat) : Int)) S := fun c => E.mth (x := .str w) (E.var rfl rfl) rfl (Es.cons E.glob Es.nil) rfl
  exact E.bop (e1 100) (e1 108) rfl
theorem call_charge (k : Nat) (S : Store) (w : List Nat) : callE (Ph (k + 1)) I_charge_by 1 [.str w] S = .ok (.int (chW w)) S := callP rfl (charge_by_ok k [] w) rfl
theorem take_str (w : List Nat) (i : Nat) (h : w.length ≤ LIM) : slE (.str w) none (some ((i : Nat) : Int)) = some (.str (w.take i)) := by
  show (if w.length ≤ LIM then some (D.str (cutL w none (some ((i : Nat) : Int)))) else none) = _
  rw [if_pos h, cut_take]
theorem len_rng {w : List Nat} (h : w.length ≤ 6000) : bltE .len [.str w] = some (I w.length) := b_len_str _ (by have hL' : (LIM : Nat) = 16777216 := rfl; omega)
theorem charges_by_ok (k : Nat) (S : Store) {w : List Nat} (hl : w.length ≤ 6000) : Ph (k + 2) I_charges_by [.str w] S = .ok (.lst (zD (preW w))) S := by
  have hL' : (LIM : Nat) = 16777216 := rfl
  rw [ph (k + 1) I_charges_by _ _ n_charges_by rfl]
  refine runR (fn := n_charges_by) (ds := [.str w]) rfl ?_
  dsimp only [n_charges_by, b_charges_by]
  show evSs _ _ _ [.str w, .undef] _ = _
  refine Ts.rt (T.ret ?_)
  have rg := rng_ok (w.length + 1) (by omega)
  have c : compL (.one 1) (evC (Ph (k + 1)) []) (evE (Ph (k + 1)) (.call I_charge_by 1 [.sl (.var 0) [] [.var 1]])) [.str w, .undef] ((List.range (w.length + 1)).map I) S = .ok ((List.range (w.length + 1)).map fun i => .int (chW (w.take i))) S :=
    compI _ fun i hi => ⟨[.str w, I i], rfl, C.nil, E.call (Es.cons (E.sl (x := .str w) (E.var rfl rfl) Es.nil (Es.cons (E.var rfl rfl) Es.nil) rfl rfl (take_str w i (by omega))) Es.nil) (call_charge k S (w.take i))⟩
  have : zD (preW w) = (List.range (w.length + 1)).map fun i => .int (chW (w.take i)) := by
    unfold preW zD
    rw [List.map_map]
    rfl
  rw [this]
  exact E.comp (Es.cons (E.bop (E.blt (ds := [.str w]) (Es.cons (E.var rfl rfl) Es.nil) (len_rng hl)) E.cst (add_1 w.length)) Es.nil) rg c
theorem call_charges (k : Nat) (S : Store) {w : List Nat} (hl : w.length ≤ 6000) : callE (Ph (k + 2)) I_charges_by 1 [.str w] S = .ok (.lst (zD (preW w))) S := callP rfl (charges_by_ok k [] hl) (clean_zD _)
theorem wave_b {w : List Nat} (h : Wv w) : w.all isPb = true := List.all_eq_true.mpr fun c hc => by
  rcases h c hc with rfl | rfl | rfl <;> rfl
theorem is_wave_ok (k : Nat) (S : Store) {w : List Nat} (h : Wv w) (hl : w.length ≤ 5000) : Ph (k + 1) I_is_wave [.str w] S = .ok (.bl true) S := by
  have hL' : (LIM : Nat) = 16777216 := rfl
  rw [is_wave_str k S w (by omega) fun c hc => by rcases h c hc with rfl | rfl | rfl <;> omega, wave_b h, decide_eq_true hl]
  rfl
theorem check_wave_ok (k : Nat) (S : Store) {w : List Nat} (h : Wv w) (hl : w.length ≤ 5000) : callE (Ph (k + 2)) I_check_wave 1 [.str w] S = .ok .non S := by
  refine callP (S1 := []) rfl ?_ rfl
  have c1 : callE (Ph (k + 1)) I_is_wave 1 [.str w] [] = .ok (.bl true) [] := callP rfl (is_wave_ok k [] h hl) rfl
  rw [ph (k + 1) I_check_wave _ _ n_check_wave rfl]
  refine runN (ρ := [.str w]) (fn := n_check_wave) (ds := [.str w]) rfl ?_
  dsimp only [n_check_wave, b_check_wave]
  (exists c1)
theorem charge_of_ok (k : Nat) (S : Store) {w : List Nat} (h : Wv w) (hl : w.length ≤ 5000) : Ph (k + 3) I_charge_of [.str w] S = .ok (.int (chW w)) S := by
  have c1 := check_wave_ok k S h hl
  have c2 := call_charge (k + 1) S w
  rw [ph (k + 2) I_charge_of _ _ n_charge_of rfl]
  refine runR (fn := n_charge_of) (ds := [.str w]) rfl ?_
  dsimp only [n_charge_of, b_charge_of]
  (exists c1, c2)
theorem charges_of_ok (k : Nat) (S : Store) {w : List Nat} (h : Wv w) (hl : w.length ≤ 5000) : Ph (k + 3) I_charges_of [.str w] S = .ok (.tup (zD (preW w))) S := by
  have c1 := check_wave_ok k S h hl
  have c2 := call_charges k S (w := w) (by omega)
  have b : bltE .tuple [.lst (zD (preW w))] = some (.tup (zD (preW w))) := rfl
  rw [ph (k + 2) I_charges_of _ _ n_charges_of rfl]
  refine runR (fn := n_charges_of) (ds := [.str w]) rfl ?_
  dsimp only [n_charges_of, b_charges_of]
  (exists c1, c2, b)
theorem preW_snoc (w : List Nat) (c : Nat) : preW (w ++ [c]) = preW w ++ [chW w + sgn c] := by
  unfold preW
  rw [List.length_append, List.length_singleton, List.range_succ, List.map_append, List.map_singleton, List.take_of_length_le (show (w ++ [c]).length ≤ w.length + 1 by simp), chW_snoc]
  congr 1
  refine List.map_congr_left fun j hj => ?_
  have := List.mem_range.mp hj
  rw [List.take_append_of_le_length (by omega)]
theorem preW_ne (w : List Nat) : preW w ≠ [] := by
  unfold preW
  rw [List.range_succ]
  simp
theorem preW_last (w : List Nat) : ixE (.lst (zD (preW w))) (.int (-1)) = some (.int (chW w)) := by
  show atIx (zD (preW w)) (-1) = _
  rw [at_last _ (by intro e; exact preW_ne w (List.map_eq_nil_iff.mp e))]
  have : (zD (preW w)).length - 1 = w.length := by rw [List.length_map]; unfold preW; rw [List.length_map, List.length_range]; omega
  rw [this, List.getElem?_map]
  unfold preW
  rw [List.getElem?_map, List.getElem?_range (by omega)]
  simp
/-- the law's own charges -/
theorem law_charges_ok (k : Nat) {w : List Nat} (h : Wv w) (hl : w.length ≤ 6000) : ∃ S', Ph (k + 1) I__law_charges [.str w] [] = .ok (.lst (zD (preW w))) S' := by
  have hL' : (LIM : Nat) = 16777216 := rfl
  obtain ⟨ρ', S', e1, ⟨c', hρ⟩, hS⟩ := forL_inv (t := .one 2) (body := evSs 1000 (Ph k) [.expr (.mut 0 1 [.bop .add (.ix (.var 1) (.neg (.cst (.int 1)))) (.ite (.cmp .eq (.var 2) (.cst (.str [100]))) (.cst (.int 1)) (.ite (.cmp .eq (.var 2) (.cst (.str [108]))) (.neg (.cst (.int 1))) (.cst (.int 0))))])]) (its := w.map fun c => .str [c])
    (fun i ρ S => (∃ c, ρ = [.str w, .ref 0, c]) ∧ S[0]? = some (.lst (zD (preW (w.take i))))) 0 [.str w, .ref 0, .undef] [.lst [.int 0]] (Nat.zero_le _) ⟨⟨_, rfl⟩, rfl⟩ fun i d ρ S hi hp => by
      obtain ⟨⟨c, rfl⟩, hS⟩ := hp
      rw [List.getElem?_map] at hi
      obtain ⟨c, hc, rfl⟩ := Option.map_eq_some_iff.mp hi
      have hP := h c (List.mem_of_getElem? hc)
      have hiw := (List.getElem?_eq_some_iff.mp hc).1
      have htk : w.take (i + 1) = w.take i ++ [c] := by rw [List.take_add_one, hc]; rfl
      have e2 : evE (Ph k) (.ix (.var 1) (.neg (.cst (.int 1)))) [.str w, .ref 0, .str [c]] S = .ok (.int (chW (w.take i))) S := by
        refine E.ix (x := .ref 0) (E.var rfl rfl) (E.neg E.cst) ?_
        rw [vq_lst hS]
        exact preW_last _
      have e3 : evE (Ph k) (.ite (.cmp .eq (.var 2) (.cst (.str [100]))) (.cst (.int 1)) (.ite (.cmp .eq (.var 2) (.cst (.str [108]))) (.neg (.cst (.int 1))) (.cst (.int 0)))) [.str w, .ref 0, .str [c]] S = .ok (.int (sgn c)) S := by
        rcases hP with rfl | rfl | rfl
        · exact E.ite (x := .bl true) (t := true) (S1 := S) (E.cmp (x := .str [100]) (E.var rfl rfl) E.cst rfl) rfl (condT E.cst)
        · exact E.ite (x := .bl false) (t := false) (S1 := S) (E.cmp (x := .str [108]) (E.var rfl rfl) E.cst rfl) rfl (condF (E.ite (x := .bl true) (t := true) (S1 := S) (E.cmp (x := .str [108]) (E.var rfl rfl) E.cst rfl) rfl (condT (E.neg E.cst))))
        · exact E.ite (x := .bl false) (t := false) (S1 := S) (E.cmp (x := .str [114]) (E.var rfl rfl) E.cst rfl) rfl (condF (E.ite (x := .bl false) (t := false) (S1 := S) (E.cmp (x := .str [114]) (E.var rfl rfl) E.cst rfl) rfl (condF E.cst)))
      have e4 := E.bop (w := .add) e2 e3 rfl
      have hm : mutE 0 (.lst (zD (preW (w.take i)))) [.int (chW (w.take i) + sgn c)] = some (.non, .lst (zD (preW (w.take i)) ++ [.int (chW (w.take i) + sgn c)])) := by
        refine if_pos ?_
        rw [List.length_map]
        unfold preW
        rw [List.length_map, List.length_range, List.length_take]
        omega
      refine ⟨[.str w, .ref 0, .str [c]], [.str w, .ref 0, .str [c]], S.set 0 (.lst (zD (preW (w.take i)) ++ [.int (chW (w.take i) + sgn c)])), rfl, .inl ?_, ⟨_, rfl⟩, ?_⟩
      · exact Ts.nx (T.expr (F.mutS (n := 0) rfl (live_of hS) (Es.cons e4 Es.nil) hS mutA_0 hm rfl)) Ts.nil
      · rw [List.getElem?_set_self (List.getElem?_eq_some_iff.mp hS).1, htk]
        have := preW_snoc (w.take i) c
        rw [this]
        show _ = some (Cell.lst ((preW (w.take i) ++ [chW (w.take i) + sgn c]).map D.int))
        rw [List.map_append]
        rfl
  rw [List.drop_zero, hρ] at e1
  rw [List.length_map, List.take_length] at hS
  refine ⟨S'.set 0 .dead, ?_⟩
  rw [ph k I__law_charges _ _ n__law_charges rfl]
  refine runR (fn := n__law_charges) (ds := [.str w]) rfl ?_
  dsimp only [n__law_charges, b__law_charges]
  show evSs _ _ _ [.str w, .undef, .undef] _ = _
  refine Ts.nx (ρ1 := [.str w, .ref 0, .undef]) (S1 := [.lst [.int 0]]) (T.set (E.alloc (E.lst (Es.cons E.cst Es.nil))) rfl) ?_
  refine Ts.nx (T.for (Es.cons (E.var rfl rfl) Es.nil) (it_str w (by omega)) e1) ?_
  refine Ts.nx (T.ghost (n := 0) rfl hS) ?_
  exact Ts.rt (T.ret (E.var rfl rfl))
theorem call_lcharges (k : Nat) (S : Store) {w : List Nat} (h : Wv w) (hl : w.length ≤ 6000) : callE (Ph (k + 1)) I__law_charges 1 [.str w] S = .ok (.lst (zD (preW w))) S := by
  obtain ⟨S', e⟩ := law_charges_ok k h hl
  exact callP rfl e (clean_zD _)
end NgB
end

section
set_option autoImplicit false
set_option maxRecDepth 100000
set_option maxHeartbeats 1000000
namespace NgB
open NG
local macro_rules | `(tactic| rwa [$[$ts:term],*]) => `(tactic| first
    | ((with_reducible show callE _ _ _ _ _ = _); (first $[| ((with_reducible refine callE_fact $ts ?_ ?_) <;> exact rfl)]*))
    | ((with_reducible show compL _ _ _ _ _ _ = _); (first $[| ((with_reducible refine compL_fact $ts ?_ ?_) <;> exact rfl)]*))
    | ((with_reducible show forL _ _ _ _ _ = _); (first $[| ((with_reducible refine forL_fact $ts ?_ ?_) <;> exact rfl)]*))
    | ((with_reducible show whileL _ _ _ _ _ = _); (first $[| ((with_reducible refine whileL_fact $ts ?_ ?_) <;> exact rfl)]*)))
local macro_rules | `(tactic| exists $ts,*) => `(tactic| repeat' (first
    | (first
      | ((with_reducible apply E.var); exact rfl; exact rfl)
      | ((with_reducible show asg _ _ _ = _); exact rfl)
      | ((with_reducible show truthy _ = _); exact rfl)
      | ((with_reducible show R.ok _ _ = R.ok _ _); exact rfl)
      | ((with_reducible apply vw_id); exact rfl)
      | ((with_reducible apply condT'); exact rfl)
      | ((with_reducible apply condF'); exact rfl))
    | (with_reducible first
      | apply E.cst | apply E.glob | apply Es.nil | apply C.nil | apply Ts.nil'
      | apply E.tup | apply E.lst | apply E.dic | apply F.bop | apply E.neg | apply E.not | apply F.cmp | apply E.and | apply E.or | apply E.ite | apply F.ix | apply F.sl
      | apply E.call | apply E.callk | apply F.blt | apply F.mth | apply E.comp | apply F.mutS | apply E.alloc
      | apply Es.cons | apply C.one | apply Ts.ret' | apply Ts.nx
      | apply T.set | apply F.setIx | apply T.expr | apply T.ite | apply T.for | apply T.while | apply T.ret | apply F.ghost
      | apply vws_nil | apply vws_cons | apply mutA_0 | apply mutA_1 | apply mutA_2 | apply mutA_3 | apply mthA_x | apply mthA_gx | apply mthA_jx | apply mthA_tx)
    | rwa [$[$ts:term],*]
    $[| with_reducible exact $ts]*
    | exact (rfl : (_ : Option _) = _) | exact (rfl : (_ : Bool) = _) | exact (rfl : (_ : List _) = _)))
theorem E.cmp2I {Φ : Phi} {ρ : Env} {S : Store} {a b c : CE} {i j l : Int} (h1 : evE Φ a ρ S = .ok (.int i) S) (h2 : evE Φ b ρ S = .ok (.int j) S) (h3 : evE Φ c ρ S = .ok (.int l) S) : evE Φ (.cmp2 .le .le a b c) ρ S = .ok (.bl (decide (i ≤ j) && decide (j ≤ l))) S := by
  unfold evE
  simp only [h1, h2, bind_ok']
  have e : cmpE .le (vw S (.int i)) (vw S (.int j)) = some (decide (i ≤ j)) := rfl
  rw [e]
  cases decide (i ≤ j) with
  | true => simp only [h3, bind_ok']; rfl
  | false => rfl
theorem compZ {t : Tg} {cond : Env → Store → R Bool} {elt : Env → Store → R D} {ρ : Env} {S : Store} (g : Int → D) {l : List Int} (h : ∀ x ∈ l, ∃ ρ1, asg t (.int x) ρ = some ρ1 ∧ cond ρ1 S = .ok true S ∧ elt ρ1 S = .ok (g x) S) :
    compL t cond elt ρ (zD l) S = .ok (l.map g) S := by
  have e := compL_map (t := t) (cond := cond) (elt := elt) (ρ := ρ) (S := S) (fun d => match d with | .int i => g i | _ => .non) (its := zD l) fun d hd => by
    obtain ⟨x, hx, rfl⟩ := List.mem_map.mp hd
    obtain ⟨ρ1, h1, h2, h3⟩ := h x hx
    exact ⟨ρ1, h1, h2, h3⟩
  rw [e, List.map_map]
  rfl
def ab (i : Int) : Int := if i < 0 then -i else i
def mx1 : List Int → Int
  | [] => 0
  | i :: is => is.foldl (fun a b => if b > a then b else a) i
theorem ints_Z : ∀ l : List Int, areInts (zD l) = some l
  | [] => rfl
  | x :: l => by
    show (areInts (zD l)).map (x :: ·) = _
    rw [ints_Z l]
    rfl
theorem b_max1 {l : List Int} (h : l ≠ []) : bltE .max1 [.lst (zD l)] = some (.int (mx1 l)) := by
  show (match areInts (zD l) with
    | some (i :: is) => some (D.int (is.foldl (fun a b => if b > a then b else a) i))
    | _ => none) = _
  rw [ints_Z]
  cases l with
  | nil => exact absurd rfl h
  | cons x l => rfl
theorem fold_le (b : Int) : ∀ (l : List Int) (a : Int), l.foldl (fun a b => if b > a then b else a) a ≤ b ↔ a ≤ b ∧ ∀ x ∈ l, x ≤ b
  | [], a => by simp
  | x :: l, a => by
    rw [List.foldl_cons, fold_le b l]
    by_cases h : x > a
    · rw [if_pos h]
      constructor
      · rintro ⟨h1, h2⟩
        exact ⟨by omega, fun y hy => by rcases List.mem_cons.mp hy with rfl | hy; exact h1; exact h2 y hy⟩
      · rintro ⟨h1, h2⟩
        exact ⟨h2 x (List.mem_cons_self ..), fun y hy => h2 y (List.mem_cons_of_mem _ hy)⟩
    · rw [if_neg h]
      constructor
      · rintro ⟨h1, h2⟩
        exact ⟨h1, fun y hy => by rcases List.mem_cons.mp hy with rfl | hy; omega; exact h2 y hy⟩
      · rintro ⟨h1, h2⟩
        exact ⟨h1, fun y hy => h2 y (List.mem_cons_of_mem _ hy)⟩
theorem mx1_le {l : List Int} (h : l ≠ []) (b : Int) : mx1 l ≤ b ↔ ∀ x ∈ l, x ≤ b := by
  cases l with
  | nil => exact absurd rfl h
  | cons a l =>
    show l.foldl _ a ≤ b ↔ _
    rw [fold_le]
    simp
/-- the most that a wave is charged -/
def mstW (w : List Nat) : Int := mx1 ((preW w).map ab)
theorem ab_ne (w : List Nat) : (preW w).map ab ≠ [] := fun e => preW_ne w (List.map_eq_nil_iff.mp e)
theorem mst_le (w : List Nat) (b : Int) : mstW w ≤ b ↔ ∀ c ∈ preW w, -b ≤ c ∧ c ≤ b := by
  unfold mstW
  rw [mx1_le (ab_ne w)]
  constructor
  · intro h c hc
    have := h (ab c) (List.mem_map.mpr ⟨c, hc, rfl⟩)
    unfold ab at this
    split at this <;> omega
  · intro h x hx
    obtain ⟨c, hc, rfl⟩ := List.mem_map.mp hx
    have := h c hc
    unfold ab
    split <;> omega
theorem chW_bd (w : List Nat) : -(w.length : Int) ≤ chW w ∧ chW w ≤ w.length := by
  unfold chW
  have h1 := List.count_le_length (a := 100) (l := w)
  have h2 := List.count_le_length (a := 108) (l := w)
  omega
theorem pre_bd {w : List Nat} {c : Int} (h : c ∈ preW w) : -(w.length : Int) ≤ c ∧ c ≤ w.length := by
  obtain ⟨i, _, rfl⟩ := List.mem_map.mp h
  have := chW_bd (w.take i)
  have h2 : (w.take i).length ≤ w.length := by rw [List.length_take]; omega
  omega
theorem mst_bd (w : List Nat) : 0 ≤ mstW w ∧ mstW w ≤ w.length := by
  constructor
  · have h0 : (0 : Int) ∈ preW w := List.mem_map.mpr ⟨0, List.mem_range.mpr (by omega), by simp [chW]⟩
    have := (mst_le w (mstW w)).mp (Int.le_refl _) 0 h0
    omega
  · exact (mst_le w w.length).mpr fun c hc => pre_bd hc
theorem most_ev (Φ : Phi) (S : Store) {ρ W : Env} {src : CE} {i : Nat} {own : List Nat} {w : List Nat} (hs : evE Φ src ρ S = .ok (.lst (zD (preW w))) S) (hw : wipe ρ own = W) (F : D → Env) (ht : ∀ d, asg (.one i) d W = some (F d)) (hv : ∀ d, (F d)[i]? = some d) : evE Φ (.blt .max1 [.comp (.blt .abs [.var i]) (.one i) own .of [src] []]) ρ S = .ok (.int (mstW w)) S := by
  subst hw
  have c : compL (.one i) (evC Φ []) (evE Φ (.blt .abs [.var i])) (wipe ρ own) (zD (preW w)) S = .ok ((preW w).map fun z => .int (ab z)) S :=
    compZ _ fun z hz => ⟨F (.int z), ht _, C.nil, E.blt (ds := [.int z]) (Es.cons (E.var (hv _) rfl) Es.nil) rfl⟩
  have e : ((preW w).map fun z => D.int (ab z)) = zD ((preW w).map ab) := by
    unfold zD
    rw [List.map_map]
    rfl
  rw [e] at c
  exact E.blt (Es.cons (E.comp (Es.cons hs Es.nil) rfl c) Es.nil) (b_max1 (ab_ne w))
theorem least_kept_ok (k : Nat) (S : Store) {w : List Nat} (h : Wv w) (hl : w.length ≤ 5000) : Ph (k + 3) I_least_kept [.str w] S = .ok (.int (mstW w)) S := by
  have c1 := check_wave_ok k S h hl
  have c2 := call_charges k S (w := w) (by omega)
  rw [ph (k + 2) I_least_kept _ _ n_least_kept rfl]
  refine runR (fn := n_least_kept) (ds := [.str w]) rfl ?_
  dsimp only [n_least_kept, b_least_kept]
  show evSs _ _ _ [.str w, .undef] _ = _
  refine Ts.nx (ρ1 := [.str w, .undef]) (S1 := S) (by (exists c1)) ?_
  exact Ts.rt (T.ret (most_ev (Ph (k + 2)) S (E.call (Es.cons (E.var rfl rfl) Es.nil) c2) rfl (fun d => [.str w, d]) (fun d => rfl) fun d => rfl))
theorem all_I {α : Type} (f : α → Bool) (l : List α) : bltE .all [.lst (l.map fun x => .bl (f x))] = some (.bl (l.all f)) := by
  show (if areBls (l.map fun x => D.bl (f x)) = true then (allB (l.map fun x => D.bl (f x))).map D.bl else none) = _
  rw [if_pos (allB_map f l).1]
  exact congrArg (Option.map D.bl) (allB_map f l).2
theorem keeps_ok (k : Nat) (S : Store) {w : List Nat} (hl : w.length ≤ 5000) (b : Nat) : Ph (k + 3) I_keeps [.str w, I b] S = .ok (.bl (decide (mstW w ≤ (b : Int)))) S := by
  have c2 := call_charges k S (w := w) (by omega)
  rw [ph (k + 2) I_keeps _ _ n_keeps rfl]
  refine runR (fn := n_keeps) (ds := [.str w, I b]) rfl ?_
  dsimp only [n_keeps, b_keeps]
  show evSs _ _ _ [.str w, I b, .undef] _ = _
  have c : compL (.one 2) (evC (Ph (k + 2)) []) (evE (Ph (k + 2)) (.cmp2 .le .le (.bop .sub (.cst (.int 0)) (.var 1)) (.var 2) (.var 1))) [.str w, I b, .undef] (zD (preW w)) S = .ok ((preW w).map fun z => .bl (decide (0 - (b : Int) ≤ z) && decide (z ≤ (b : Int)))) S :=
    compZ _ fun z hz => ⟨[.str w, I b, .int z], rfl, C.nil, E.cmp2I (E.bop E.cst (E.var (d := .int b) rfl rfl) rfl) (E.var rfl rfl) (E.var (d := .int b) rfl rfl)⟩
  have a := all_I (fun z : Int => decide (0 - (b : Int) ≤ z) && decide (z ≤ (b : Int))) (preW w)
  have e : ((preW w).all fun z : Int => decide (0 - (b : Int) ≤ z) && decide (z ≤ (b : Int))) = decide (mstW w ≤ (b : Int)) := by
    rw [Bool.eq_iff_iff, decide_eq_true_eq, mst_le, List.all_eq_true]
    simp only [Bool.and_eq_true, decide_eq_true_eq]
    constructor
    · intro h c hc
      have := h c hc
      omega
    · intro h c hc
      have := h c hc
      omega
  rw [e] at a
  exact Ts.rt (T.ret (E.blt (Es.cons (E.comp (Es.cons (E.call (Es.cons (E.var rfl rfl) Es.nil) c2) Es.nil) rfl c) Es.nil) a))
theorem check_bound_ok (k : Nat) (S : Store) {b : Nat} (hb : b ≤ 20) : callE (Ph (k + 3)) I_check_bound 1 [I b] S = .ok .non S := by
  refine callP (S1 := []) rfl ?_ rfl
  have c1 : callE (Ph (k + 2)) I_is_between 1 [I b, .int 0, .int 20] [] = .ok (.bl true) [] := by
    have e := is_between_ok k [] (I b) 0 20 rfl
    have e2 : btw 0 20 (I b) = true := by
      show (decide ((0 : Int) ≤ (b : Int)) && decide ((b : Int) ≤ 20)) = true
      rw [decide_eq_true (by omega), decide_eq_true (by omega)]
      rfl
    rw [e2] at e
    exact callP rfl e rfl
  rw [ph (k + 2) I_check_bound _ _ n_check_bound rfl]
  refine runN (ρ := [I b]) (fn := n_check_bound) (ds := [I b]) rfl ?_
  dsimp only [n_check_bound, b_check_bound]
  (exists c1)
theorem does_keep_ok (k : Nat) (S : Store) {w : List Nat} (h : Wv w) (hl : w.length ≤ 5000) {b : Nat} (hb : b ≤ 20) : Ph (k + 4) I_does_keep [.str w, I b] S = .ok (.bl (decide (mstW w ≤ (b : Int)))) S := by
  have c1 : callE (Ph (k + 3)) I_check_wave 1 [.str w] S = .ok .non S := check_wave_ok (k + 1) S h hl
  have c2 := check_bound_ok k S hb
  have c3 : callE (Ph (k + 3)) I_keeps 1 [.str w, I b] S = .ok (.bl (decide (mstW w ≤ (b : Int)))) S := callP rfl (keeps_ok k [] hl b) rfl
  rw [ph (k + 3) I_does_keep _ _ n_does_keep rfl]
  refine runR (fn := n_does_keep) (ds := [.str w, I b]) rfl ?_
  dsimp only [n_does_keep, b_does_keep]
  show evSs _ _ _ [.str w, I b] _ = _
  refine Ts.nx (ρ1 := [.str w, I b]) (S1 := S) (by (exists c1)) ?_
  refine Ts.nx (ρ1 := [.str w, I b]) (S1 := S) (by (exists c2)) ?_
  exact Ts.rt (T.ret (E.call (Es.cons (E.var rfl rfl) (Es.cons (E.var rfl rfl) Es.nil)) c3))
/-! what is shown of numbers -/
theorem sh201 : ∀ n : _root_.Fin 201, (showable (.int ((n.val : Int) - 100)) = true ∧ ddepth (.int ((n.val : Int) - 100)) ≤ 0 ∧ (shown (.int ((n.val : Int) - 100))).length ≤ 4 ∧ ((shown (.int ((n.val : Int) - 100))).all fun x => decide (x < 1114112)) = true) := by decide +kernel
theorem shZ_ok {z : Int} (h1 : -100 ≤ z) (h2 : z ≤ 100) : Sh 4 0 (.int z) := by
  obtain ⟨a, b, c, d⟩ := sh201 ⟨(z + 100).toNat, by omega⟩
  have e : (((z + 100).toNat : Nat) : Int) - 100 = z := by omega
  simp only [e] at a b c d
  exact ⟨a, b, c, fun x hx => of_decide_eq_true (List.all_eq_true.mp d x hx)⟩
theorem shZs_ok {l : List Int} (h : ∀ z ∈ l, -100 ≤ z ∧ z ≤ 100) : Sh (l.length * 6 + 4) 1 (.tup (zD l)) := by
  have := shT_ok (L := 4) (k := 0) (l := zD l) fun x hx => by
    obtain ⟨y, hy, rfl⟩ := List.mem_map.mp hx
    exact shZ_ok (h y hy).1 (h y hy).2
  rw [List.length_map] at this
  exact this
theorem ne_same (s : List Nat) (h : ∀ x ∈ s, x < 1114112) : cmpE .ne (.str s) (.str s) = some false := by
  rw [c_ne_ok _ _ (by simp [okEq, isPy, ddepth]; exact h)]
  have : deq (.str s) (.str s) = true := by simp [deq]
  rw [this]
  rfl
/-- two reprs of one thing -/
theorem same_repr {Φ : Phi} {ρ : Env} {S : Store} {a b : CE} {d : D} {L k : Nat} (h1 : evE Φ a ρ S = .ok d S) (h2 : evE Φ b ρ S = .ok d S) (hv : vw S d = d) (h : Sh L k d) (hL : L ≤ 100000) (hk : k ≤ 60) : evE Φ (.cmp .ne (.blt .repr [a]) (.blt .repr [b])) ρ S = .ok (.bl false) S := by
  have q := repr_ok h hL hk
  rw [← hv] at q
  have e : ∀ c, evE Φ c ρ S = .ok d S → evE Φ (.blt .repr [c]) ρ S = .ok (.str (shown d)) S := fun c hc => by
    have := E.blt (w := .repr) (Es.cons hc Es.nil) (z := .str (shown (vw S d))) q
    rw [hv] at this
    exact this
  exact E.cmp (e a h1) (e b h2) (ne_same _ h.cp)
end NgB
end

section
set_option autoImplicit false
set_option maxRecDepth 100000
set_option maxHeartbeats 1000000
namespace NgB
open NG
def rowD (row : List (List Nat)) : D := .tup (row.map D.str)
def tbD (gs : List Nat) (R : List (List (List Nat))) : D := .tup [tI gs, .tup (R.map rowD)]
structure TbOk (m sz : Nat) (gs : List Nat) (R : List (List (List Nat))) : Prop where
  m1 : 1 ≤ m
  m4 : m ≤ 4
  s6 : sz ≤ 6
  gl : gs.length = m
  gb : ∀ x ∈ gs, x ≤ 7
  ga : asc gs = true
  rl : R.length = m
  rw : ∀ row ∈ R, row.length = m ∧ ∀ w ∈ row, Wv w ∧ w.length = sz
def wv (R : List (List (List Nat))) (o n : Nat) : List Nat := (R.getD o []).getD n []
def ch (R : List (List (List Nat))) (o n : Nat) : Int := chW (wv R o n)
theorem clean_row (row : List (List Nat)) : clean (rowD row) = true := by
  show cleans (row.map D.str) = true
  induction row with
  | nil => rfl
  | cons w row ih =>
    show (true && cleans (row.map D.str)) = true
    rw [ih]
    rfl
theorem clean_rows : ∀ R : List (List (List Nat)), cleans (R.map rowD) = true
  | [] => rfl
  | row :: R => by
    show (clean (rowD row) && cleans (R.map rowD)) = true
    rw [clean_row, clean_rows R]
    rfl
theorem clean_tb (gs : List Nat) (R : List (List (List Nat))) : clean (tbD gs R) = true := by
  show (clean (tI gs) && (cleans (R.map rowD) && true)) = true
  rw [clean_tI, clean_rows]
  rfl
section
variable {m sz : Nat} {gs : List Nat} {R : List (List (List Nat))}
theorem getD_in {α : Type} {l : List α} {d : α} {i : Nat} (h : i < l.length) : l.getD i d ∈ l ∧ l[i]? = some (l.getD i d) := by
  rw [List.getD_eq_getElem?_getD, List.getElem?_eq_getElem h]
  exact ⟨List.getElem_mem h, rfl⟩
theorem wv_ok (h : TbOk m sz gs R) {o n : Nat} (ho : o < m) (hn : n < m) : Wv (wv R o n) ∧ (wv R o n).length = sz ∧ R[o]? = some (R.getD o []) ∧ (R.getD o [])[n]? = some (wv R o n) := by
  obtain ⟨a1, a2⟩ := getD_in (l := R) (d := []) (i := o) (by rw [h.rl]; exact ho)
  obtain ⟨b1, b2⟩ := h.rw _ a1
  obtain ⟨c1, c2⟩ := getD_in (l := R.getD o []) (d := []) (i := n) (by rw [b1]; exact hn)
  exact ⟨(b2 _ c1).1, (b2 _ c1).2, a2, c2⟩
theorem ix_rows (h : TbOk m sz gs R) {o : Nat} (ho : o < m) : ixE (.tup (R.map rowD)) (I o) = some (rowD (R.getD o [])) := by
  show atIx (R.map rowD) ((o : Nat) : Int) = _
  rw [at_nat, List.getElem?_map, (getD_in (l := R) (d := []) (i := o) (by rw [h.rl]; exact ho)).2]
  rfl
theorem ix_row (h : TbOk m sz gs R) {o n : Nat} (ho : o < m) (hn : n < m) : ixE (rowD (R.getD o [])) (I n) = some (.str (wv R o n)) := by
  show atIx ((R.getD o []).map D.str) ((n : Nat) : Int) = _
  rw [at_nat, List.getElem?_map, (wv_ok h ho hn).2.2.2]
  rfl
theorem cell_ev (h : TbOk m sz gs R) {Φ : Phi} {S : Store} {ρ : Env} {et eo en : CE} {o n : Nat} (ho : o < m) (hn : n < m) (h1 : evE Φ et ρ S = .ok (tbD gs R) S) (h2 : evE Φ eo ρ S = .ok (I o) S) (h3 : evE Φ en ρ S = .ok (I n) S) :
    evE Φ (.ix (.ix (.ix et (.cst (.int 1))) eo) en) ρ S = .ok (.str (wv R o n)) S :=
  E.ix (E.ix (E.ix h1 E.cst (z := .tup (R.map rowD)) rfl) h2 (ix_rows h ho)) h3 (ix_row h ho hn)
theorem charge_at_ok (k : Nat) (S : Store) (h : TbOk m sz gs R) {o n : Nat} (ho : o < m) (hn : n < m) : callE (Ph (k + 2)) I_charge_at 1 [tbD gs R, I o, I n] S = .ok (.int (ch R o n)) S := by
  refine callP (S1 := []) (by simp [cleans, clean_tb, I, clean]) ?_ rfl
  rw [ph (k + 1) I_charge_at _ _ n_charge_at rfl]
  refine runR (fn := n_charge_at) (ds := [tbD gs R, I o, I n]) rfl ?_
  dsimp only [n_charge_at, b_charge_at]
  exact Ts.rt (T.ret (E.call (Es.cons (cell_ev h ho hn (E.var rfl rfl) (E.var rfl rfl) (E.var rfl rfl)) Es.nil) (call_charge k [] _)))
/-! a table is one -/
theorem are_greys_ok (k : Nat) (S : Store) (h : TbOk m sz gs R) : callE (Ph (k + 4)) I_are_greys 1 [tI gs] S = .ok (.bl true) S := by
  refine callP (S1 := []) (by simp [cleans, clean_tI]) ?_ rfl
  have c1 : callE (Ph (k + 3)) I_are_between 1 [tI gs, .int 0, .int 7] [] = .ok (.bl true) [] := by
    have e := are_between_ok k [] (gs.map I) 0 7 (ib_I gs)
    have e2 : (gs.map I).all (btw 0 7) = true := by
      rw [show ((7 : Int)) = ((7 : Nat) : Int) from rfl, all_btw, List.all_eq_true]
      exact fun x hx => decide_eq_true (h.gb x hx)
    rw [e2] at e
    exact callP (by simp [cleans, clean_tI, clean]) e rfl
  have c2 : callE (Ph (k + 3)) I_is_ascending 1 [tI gs] [] = .ok (.bl true) [] := by
    have e := is_ascending_ok (k + 2) [] gs
    rw [h.ga] at e
    exact callP (by simp [cleans, clean_tI]) e rfl
  have l1 := len_I gs
  rw [h.gl] at l1
  rw [ph (k + 3) I_are_greys _ _ n_are_greys rfl]
  refine runR (fn := n_are_greys) (ds := [tI gs]) rfl ?_
  dsimp only [n_are_greys, b_are_greys]
  show evSs _ _ _ [tI gs] _ = _
  refine Ts.rt (T.ret ?_)
  refine E.and (E.call (Es.cons (E.var rfl rfl) (Es.cons E.cst (Es.cons E.glob Es.nil))) c1) rfl (condT ?_)
  have e3 := E.cmp2I (Φ := Ph (k + 3)) (ρ := [tI gs]) (S := []) (a := .cst (.int 1)) (b := .blt .len [.var 0]) (c := .glob (.int 4)) (j := m) E.cst (E.blt (Es.cons (E.var rfl rfl) Es.nil) l1) E.glob
  rw [decide_eq_true (show (1 : Int) ≤ (m : Int) by have := h.m1; omega), decide_eq_true (show (m : Int) ≤ 4 by have := h.m4; omega)] at e3
  exact E.and e3 rfl (condT (E.call (Es.cons (E.var rfl rfl) Es.nil) c2))
theorem all_eqs {α : Type} (f : α → D) {t : Tg} {cond : Env → Store → NG.R Bool} {elt : Env → Store → NG.R D} {ρ : Env} {S : Store} {l : List α} (h : ∀ x ∈ l, ∃ ρ1, asg t (f x) ρ = some ρ1 ∧ cond ρ1 S = .ok true S ∧ elt ρ1 S = .ok (.bl true) S) :
    compL t cond elt ρ (l.map f) S = .ok ((l.map f).map fun _ => .bl true) S :=
  compL_map (fun _ => .bl true) fun d hd => by
    obtain ⟨x, hx, rfl⟩ := List.mem_map.mp hd
    exact h x hx
theorem alls (l : List D) : bltE .all [.lst (l.map fun _ => .bl true)] = some (.bl true) := by
  have := all_I (fun _ : D => true) l
  rw [show (l.all fun _ => true) = true from by simp] at this
  exact this
theorem eq_same_I (a : Nat) : cmpE .eq (I a) (I a) = some true := by
  rw [c_eq_ok _ _ rfl]
  show some ((a : Int) == (a : Int)) = _
  simp
theorem ne_same_I (a : Nat) : cmpE .ne (I a) (I a) = some false := by
  rw [c_ne_ok _ _ rfl]
  show some (!((a : Int) == (a : Int))) = _
  simp
theorem is_row_ok (k : Nat) (S : Store) (h : TbOk m sz gs R) {row : List (List Nat)} (hr : row ∈ R) : callE (Ph (k + 2)) I_is_row 1 [I m, rowD row] S = .ok (.bl true) S := by
  obtain ⟨h1, h2⟩ := h.rw row hr
  have hs6 := h.s6
  refine callP (S1 := []) (by simp [cleans, clean_row, I, clean]) ?_ rfl
  rw [ph (k + 1) I_is_row _ _ n_is_row rfl]
  refine runR (fn := n_is_row) (ds := [I m, rowD row]) rfl ?_
  dsimp only [n_is_row, b_is_row]
  show evSs _ _ _ [I m, rowD row, .undef] _ = _
  refine Ts.rt (T.ret ?_)
  refine E.and (x := .bl true) (S1 := []) (E.blt (Es.cons (E.var rfl rfl) Es.nil) rfl) rfl (condT ?_)
  have l1 : bltE .len [rowD row] = some (I m) := by
    show some (D.int ((row.map D.str).length : Nat)) = _
    rw [List.length_map, h1]
    rfl
  refine E.and (x := .bl true) (S1 := []) (E.cmp (E.blt (Es.cons (E.var rfl rfl) Es.nil) l1) (E.var rfl rfl) (eq_same_I m)) rfl (condT ?_)
  have c := all_eqs (t := .one 2) (cond := evC (Ph (k + 1)) []) (elt := evE (Ph (k + 1)) (.call I_is_wave 1 [.var 2])) (ρ := [I m, rowD row, .undef]) (S := []) D.str (l := row) fun w hw => ⟨[I m, rowD row, .str w], rfl, C.nil, E.call (Es.cons (E.var rfl rfl) Es.nil) (callP rfl (is_wave_ok k [] (h2 w hw).1 (by rw [(h2 w hw).2]; omega)) rfl)⟩
  exact E.blt (Es.cons (E.comp (Es.cons (E.var rfl rfl) Es.nil) rfl c) Es.nil) (alls _)
theorem check_table_ok (k : Nat) (S : Store) (h : TbOk m sz gs R) : callE (Ph (k + 6)) I_check_table 1 [tbD gs R] S = .ok .non S := by
  have hs6 := h.s6
  have hm1 := h.m1
  refine callP (S1 := []) (by simp [cleans, clean_tb]) ?_ rfl
  have c0 : callE (Ph (k + 5)) I_is_table 1 [tbD gs R] [] = .ok (.bl true) [] := by
    refine callP (S1 := []) (by simp [cleans, clean_tb]) ?_ rfl
    have c1 := are_greys_ok k [] h
    rw [ph (k + 4) I_is_table _ _ n_is_table rfl]
    refine runR (fn := n_is_table) (ds := [tbD gs R]) rfl ?_
    dsimp only [n_is_table, b_is_table]
    show evSs _ _ _ [tbD gs R, .undef, .undef, .undef, .undef, .undef] _ = _
    have i0 : ∀ {ρ : Env} {S : Store}, ρ[0]? = some (tbD gs R) → evE (Ph (k + 4)) (.ix (.var 0) (.cst (.int 0))) ρ S = .ok (tI gs) S := fun hρ => E.ix (E.var hρ rfl) E.cst rfl
    refine Ts.nx (ρ1 := [tbD gs R, .undef, .undef, .undef, .undef, .undef]) (S1 := []) (T.ite (x := .bl false) (u := false) (E.or (x := .bl false) (t := false) (S1 := []) (E.not (x := .bl true) (E.blt (Es.cons (E.var rfl rfl) Es.nil) rfl) rfl) rfl (condF (E.or (x := .bl false) (t := false) (S1 := []) (E.cmp (x := I 2) (E.blt (Es.cons (E.var rfl rfl) Es.nil) rfl) E.cst rfl) rfl (condF (E.not (x := .bl true) (E.call (Es.cons (i0 rfl) Es.nil) c1) rfl))))) rfl (condF Ts.nil)) ?_
    have l1 := len_I gs
    rw [h.gl] at l1
    refine Ts.nx (ρ1 := [tbD gs R, .undef, I m, .tup (R.map rowD), .undef, .undef]) (S1 := []) (T.set (E.tup (Es.cons (E.blt (Es.cons (i0 rfl) Es.nil) l1) (Es.cons (E.ix (E.var rfl rfl) E.cst rfl) Es.nil))) rfl) ?_
    have l2 : bltE .len [.tup (R.map rowD)] = some (I m) := by
      show some (D.int ((R.map rowD).length : Nat)) = _
      rw [List.length_map, h.rl]
      rfl
    have c2 := all_eqs (t := .one 4) (cond := evC (Ph (k + 4)) []) (elt := evE (Ph (k + 4)) (.call I_is_row 1 [.var 2, .var 4])) (ρ := [tbD gs R, .undef, I m, .tup (R.map rowD), .undef, .undef]) (S := []) rowD (l := R) fun row hr => ⟨[tbD gs R, .undef, I m, .tup (R.map rowD), rowD row, .undef], rfl, C.nil, E.call (Es.cons (E.var rfl rfl) (Es.cons (E.var rfl rfl) Es.nil)) (is_row_ok (k + 2) [] h hr)⟩
    refine Ts.nx (ρ1 := [tbD gs R, .undef, I m, .tup (R.map rowD), .undef, .undef]) (S1 := []) (T.ite (x := .bl false) (u := false) (E.or (x := .bl false) (t := false) (S1 := []) (E.not (x := .bl true) (E.blt (Es.cons (E.var rfl rfl) Es.nil) rfl) rfl) rfl (condF (E.or (x := .bl false) (t := false) (S1 := []) (E.cmp (E.blt (Es.cons (E.var rfl rfl) Es.nil) l2) (E.var rfl rfl) (ne_same_I m)) rfl (condF (E.not (x := .bl true) (E.blt (Es.cons (E.comp (Es.cons (E.var rfl rfl) Es.nil) rfl c2) Es.nil) (alls _)) rfl))))) rfl (condF Ts.nil)) ?_
    have l3 : bltE .len [.str (wv R 0 0)] = some (I sz) := by rw [len_rng (by rw [(wv_ok h (o := 0) (n := 0) (by omega) (by omega)).2.1]; omega), (wv_ok h (o := 0) (n := 0) (by omega) (by omega)).2.1]
    have ix0 : ixE (.tup (R.map rowD)) (.int 0) = some (rowD (R.getD 0 [])) := ix_rows h (o := 0) (by omega)
    have ix1 : ixE (rowD (R.getD 0 [])) (.int 0) = some (.str (wv R 0 0)) := ix_row h (o := 0) (n := 0) (by omega) (by omega)
    refine Ts.nx (ρ1 := [tbD gs R, I sz, I m, .tup (R.map rowD), .undef, .undef]) (S1 := []) (T.set (E.blt (Es.cons (E.ix (E.ix (E.var rfl rfl) E.cst ix0) E.cst ix1) Es.nil) l3) rfl) ?_
    refine Ts.rt (T.ret ?_)
    have q : cmpE .le (I sz) (.int 40) = some true := by
      show some (decide ((sz : Int) ≤ 40)) = _
      rw [decide_eq_true (by omega)]
    refine E.and (x := .bl true) (S1 := []) (E.cmp (E.var rfl rfl) E.glob q) rfl (condT ?_)
    have c3 := all_eqs (t := .one 4) (cond := evC (Ph (k + 4)) []) (elt := evE (Ph (k + 4)) (.blt .all [.comp (.cmp .eq (.blt .len [.var 5]) (.var 1)) (.one 5) [5] .of [.var 4] []])) (ρ := [tbD gs R, I sz, I m, .tup (R.map rowD), .undef, .undef]) (S := []) rowD (l := R) fun row hr => by
      refine ⟨[tbD gs R, I sz, I m, .tup (R.map rowD), rowD row, .undef], rfl, C.nil, ?_⟩
      have c4 := all_eqs (t := .one 5) (cond := evC (Ph (k + 4)) []) (elt := evE (Ph (k + 4)) (.cmp .eq (.blt .len [.var 5]) (.var 1))) (ρ := [tbD gs R, I sz, I m, .tup (R.map rowD), rowD row, .undef]) (S := []) D.str (l := row) fun w hw => by
        refine ⟨[tbD gs R, I sz, I m, .tup (R.map rowD), rowD row, .str w], rfl, C.nil, ?_⟩
        have l4 : bltE .len [.str w] = some (I sz) := by rw [len_rng (by rw [((h.rw row hr).2 w hw).2]; omega), ((h.rw row hr).2 w hw).2]
        exact E.cmp (E.blt (ds := [.str w]) (Es.cons (E.var rfl rfl) Es.nil) l4) (E.var rfl rfl) (eq_same_I sz)
      exact E.blt (Es.cons (E.comp (Es.cons (E.var rfl rfl) Es.nil) rfl c4) Es.nil) (alls _)
    exact E.blt (Es.cons (E.comp (Es.cons (E.var rfl rfl) Es.nil) rfl c3) Es.nil) (alls _)
  rw [ph (k + 5) I_check_table _ _ n_check_table rfl]
  refine runN (ρ := [tbD gs R]) (fn := n_check_table) (ds := [tbD gs R]) rfl ?_
  dsimp only [n_check_table, b_check_table]
  show evSs _ _ _ [tbD gs R] _ = _
  exact Ts.nx (T.ite (x := .bl false) (u := false) (E.not (x := .bl true) (E.call (Es.cons (E.var rfl rfl) Es.nil) c0) rfl) rfl (condF Ts.nil)) Ts.nil
end
end NgB
end

section
set_option autoImplicit false
set_option maxRecDepth 100000
set_option maxHeartbeats 1000000
namespace NgB
open NG
def sumI (l : List Int) : Int := l.foldl (· + ·) 0
def sumZ (l : List Int) : List Int := (List.range (l.length + 1)).map fun i => sumI (l.take i)
theorem sumI_snoc (l : List Int) (c : Int) : sumI (l ++ [c]) = sumI l + c := by
  unfold sumI
  rw [List.foldl_append]
  rfl
theorem fold_sum : ∀ (l : List Int) (a : Int), l.foldl (· + ·) a = a + l.sum
  | [], a => by simp
  | x :: l, a => by rw [List.foldl_cons, fold_sum l, List.sum_cons]; omega
theorem sumI_sum (l : List Int) : sumI l = l.sum := by
  unfold sumI
  rw [fold_sum]
  omega
theorem sumZ_snoc (l : List Int) (c : Int) : sumZ (l ++ [c]) = sumZ l ++ [sumI l + c] := by
  unfold sumZ
  rw [List.length_append, List.length_singleton, List.range_succ, List.map_append, List.map_singleton, List.take_of_length_le (show (l ++ [c]).length ≤ l.length + 1 by simp), sumI_snoc]
  congr 1
  refine List.map_congr_left fun j hj => ?_
  have := List.mem_range.mp hj
  rw [List.take_append_of_le_length (by omega)]
theorem sumZ_last (l : List Int) : ixE (.lst (zD (sumZ l))) (.int (-1)) = some (.int (sumI l)) := by
  have hne : zD (sumZ l) ≠ [] := by
    unfold sumZ
    rw [List.range_succ]
    simp
  show atIx (zD (sumZ l)) (-1) = _
  rw [at_last _ hne]
  have : (zD (sumZ l)).length - 1 = l.length := by rw [List.length_map]; unfold sumZ; rw [List.length_map, List.length_range]; omega
  rw [this, List.getElem?_map]
  unfold sumZ
  rw [List.getElem?_map, List.getElem?_range (by omega)]
  simp
theorem sumZ_len (l : List Int) : (sumZ l).length = l.length + 1 := by
  unfold sumZ
  rw [List.length_map, List.length_range]
/-- a list of sums that grows by one -/
theorem sum_step {Φ : Phi} {W n i : Nat} {ρ : Env} {S : Store} {l : List Int} {c : Int} {e : CE} (h0 : ρ[i]? = some (.ref n)) (hS : S[n]? = some (.lst (zD (sumZ l)))) (hl : l.length ≤ 10000) (he : evE Φ e ρ S = .ok (.int c) S) :
    evS W Φ (.expr (.mut 0 i [.bop .add (.ix (.var i) (.neg (.cst (.int 1)))) e])) ρ S = .ok (.nx ρ) (S.set n (.lst (zD (sumZ (l ++ [c]))))) ∧ (S.set n (.lst (zD (sumZ (l ++ [c])))))[n]? = some (.lst (zD (sumZ (l ++ [c])))) := by
  have hL' : (LIM : Nat) = 16777216 := rfl
  have e2 : evE Φ (.ix (.var i) (.neg (.cst (.int 1)))) ρ S = .ok (.int (sumI l)) S := by
    refine E.ix (x := .ref n) (E.var h0 rfl) (E.neg E.cst) ?_
    rw [vq_lst hS]
    exact sumZ_last _
  have e4 := E.bop (w := .add) e2 he rfl
  have hz : zD (sumZ (l ++ [c])) = zD (sumZ l) ++ [.int (sumI l + c)] := by
    rw [sumZ_snoc]
    unfold zD
    rw [List.map_append]
    rfl
  have hm : mutE 0 (.lst (zD (sumZ l))) [.int (sumI l + c)] = some (.non, .lst (zD (sumZ (l ++ [c])))) := by
    rw [hz]
    refine if_pos ?_
    rw [List.length_map, sumZ_len]
    omega
  exact ⟨T.expr (F.mutS (n := n) h0 (live_of hS) (Es.cons e4 Es.nil) hS mutA_0 hm rfl), List.getElem?_set_self (List.getElem?_eq_some_iff.mp hS).1⟩
section
variable {m sz : Nat} {gs : List Nat} {R : List (List (List Nat))}
/-- wishes, two by two -/
def prs (ws : List Nat) : List (Nat × Nat) := ws.zip ws.tail
def chs (R : List (List (List Nat))) (ws : List Nat) : List Int := (prs ws).map fun p => ch R p.1 p.2
theorem zip2_I : ∀ a b : List Nat, zip2 (a.map I) (b.map I) = (a.zip b).map fun p => .tup [I p.1, I p.2]
  | [], _ => rfl
  | _ :: _, [] => rfl
  | x :: a, y :: b => by
    show D.tup [I x, I y] :: zip2 (a.map I) (b.map I) = _
    rw [zip2_I a b]
    rfl
theorem prs_mem {ws : List Nat} {p : Nat × Nat} (h : p ∈ prs ws) : p.1 ∈ ws ∧ p.2 ∈ ws := by
  have := List.of_mem_zip h
  exact ⟨this.1, List.mem_of_mem_tail this.2⟩
theorem prs_len (ws : List Nat) : (prs ws).length = ws.length - 1 := by
  unfold prs
  rw [List.length_zip, List.length_tail]
  omega
theorem compM {α : Type} (f : α → D) {t : Tg} {cond : Env → Store → NG.R Bool} {elt : Env → Store → NG.R D} {ρ : Env} {S : Store} (g : α → D) : ∀ {l : List α}, (∀ x ∈ l, ∃ ρ1, asg t (f x) ρ = some ρ1 ∧ cond ρ1 S = .ok true S ∧ elt ρ1 S = .ok (g x) S) →
    compL t cond elt ρ (l.map f) S = .ok (l.map g) S
  | [], _ => compL_nil
  | x :: l, h => by
    obtain ⟨ρ1, h1, h2, h3⟩ := h x (List.mem_cons_self ..)
    have ih := compM f g fun y hy => h y (List.mem_cons_of_mem _ hy)
    rw [List.map_cons, compL_cons, h1]
    simp only [h2, bind_ok', if_true, h3, ih, List.map_cons]
theorem cleanS (l : List (List Nat)) : cleans (l.map D.str) = true := clean_row l
theorem waves_of_ok (k : Nat) (S : Store) (h : TbOk m sz gs R) {ws : List Nat} (hw : ∀ x ∈ ws, x < m) : callE (Ph (k + 1)) I_waves_of 1 [tbD gs R, tI ws] S = .ok (.lst (((prs ws).map fun p => wv R p.1 p.2).map D.str)) S := by
  refine callP (S1 := []) (by simp [cleans, clean_tb, clean_tI]) ?_ (cleanS _)
  rw [ph k I_waves_of _ _ n_waves_of rfl]
  refine runR (fn := n_waves_of) (ds := [tbD gs R, tI ws]) rfl ?_
  dsimp only [n_waves_of, b_waves_of]
  show evSs _ _ _ [tbD gs R, tI ws, .undef, .undef] _ = _
  have s1 : slE (tI ws) (some 1) none = some (tI ws.tail) := by
    show some (D.tup (cutL (ws.map I) (some ((1 : Nat) : Int)) none)) = _
    rw [cut_drop, List.drop_one, ← List.map_tail]
    rfl
  have i1 : iterE .zip2 [tI ws, tI ws.tail] = some ((prs ws).map fun p => .tup [I p.1, I p.2]) := by
    show some (zip2 (ws.map I) (ws.tail.map I)) = _
    rw [zip2_I]
    rfl
  have c := compM (fun p : Nat × Nat => D.tup [I p.1, I p.2]) (t := .tup [.one 2, .one 3]) (cond := evC (Ph k) []) (elt := evE (Ph k) (.ix (.ix (.ix (.var 0) (.cst (.int 1))) (.var 2)) (.var 3))) (ρ := [tbD gs R, tI ws, .undef, .undef]) (S := []) (fun p => .str (wv R p.1 p.2)) (l := prs ws) fun p hp => by
    obtain ⟨p1, p2⟩ := prs_mem hp
    exact ⟨[tbD gs R, tI ws, I p.1, I p.2], rfl, C.nil, cell_ev h (hw _ p1) (hw _ p2) (E.var rfl rfl) (E.var rfl rfl) (E.var rfl rfl)⟩
  rw [List.map_map]
  exact Ts.rt (T.ret (E.comp (Es.cons (E.var rfl rfl) (Es.cons (E.sl (x := tI ws) (E.var rfl rfl) (Es.cons E.cst Es.nil) Es.nil rfl rfl s1) Es.nil)) i1 c))
theorem sums_of_ok (k : Nat) (h : TbOk m sz gs R) {ws : List Nat} (hw : ∀ x ∈ ws, x < m) (hl : ws.length ≤ 1000) (S : Store) : callE (Ph (k + 2)) I_sums_of 1 [tbD gs R, tI ws] S = .ok (.lst (zD (sumZ (chs R ws)))) S := by
  have c1 := waves_of_ok k [.lst (zD (sumZ []))] h hw
  obtain ⟨ρ', S', e1, ⟨c', hρ⟩, hS⟩ := forL_inv (t := .one 3) (body := evSs 1000 (Ph (k + 1)) [.expr (.mut 0 2 [.bop .add (.ix (.var 2) (.neg (.cst (.int 1)))) (.call I_charge_by 1 [.var 3])])]) (its := (((prs ws).map fun p => wv R p.1 p.2).map D.str))
    (fun i ρ S => (∃ c, ρ = [tbD gs R, tI ws, .ref 0, c]) ∧ S[0]? = some (.lst (zD (sumZ ((chs R ws).take i))))) 0 [tbD gs R, tI ws, .ref 0, .undef] [.lst (zD (sumZ []))] (Nat.zero_le _) ⟨⟨_, rfl⟩, rfl⟩ fun i d ρ S hi hp => by
      obtain ⟨⟨c, rfl⟩, hS⟩ := hp
      rw [List.map_map, List.getElem?_map] at hi
      obtain ⟨p, hp, rfl⟩ := Option.map_eq_some_iff.mp hi
      have htk : (chs R ws).take (i + 1) = (chs R ws).take i ++ [ch R p.1 p.2] := by
        rw [List.take_add_one]
        congr 1
        unfold chs
        rw [List.getElem?_map, hp]
        rfl
      have hcl : ((chs R ws).take i).length ≤ 10000 := by
        have := prs_len ws
        unfold chs
        rw [List.length_take, List.length_map]
        omega
      obtain ⟨s1, s2⟩ := sum_step (Φ := Ph (k + 1)) (W := 1000) (i := 2) (ρ := [tbD gs R, tI ws, .ref 0, .str (wv R p.1 p.2)]) rfl hS hcl (c := ch R p.1 p.2) (e := .call I_charge_by 1 [.var 3]) (E.call (Es.cons (E.var rfl rfl) Es.nil) (call_charge k S _))
      rw [htk]
      exact ⟨_, _, _, rfl, .inl (Ts.nx s1 Ts.nil), ⟨_, rfl⟩, s2⟩
  rw [List.drop_zero, hρ] at e1
  rw [List.length_map, List.length_map, show (prs ws).length = (chs R ws).length from by unfold chs; rw [List.length_map], List.take_length] at hS
  refine callP (S1 := S'.set 0 .dead) (by simp [cleans, clean_tb, clean_tI]) ?_ (clean_zD _)
  rw [ph (k + 1) I_sums_of _ _ n_sums_of rfl]
  refine runR (fn := n_sums_of) (ds := [tbD gs R, tI ws]) rfl ?_
  dsimp only [n_sums_of, b_sums_of]
  show evSs _ _ _ [tbD gs R, tI ws, .undef, .undef] _ = _
  refine Ts.nx (ρ1 := [tbD gs R, tI ws, .ref 0, .undef]) (S1 := [.lst (zD (sumZ []))]) (T.set (E.alloc (E.lst (Es.cons E.cst Es.nil))) rfl) ?_
  refine Ts.nx (T.for (Es.cons (E.call (Es.cons (E.var rfl rfl) (Es.cons (E.var rfl rfl) Es.nil)) c1) Es.nil) rfl e1) ?_
  refine Ts.nx (T.ghost (n := 0) rfl hS) ?_
  exact Ts.rt (T.ret (E.var rfl rfl))
/-- what are wishes: any plain value -/
theorem check_wishes_ok (k : Nat) (S : Store) (h : TbOk m sz gs R) {ws : List Nat} (hw : ∀ x ∈ ws, x < m) (h1 : 1 ≤ ws.length) (hl : ws.length ≤ 200) : callE (Ph (k + 5)) I_check_wishes 1 [tbD gs R, tI ws] S = .ok .non S := by
  have hm1 := h.m1
  refine callP (S1 := []) (by simp [cleans, clean_tb, clean_tI]) ?_ rfl
  have c0 : callE (Ph (k + 4)) I_are_wishes 1 [tbD gs R, tI ws] [] = .ok (.bl true) [] := by
    refine callP (S1 := []) (by simp [cleans, clean_tb, clean_tI]) ?_ rfl
    have l1 := len_I gs
    rw [h.gl] at l1
    have c1 : callE (Ph (k + 3)) I_are_between 1 [tI ws, .int 0, I (m - 1)] [] = .ok (.bl true) [] := by
      have e := are_between_ok k [] (ws.map I) 0 ((m - 1 : Nat) : Int) (ib_I ws)
      have e2 : (ws.map I).all (btw 0 ((m - 1 : Nat) : Int)) = true := by
        rw [all_btw, List.all_eq_true]
        exact fun x hx => decide_eq_true (by have := hw x hx; omega)
      rw [e2] at e
      exact callP (by simp [cleans, clean_tI, clean, I]) e rfl
    have l2 := len_I ws
    rw [ph (k + 3) I_are_wishes _ _ n_are_wishes rfl]
    refine runR (fn := n_are_wishes) (ds := [tbD gs R, tI ws]) rfl ?_
    dsimp only [n_are_wishes, b_are_wishes]
    show evSs _ _ _ [tbD gs R, tI ws] _ = _
    refine Ts.rt (T.ret ?_)
    refine E.and (E.call (Es.cons (E.var rfl rfl) (Es.cons E.cst (Es.cons (E.bop (E.blt (Es.cons (E.ix (x := tbD gs R) (E.var rfl rfl) E.cst rfl) Es.nil) l1) E.cst (sub1_I m hm1)) Es.nil))) c1) rfl (condT ?_)
    have e3 := E.cmp2I (Φ := Ph (k + 3)) (ρ := [tbD gs R, tI ws]) (S := []) (a := .cst (.int 1)) (b := .blt .len [.var 1]) (c := .glob (.int 200)) (j := ws.length) E.cst (E.blt (Es.cons (E.var rfl rfl) Es.nil) l2) E.glob
    rw [decide_eq_true (show (1 : Int) ≤ (ws.length : Int) by omega), decide_eq_true (show (ws.length : Int) ≤ 200 by omega)] at e3
    exact e3
  rw [ph (k + 4) I_check_wishes _ _ n_check_wishes rfl]
  refine runN (ρ := [tbD gs R, tI ws]) (fn := n_check_wishes) (ds := [tbD gs R, tI ws]) rfl ?_
  dsimp only [n_check_wishes, b_check_wishes]
  show evSs _ _ _ [tbD gs R, tI ws] _ = _
  exact Ts.nx (T.ite (x := .bl false) (u := false) (E.not (x := .bl true) (E.call (Es.cons (E.var rfl rfl) (Es.cons (E.var rfl rfl) Es.nil)) c0) rfl) rfl (condF Ts.nil)) Ts.nil
theorem row_charges_ok (k : Nat) (S : Store) (h : TbOk m sz gs R) {ws : List Nat} (hw : ∀ x ∈ ws, x < m) (h1 : 1 ≤ ws.length) (hl : ws.length ≤ 200) : Ph (k + 7) I_row_charges [tbD gs R, tI ws] S = .ok (.tup (zD (sumZ (chs R ws)))) S := by
  have c1 := check_table_ok k S h
  have c2 := check_wishes_ok (k + 1) S h hw h1 hl
  have c3 := sums_of_ok (k + 4) h hw (by omega) S
  rw [ph (k + 6) I_row_charges _ _ n_row_charges rfl]
  refine runR (fn := n_row_charges) (ds := [tbD gs R, tI ws]) rfl ?_
  dsimp only [n_row_charges, b_row_charges]
  show evSs _ _ _ [tbD gs R, tI ws] _ = _
  refine Ts.nx (T.expr (E.call (Es.cons (E.var rfl rfl) Es.nil) c1)) ?_
  refine Ts.nx (T.expr (E.call (Es.cons (E.var rfl rfl) (Es.cons (E.var rfl rfl) Es.nil)) c2)) ?_
  exact Ts.rt (T.ret (E.blt (Es.cons (E.call (Es.cons (E.var rfl rfl) (Es.cons (E.var rfl rfl) Es.nil)) c3) Es.nil) rfl))
/-- the heights from the first grey -/
def hgt (R : List (List (List Nat))) (m : Nat) : List Int := 0 :: ((List.range (m - 1)).map fun i => ch R 0 (i + 1))
theorem rngL_1 (m : Nat) (h : 1 ≤ m) : rngL 1 ((m : Int) - 1).toNat = ((List.range (m - 1)).map fun i => i + 1).map I := by
  have g : ∀ (n : Nat) (a : Nat), rngL (a : Int) n = ((List.range n).map fun i => i + a).map I := by
    intro n
    induction n with
    | zero => intro a; rfl
    | succ n ih =>
      intro a
      rw [List.range_succ_eq_map]
      show D.int a :: rngL ((a : Int) + 1) n = _
      have := ih (a + 1)
      rw [show (((a + 1 : Nat) : Int)) = (a : Int) + 1 by omega] at this
      rw [this]
      simp only [List.map_cons, List.map_map]
      congr 1
      · show D.int (a : Int) = D.int ((0 + a : Nat) : Int)
        rw [Nat.zero_add]
      · refine List.map_congr_left fun i _ => ?_
        show D.int ((i + (a + 1) : Nat) : Int) = D.int ((i + 1 + a : Nat) : Int)
        congr 2
        omega
  have := g (m - 1) 1
  rw [show ((m : Int) - 1).toNat = m - 1 by omega]
  exact this
theorem it_rng2 (m : Nat) (h1 : 1 ≤ m) (h : m ≤ 1000) : iterE .rng2 [.int 1, I m] = some (((List.range (m - 1)).map fun i => i + 1).map I) := by
  have hL' : (LIM : Nat) = 16777216 := rfl
  show (if -(LIM : Int) ≤ 1 ∧ (1 : Int) ≤ LIM ∧ -(LIM : Int) ≤ (m : Int) ∧ (m : Int) ≤ LIM ∧ (m : Int) - 1 ≤ LIM then some (rngL 1 ((m : Int) - 1).toNat) else none) = _
  rw [if_pos (by omega), rngL_1 m h1]
theorem hgt_D (R : List (List (List Nat))) (m : Nat) : zD (hgt R m) = .int 0 :: (((List.range (m - 1)).map fun i => i + 1).map fun i => .int (ch R 0 i)) := by
  unfold hgt zD
  rw [List.map_cons, List.map_map, List.map_map]
  rfl
theorem hgt_len (R : List (List (List Nat))) {m : Nat} (h : 1 ≤ m) : (hgt R m).length = m := by
  unfold hgt
  rw [List.length_cons, List.length_map, List.length_range]
  omega
theorem heights_ok (k : Nat) (S : Store) (h : TbOk m sz gs R) : callE (Ph (k + 3)) I_heights_of 1 [tbD gs R] S = .ok (.lst (zD (hgt R m))) S := by
  have hm1 := h.m1
  have hm4 := h.m4
  have hL' : (LIM : Nat) = 16777216 := rfl
  have l1 := len_I gs
  rw [h.gl] at l1
  refine callP (S1 := []) (by simp [cleans, clean_tb]) ?_ (clean_zD _)
  rw [ph (k + 2) I_heights_of _ _ n_heights_of rfl]
  refine runR (fn := n_heights_of) (ds := [tbD gs R]) rfl ?_
  dsimp only [n_heights_of, b_heights_of]
  show evSs _ _ _ [tbD gs R, .undef] _ = _
  have c := compI (t := .one 1) (cond := evC (Ph (k + 2)) []) (elt := evE (Ph (k + 2)) (.call I_charge_at 1 [.var 0, .cst (.int 0), .var 1])) (ρ := [tbD gs R, .undef]) (S := []) (fun i => .int (ch R 0 i)) (l := (List.range (m - 1)).map fun i => i + 1) fun i hi => by
    obtain ⟨j, hj, rfl⟩ := List.mem_map.mp hi
    have hj := List.mem_range.mp hj
    exact ⟨[tbD gs R, I (j + 1)], rfl, C.nil, E.call (Es.cons (E.var rfl rfl) (Es.cons E.cst (Es.cons (E.var rfl rfl) Es.nil))) (charge_at_ok k [] h (o := 0) (n := j + 1) (by omega) (by omega))⟩
  rw [hgt_D]
  refine Ts.rt (T.ret (E.bop (E.lst (Es.cons E.cst Es.nil)) (E.comp (Es.cons E.cst (Es.cons (E.blt (Es.cons (E.ix (x := tbD gs R) (E.var rfl rfl) E.cst rfl) Es.nil) l1) Es.nil)) (it_rng2 m hm1 (by omega)) c) ?_))
  refine o_cat_lst (l := [.int 0]) _ ?_
  rw [List.length_map, List.length_map, List.length_range]
  show 1 + _ ≤ _
  omega
end
end NgB
end

section
set_option autoImplicit false
set_option maxRecDepth 100000
set_option maxHeartbeats 1000000
namespace NgB
open NG
/-- a loop that returns False at the first that fails -/
theorem forL_all {α : Type} {t : Tg} {body : Env → Store → NG.R Fl} {S : Store} (p : α → Bool) (f : α → D) (P : Env → Prop) : ∀ (l : List α) (ρ : Env), P ρ → (∀ x ∈ l, ∀ ρ, P ρ → ∃ ρ1, asg t (f x) ρ = some ρ1 ∧ (p x = true → ∃ ρ2, P ρ2 ∧ body ρ1 S = .ok (.nx ρ2) S) ∧ (p x = false → body ρ1 S = .ok (.rt (.bl false)) S)) →
    (l.all p = true → ∃ ρ', P ρ' ∧ forL t body (l.map f) ρ S = .ok (.nx ρ') S) ∧ (l.all p = false → forL t body (l.map f) ρ S = .ok (.rt (.bl false)) S)
  | [], ρ, hp, _ => ⟨fun _ => ⟨ρ, hp, forL_nil⟩, fun h => by simp at h⟩
  | x :: l, ρ, hp, h => by
    obtain ⟨ρ1, h1, h2, h3⟩ := h x (List.mem_cons_self ..) ρ hp
    have fc : forL t body ((x :: l).map f) ρ S = (body ρ1 S).bind (fun fl S1 => match fl with
      | .nx ρ2 => forL t body (l.map f) ρ2 S1
      | .ct ρ2 => forL t body (l.map f) ρ2 S1
      | .bk ρ2 => .ok (.nx ρ2) S1
      | .rt d => .ok (.rt d) S1) := by
      rw [List.map_cons, forL_cons, h1] <;> rfl
    rw [fc, List.all_cons]
    cases e : p x with
    | false =>
      rw [h3 e]
      exact ⟨fun z => by simp at z, fun _ => rfl⟩
    | true =>
      obtain ⟨ρ2, p2, b2⟩ := h2 e
      rw [b2]
      exact forL_all p f P l ρ2 p2 fun y hy => h y (List.mem_cons_of_mem _ hy)
theorem compMF {α : Type} (f : α → D) {t : Tg} {cond : Env → Store → NG.R Bool} {elt : Env → Store → NG.R D} {ρ : Env} {S : Store} (p : α → Bool) (g : α → D) : ∀ {l : List α}, (∀ x ∈ l, ∃ ρ1, asg t (f x) ρ = some ρ1 ∧ cond ρ1 S = .ok (p x) S ∧ elt ρ1 S = .ok (g x) S) →
    compL t cond elt ρ (l.map f) S = .ok ((l.filter p).map g) S
  | [], _ => compL_nil
  | x :: l, h => by
    obtain ⟨ρ1, h1, h2, h3⟩ := h x (List.mem_cons_self ..)
    have ih := compMF f p g fun y hy => h y (List.mem_cons_of_mem _ hy)
    rw [List.map_cons, compL_cons, h1]
    simp only [h2, bind_ok', ih, h3]
    cases hp : p x with
    | true => simp only [if_true, List.filter_cons, hp, List.map_cons]
    | false => simp only [Bool.false_eq_true, if_false, List.filter_cons, hp]
section
variable {m sz : Nat} {gs : List Nat} {R : List (List (List Nat))}
def lvB (R : List (List (List Nat))) (m : Nat) (hs : List Int) : Bool := (List.range m).all fun o => (List.range m).all fun n => decide (ch R o n = hs.getD n 0 - hs.getD o 0)
theorem enumF_R : ∀ (R : List (List (List Nat))) (n : Nat), enumF n (R.map rowD) = (List.range R.length).map fun i => .tup [I (n + i), rowD (R.getD i [])]
  | [], n => rfl
  | row :: R, n => by
    show D.tup [I n, rowD row] :: enumF (n + 1) (R.map rowD) = _
    rw [enumF_R R (n + 1), List.length_cons, List.range_succ_eq_map, List.map_cons, List.map_map]
    congr 1
    refine List.map_congr_left fun i _ => ?_
    show D.tup [I (n + 1 + i), rowD (R.getD i [])] = D.tup [I (n + (i + 1)), rowD ((row :: R).getD (i + 1) [])]
    rw [show n + 1 + i = n + (i + 1) by omega]
    rfl
theorem sub_Z (a b : Int) : bopE .sub (.int a) (.int b) = some (.int (a - b)) := rfl
theorem ne_ZZ (a b : Int) : cmpE .ne (.int a) (.int b) = some (!decide (a = b)) := by
  rw [c_ne_ok _ _ rfl]
  rfl
theorem is_level_ok (k : Nat) (S : Store) (h : TbOk m sz gs R) {hD : D} {hs : List Int} (hx : ∀ i, i < m → ixE hD (I i) = some (.int (hs.getD i 0))) (hr : isRef hD = false) (hu : isU hD = false) (hc : clean hD = true) : callE (Ph (k + 3)) I_is_level 1 [tbD gs R, hD] S = .ok (.bl (lvB R m hs)) S := by
  have hm4 := h.m4
  have hL' : (LIM : Nat) = 16777216 := rfl
  refine callP (S1 := []) (by simp [cleans, clean_tb, hc]) ?_ rfl
  rw [ph (k + 2) I_is_level _ _ n_is_level rfl]
  refine runR (fn := n_is_level) (ds := [tbD gs R, hD]) rfl ?_
  dsimp only [n_is_level, b_is_level]
  show evSs _ _ _ [tbD gs R, hD, .undef, .undef, .undef] _ = _
  have vh : ∀ S, vw S hD = hD := fun S => vw_id hr
  have inner : ∀ o, o < m → ∀ a4, ((List.range m).all (fun n => decide (ch R o n = hs.getD n 0 - hs.getD o 0)) = true → ∃ ρ', (∃ c, ρ' = [tbD gs R, hD, I o, rowD (R.getD o []), c]) ∧ forL (.one 4) (evSs 1000 (Ph (k + 2)) [.ite (.cmp .ne (.call I_charge_at 1 [.var 0, .var 2, .var 4]) (.bop .sub (.ix (.var 1) (.var 4)) (.ix (.var 1) (.var 2)))) [.ret (.cst (.bl false))] []]) ((List.range m).map I) [tbD gs R, hD, I o, rowD (R.getD o []), a4] [] = .ok (.nx ρ') []) ∧
      ((List.range m).all (fun n => decide (ch R o n = hs.getD n 0 - hs.getD o 0)) = false → forL (.one 4) (evSs 1000 (Ph (k + 2)) [.ite (.cmp .ne (.call I_charge_at 1 [.var 0, .var 2, .var 4]) (.bop .sub (.ix (.var 1) (.var 4)) (.ix (.var 1) (.var 2)))) [.ret (.cst (.bl false))] []]) ((List.range m).map I) [tbD gs R, hD, I o, rowD (R.getD o []), a4] [] = .ok (.rt (.bl false)) []) := by
    intro o ho a4
    refine forL_all (fun n => decide (ch R o n = hs.getD n 0 - hs.getD o 0)) I (fun ρ => ∃ c, ρ = [tbD gs R, hD, I o, rowD (R.getD o []), c]) (List.range m) _ ⟨_, rfl⟩ fun n hn ρ hρ => ?_
    obtain ⟨c, rfl⟩ := hρ
    have hn := List.mem_range.mp hn
    have e1 : evE (Ph (k + 2)) (.cmp .ne (.call I_charge_at 1 [.var 0, .var 2, .var 4]) (.bop .sub (.ix (.var 1) (.var 4)) (.ix (.var 1) (.var 2)))) [tbD gs R, hD, I o, rowD (R.getD o []), I n] [] = .ok (.bl (!decide (ch R o n = hs.getD n 0 - hs.getD o 0))) [] := by
      have x1 : evE (Ph (k + 2)) (.ix (.var 1) (.var 4)) [tbD gs R, hD, I o, rowD (R.getD o []), I n] [] = .ok (.int (hs.getD n 0)) [] := E.ix (x := hD) (y := I n) (E.var rfl hu) (E.var rfl rfl) (by rw [vh]; exact hx n hn)
      have x2 : evE (Ph (k + 2)) (.ix (.var 1) (.var 2)) [tbD gs R, hD, I o, rowD (R.getD o []), I n] [] = .ok (.int (hs.getD o 0)) [] := E.ix (x := hD) (y := I o) (E.var rfl hu) (E.var rfl rfl) (by rw [vh]; exact hx o ho)
      exact E.cmp (E.call (Es.cons (E.var rfl rfl) (Es.cons (E.var rfl rfl) (Es.cons (E.var rfl rfl) Es.nil))) (charge_at_ok k [] h ho hn)) (E.bop x1 x2 rfl) (ne_ZZ _ _)
    refine ⟨[tbD gs R, hD, I o, rowD (R.getD o []), I n], rfl, fun e => ?_, fun e => ?_⟩
    · rw [e] at e1
      exact ⟨_, ⟨_, rfl⟩, Ts.nx (T.ite (x := .bl false) (u := false) e1 rfl (condF Ts.nil)) Ts.nil⟩
    · rw [e] at e1
      exact Ts.rt (T.ite (x := .bl true) (u := true) e1 rfl (condT (Ts.rt (T.ret E.cst))))
  have outer := forL_all (t := .tup [.one 2, .one 3]) (body := evSs 1000 (Ph (k + 2)) [.for (.one 4) .rng1 [.blt .len [.var 3]] [.ite (.cmp .ne (.call I_charge_at 1 [.var 0, .var 2, .var 4]) (.bop .sub (.ix (.var 1) (.var 4)) (.ix (.var 1) (.var 2)))) [.ret (.cst (.bl false))] []]]) (S := []) (fun o => (List.range m).all (fun n => decide (ch R o n = hs.getD n 0 - hs.getD o 0))) (fun o => D.tup [I o, rowD (R.getD o [])]) (fun ρ => ∃ a b c, ρ = [tbD gs R, hD, a, b, c]) (List.range m) [tbD gs R, hD, .undef, .undef, .undef] ⟨_, _, _, rfl⟩ fun o ho ρ hρ => by
    obtain ⟨a, b, c, rfl⟩ := hρ
    have ho := List.mem_range.mp ho
    obtain ⟨i1, i2⟩ := inner o ho c
    have l1 : bltE .len [rowD (R.getD o [])] = some (I m) := by
      show some (D.int (((R.getD o []).map D.str).length : Nat)) = _
      rw [List.length_map, (h.rw _ (getD_in (l := R) (d := []) (by rw [h.rl]; exact ho)).1).1]
      rfl
    have rg := rng_ok m (by omega)
    refine ⟨[tbD gs R, hD, I o, rowD (R.getD o []), c], rfl, fun e => ?_, fun e => ?_⟩
    · obtain ⟨ρ', ⟨c', rfl⟩, e'⟩ := i1 e
      exact ⟨_, ⟨_, _, _, rfl⟩, Ts.nx (T.for (Es.cons (E.blt (Es.cons (E.var rfl rfl) Es.nil) l1) Es.nil) rg e') Ts.nil⟩
    · exact Ts.rt (T.for (Es.cons (E.blt (Es.cons (E.var rfl rfl) Es.nil) l1) Es.nil) rg (i2 e))
  have it : iterE .enum [.tup (R.map rowD)] = some ((List.range m).map fun o => D.tup [I o, rowD (R.getD o [])]) := by
    show some (enumF 0 (R.map rowD)) = _
    rw [enumF_R, h.rl]
    simp only [Nat.zero_add]
  have src : evEs (Ph (k + 2)) [.ix (.var 0) (.cst (.int 1))] [tbD gs R, hD, .undef, .undef, .undef] [] = .ok [.tup (R.map rowD)] [] := Es.cons (E.ix (x := tbD gs R) (E.var rfl rfl) E.cst rfl) Es.nil
  cases e : lvB R m hs with
  | true =>
    obtain ⟨ρ', ⟨a, b, c, rfl⟩, e'⟩ := outer.1 e
    exact Ts.nx (T.for src it e') (Ts.rt (T.ret E.cst))
  | false => exact Ts.rt (T.for src it (outer.2 e))
/-! rounds -/
def rin (m o t : Nat) : List (List Nat) := [o, t, o] :: (List.range m).map fun h => [o, t, h, o]
def rout (m o : Nat) : List (List Nat) := [o, o] :: (List.range m).flatMap fun t => rin m o t
def rnds (m : Nat) : List (List Nat) := (List.range m).flatMap fun o => rout m o
theorem mem_rnds {m : Nat} {ws : List Nat} (h : ws ∈ rnds m) : (∀ x ∈ ws, x < m) ∧ 2 ≤ ws.length ∧ ws.length ≤ 4 ∧ ws.head? = ws.getLast? := by
  obtain ⟨o, ho, h⟩ := List.mem_flatMap.mp h
  have ho := List.mem_range.mp ho
  rcases List.mem_cons.mp h with rfl | h
  · exact ⟨by simp; omega, by simp, by simp, rfl⟩
  · obtain ⟨t, ht, h⟩ := List.mem_flatMap.mp h
    have ht := List.mem_range.mp ht
    rcases List.mem_cons.mp h with rfl | h
    · exact ⟨by simp; omega, by simp, by simp, rfl⟩
    · obtain ⟨q, hq, rfl⟩ := List.mem_map.mp h
      have hq := List.mem_range.mp hq
      exact ⟨by simp; omega, by simp, by simp, rfl⟩
theorem rnds_2 {m o : Nat} (h : o < m) : [o, o] ∈ rnds m := List.mem_flatMap.mpr ⟨o, List.mem_range.mpr h, List.mem_cons_self ..⟩
theorem rnds_3 {m o t : Nat} (h : o < m) (h2 : t < m) : [o, t, o] ∈ rnds m := List.mem_flatMap.mpr ⟨o, List.mem_range.mpr h, List.mem_cons_of_mem _ (List.mem_flatMap.mpr ⟨t, List.mem_range.mpr h2, List.mem_cons_self ..⟩)⟩
theorem rnds_4 {m o t q : Nat} (h : o < m) (h2 : t < m) (h3 : q < m) : [o, t, q, o] ∈ rnds m := List.mem_flatMap.mpr ⟨o, List.mem_range.mpr h, List.mem_cons_of_mem _ (List.mem_flatMap.mpr ⟨t, List.mem_range.mpr h2, List.mem_cons_of_mem _ (List.mem_map.mpr ⟨q, List.mem_range.mpr h3, rfl⟩)⟩)⟩
/-- where no heights fit, some round leaves a charge -/
theorem round_ex (R : List (List (List Nat))) {m : Nat} (hm : 1 ≤ m) (h : lvB R m (hgt R m) = false) : ∃ ws ∈ rnds m, sumI (chs R ws) ≠ 0 := by
  apply Classical.byContradiction
  intro hno
  have hz : ∀ ws ∈ rnds m, sumI (chs R ws) = 0 := fun ws hw => by
    apply Classical.byContradiction
    intro hne
    exact hno ⟨ws, hw, hne⟩
  have z2 : ∀ o, o < m → ch R o o = 0 := fun o ho => by
    have := hz _ (rnds_2 ho)
    simpa [chs, prs, sumI] using this
  have z3 : ∀ o t, o < m → t < m → ch R o t + ch R t o = 0 := fun o t ho ht => by
    have := hz _ (rnds_3 ho ht)
    simpa [chs, prs, sumI] using this
  have z4 : ∀ o t q, o < m → t < m → q < m → ch R o t + ch R t q + ch R q o = 0 := fun o t q ho ht hq => by
    have := hz _ (rnds_4 ho ht hq)
    simpa [chs, prs, sumI] using this
  have hg : ∀ i, i < m → (hgt R m).getD i 0 = ch R 0 i := fun i hi => by
    unfold hgt
    cases i with
    | zero => exact (z2 0 (by omega)).symm
    | succ i =>
      rw [List.getD_eq_getElem?_getD, List.getElem?_cons_succ, List.getElem?_map, List.getElem?_range (by omega)]
      rfl
  have : lvB R m (hgt R m) = true := by
    unfold lvB
    rw [List.all_eq_true]
    intro o ho
    rw [List.all_eq_true]
    intro n hn
    have ho := List.mem_range.mp ho
    have hn := List.mem_range.mp hn
    rw [hg o ho, hg n hn]
    have a := z4 0 o n (by omega) ho hn
    have b := z3 0 n (by omega) hn
    exact decide_eq_true (by omega)
  rw [this] at h
  cases h
end
end NgB
end

section
set_option autoImplicit false
set_option maxRecDepth 100000
set_option maxHeartbeats 1000000
namespace NgB
open NG
theorem extend_L {l r : List D} (h : l.length + r.length ≤ LIM) : mutE 1 (.lst l) [.lst r] = some (.non, .lst (l ++ r)) := if_pos h
theorem append_L {l : List D} {x : D} (h : l.length < LIM) : mutE 0 (.lst l) [x] = some (.non, .lst (l ++ [x])) := if_pos h
theorem ext_step {W : Nat} {Φ : Phi} {ρ : Env} {i m : Nat} {S S1 : Store} {L R' : List D} {e : CE} (h0 : ρ[i]? = some (.ref m)) (hl0 : liveL S m = true) (h1 : evE Φ e ρ S = .ok (.lst R') S1) (hc : S1[m]? = some (.lst L)) (hl : L.length + R'.length ≤ LIM) :
    evS W Φ (.expr (.mut 1 i [e])) ρ S = .ok (.nx ρ) (S1.set m (.lst (L ++ R'))) ∧ (S1.set m (.lst (L ++ R')))[m]? = some (.lst (L ++ R')) := by
  refine ⟨T.expr (F.mutS (n := m) (x := .non) (cl' := .lst (L ++ R')) h0 hl0 (Es.cons h1 Es.nil) hc (mutA_1 (vws_cons (vw_id rfl) vws_nil)) (extend_L hl) rfl), ?_⟩
  rw [List.getElem?_set_self (List.getElem?_eq_some_iff.mp hc).1]
theorem app_step {W : Nat} {Φ : Phi} {ρ : Env} {i m : Nat} {S S1 : Store} {L : List D} {x : D} {e : CE} (h0 : ρ[i]? = some (.ref m)) (hl0 : liveL S m = true) (h1 : evE Φ e ρ S = .ok x S1) (hc : S1[m]? = some (.lst L)) (hl : L.length < LIM) :
    evS W Φ (.expr (.mut 0 i [e])) ρ S = .ok (.nx ρ) (S1.set m (.lst (L ++ [x]))) ∧ (S1.set m (.lst (L ++ [x])))[m]? = some (.lst (L ++ [x])) := by
  refine ⟨T.expr (F.mutS (n := m) (x := .non) (cl' := .lst (L ++ [x])) h0 hl0 (Es.cons h1 Es.nil) hc mutA_0 (append_L hl) rfl), ?_⟩
  rw [List.getElem?_set_self (List.getElem?_eq_some_iff.mp hc).1]
section
variable {m sz : Nat} {gs : List Nat} {R : List (List (List Nat))}
theorem clean_T : ∀ ts : List (List Nat), cleans (ts.map tI) = true
  | [] => rfl
  | t :: ts => by
    show (clean (tI t) && cleans (ts.map tI)) = true
    rw [clean_tI, clean_T ts]
    rfl
theorem rin_len (m o t : Nat) : (rin m o t).length = m + 1 := by
  unfold rin
  rw [List.length_cons, List.length_map, List.length_range]
theorem flat_len {α β : Type} (f : α → List β) (c : Nat) (h : ∀ x, (f x).length = c) : ∀ l : List α, (l.flatMap f).length = l.length * c
  | [] => by simp
  | x :: l => by rw [List.flatMap_cons, List.length_append, h, flat_len f c h l, List.length_cons, Nat.succ_mul]; omega
theorem rounds_ok (k : Nat) (S : Store) (h : TbOk m sz gs R) : callE (Ph (k + 1)) I_rounds_of 1 [tbD gs R] S = .ok (.lst ((rnds m).map tI)) S := by
  have hm4 := h.m4
  have hL' : (LIM : Nat) = 16777216 := rfl
  have l1 := len_I gs
  rw [h.gl] at l1
  have m3 : bltE .listRng [I m] = some (.lst ((List.range m).map I)) := by
    show (if -(LIM : Int) ≤ (m : Int) ∧ (m : Int) ≤ LIM then some (D.lst (rngL 0 (m : Int).toNat)) else none) = _
    rw [if_pos (by omega), show ((m : Nat) : Int).toNat = m from rfl, rng_I]
  have inner : ∀ o, o < m → ∀ (B : List (List Nat)) (a4 : D) (S : Store), B.length ≤ 1000 → S[0]? = some (.lst (B.map tI)) → ∃ ρ' S', forL (.one 4) (evSs 1000 (Ph k) [.expr (.mut 0 3 [.tup [.var 1, .var 4, .var 1]]), .expr (.mut 1 3 [.comp (.tup [.var 1, .var 4, .var 5, .var 1]) (.one 5) [5] .of [.var 2] []])]) ((List.range m).map I) [tbD gs R, I o, .lst ((List.range m).map I), .ref 0, a4, .undef] S = .ok (.nx ρ') S' ∧ (∃ c, ρ' = [tbD gs R, I o, .lst ((List.range m).map I), .ref 0, c, .undef]) ∧ S'[0]? = some (.lst ((B ++ (List.range m).flatMap fun t => rin m o t).map tI)) := by
    intro o ho B a4 S hB hS
    obtain ⟨ρ', S', e1, hρ, hS'⟩ := forL_inv (t := .one 4) (body := evSs 1000 (Ph k) [.expr (.mut 0 3 [.tup [.var 1, .var 4, .var 1]]), .expr (.mut 1 3 [.comp (.tup [.var 1, .var 4, .var 5, .var 1]) (.one 5) [5] .of [.var 2] []])]) (its := (List.range m).map I)
      (fun i ρ S => (∃ c, ρ = [tbD gs R, I o, .lst ((List.range m).map I), .ref 0, c, .undef]) ∧ S[0]? = some (.lst ((B ++ ((List.range m).take i).flatMap fun t => rin m o t).map tI))) 0 [tbD gs R, I o, .lst ((List.range m).map I), .ref 0, a4, .undef] S (Nat.zero_le _) ⟨⟨_, rfl⟩, by simpa using hS⟩ fun i d ρ S hi hp => by
        obtain ⟨⟨c, rfl⟩, hS⟩ := hp
        rw [List.getElem?_map] at hi
        obtain ⟨t, ht, rfl⟩ := Option.map_eq_some_iff.mp hi
        have htk : (List.range m).take (i + 1) = (List.range m).take i ++ [t] := by rw [List.take_add_one, ht]; rfl
        obtain ⟨L, hL⟩ : ∃ L, L = (B ++ ((List.range m).take i).flatMap fun t => rin m o t) := ⟨_, rfl⟩
        rw [← hL] at hS
        have hLl : L.length ≤ 1100 := by
          rw [hL, List.length_append, flat_len _ (m + 1) (rin_len m o), List.length_take, List.length_range]
          have : min i m * (m + 1) ≤ 4 * 5 := Nat.mul_le_mul (by omega) (by omega)
          omega
        obtain ⟨s1, m1⟩ := app_step (W := 1000) (Φ := Ph k) (ρ := [tbD gs R, I o, .lst ((List.range m).map I), .ref 0, I t, .undef]) (i := 3) (e := .tup [.var 1, .var 4, .var 1]) (x := tI [o, t, o]) rfl (live_of hS) (E.tup (Es.cons (E.var rfl rfl) (Es.cons (E.var rfl rfl) (Es.cons (E.var rfl rfl) Es.nil)))) hS (by rw [List.length_map]; omega)
        have c5 : evE (Ph k) (.comp (.tup [.var 1, .var 4, .var 5, .var 1]) (.one 5) [5] .of [.var 2] []) [tbD gs R, I o, .lst ((List.range m).map I), .ref 0, I t, .undef] (S.set 0 (.lst (L.map tI ++ [tI [o, t, o]]))) = .ok (.lst ((List.range m).map fun q => tI [o, t, q, o])) (S.set 0 (.lst (L.map tI ++ [tI [o, t, o]]))) := by
          refine E.comp (Es.cons (E.var rfl rfl) Es.nil) rfl (compI _ fun q hq => ⟨[tbD gs R, I o, .lst ((List.range m).map I), .ref 0, I t, I q], rfl, C.nil, ?_⟩)
          exact E.tup (Es.cons (E.var rfl rfl) (Es.cons (E.var rfl rfl) (Es.cons (E.var rfl rfl) (Es.cons (E.var rfl rfl) Es.nil))))
        obtain ⟨s2, m2⟩ := ext_step (W := 1000) (Φ := Ph k) (ρ := [tbD gs R, I o, .lst ((List.range m).map I), .ref 0, I t, .undef]) (i := 3) rfl (live_of m1) c5 m1 (by rw [List.length_append, List.length_map, List.length_map, List.length_range]; show _ + 1 + _ ≤ _; omega)
        refine ⟨_, _, _, rfl, .inl (Ts.nx s1 (Ts.nx s2 Ts.nil)), ⟨_, rfl⟩, ?_⟩
        rw [m2, htk, List.flatMap_append, ← List.append_assoc, ← hL, List.map_append, List.append_assoc]
        congr 2
        rw [List.flatMap_singleton]
        unfold rin
        rw [List.map_cons, List.map_map]
        rfl
    rw [List.drop_zero] at e1
    rw [List.length_map, List.take_length] at hS'
    exact ⟨ρ', S', e1, hρ, hS'⟩
  obtain ⟨ρ', S', e1, ⟨a, c, hρ⟩, hS⟩ := forL_inv (t := .one 1) (body := evSs 1000 (Ph k) [.expr (.mut 0 3 [.tup [.var 1, .var 1]]), .for (.one 4) .of [.var 2] [.expr (.mut 0 3 [.tup [.var 1, .var 4, .var 1]]), .expr (.mut 1 3 [.comp (.tup [.var 1, .var 4, .var 5, .var 1]) (.one 5) [5] .of [.var 2] []])]]) (its := (List.range m).map I)
    (fun i ρ S => (∃ a c, ρ = [tbD gs R, a, .lst ((List.range m).map I), .ref 0, c, .undef]) ∧ S[0]? = some (.lst ((((List.range m).take i).flatMap fun o => rout m o).map tI))) 0 [tbD gs R, .undef, .lst ((List.range m).map I), .ref 0, .undef, .undef] [.lst []] (Nat.zero_le _) ⟨⟨_, _, rfl⟩, rfl⟩ fun i d ρ S hi hp => by
      obtain ⟨⟨a, c, rfl⟩, hS⟩ := hp
      rw [List.getElem?_map] at hi
      obtain ⟨o, ho, rfl⟩ := Option.map_eq_some_iff.mp hi
      have hom := List.mem_range.mp (List.mem_of_getElem? ho)
      have htk : (List.range m).take (i + 1) = (List.range m).take i ++ [o] := by rw [List.take_add_one, ho]; rfl
      obtain ⟨L, hL⟩ : ∃ L, L = (((List.range m).take i).flatMap fun o => rout m o) := ⟨_, rfl⟩
      rw [← hL] at hS
      have hLl : L.length ≤ 900 := by
        rw [hL, flat_len _ (m * (m + 1) + 1) (fun o => by unfold rout; rw [List.length_cons, flat_len _ (m + 1) (rin_len m o), List.length_range]), List.length_take, List.length_range]
        have h1 : m * (m + 1) ≤ 4 * 5 := Nat.mul_le_mul (by omega) (by omega)
        have : min i m * (m * (m + 1) + 1) ≤ 4 * 21 := Nat.mul_le_mul (by omega) (by omega)
        omega
      obtain ⟨s1, m1⟩ := app_step (W := 1000) (Φ := Ph k) (ρ := [tbD gs R, I o, .lst ((List.range m).map I), .ref 0, c, .undef]) (i := 3) (e := .tup [.var 1, .var 1]) (x := tI [o, o]) rfl (live_of hS) (E.tup (Es.cons (E.var rfl rfl) (Es.cons (E.var rfl rfl) Es.nil))) hS (by rw [List.length_map]; omega)
      have m1' : (S.set 0 (.lst (L.map tI ++ [tI [o, o]])))[0]? = some (.lst ((L ++ [[o, o]]).map tI)) := by rw [m1, List.map_append]; rfl
      obtain ⟨ρ', S', e', ⟨c', rfl⟩, hS'⟩ := inner o hom (L ++ [[o, o]]) c _ (by rw [List.length_append, List.length_singleton]; omega) m1'
      refine ⟨_, _, S', rfl, .inl (Ts.nx s1 (Ts.nx (T.for (Es.cons (E.var rfl rfl) Es.nil) rfl e') Ts.nil)), ⟨_, _, rfl⟩, ?_⟩
      rw [hS', htk, List.flatMap_append, ← hL, List.flatMap_singleton, List.append_assoc]
      rfl
  rw [List.drop_zero, hρ] at e1
  rw [List.length_map, List.take_length] at hS
  refine callP (S1 := S'.set 0 .dead) (by simp [cleans, clean_tb]) ?_ (clean_T _)
  rw [ph k I_rounds_of _ _ n_rounds_of rfl]
  refine runR (fn := n_rounds_of) (ds := [tbD gs R]) rfl ?_
  dsimp only [n_rounds_of, b_rounds_of]
  show evSs _ _ _ [tbD gs R, .undef, .undef, .undef, .undef, .undef] _ = _
  refine Ts.nx (ρ1 := [tbD gs R, .undef, .lst ((List.range m).map I), .ref 0, .undef, .undef]) (S1 := [.lst []]) (T.set (E.tup (Es.cons (E.blt (Es.cons (E.blt (Es.cons (E.ix (x := tbD gs R) (E.var rfl rfl) E.cst rfl) Es.nil) l1) Es.nil) m3) (Es.cons (E.alloc (E.lst Es.nil)) Es.nil))) rfl) ?_
  refine Ts.nx (T.for (Es.cons (E.var rfl rfl) Es.nil) rfl e1) ?_
  refine Ts.nx (T.ghost (n := 0) rfl hS) ?_
  exact Ts.rt (T.ret (E.var rfl rfl))
def LV : List Nat := [108, 101, 118, 101, 108]
def RD : List Nat := [114, 111, 117, 110, 100]
theorem ix_Z {hs : List Int} {i : Nat} (h : i < hs.length) : (zD hs)[i]? = some (.int (hs.getD i 0)) := by
  rw [List.getElem?_map, (getD_in (l := hs) (d := 0) h).2]
  rfl
theorem clean_zT (l : List Int) : clean (.tup (zD l)) = true := clean_zD l
theorem clean_zL (l : List Int) : clean (.lst (zD l)) = true := clean_zD l
theorem ne_Z0 (a : Int) : cmpE .ne (.int a) (.int 0) = some (!decide (a = 0)) := ne_ZZ a 0
theorem chs_ne (R : List (List (List Nat))) (ws : List Nat) : bltE .len [tI ws] = some (I ws.length) := len_I ws
/-- what is told -/
theorem level_told_ok (k : Nat) (S : Store) (h : TbOk m sz gs R) : ∃ d, callE (Ph (k + 7)) I_level_told 1 [tbD gs R] S = .ok d S ∧ ((lvB R m (hgt R m) = true ∧ d = .tup [.str LV, .tup (zD (hgt R m))]) ∨ (lvB R m (hgt R m) = false ∧ ∃ ws ∈ rnds m, sumI (chs R ws) ≠ 0 ∧ d = .tup [.str RD, tI ws])) := by
  have hm1 := h.m1
  have hm4 := h.m4
  have c1 := check_table_ok k [] h
  have c2 := heights_ok (k + 3) [] h
  have c3 := is_level_ok (k + 3) [] h (hD := .lst (zD (hgt R m))) (hs := hgt R m) (fun i hi => by
    show atIx (zD (hgt R m)) ((i : Nat) : Int) = _
    rw [at_nat]
    exact ix_Z (by rw [hgt_len R hm1]; exact hi)) rfl rfl (clean_zL _)
  have c4 := rounds_ok (k + 5) [] h
  have e1 : evE (Ph (k + 6)) (.call I_is_level 1 [.var 0, .call I_heights_of 1 [.var 0]]) [tbD gs R, .undef] [] = .ok (.bl (lvB R m (hgt R m))) [] := E.call (Es.cons (E.var rfl rfl) (Es.cons (E.call (Es.cons (E.var rfl rfl) Es.nil) c2) Es.nil)) c3
  cases hlv : lvB R m (hgt R m) with
  | true =>
    rw [hlv] at e1
    refine ⟨_, callP (S1 := []) (d := .tup [.str LV, .tup (zD (hgt R m))]) (by simp [cleans, clean_tb]) ?_ (by show (true && (clean (.tup (zD (hgt R m))) && true)) = true; rw [clean_zT]; rfl), .inl ⟨rfl, rfl⟩⟩
    rw [ph (k + 6) I_level_told _ _ n_level_told rfl]
    refine runR (fn := n_level_told) (ds := [tbD gs R]) rfl ?_
    dsimp only [n_level_told, b_level_told]
    show evSs _ _ _ [tbD gs R, .undef] _ = _
    refine Ts.nx (T.expr (E.call (Es.cons (E.var rfl rfl) Es.nil) c1)) ?_
    refine Ts.rt (T.ite (x := .bl true) (u := true) e1 rfl (condT (Ts.rt (T.ret ?_))))
    exact E.tup (Es.cons E.glob (Es.cons (E.blt (Es.cons (E.call (Es.cons (E.var rfl rfl) Es.nil) c2) Es.nil) rfl) Es.nil))
  | false =>
    rw [hlv] at e1
    obtain ⟨w0, hw0, hs0⟩ := round_ex R hm1 hlv
    have c5 := compMF tI (t := .one 1) (cond := evC (Ph (k + 6)) [.cmp .ne (.ix (.call I_sums_of 1 [.var 0, .var 1]) (.neg (.cst (.int 1)))) (.cst (.int 0))]) (elt := evE (Ph (k + 6)) (.var 1)) (ρ := [tbD gs R, .undef]) (S := []) (fun ws => !decide (sumI (chs R ws) = 0)) tI (l := rnds m) fun ws hws => by
      obtain ⟨h1, h2, h3, _⟩ := mem_rnds hws
      refine ⟨[tbD gs R, tI ws], rfl, C.one (x := .bl (!decide (sumI (chs R ws) = 0))) ?_ rfl, E.var rfl rfl⟩
      exact E.cmp (E.ix (E.call (Es.cons (E.var rfl rfl) (Es.cons (E.var rfl rfl) Es.nil)) (sums_of_ok (k + 4) h h1 (by omega) [])) (E.neg E.cst) (sumZ_last _)) E.cst (ne_Z0 _)
    cases hf : (rnds m).filter fun ws => !decide (sumI (chs R ws) = 0) with
    | nil =>
      have := List.filter_eq_nil_iff.mp hf w0 hw0
      simp [hs0] at this
    | cons ws rest =>
      have hwm : ws ∈ (rnds m).filter fun ws => !decide (sumI (chs R ws) = 0) := by rw [hf]; exact List.mem_cons_self ..
      obtain ⟨hw1, hw2⟩ := List.mem_filter.mp hwm
      rw [hf] at c5
      refine ⟨.tup [.str RD, tI ws], callP (S1 := []) (by simp [cleans, clean_tb]) ?_ (by show (true && (clean (tI ws) && true)) = true; rw [clean_tI]; rfl), .inr ⟨rfl, ws, hw1, by simpa using hw2, rfl⟩⟩
      rw [ph (k + 6) I_level_told _ _ n_level_told rfl]
      refine runR (fn := n_level_told) (ds := [tbD gs R]) rfl ?_
      dsimp only [n_level_told, b_level_told]
      show evSs _ _ _ [tbD gs R, .undef] _ = _
      refine Ts.nx (T.expr (E.call (Es.cons (E.var rfl rfl) Es.nil) c1)) ?_
      refine Ts.nx (T.ite (x := .bl false) (u := false) e1 rfl (condF Ts.nil)) ?_
      refine Ts.rt (T.ret (E.tup (Es.cons E.glob (Es.cons (E.ix (E.comp (Es.cons (E.call (Es.cons (E.var rfl rfl) Es.nil) c4) Es.nil) rfl c5) E.cst ?_) Es.nil))))
      show atIx ((ws :: rest).map tI) ((0 : Nat) : Int) = _
      rw [at_nat]
      rfl
end
end NgB
end

section
set_option autoImplicit false
set_option maxRecDepth 100000
set_option maxHeartbeats 1000000
namespace NgB
open NG
/-! ## any value: plain, or with a dict that nobody looks into -/
def BIG : Nat := 100000000000000000000
mutual
def okV : Nat → D → Bool
  | _, .non => true
  | _, .bl _ => true
  | _, .int i => decide (i.natAbs ≤ BIG)
  | _, .str s => decide (s.length ≤ 6000) && s.all fun c => decide (c < 1114112)
  | k + 1, .tup l => decide (l.length ≤ 60) && okVs k l
  | k + 1, .lst l => decide (l.length ≤ 60) && okVs k l
  | _, .exc 0 .non => true
  | _, _ => false
def okVs : Nat → List D → Bool
  | _, [] => true
  | k, x :: xs => okV k x && okVs k xs
end
theorem okVs_mem {k : Nat} : ∀ {l : List D}, okVs k l = true → ∀ d ∈ l, okV k d = true
  | [], _, d, h => by simp at h
  | x :: xs, h, d, hd => by
    simp only [okVs, Bool.and_eq_true] at h
    rcases List.mem_cons.mp hd with rfl | hd
    · exact h.1
    · exact okVs_mem h.2 d hd
theorem okVs_of {k : Nat} : ∀ {l : List D}, (∀ d ∈ l, okV k d = true) → okVs k l = true
  | [], _ => rfl
  | x :: xs, h => by
    simp only [okVs, Bool.and_eq_true]
    exact ⟨h x (List.mem_cons_self ..), okVs_of fun d hd => h d (List.mem_cons_of_mem _ hd)⟩
inductive Kd : D → Prop
  | non : Kd .non
  | bl (b : Bool) : Kd (.bl b)
  | int (i : Int) : Kd (.int i)
  | str (s : List Nat) : Kd (.str s)
  | tup (l : List D) : Kd (.tup l)
  | lst (l : List D) : Kd (.lst l)
  | odd : Kd (.exc 0 .non)
theorem okV_kd {k : Nat} {d : D} (h : okV k d = true) : Kd d := by
  cases d with
  | exc c v =>
    cases c with
    | zero => cases v <;> first | constructor | (simp [okV] at h; done)
    | succ c => simp [okV] at h
  | _ => first | constructor | (simp [okV] at h; done)
theorem okV_tup {m : Nat} {xs : List D} (h : okV m (.tup xs) = true) : xs.length ≤ 60 ∧ ∃ m', m' + 1 = m ∧ okVs m' xs = true := by
  cases m with
  | zero => simp [okV] at h
  | succ m =>
    simp only [okV, Bool.and_eq_true, decide_eq_true_eq] at h
    exact ⟨h.1, m, rfl, h.2⟩
mutual
theorem okV_cl : ∀ (k : Nat) (d : D), okV k d = true → clean d = true
  | _, .non, _ => rfl
  | _, .bl _, _ => rfl
  | _, .int _, _ => rfl
  | _, .str s, h => rfl
  | k + 1, .tup l, h => by
    simp only [okV, Bool.and_eq_true] at h
    exact okVs_cl k l h.2
  | k + 1, .lst l, h => by
    simp only [okV, Bool.and_eq_true] at h
    exact okVs_cl k l h.2
  | 0, .tup l, h => by simp [okV] at h
  | 0, .lst l, h => by simp [okV] at h
  | k, .undef, h => by simp [okV] at h
  | k, .dic _ _, h => by simp [okV] at h
  | k, .scr _, h => by simp [okV] at h
  | k, .ref _, h => by simp [okV] at h
  | k, .exc (c + 1) _, h => by simp [okV] at h
  | k, .exc 0 v, h => by
    cases v <;> first | rfl | (simp [okV] at h; done)
  | k, .clo _ _, h => by simp [okV] at h
theorem okVs_cl : ∀ (k : Nat) (l : List D), okVs k l = true → cleans l = true
  | _, [], _ => rfl
  | k, x :: xs, h => by
    simp only [okVs, Bool.and_eq_true] at h
    simp only [cleans, okV_cl k x h.1, okVs_cl k xs h.2, Bool.and_self]
end
theorem vkd {Φ : Phi} {i : Nat} {ρ : Env} {S : Store} {d : D} (h : ρ[i]? = some d) (hk : Kd d) : evE Φ (.var i) ρ S = .ok d S := by
  cases hk <;> exact E.var h rfl
theorem vw_kd {S : Store} {d : D} (hk : Kd d) : vw S d = d := by cases hk <;> rfl
def isI : D → Bool
  | .int _ => true
  | _ => false
def isS : D → Bool
  | .str _ => true
  | _ => false
def isTp : D → Bool
  | .tup _ => true
  | _ => false
theorem is_int_ev {Φ : Phi} {S : Store} {ρ : Env} {e : CE} {x : D} (hk : Kd x) (v : evE Φ e ρ S = .ok x S) : evE Φ (.and (.blt (.isinst .int) [e]) (.not (.blt (.isinst .bool) [e]))) ρ S = .ok (.bl (isI x)) S := by
  cases hk with
  | int z => exact E.and (E.blt (z := .bl true) (Es.cons v Es.nil) rfl) rfl (condT (E.not (x := .bl false) (E.blt (Es.cons v Es.nil) rfl) rfl))
  | bl b => exact E.and (E.blt (z := .bl true) (Es.cons v Es.nil) rfl) rfl (condT (E.not (x := .bl true) (E.blt (Es.cons v Es.nil) rfl) rfl))
  | non => exact E.and (E.blt (z := .bl false) (Es.cons v Es.nil) rfl) rfl (condF rfl)
  | str s => exact E.and (E.blt (z := .bl false) (Es.cons v Es.nil) rfl) rfl (condF rfl)
  | tup s => exact E.and (E.blt (z := .bl false) (Es.cons v Es.nil) rfl) rfl (condF rfl)
  | lst s => exact E.and (E.blt (z := .bl false) (Es.cons v Es.nil) rfl) rfl (condF rfl)
  | odd => exact E.and (E.blt (z := .bl false) (Es.cons v Es.nil) rfl) rfl (condF rfl)
theorem is_str_ev {Φ : Phi} {S : Store} {ρ : Env} {e : CE} {x : D} (hk : Kd x) (v : evE Φ e ρ S = .ok x S) : evE Φ (.blt (.isinst .str) [e]) ρ S = .ok (.bl (isS x)) S := by
  cases hk <;> exact E.blt (Es.cons v Es.nil) rfl
theorem is_tup_ev {Φ : Phi} {S : Store} {ρ : Env} {e : CE} {x : D} (hk : Kd x) (v : evE Φ e ρ S = .ok x S) : evE Φ (.blt (.isinst .tuple) [e]) ρ S = .ok (.bl (isTp x)) S := by
  cases hk <;> exact E.blt (Es.cons v Es.nil) rfl
theorem is_integer_gen (k : Nat) (S : Store) {d : D} (h : Kd d) : Ph (k + 1) I_is_integer [d] S = .ok (.bl (isI d)) S := by
  rw [ph k I_is_integer _ _ n_is_integer rfl]
  refine runR (fn := n_is_integer) (ds := [d]) rfl ?_
  exact Ts.rt (T.ret (is_int_ev h (vkd rfl h)))
theorem call_integer (k : Nat) (S : Store) {d : D} (h : Kd d) (hc : clean d = true) : callE (Ph (k + 1)) I_is_integer 1 [d] S = .ok (.bl (isI d)) S := callP (by simp [cleans, hc]) (is_integer_gen k [] h) rfl
theorem btw_no {lo hi : Int} {d : D} (h : isI d = false) : btw lo hi d = false := by
  cases d <;> first | rfl | (simp [isI] at h; done)
theorem is_between_gen (k : Nat) (S : Store) {d : D} (lo hi : Int) (h : Kd d) (hc : clean d = true) : Ph (k + 2) I_is_between [d, .int lo, .int hi] S = .ok (.bl (btw lo hi d)) S := by
  by_cases hi' : ib d = true
  · exact is_between_ok k S d lo hi hi'
  · have c1 := call_integer k S h hc
    have e1 : isI d = false := by cases h <;> first | rfl | (simp [ib] at hi'; done)
    rw [e1] at c1
    rw [btw_no e1, ph (k + 1) I_is_between _ _ n_is_between rfl]
    refine runR (fn := n_is_between) (ds := [d, .int lo, .int hi]) rfl ?_
    dsimp only [n_is_between, b_is_between]
    have v0 : evEs (Ph (k + 1)) [.var 0] ([d, .int lo, .int hi] ++ List.replicate (3 - 3) D.undef) S = .ok [d] S := Es.cons (vkd rfl h) Es.nil
    exact Ts.rt (T.ret (E.and (E.call v0 c1) rfl (condF rfl)))
theorem are_between_gen (k : Nat) (S : Store) {m : Nat} (xs : List D) (lo hi : Int) (h : okVs m xs = true) : Ph (k + 3) I_are_between [.tup xs, .int lo, .int hi] S = .ok (.bl (xs.all (btw lo hi))) S := by
  have c : compL (.one 3) (evC (Ph (k + 2)) []) (evE (Ph (k + 2)) (.call I_is_between 1 [.var 3, .var 1, .var 2])) [.tup xs, .int lo, .int hi, .undef] xs S = .ok (xs.map fun d => .bl (btw lo hi d)) S := by
    refine compL_map (fun d => .bl (btw lo hi d)) fun d hd => ?_
    have hk := okV_kd (okVs_mem h d hd)
    have hcl := okV_cl _ _ (okVs_mem h d hd)
    have c1 : callE (Ph (k + 2)) I_is_between 1 [d, .int lo, .int hi] S = .ok (.bl (btw lo hi d)) S := callP (by simp [cleans, hcl, clean]) (is_between_gen k [] lo hi hk hcl) rfl
    exact ⟨[.tup xs, .int lo, .int hi, d], rfl, C.nil, E.call (Es.cons (vkd rfl hk) (Es.cons (E.var rfl rfl) (Es.cons (E.var rfl rfl) Es.nil))) c1⟩
  have q3 := all_I (btw lo hi) xs
  rw [ph (k + 2) I_are_between _ _ n_are_between rfl]
  refine runR (fn := n_are_between) (ds := [.tup xs, .int lo, .int hi]) rfl ?_
  dsimp only [n_are_between, b_are_between]
  show evSs _ _ _ [.tup xs, .int lo, .int hi, .undef] _ = _
  exact Ts.rt (T.ret (E.and (x := .bl true) (S1 := S) (E.blt (Es.cons (E.var rfl rfl) Es.nil) rfl) rfl (condT (E.blt (Es.cons (E.comp (Es.cons (E.var rfl rfl) Es.nil) rfl c) Es.nil) q3))))
theorem are_between_non (k : Nat) (S : Store) {d : D} (lo hi : Int) (h : Kd d) (hr : isTp d = false) : Ph (k + 1) I_are_between [d, .int lo, .int hi] S = .ok (.bl false) S := by
  rw [ph k I_are_between _ _ n_are_between rfl]
  refine runR (fn := n_are_between) (ds := [d, .int lo, .int hi]) rfl ?_
  dsimp only [n_are_between, b_are_between]
  show evSs _ _ _ [d, .int lo, .int hi, .undef] _ = _
  have e := is_tup_ev (Φ := Ph k) (S := S) (ρ := [d, .int lo, .int hi, .undef]) (e := .var 0) h (vkd rfl h)
  rw [hr] at e
  exact Ts.rt (T.ret (E.and e rfl (condF rfl)))
theorem law_is_int_gen (k : Nat) (S : Store) {d : D} (lo hi : Int) (h : Kd d) (hc : clean d = true) : callE (Ph (k + 1)) I__law_is_int 1 [d, .int lo, .int hi] S = .ok (.bl (btw lo hi d)) S := by
  refine callP (S1 := []) (by simp [cleans, hc, clean]) ?_ rfl
  rw [ph k I__law_is_int _ _ n__law_is_int rfl]
  refine runR (fn := n__law_is_int) (ds := [d, .int lo, .int hi]) rfl ?_
  dsimp only [n__law_is_int, b__law_is_int]
  show evSs _ _ _ [d, .int lo, .int hi] _ = _
  refine Ts.rt (T.ret ?_)
  have v := vkd (Φ := Ph k) (S := []) (ρ := [d, .int lo, .int hi]) (i := 0) rfl h
  cases h with
  | int z => exact E.and (x := .bl true) (S1 := []) (E.blt (Es.cons v Es.nil) rfl) rfl (condT (E.and (x := .bl true) (S1 := []) (E.not (x := .bl false) (E.blt (Es.cons v Es.nil) rfl) rfl) rfl (condT (E.cmp2I (E.var rfl rfl) v (E.var rfl rfl)))))
  | bl b => exact E.and (x := .bl true) (S1 := []) (E.blt (Es.cons v Es.nil) rfl) rfl (condT (E.and (x := .bl false) (t := false) (S1 := []) (E.not (x := .bl true) (E.blt (Es.cons v Es.nil) rfl) rfl) rfl (condF rfl)))
  | non => exact E.and (x := .bl false) (t := false) (S1 := []) (E.blt (Es.cons v Es.nil) rfl) rfl (condF rfl)
  | str s => exact E.and (x := .bl false) (t := false) (S1 := []) (E.blt (Es.cons v Es.nil) rfl) rfl (condF rfl)
  | tup s => exact E.and (x := .bl false) (t := false) (S1 := []) (E.blt (Es.cons v Es.nil) rfl) rfl (condF rfl)
  | lst s => exact E.and (x := .bl false) (t := false) (S1 := []) (E.blt (Es.cons v Es.nil) rfl) rfl (condF rfl)
  | odd => exact E.and (x := .bl false) (t := false) (S1 := []) (E.blt (Es.cons v Es.nil) rfl) rfl (condF rfl)
theorem btw_nats {n : Nat} : ∀ {xs : List D}, xs.all (btw 0 ((n : Int) - 1)) = true → ∃ t : List Nat, xs = t.map I ∧ ∀ x ∈ t, x < n
  | [], _ => ⟨[], rfl, by simp⟩
  | d :: xs, h => by
    rw [List.all_cons, Bool.and_eq_true] at h
    obtain ⟨t, e, ht⟩ := btw_nats h.2
    have h1 := h.1
    cases d <;> first | (exfalso; simp [btw] at h1; done) | skip
    rename_i i
    simp [btw] at h1
    refine ⟨i.toNat :: t, ?_, fun x hx => ?_⟩
    · rw [List.map_cons, ← e]
      congr 1
      show D.int i = D.int (i.toNat : Int)
      congr 1
      omega
    · rcases List.mem_cons.mp hx with rfl | hx
      · omega
      · exact ht x hx
theorem isI_ints : ∀ {xs : List D}, xs.all isI = true → ∃ hs : List Int, xs = zD hs
  | [], _ => ⟨[], rfl⟩
  | d :: xs, h => by
    rw [List.all_cons, Bool.and_eq_true] at h
    obtain ⟨hs, e⟩ := isI_ints h.2
    have h1 := h.1
    cases d <;> first | (exfalso; simp [isI] at h1; done) | skip
    rename_i i
    exact ⟨i :: hs, by rw [e]; rfl⟩
/-- the head of a pair -/
def pairB : D → Bool
  | .tup [.str _, _] => true
  | _ => false
theorem pair_cases (v : D) : (∃ a u, v = .tup [.str a, u] ∧ pairB v = true) ∨ pairB v = false := by
  cases e : pairB v with
  | false => exact .inr rfl
  | true =>
    unfold pairB at e
    split at e
    · rename_i a u
      exact .inl ⟨a, u, rfl, rfl⟩
    · cases e
theorem ne_2 (a : Nat) : cmpE .ne (I a) (.int 2) = some (!decide (a = 2)) := by
  rw [c_ne_ok _ _ rfl]
  show some (!deq (I a) (I 2)) = _
  rw [deq_I]
  congr 2
/-- any rest behind the three first tests -/
theorem head_gen {Φ : Phi} {S : Store} {ρ : Env} {m : Nat} {v : D} {rest : CE} (hv : okV m v = true) (h : ρ[1]? = some v) (hn : pairB v = false) :
    ∃ t, (evE Φ (.or (.not (.blt (.isinst .tuple) [.var 1])) (.or (.cmp .ne (.blt .len [.var 1]) (.cst (.int 2))) (.or (.not (.blt (.isinst .str) [.ix (.var 1) (.cst (.int 0))])) rest))) ρ S = .ok (.bl true) S) ∧ (evE Φ (.or (.not (.blt (.isinst .tuple) [.var 1])) (.or (.cmp .ne (.blt .len [.var 1]) (.cst (.int 2))) (.not (.blt (.isinst .str) [.ix (.var 1) (.cst (.int 0))])))) ρ S = .ok (.bl true) S) ∧ t = true := by
  have hk := okV_kd hv
  have v0 := vkd (Φ := Φ) (S := S) h hk
  have a1 := is_tup_ev (S := S) hk v0
  refine ⟨true, ?_, ?_, rfl⟩
  all_goals
    by_cases ht : ∃ xs, v = .tup xs
    · obtain ⟨xs, rfl⟩ := ht
      obtain ⟨_, m', _, hxs⟩ := okV_tup hv
      have a1 : evE Φ (.not (.blt (.isinst .tuple) [.var 1])) ρ S = .ok (.bl false) S := E.not (x := .bl true) a1 rfl
      have a2 : evE Φ (.cmp .ne (.blt .len [.var 1]) (.cst (.int 2))) ρ S = .ok (.bl (!decide (xs.length = 2))) S := E.cmp (x := I xs.length) (S1 := S) (S2 := S) (E.blt (Es.cons v0 Es.nil) rfl) E.cst (ne_2 xs.length)
      refine E.or a1 rfl (condF ?_)
      by_cases h2 : xs.length = 2
      · rw [decide_eq_true h2] at a2
        match xs, h2, hxs with
        | [a, u], _, hxs =>
          have ha := okV_kd (okVs_mem hxs a (List.mem_cons_self ..))
          have a3 : evE Φ (.ix (.var 1) (.cst (.int 0))) ρ S = .ok a S := E.ix v0 E.cst rfl
          have e : isS a = false := by cases ha <;> first | rfl | (simp [pairB] at hn; done)
          have a4 := is_str_ev ha a3
          rw [e] at a4
          refine E.or a2 rfl (condF ?_)
          first
          | exact E.or (E.not (x := .bl false) a4 rfl) rfl (condT rfl)
          | exact E.not (x := .bl false) a4 rfl
      · rw [decide_eq_false h2] at a2
        exact E.or a2 rfl (condT rfl)
    · have e : isTp v = false := by cases hk <;> first | rfl | exact absurd ⟨_, rfl⟩ ht
      rw [e] at a1
      exact E.or (E.not (x := .bl false) a1 rfl) rfl (condT rfl)
theorem head_ok {Φ : Phi} {S : Store} {ρ : Env} {a : List Nat} {u : D} (h : ρ[1]? = some (.tup [.str a, u])) :
    evE Φ (.not (.blt (.isinst .tuple) [.var 1])) ρ S = .ok (.bl false) S ∧ evE Φ (.cmp .ne (.blt .len [.var 1]) (.cst (.int 2))) ρ S = .ok (.bl false) S ∧ evE Φ (.not (.blt (.isinst .str) [.ix (.var 1) (.cst (.int 0))])) ρ S = .ok (.bl false) S ∧ evE Φ (.ix (.var 1) (.cst (.int 0))) ρ S = .ok (.str a) S ∧ evE Φ (.ix (.var 1) (.cst (.int 1))) ρ S = .ok u S := by
  have v0 : evE Φ (.var 1) ρ S = .ok (.tup [.str a, u]) S := E.var h rfl
  have i0 : evE Φ (.ix (.var 1) (.cst (.int 0))) ρ S = .ok (.str a) S := E.ix v0 E.cst rfl
  exact ⟨E.not (x := .bl true) (E.blt (Es.cons v0 Es.nil) rfl) rfl, E.cmp (x := I 2) (S1 := S) (E.blt (Es.cons v0 Es.nil) rfl) E.cst rfl, E.not (x := .bl true) (E.blt (Es.cons i0 Es.nil) rfl) rfl, i0, E.ix v0 E.cst rfl⟩
theorem eq_str {a b : List Nat} (ha : a.all (fun c => decide (c < 1114112)) = true) (hb : b.all (fun c => decide (c < 1114112)) = true) : cmpE .eq (.str a) (.str b) = some (decide (a = b)) := by
  rw [c_eq_ok _ _ (by
    show (a.all _ && b.all _ && decide (0 ≤ 60) && decide (0 ≤ 60)) = true
    rw [ha, hb]
    rfl)]
  show some (a == b) = _
  congr 1
  rw [Bool.eq_iff_iff]
  simp
theorem ne_str {a b : List Nat} (ha : a.all (fun c => decide (c < 1114112)) = true) (hb : b.all (fun c => decide (c < 1114112)) = true) : cmpE .ne (.str a) (.str b) = some (!decide (a = b)) := by
  rw [c_ne_ok _ _ (by
    show (a.all _ && b.all _ && decide (0 ≤ 60) && decide (0 ≤ 60)) = true
    rw [ha, hb]
    rfl)]
  show some (!(a == b)) = _
  congr 2
  rw [Bool.eq_iff_iff]
  simp
theorem okV_pair {m : Nat} {a : List Nat} {u : D} (h : okV m (.tup [.str a, u]) = true) : a.all (fun c => decide (c < 1114112)) = true ∧ ∃ m', m' + 1 = m ∧ okV m' u = true := by
  obtain ⟨_, m', hm', hxs⟩ := okV_tup h
  have h1 := okVs_mem hxs (.str a) (List.mem_cons_self ..)
  have h2 := okVs_mem hxs u (by simp)
  refine ⟨?_, m', hm', h2⟩
  simp only [okV, Bool.and_eq_true] at h1
  exact h1.2
end NgB
end

section
set_option autoImplicit false
set_option maxRecDepth 100000
set_option maxHeartbeats 1000000
namespace NgB
open NG
section
variable {m sz : Nat} {gs : List Nat} {R : List (List (List Nat))}
def natsOf (xs : List D) : List Nat := xs.filterMap fun | .int i => some i.toNat | _ => none
def intsOf (xs : List D) : List Int := xs.filterMap fun | .int i => some i | _ => none
theorem natsOf_I : ∀ ws : List Nat, natsOf (ws.map I) = ws
  | [] => rfl
  | x :: ws => by
    show ((x : Int).toNat) :: natsOf (ws.map I) = _
    rw [natsOf_I ws]
    rfl
theorem intsOf_Z : ∀ hs : List Int, intsOf (zD hs) = hs
  | [] => rfl
  | x :: hs => by
    show x :: intsOf (zD hs) = _
    rw [intsOf_Z hs]
def rdW (R : List (List (List Nat))) (ws : List Nat) : Bool := decide (ws.head? = ws.getLast?) && !decide (sumI (chs R ws) = 0)
def rdB (R : List (List (List Nat))) (m : Nat) : D → Bool
  | .tup xs => decide (2 ≤ xs.length) && (xs.all (btw 0 ((m : Int) - 1)) && rdW R (natsOf xs))
  | _ => false
def lvV (R : List (List (List Nat))) (m : Nat) : D → Bool
  | .tup xs => decide (xs.length = m) && (xs.all isI && lvB R m (intsOf xs))
  | _ => false
def shB (R : List (List (List Nat))) (m : Nat) : D → Bool
  | .tup [.str a, u] => if a = RD then rdB R m u else decide (a = LV) && lvV R m u
  | _ => false
theorem shB_no {v : D} (h : pairB v = false) : shB R m v = false := by
  unfold shB
  split
  · simp [pairB] at h
  · rfl
def awB (m : Nat) : D → Bool
  | .tup xs => xs.all (btw 0 ((m : Int) - 1)) && decide (1 ≤ xs.length)
  | _ => false
theorem sub_m (hm : 1 ≤ m) : bopE .sub (I m) (.int 1) = some (.int ((m : Int) - 1)) := rfl
theorem are_wishes_gen (k : Nat) (S : Store) (h : TbOk m sz gs R) {j : Nat} {u : D} (hu : okV j u = true) : callE (Ph (k + 4)) I_are_wishes 1 [tbD gs R, u] S = .ok (.bl (awB m u)) S := by
  have hk := okV_kd hu
  have hm1 := h.m1
  have l1 := len_I gs
  rw [h.gl] at l1
  refine callP (S1 := []) (by simp [cleans, clean_tb, okV_cl _ _ hu]) ?_ rfl
  rw [ph (k + 3) I_are_wishes _ _ n_are_wishes rfl]
  refine runR (fn := n_are_wishes) (ds := [tbD gs R, u]) rfl ?_
  dsimp only [n_are_wishes, b_are_wishes]
  show evSs _ _ _ [tbD gs R, u] _ = _
  refine Ts.rt (T.ret ?_)
  have es : evEs (Ph (k + 3)) [.var 1, .cst (.int 0), .bop .sub (.blt .len [.ix (.var 0) (.cst (.int 0))]) (.cst (.int 1))] [tbD gs R, u] [] = .ok [u, .int 0, .int ((m : Int) - 1)] [] := Es.cons (vkd rfl hk) (Es.cons E.cst (Es.cons (E.bop (x := I m) (E.blt (Es.cons (E.ix (x := tbD gs R) (E.var rfl rfl) E.cst rfl) Es.nil) l1) E.cst (sub_m hm1)) Es.nil))
  by_cases ht : ∃ xs, u = .tup xs
  · obtain ⟨xs, rfl⟩ := ht
    obtain ⟨hl, m', _, hxs⟩ := okV_tup hu
    have c1 : callE (Ph (k + 3)) I_are_between 1 [.tup xs, .int 0, .int ((m : Int) - 1)] [] = .ok (.bl (xs.all (btw 0 ((m : Int) - 1)))) [] := callP (by simp [cleans, clean, okVs_cl _ _ hxs]) (are_between_gen k [] xs _ _ hxs) rfl
    show evE _ _ _ _ = NG.R.ok (D.bl (xs.all (btw 0 ((m : Int) - 1)) && decide (1 ≤ xs.length))) []
    have e1 := E.call es c1
    have e3 := E.cmp2I (Φ := Ph (k + 3)) (ρ := [tbD gs R, .tup xs]) (S := []) (a := .cst (.int 1)) (b := .blt .len [.var 1]) (c := .glob (.int 200)) (j := xs.length) E.cst (E.blt (Es.cons (E.var rfl rfl) Es.nil) rfl) E.glob
    have e4 : (decide ((1 : Int) ≤ (xs.length : Int)) && decide ((xs.length : Int) ≤ 200)) = decide (1 ≤ xs.length) := by
      rw [decide_eq_true (show (xs.length : Int) ≤ 200 by omega), Bool.and_true]
      rw [Bool.eq_iff_iff, decide_eq_true_eq, decide_eq_true_eq]
      omega
    rw [e4] at e3
    cases hb : xs.all (btw 0 ((m : Int) - 1)) with
    | false =>
      rw [hb] at e1
      exact E.and e1 rfl (condF rfl)
    | true =>
      rw [hb] at e1
      exact E.and e1 rfl (condT e3)
  · have e : isTp u = false := by cases hk <;> first | rfl | exact absurd ⟨_, rfl⟩ ht
    have c1 : callE (Ph (k + 3)) I_are_between 1 [u, .int 0, .int ((m : Int) - 1)] [] = .ok (.bl false) [] := callP (by simp [cleans, clean, okV_cl _ _ hu]) (are_between_non (k + 2) [] _ _ hk e) rfl
    have e2 : (awB m u) = false := by
      cases hk <;> first | rfl | exact absurd ⟨_, rfl⟩ ht
    rw [e2]
    exact E.and (E.call es c1) rfl (condF rfl)
theorem head_ix {ws : List Nat} (h : 1 ≤ ws.length) : ixE (tI ws) (.int 0) = some (I (ws.headD 0)) ∧ ixE (tI ws) (.int (-1)) = some (I (ws.getLastD 0)) := by
  have hne : ws ≠ [] := fun e => by rw [e] at h; simp at h
  constructor
  · show atIx (ws.map I) ((0 : Nat) : Int) = _
    rw [at_nat]
    cases ws with
    | nil => exact absurd rfl hne
    | cons x ws => rfl
  · show atIx (ws.map I) (-1) = _
    rw [at_last _ (fun e => hne (List.map_eq_nil_iff.mp e)), List.length_map, List.getElem?_map, ← List.getLast?_eq_getElem?]
    rw [List.getLast?_eq_some_getLast hne]
    show some (I (ws.getLast hne)) = some (I (ws.getLastD 0))
    rw [List.getLastD_eq_getLast?, List.getLast?_eq_some_getLast hne]
    rfl
theorem headlast {ws : List Nat} (h : 1 ≤ ws.length) : decide (ws.headD 0 = ws.getLastD 0) = decide (ws.head? = ws.getLast?) := by
  have hne : ws ≠ [] := fun e => by rw [e] at h; simp at h
  rw [List.headD_eq_head?_getD, List.getLastD_eq_getLast?, List.head?_eq_some_head hne, List.getLast?_eq_some_getLast hne]
  simp
theorem eq_II (a b : Nat) : cmpE .eq (I a) (I b) = some (decide (a = b)) := by
  rw [c_eq_ok _ _ rfl]
  show some (deq (I a) (I b)) = _
  rw [deq_I]
  rfl
theorem ne_II (a b : Nat) : cmpE .ne (I a) (I b) = some (!decide (a = b)) := by
  rw [c_ne_ok _ _ rfl]
  show some (!deq (I a) (I b)) = _
  rw [deq_I]
  rfl
theorem lt_2 (a : Nat) : cmpE .lt (I a) (.int 2) = some (decide (a < 2)) := by
  show some (decide ((a : Int) < 2)) = _
  congr 1
  rw [Bool.eq_iff_iff, decide_eq_true_eq, decide_eq_true_eq]
  omega
theorem ix_T {hs : List Int} {i : Nat} (h : i < hs.length) : ixE (.tup (zD hs)) (I i) = some (.int (hs.getD i 0)) := by
  show atIx (zD hs) ((i : Nat) : Int) = _
  rw [at_nat]
  exact ix_Z h
theorem shows_level_gen (k : Nat) (S : Store) (h : TbOk m sz gs R) {j : Nat} {v : D} (hv : okV j v = true) : callE (Ph (k + 7)) I_shows_level 1 [tbD gs R, v] S = .ok (.bl (shB R m v)) S := by
  have hk := okV_kd hv
  have hm1 := h.m1
  have c1 := check_table_ok k [] h
  have l1 := len_I gs
  rw [h.gl] at l1
  refine callP (S1 := []) (by simp [cleans, clean_tb, okV_cl _ _ hv]) ?_ rfl
  rw [ph (k + 6) I_shows_level _ _ n_shows_level rfl]
  refine runR (fn := n_shows_level) (ds := [tbD gs R, v]) rfl ?_
  dsimp only [n_shows_level, b_shows_level]
  show evSs _ _ _ [tbD gs R, v, .undef] _ = _
  refine Ts.nx (T.expr (E.call (Es.cons (E.var rfl rfl) Es.nil) c1)) ?_
  rcases pair_cases v with ⟨a, u, rfl, hp⟩ | hp
  · obtain ⟨ha, m', _, hu⟩ := okV_pair hv
    have ku := okV_kd hu
    obtain ⟨t1, t2, t3, i0, i1⟩ := head_ok (Φ := Ph (k + 6)) (S := []) (ρ := [tbD gs R, .tup [.str a, u], .undef]) (a := a) (u := u) rfl
    refine Ts.nx (T.ite (x := .bl false) (u := false) (E.or t1 rfl (condF (E.or t2 rfl (condF t3)))) rfl (condF Ts.nil)) ?_
    have t4 : evE (Ph (k + 6)) (.cmp .eq (.ix (.var 1) (.cst (.int 0))) (.glob (.str [114, 111, 117, 110, 100]))) [tbD gs R, .tup [.str a, u], .undef] [] = .ok (.bl (decide (a = RD))) [] := E.cmp i0 E.glob (eq_str ha (by decide))
    have t5 : evE (Ph (k + 6)) (.cmp .ne (.ix (.var 1) (.cst (.int 0))) (.glob (.str [108, 101, 118, 101, 108]))) [tbD gs R, .tup [.str a, u], .undef] [] = .ok (.bl (!decide (a = LV))) [] := E.cmp i0 E.glob (ne_str ha (by decide))
    show evSs _ _ _ _ _ = NG.R.ok (.rt (.bl (if a = RD then rdB R m u else decide (a = LV) && lvV R m u))) []
    by_cases hr : a = RD
    · rw [if_pos hr]
      rw [decide_eq_true hr] at t4
      apply Ts.rt
      refine T.ite (x := .bl true) (u := true) t4 rfl (condT ?_)
      have c2 := are_wishes_gen (k + 2) [] h hu
      have e2 : evE (Ph (k + 6)) (.not (.call I_are_wishes 1 [.var 0, .ix (.var 1) (.cst (.int 1))])) [tbD gs R, .tup [.str a, u], .undef] [] = .ok (.bl (!(awB m u))) [] := E.not (E.call (Es.cons (E.var rfl rfl) (Es.cons i1 Es.nil)) c2) rfl
      cases hw : (awB m u) with
      | false =>
        rw [hw] at e2
        have : rdB R m u = false := by
          cases ku <;> first | rfl | skip
          rename_i xs
          show (decide (2 ≤ xs.length) && (xs.all (btw 0 ((m : Int) - 1)) && _)) = false
          have hw : (xs.all (btw 0 ((m : Int) - 1)) && decide (1 ≤ xs.length)) = false := hw
          cases hb : xs.all (btw 0 ((m : Int) - 1)) with
          | false => simp
          | true =>
            rw [hb] at hw
            have : ¬ 1 ≤ xs.length := by simpa using hw
            rw [decide_eq_false (by omega)]
            rfl
        rw [this]
        exact Ts.rt (T.ite (x := .bl true) (u := true) (E.or e2 rfl (condT rfl)) rfl (condT (Ts.rt (T.ret E.cst))))
      | true =>
        rw [hw] at e2
        obtain ⟨xs, rfl⟩ : ∃ xs, u = .tup xs := by cases ku <;> first | exact ⟨_, rfl⟩ | cases hw
        have hw : (xs.all (btw 0 ((m : Int) - 1)) && decide (1 ≤ xs.length)) = true := hw
        rw [Bool.and_eq_true, decide_eq_true_eq] at hw
        obtain ⟨ws, rfl, hws⟩ := btw_nats hw.1
        have h1 : 1 ≤ ws.length := by have := hw.2; rw [List.length_map] at this; exact this
        have hlen : ws.length ≤ 60 := by have := (okV_tup hu).1; rw [List.length_map] at this; exact this
        have er : rdB R m (.tup (ws.map I)) = (decide (2 ≤ ws.length) && rdW R ws) := by
          show (decide (2 ≤ (ws.map I).length) && (_ && rdW R (natsOf (ws.map I)))) = _
          rw [hw.1, natsOf_I, List.length_map]
          rfl
        rw [er]
        obtain ⟨x1, x2⟩ := head_ix h1
        have l2 := len_I ws
        have e3 : evE (Ph (k + 6)) (.cmp .lt (.blt .len [.ix (.var 1) (.cst (.int 1))]) (.cst (.int 2))) [tbD gs R, .tup [.str a, .tup (ws.map I)], .undef] [] = .ok (.bl (decide (ws.length < 2))) [] := E.cmp (x := I ws.length) (E.blt (Es.cons i1 Es.nil) l2) E.cst (lt_2 ws.length)
        have e4 : evE (Ph (k + 6)) (.cmp .ne (.ix (.ix (.var 1) (.cst (.int 1))) (.cst (.int 0))) (.ix (.ix (.var 1) (.cst (.int 1))) (.neg (.cst (.int 1))))) [tbD gs R, .tup [.str a, .tup (ws.map I)], .undef] [] = .ok (.bl (!decide (ws.headD 0 = ws.getLastD 0))) [] := E.cmp (x := I (ws.headD 0)) (y := I (ws.getLastD 0)) (E.ix i1 E.cst x1) (E.ix i1 (E.neg E.cst) x2) (ne_II _ _)
        rw [headlast h1] at e4
        by_cases h2 : 2 ≤ ws.length
        · rw [decide_eq_false (show ¬ ws.length < 2 by omega)] at e3
          rw [decide_eq_true h2, Bool.true_and]
          unfold rdW
          cases hh : decide (ws.head? = ws.getLast?) with
          | false =>
            rw [hh] at e4
            exact Ts.rt (T.ite (x := .bl true) (u := true) (E.or e2 rfl (condF (E.or e3 rfl (condF e4)))) rfl (condT (Ts.rt (T.ret E.cst))))
          | true =>
            rw [hh] at e4
            refine Ts.nx (T.ite (x := .bl false) (u := false) (E.or e2 rfl (condF (E.or e3 rfl (condF e4)))) rfl (condF Ts.nil)) ?_
            refine Ts.rt (T.ret ?_)
            rw [Bool.true_and]
            exact E.cmp (E.ix (E.call (Es.cons (E.var rfl rfl) (Es.cons i1 Es.nil)) (sums_of_ok (k + 4) h hws (by omega) [])) (E.neg E.cst) (sumZ_last _)) E.cst (ne_Z0 _)
        · rw [decide_eq_true (show ws.length < 2 by omega)] at e3
          rw [decide_eq_false h2]
          exact Ts.rt (T.ite (x := .bl true) (u := true) (E.or e2 rfl (condF (E.or e3 rfl (condT rfl)))) rfl (condT (Ts.rt (T.ret E.cst))))
    · rw [if_neg hr]
      rw [decide_eq_false hr] at t4
      refine Ts.nx (T.ite (x := .bl false) (u := false) t4 rfl (condF Ts.nil)) ?_
      cases hlv : decide (a = LV) with
      | false =>
        rw [hlv] at t5
        exact Ts.rt (T.ite (x := .bl true) (u := true) (E.or t5 rfl (condT rfl)) rfl (condT (Ts.rt (T.ret E.cst))))
      | true =>
        rw [hlv] at t5
        rw [Bool.true_and]
        have e6 := is_tup_ev ku i1
        by_cases ht : ∃ xs, u = .tup xs
        · obtain ⟨xs, rfl⟩ := ht
          obtain ⟨hl, m'', _, hxs⟩ := okV_tup hu
          have e6 : evE (Ph (k + 6)) (.not (.blt (.isinst .tuple) [.ix (.var 1) (.cst (.int 1))])) [tbD gs R, .tup [.str a, .tup xs], .undef] [] = .ok (.bl false) [] := E.not (x := .bl true) e6 rfl
          have e7 : evE (Ph (k + 6)) (.cmp .ne (.blt .len [.ix (.var 1) (.cst (.int 1))]) (.blt .len [.ix (.var 0) (.cst (.int 0))])) [tbD gs R, .tup [.str a, .tup xs], .undef] [] = .ok (.bl (!decide (xs.length = m))) [] := E.cmp (x := I xs.length) (y := I m) (E.blt (Es.cons i1 Es.nil) rfl) (E.blt (Es.cons (E.ix (x := tbD gs R) (E.var rfl rfl) E.cst rfl) Es.nil) l1) (ne_II _ _)
          show evSs _ _ _ _ _ = NG.R.ok (.rt (.bl (decide (xs.length = m) && (xs.all isI && lvB R m (intsOf xs))))) []
          cases hlm : decide (xs.length = m) with
          | false =>
            rw [hlm] at e7
            exact Ts.rt (T.ite (x := .bl true) (u := true) (E.or t5 rfl (condF (E.or e6 rfl (condF e7)))) rfl (condT (Ts.rt (T.ret E.cst))))
          | true =>
            rw [hlm] at e7
            refine Ts.nx (T.ite (x := .bl false) (u := false) (E.or t5 rfl (condF (E.or e6 rfl (condF e7)))) rfl (condF Ts.nil)) ?_
            refine Ts.rt (T.ret ?_)
            have cI : compL (.one 2) (evC (Ph (k + 6)) []) (evE (Ph (k + 6)) (.call I_is_integer 1 [.var 2])) [tbD gs R, .tup [.str a, .tup xs], .undef] xs [] = .ok (xs.map fun d => .bl (isI d)) [] :=
              compL_map (fun d => .bl (isI d)) fun d hd => ⟨[tbD gs R, .tup [.str a, .tup xs], d], rfl, C.nil, E.call (Es.cons (vkd rfl (okV_kd (okVs_mem hxs d hd))) Es.nil) (call_integer (k + 5) [] (okV_kd (okVs_mem hxs d hd)) (okV_cl _ _ (okVs_mem hxs d hd)))⟩
            have e8 : evE (Ph (k + 6)) (.blt .all [.comp (.call I_is_integer 1 [.var 2]) (.one 2) [2] .of [.ix (.var 1) (.cst (.int 1))] []]) [tbD gs R, .tup [.str a, .tup xs], .undef] [] = .ok (.bl (xs.all isI)) [] := E.blt (Es.cons (E.comp (Es.cons i1 Es.nil) rfl cI) Es.nil) (all_I isI xs)
            rw [Bool.true_and]
            cases hI : xs.all isI with
            | false =>
              rw [hI] at e8
              exact E.and e8 rfl (condF rfl)
            | true =>
              rw [hI] at e8
              obtain ⟨hs, rfl⟩ := isI_ints hI
              have hm : hs.length = m := by have := of_decide_eq_true hlm; rw [List.length_map] at this; exact this
              rw [intsOf_Z, Bool.true_and]
              exact E.and e8 rfl (condT (E.call (Es.cons (E.var rfl rfl) (Es.cons i1 Es.nil)) (is_level_ok (k + 3) [] h (hD := .tup (zD hs)) (hs := hs) (fun i hi => ix_T (by omega)) rfl rfl (clean_zT hs))))
        · have e : isTp u = false := by cases ku <;> first | rfl | exact absurd ⟨_, rfl⟩ ht
          have e9 : lvV R m u = false := by cases ku <;> first | rfl | exact absurd ⟨_, rfl⟩ ht
          rw [e] at e6
          rw [e9]
          exact Ts.rt (T.ite (x := .bl true) (u := true) (E.or t5 rfl (condF (E.or (E.not (x := .bl false) e6 rfl) rfl (condT rfl)))) rfl (condT (Ts.rt (T.ret E.cst))))
  · obtain ⟨_, _, hd, _⟩ := head_gen (Φ := Ph (k + 6)) (S := []) (ρ := [tbD gs R, v, .undef]) (rest := .cst .non) hv rfl hp
    rw [shB_no hp]
    exact Ts.rt (T.ite (x := .bl true) (u := true) hd rfl (condT (Ts.rt (T.ret E.cst))))
end
end NgB
end

section
set_option autoImplicit false
set_option maxRecDepth 100000
set_option maxHeartbeats 1000000
namespace NgB
open NG
section
variable {m sz : Nat} {gs : List Nat} {R : List (List (List Nat))}
theorem chs_range (R : List (List (List Nat))) (ws : List Nat) : chs R ws = (List.range (ws.length - 1)).map fun i => ch R (ws.getD i 0) (ws.getD (i + 1) 0) := by
  apply List.ext_getElem
  · unfold chs
    rw [List.length_map, prs_len, List.length_map, List.length_range]
  · intro i h1 h2
    have h3 : i < ws.length - 1 := by rw [List.length_map, List.length_range] at h2; exact h2
    simp only [chs, prs, List.getElem_map, List.getElem_zip, List.getElem_tail, List.getElem_range]
    rw [List.getD_eq_getElem?_getD, List.getD_eq_getElem?_getD, List.getElem?_eq_getElem (by omega), List.getElem?_eq_getElem (by omega)]
    rfl
theorem eq_ZZ (a b : Int) : cmpE .eq (.int a) (.int b) = some (decide (a = b)) := by
  rw [c_eq_ok _ _ rfl]
  rfl
theorem big_btw {k : Nat} {xs : List D} (h : okVs k xs = true) : xs.all (btw (-((10 ^ 30 : Nat) : Int)) ((10 ^ 30 : Nat) : Int)) = xs.all isI := by
  have hb : BIG = 100000000000000000000 := rfl
  have h30 : (10 ^ 30 : Nat) = 1000000000000000000000000000000 := by decide
  rw [h30]
  induction xs with
  | nil => rfl
  | cons d xs ih =>
    simp only [okVs, Bool.and_eq_true] at h
    rw [List.all_cons, List.all_cons, ih h.2]
    congr 1
    cases d <;> first | rfl | skip
    rename_i i
    have h1 := h.1
    simp only [okV, decide_eq_true_eq] at h1
    show (decide (_ ≤ i) && decide (i ≤ _)) = true
    rw [decide_eq_true (by omega), decide_eq_true (by omega)]
    rfl
theorem ten30 : bopE .pow (.int 10) (.int 30) = some (.int ((10 ^ 30 : Nat) : Int)) := pow_I 10 30 (by decide) (by omega)
def envH (K v a2 a3 a4 a5 a6 a7 a8 : D) : Env := [K, v, a2, a3, a4, a5, a6, a7, a8]
theorem charge_last (k : Nat) (S : Store) (h : TbOk m sz gs R) {ρ : Env} {eo en : CE} {o n : Nat} (ho : o < m) (hn : n < m) (h0 : ρ[0]? = some (tbD gs R)) (h1 : evE (Ph (k + 1)) eo ρ S = .ok (I o) S) (h2 : evE (Ph (k + 1)) en ρ S = .ok (I n) S) :
    evE (Ph (k + 1)) (.ix (.call I__law_charges 1 [.ix (.ix (.ix (.var 0) (.cst (.int 1))) eo) en]) (.neg (.cst (.int 1)))) ρ S = .ok (.int (ch R o n)) S := by
  obtain ⟨w1, w2, _⟩ := wv_ok h ho hn
  have hs6 := h.s6
  exact E.ix (x := .lst (zD (preW (wv R o n)))) (E.call (Es.cons (cell_ev h ho hn (E.var h0 rfl) h1 h2) Es.nil) (call_lcharges k S w1 (by omega))) (E.neg E.cst) (preW_last _)
theorem law_is_shown_gen (k : Nat) (S : Store) (h : TbOk m sz gs R) {j : Nat} {v : D} (hv : okV j v = true) : callE (Ph (k + 2)) I__law_is_shown 1 [tbD gs R, v] S = .ok (.bl (shB R m v)) S := by
  have hk := okV_kd hv
  have hm1 := h.m1
  have hm4 := h.m4
  have hL' : (LIM : Nat) = 16777216 := rfl
  have l1 := len_I gs
  rw [h.gl] at l1
  have rg := rng_ok m (by omega)
  refine callP (S1 := []) (by simp [cleans, clean_tb, okV_cl _ _ hv]) ?_ rfl
  rw [ph (k + 1) I__law_is_shown _ _ n__law_is_shown rfl]
  refine runR (fn := n__law_is_shown) (ds := [tbD gs R, v]) rfl ?_
  dsimp only [n__law_is_shown, b__law_is_shown]
  show evSs _ _ _ (envH (tbD gs R) v .undef .undef .undef .undef .undef .undef .undef) _ = _
  refine Ts.nx (ρ1 := envH (tbD gs R) v (I m) .undef .undef .undef .undef .undef .undef) (S1 := []) (T.set (E.blt (Es.cons (E.ix (x := tbD gs R) (E.var rfl rfl) E.cst rfl) Es.nil) l1) rfl) ?_
  rcases pair_cases v with ⟨a, u, rfl, hp⟩ | hp
  · obtain ⟨ha, m', _, hu⟩ := okV_pair hv
    have ku := okV_kd hu
    obtain ⟨t1, t2, t3, i0, i1⟩ := head_ok (Φ := Ph (k + 1)) (S := []) (ρ := envH (tbD gs R) (.tup [.str a, u]) (I m) .undef .undef .undef .undef .undef .undef) (a := a) (u := u) rfl
    have e6 := is_tup_ev ku i1
    show evSs _ _ _ _ _ = NG.R.ok (.rt (.bl (if a = RD then rdB R m u else decide (a = LV) && lvV R m u))) []
    by_cases ht : ∃ xs, u = .tup xs
    · obtain ⟨xs, rfl⟩ := ht
      obtain ⟨hl, m'', _, hxs⟩ := okV_tup hu
      refine Ts.nx (T.ite (x := .bl false) (u := false) (E.or t1 rfl (condF (E.or t2 rfl (condF (E.or t3 rfl (condF (E.not (x := .bl true) e6 rfl))))))) rfl (condF Ts.nil)) ?_
      have t4 : evE (Ph (k + 1)) (.cmp .eq (.ix (.var 1) (.cst (.int 0))) (.cst (.str [108, 101, 118, 101, 108]))) (envH (tbD gs R) (.tup [.str a, .tup xs]) (I m) .undef .undef .undef .undef .undef .undef) [] = .ok (.bl (decide (a = LV))) [] := E.cmp i0 E.cst (eq_str ha (by decide))
      have t5 : evE (Ph (k + 1)) (.cmp .ne (.ix (.var 1) (.cst (.int 0))) (.cst (.str [114, 111, 117, 110, 100]))) (envH (tbD gs R) (.tup [.str a, .tup xs]) (I m) .undef .undef .undef .undef .undef .undef) [] = .ok (.bl (!decide (a = RD))) [] := E.cmp i0 E.cst (ne_str ha (by decide))
      by_cases hlv : a = LV
      · rw [decide_eq_true hlv] at t4
        rw [if_neg (by rw [hlv]; decide), decide_eq_true hlv, Bool.true_and]
        show evSs _ _ _ _ _ = NG.R.ok (.rt (.bl (decide (xs.length = m) && (xs.all isI && lvB R m (intsOf xs))))) []
        apply Ts.rt
        refine T.ite (x := .bl true) (u := true) t4 rfl (condT ?_)
        have e7 : evE (Ph (k + 1)) (.cmp .ne (.blt .len [.ix (.var 1) (.cst (.int 1))]) (.var 2)) (envH (tbD gs R) (.tup [.str a, .tup xs]) (I m) .undef .undef .undef .undef .undef .undef) [] = .ok (.bl (!decide (xs.length = m))) [] := E.cmp (x := I xs.length) (y := I m) (E.blt (Es.cons i1 Es.nil) rfl) (E.var rfl rfl) (ne_II _ _)
        have cI : compL (.one 7) (evC (Ph (k + 1)) []) (evE (Ph (k + 1)) (.call I__law_is_int 1 [.var 7, .neg (.bop .pow (.cst (.int 10)) (.cst (.int 30))), .bop .pow (.cst (.int 10)) (.cst (.int 30))])) (envH (tbD gs R) (.tup [.str a, .tup xs]) (I m) .undef .undef .undef .undef .undef .undef) xs [] = .ok (xs.map fun d => .bl (btw (-((10 ^ 30 : Nat) : Int)) ((10 ^ 30 : Nat) : Int) d)) [] :=
          compL_map (fun d => .bl (btw (-((10 ^ 30 : Nat) : Int)) ((10 ^ 30 : Nat) : Int) d)) fun d hd => ⟨envH (tbD gs R) (.tup [.str a, .tup xs]) (I m) .undef .undef .undef .undef d .undef, rfl, C.nil, E.call (Es.cons (vkd rfl (okV_kd (okVs_mem hxs d hd))) (Es.cons (E.neg (E.bop E.cst E.cst ten30)) (Es.cons (E.bop E.cst E.cst ten30) Es.nil))) (law_is_int_gen k [] _ _ (okV_kd (okVs_mem hxs d hd)) (okV_cl _ _ (okVs_mem hxs d hd)))⟩
        have e8 : evE (Ph (k + 1)) (.not (.blt .all [.comp (.call I__law_is_int 1 [.var 7, .neg (.bop .pow (.cst (.int 10)) (.cst (.int 30))), .bop .pow (.cst (.int 10)) (.cst (.int 30))]) (.one 7) [7] .of [.ix (.var 1) (.cst (.int 1))] []])) (envH (tbD gs R) (.tup [.str a, .tup xs]) (I m) .undef .undef .undef .undef .undef .undef) [] = .ok (.bl (!xs.all isI)) [] := by
          rw [← big_btw hxs]
          exact E.not (x := .bl (xs.all (btw (-((10 ^ 30 : Nat) : Int)) ((10 ^ 30 : Nat) : Int)))) (E.blt (Es.cons (E.comp (Es.cons i1 Es.nil) rfl cI) Es.nil) (all_I _ xs)) rfl
        cases hlm : decide (xs.length = m) with
        | false =>
          rw [hlm] at e7
          exact Ts.rt (T.ite (x := .bl true) (u := true) (E.or e7 rfl (condT rfl)) rfl (condT (Ts.rt (T.ret E.cst))))
        | true =>
          rw [hlm] at e7
          rw [Bool.true_and]
          cases hI : xs.all isI with
          | false =>
            rw [hI] at e8
            exact Ts.rt (T.ite (x := .bl true) (u := true) (E.or e7 rfl (condF e8)) rfl (condT (Ts.rt (T.ret E.cst))))
          | true =>
            rw [hI] at e8
            obtain ⟨hs, rfl⟩ := isI_ints hI
            have hm : hs.length = m := by have := of_decide_eq_true hlm; rw [List.length_map] at this; exact this
            rw [intsOf_Z, Bool.true_and]
            refine Ts.nx (T.ite (x := .bl false) (u := false) (E.or e7 rfl (condF e8)) rfl (condF Ts.nil)) ?_
            have lp := forL_all (t := .one 4) (body := evSs 1000 (Ph (k + 1)) [.ite (.not (.blt .all [.comp (.cmp .eq (.ix (.call I__law_charges 1 [.ix (.ix (.ix (.var 0) (.cst (.int 1))) (.var 4)) (.var 8)]) (.neg (.cst (.int 1)))) (.bop .sub (.ix (.ix (.var 1) (.cst (.int 1))) (.var 8)) (.ix (.ix (.var 1) (.cst (.int 1))) (.var 4)))) (.one 8) [8] .rng1 [.var 2] []])) [.ret (.cst (.bl false))] []]) (S := []) (fun o => (List.range m).all fun n => decide (ch R o n = hs.getD n 0 - hs.getD o 0)) I (fun ρ => ∃ c, ρ = envH (tbD gs R) (.tup [.str a, .tup (zD hs)]) (I m) .undef c .undef .undef .undef .undef) (List.range m) (envH (tbD gs R) (.tup [.str a, .tup (zD hs)]) (I m) .undef .undef .undef .undef .undef .undef) ⟨_, rfl⟩ fun o ho ρ hρ => by
              obtain ⟨c, rfl⟩ := hρ
              have ho := List.mem_range.mp ho
              have cc : compL (.one 8) (evC (Ph (k + 1)) []) (evE (Ph (k + 1)) (.cmp .eq (.ix (.call I__law_charges 1 [.ix (.ix (.ix (.var 0) (.cst (.int 1))) (.var 4)) (.var 8)]) (.neg (.cst (.int 1)))) (.bop .sub (.ix (.ix (.var 1) (.cst (.int 1))) (.var 8)) (.ix (.ix (.var 1) (.cst (.int 1))) (.var 4))))) (envH (tbD gs R) (.tup [.str a, .tup (zD hs)]) (I m) .undef (I o) .undef .undef .undef .undef) ((List.range m).map I) [] = .ok ((List.range m).map fun n => .bl (decide (ch R o n = hs.getD n 0 - hs.getD o 0))) [] := by
                refine compI _ fun n hn => ?_
                have hn := List.mem_range.mp hn
                refine ⟨envH (tbD gs R) (.tup [.str a, .tup (zD hs)]) (I m) .undef (I o) .undef .undef .undef (I n), rfl, C.nil, ?_⟩
                have y1 : evE (Ph (k + 1)) (.ix (.var 1) (.cst (.int 1))) (envH (tbD gs R) (.tup [.str a, .tup (zD hs)]) (I m) .undef (I o) .undef .undef .undef (I n)) [] = .ok (.tup (zD hs)) [] := E.ix (x := .tup [.str a, .tup (zD hs)]) (E.var rfl rfl) E.cst rfl
                have z1 : evE (Ph (k + 1)) (.ix (.ix (.var 1) (.cst (.int 1))) (.var 8)) (envH (tbD gs R) (.tup [.str a, .tup (zD hs)]) (I m) .undef (I o) .undef .undef .undef (I n)) [] = .ok (.int (hs.getD n 0)) [] := E.ix y1 (E.var rfl rfl) (ix_T (by omega))
                have z2 : evE (Ph (k + 1)) (.ix (.ix (.var 1) (.cst (.int 1))) (.var 4)) (envH (tbD gs R) (.tup [.str a, .tup (zD hs)]) (I m) .undef (I o) .undef .undef .undef (I n)) [] = .ok (.int (hs.getD o 0)) [] := E.ix y1 (E.var rfl rfl) (ix_T (by omega))
                exact E.cmp (charge_last k [] h ho hn rfl (E.var rfl rfl) (E.var rfl rfl)) (E.bop z1 z2 rfl) (eq_ZZ _ _)
              have e9 : evE (Ph (k + 1)) (.not (.blt .all [.comp (.cmp .eq (.ix (.call I__law_charges 1 [.ix (.ix (.ix (.var 0) (.cst (.int 1))) (.var 4)) (.var 8)]) (.neg (.cst (.int 1)))) (.bop .sub (.ix (.ix (.var 1) (.cst (.int 1))) (.var 8)) (.ix (.ix (.var 1) (.cst (.int 1))) (.var 4)))) (.one 8) [8] .rng1 [.var 2] []])) (envH (tbD gs R) (.tup [.str a, .tup (zD hs)]) (I m) .undef (I o) .undef .undef .undef .undef) [] = .ok (.bl (!(List.range m).all fun n => decide (ch R o n = hs.getD n 0 - hs.getD o 0))) [] :=
                E.not (x := .bl ((List.range m).all fun n => decide (ch R o n = hs.getD n 0 - hs.getD o 0))) (E.blt (Es.cons (E.comp (Es.cons (E.var rfl rfl) Es.nil) rg cc) Es.nil) (all_I _ _)) rfl
              refine ⟨envH (tbD gs R) (.tup [.str a, .tup (zD hs)]) (I m) .undef (I o) .undef .undef .undef .undef, rfl, fun e => ?_, fun e => ?_⟩
              · rw [e] at e9
                exact ⟨_, ⟨_, rfl⟩, Ts.nx (T.ite (x := .bl false) (u := false) e9 rfl (condF Ts.nil)) Ts.nil⟩
              · rw [e] at e9
                exact Ts.rt (T.ite (x := .bl true) (u := true) e9 rfl (condT (Ts.rt (T.ret E.cst))))
            have src : evEs (Ph (k + 1)) [.var 2] (envH (tbD gs R) (.tup [.str a, .tup (zD hs)]) (I m) .undef .undef .undef .undef .undef .undef) [] = .ok [I m] [] := Es.cons (E.var rfl rfl) Es.nil
            cases e : lvB R m hs with
            | true =>
              obtain ⟨ρ', ⟨c, rfl⟩, e'⟩ := lp.1 e
              exact Ts.nx (T.for src rg e') (Ts.rt (T.ret E.cst))
            | false => exact Ts.rt (T.for src rg (lp.2 e))
      · rw [decide_eq_false hlv] at t4
        refine Ts.nx (T.ite (x := .bl false) (u := false) t4 rfl (condF Ts.nil)) ?_
        by_cases hr : a = RD
        · rw [decide_eq_true hr] at t5
          rw [if_pos hr]
          show evSs _ _ _ _ _ = NG.R.ok (.rt (.bl (decide (2 ≤ xs.length) && (xs.all (btw 0 ((m : Int) - 1)) && rdW R (natsOf xs))))) []
          have e3 := E.cmp2I (Φ := Ph (k + 1)) (ρ := envH (tbD gs R) (.tup [.str a, .tup xs]) (I m) .undef .undef .undef .undef .undef .undef) (S := []) (a := .cst (.int 2)) (b := .blt .len [.ix (.var 1) (.cst (.int 1))]) (c := .cst (.int 200)) (j := xs.length) E.cst (E.blt (Es.cons i1 Es.nil) rfl) E.cst
          have e4 : (decide ((2 : Int) ≤ (xs.length : Int)) && decide ((xs.length : Int) ≤ 200)) = decide (2 ≤ xs.length) := by
            rw [decide_eq_true (show (xs.length : Int) ≤ 200 by omega), Bool.and_true]
            rw [Bool.eq_iff_iff, decide_eq_true_eq, decide_eq_true_eq]
            omega
          rw [e4] at e3
          have e3' := E.not e3 (t := decide (2 ≤ xs.length)) rfl
          have cI : compL (.one 6) (evC (Ph (k + 1)) []) (evE (Ph (k + 1)) (.call I__law_is_int 1 [.var 6, .cst (.int 0), .bop .sub (.var 2) (.cst (.int 1))])) (envH (tbD gs R) (.tup [.str a, .tup xs]) (I m) .undef .undef .undef .undef .undef .undef) xs [] = .ok (xs.map fun d => .bl (btw 0 ((m : Int) - 1) d)) [] :=
            compL_map (fun d => .bl (btw 0 ((m : Int) - 1) d)) fun d hd => ⟨envH (tbD gs R) (.tup [.str a, .tup xs]) (I m) .undef .undef .undef d .undef .undef, rfl, C.nil, E.call (Es.cons (vkd rfl (okV_kd (okVs_mem hxs d hd))) (Es.cons E.cst (Es.cons (E.bop (x := I m) (E.var rfl rfl) E.cst (sub_m hm1)) Es.nil))) (law_is_int_gen k [] _ _ (okV_kd (okVs_mem hxs d hd)) (okV_cl _ _ (okVs_mem hxs d hd)))⟩
          have e8 : evE (Ph (k + 1)) (.not (.blt .all [.comp (.call I__law_is_int 1 [.var 6, .cst (.int 0), .bop .sub (.var 2) (.cst (.int 1))]) (.one 6) [6] .of [.ix (.var 1) (.cst (.int 1))] []])) (envH (tbD gs R) (.tup [.str a, .tup xs]) (I m) .undef .undef .undef .undef .undef .undef) [] = .ok (.bl (!xs.all (btw 0 ((m : Int) - 1)))) [] :=
            E.not (x := .bl (xs.all (btw 0 ((m : Int) - 1)))) (E.blt (Es.cons (E.comp (Es.cons i1 Es.nil) rfl cI) Es.nil) (all_I _ xs)) rfl
          cases h2 : decide (2 ≤ xs.length) with
          | false =>
            rw [h2] at e3'
            exact Ts.rt (T.ite (x := .bl true) (u := true) (E.or t5 rfl (condF (E.or e3' rfl (condT rfl)))) rfl (condT (Ts.rt (T.ret E.cst))))
          | true =>
            rw [h2] at e3'
            rw [Bool.true_and]
            cases hb : xs.all (btw 0 ((m : Int) - 1)) with
            | false =>
              rw [hb] at e8
              exact Ts.rt (T.ite (x := .bl true) (u := true) (E.or t5 rfl (condF (E.or e3' rfl (condF e8)))) rfl (condT (Ts.rt (T.ret E.cst))))
            | true =>
              rw [hb] at e8
              obtain ⟨ws, rfl, hws⟩ := btw_nats hb
              have h2 : 2 ≤ ws.length := by have := of_decide_eq_true h2; rw [List.length_map] at this; exact this
              have hlen : ws.length ≤ 60 := by rw [List.length_map] at hl; exact hl
              rw [natsOf_I, Bool.true_and]
              refine Ts.nx (T.ite (x := .bl false) (u := false) (E.or t5 rfl (condF (E.or e3' rfl (condF e8)))) rfl (condF Ts.nil)) ?_
              have rg2 := rng_ok (ws.length - 1) (by omega)
              have l2 := len_I ws
              have cc : compL (.one 5) (evC (Ph (k + 1)) []) (evE (Ph (k + 1)) (.ix (.call I__law_charges 1 [.ix (.ix (.ix (.var 0) (.cst (.int 1))) (.ix (.ix (.var 1) (.cst (.int 1))) (.var 5))) (.ix (.ix (.var 1) (.cst (.int 1))) (.bop .add (.var 5) (.cst (.int 1))))]) (.neg (.cst (.int 1))))) (envH (tbD gs R) (.tup [.str a, .tup (ws.map I)]) (I m) .undef .undef .undef .undef .undef .undef) ((List.range (ws.length - 1)).map I) [] = .ok ((List.range (ws.length - 1)).map fun i => .int (ch R (ws.getD i 0) (ws.getD (i + 1) 0))) [] := by
                refine compI _ fun i hi => ?_
                have hi := List.mem_range.mp hi
                refine ⟨envH (tbD gs R) (.tup [.str a, .tup (ws.map I)]) (I m) .undef .undef (I i) .undef .undef .undef, rfl, C.nil, ?_⟩
                have y1 : evE (Ph (k + 1)) (.ix (.var 1) (.cst (.int 1))) (envH (tbD gs R) (.tup [.str a, .tup (ws.map I)]) (I m) .undef .undef (I i) .undef .undef .undef) [] = .ok (tI ws) [] := E.ix (x := .tup [.str a, .tup (ws.map I)]) (E.var rfl rfl) E.cst rfl
                have ixw : ∀ q, q < ws.length → ixE (tI ws) (I q) = some (I (ws.getD q 0)) := fun q hq => by
                  show atIx (ws.map I) ((q : Nat) : Int) = _
                  rw [at_nat, List.getElem?_map, (getD_in (l := ws) (d := 0) hq).2]
                  rfl
                have z1 : evE (Ph (k + 1)) (.ix (.ix (.var 1) (.cst (.int 1))) (.var 5)) (envH (tbD gs R) (.tup [.str a, .tup (ws.map I)]) (I m) .undef .undef (I i) .undef .undef .undef) [] = .ok (I (ws.getD i 0)) [] := E.ix y1 (E.var rfl rfl) (ixw i (by omega))
                have z2 : evE (Ph (k + 1)) (.ix (.ix (.var 1) (.cst (.int 1))) (.bop .add (.var 5) (.cst (.int 1)))) (envH (tbD gs R) (.tup [.str a, .tup (ws.map I)]) (I m) .undef .undef (I i) .undef .undef .undef) [] = .ok (I (ws.getD (i + 1) 0)) [] := E.ix y1 (E.bop (E.var rfl rfl) E.cst (add_1 i)) (ixw (i + 1) (by omega))
                exact charge_last k [] h (hws _ (getD_in (d := 0) (by omega)).1) (hws _ (getD_in (d := 0) (by omega)).1) rfl z1 z2
              have e10 : ((List.range (ws.length - 1)).map fun i => D.int (ch R (ws.getD i 0) (ws.getD (i + 1) 0))) = zD (chs R ws) := by
                rw [chs_range]
                unfold zD
                rw [List.map_map]
                rfl
              rw [e10] at cc
              have sm : bltE .sum [.lst (zD (chs R ws))] = some (.int (sumI (chs R ws))) := by
                show (areInts (zD (chs R ws))).map (fun is => D.int is.sum) = _
                rw [ints_Z, sumI_sum]
                rfl
              refine Ts.nx (ρ1 := envH (tbD gs R) (.tup [.str a, .tup (ws.map I)]) (I m) (.int (sumI (chs R ws))) .undef .undef .undef .undef .undef) (S1 := []) (T.set (E.blt (Es.cons (E.comp (Es.cons (E.bop (x := I ws.length) (E.blt (Es.cons i1 Es.nil) l2) E.cst (sub1_I ws.length (by omega))) Es.nil) rg2 cc) Es.nil) sm) rfl) ?_
              refine Ts.rt (T.ret ?_)
              obtain ⟨x1, x2⟩ := head_ix (ws := ws) (by omega)
              have y1 : evE (Ph (k + 1)) (.ix (.var 1) (.cst (.int 1))) (envH (tbD gs R) (.tup [.str a, .tup (ws.map I)]) (I m) (.int (sumI (chs R ws))) .undef .undef .undef .undef .undef) [] = .ok (tI ws) [] := E.ix (x := .tup [.str a, .tup (ws.map I)]) (E.var rfl rfl) E.cst rfl
              have e11 : evE (Ph (k + 1)) (.cmp .eq (.ix (.ix (.var 1) (.cst (.int 1))) (.cst (.int 0))) (.ix (.ix (.var 1) (.cst (.int 1))) (.neg (.cst (.int 1))))) (envH (tbD gs R) (.tup [.str a, .tup (ws.map I)]) (I m) (.int (sumI (chs R ws))) .undef .undef .undef .undef .undef) [] = .ok (.bl (decide (ws.headD 0 = ws.getLastD 0))) [] := E.cmp (x := I (ws.headD 0)) (y := I (ws.getLastD 0)) (E.ix y1 E.cst x1) (E.ix y1 (E.neg E.cst) x2) (eq_II _ _)
              rw [headlast (by omega)] at e11
              unfold rdW
              cases hh : decide (ws.head? = ws.getLast?) with
              | false =>
                rw [hh] at e11
                exact E.and e11 rfl (condF rfl)
              | true =>
                rw [hh] at e11
                rw [Bool.true_and]
                exact E.and e11 rfl (condT (E.cmp (E.var rfl rfl) E.cst (ne_Z0 _)))
        · rw [decide_eq_false hr] at t5
          rw [if_neg hr, decide_eq_false hlv]
          exact Ts.rt (T.ite (x := .bl true) (u := true) (E.or t5 rfl (condT rfl)) rfl (condT (Ts.rt (T.ret E.cst))))
    · have e : isTp u = false := by cases ku <;> first | rfl | exact absurd ⟨_, rfl⟩ ht
      rw [e] at e6
      have e9 : (if a = RD then rdB R m u else decide (a = LV) && lvV R m u) = false := by
        have h1 : rdB R m u = false := by cases ku <;> first | rfl | exact absurd ⟨_, rfl⟩ ht
        have h2 : lvV R m u = false := by cases ku <;> first | rfl | exact absurd ⟨_, rfl⟩ ht
        rw [h1, h2]
        simp
      rw [e9]
      exact Ts.rt (T.ite (x := .bl true) (u := true) (E.or t1 rfl (condF (E.or t2 rfl (condF (E.or t3 rfl (condF (E.not (x := .bl false) e6 rfl))))))) rfl (condT (Ts.rt (T.ret E.cst))))
  · obtain ⟨_, hd, _, _⟩ := head_gen (Φ := Ph (k + 1)) (S := []) (ρ := envH (tbD gs R) v (I m) .undef .undef .undef .undef .undef .undef) (rest := .not (.blt (.isinst .tuple) [.ix (.var 1) (.cst (.int 1))])) hv rfl hp
    rw [shB_no hp]
    exact Ts.rt (T.ite (x := .bl true) (u := true) hd rfl (condT (Ts.rt (T.ret E.cst))))
end
end NgB
end

section
set_option autoImplicit false
set_option maxRecDepth 100000
set_option maxHeartbeats 1000000
namespace NgB
open NG
/-- the pot has moved, new cells have come; the old ones stand -/
structure Kp (n : Nat) (S S' : Store) : Prop where
  len : S.length ≤ S'.length
  oth : ∀ m, m ≠ n → m < S.length → S'[m]? = S[m]?
theorem Kp.of {n : Nat} {S S' : Store} (h : Keep n S S') : Kp n S S' := ⟨by rw [h.len]; exact Nat.le_refl _, fun m hm _ => h.oth m hm⟩
theorem Kp.refl (n : Nat) (S : Store) : Kp n S S := ⟨Nat.le_refl _, fun _ _ _ => rfl⟩
theorem Kp.trans {n : Nat} {S S1 S2 : Store} (h : Kp n S S1) (h' : Kp n S1 S2) : Kp n S S2 := ⟨Nat.le_trans h.len h'.len, fun m hm hl => (h'.oth m hm (Nat.lt_of_lt_of_le hl h.len)).trans (h.oth m hm hl)⟩
theorem Kp.app (n : Nat) (S : Store) (c : Cell) : Kp n S (S ++ [c]) := ⟨by simp, fun m _ hl => List.getElem?_append_left hl⟩
theorem Kp.set {n a : Nat} {S S1 : Store} (h : Kp n S S1) (ha : S.length ≤ a) (c : Cell) : Kp n S (S1.set a c) := ⟨by rw [List.length_set]; exact h.len, fun m hm hl => by
  rw [List.getElem?_set_ne (by omega)]
  exact h.oth m hm hl⟩
theorem pot_app {n b : Nat} {S : Store} (h : PotAt n b S) (c : Cell) : PotAt n b (S ++ [c]) := by
  obtain ⟨a, v, c', q, q'⟩ := h
  have := (List.getElem?_eq_some_iff.mp q).1
  exact ⟨a, v, c', by rw [List.getElem?_append_left this]; exact q, q'⟩
theorem pot_lt {n b : Nat} {S : Store} (h : PotAt n b S) : n < S.length := by
  obtain ⟨a, v, c, q, _⟩ := h
  exact (List.getElem?_eq_some_iff.mp q).1
theorem pot_set {pn m b : Nat} {S : Store} (h : PotAt pn b S) (hne : pn ≠ m) (c : Cell) : PotAt pn b (S.set m c) := by
  obtain ⟨a, v, c', q, q'⟩ := h
  exact ⟨a, v, c', by rw [List.getElem?_set_ne (Ne.symm hne)]; exact q, q'⟩
theorem len_ref {Φ : Phi} {ρ : Env} {S : Store} {i a : Nat} {l : List D} (h : ρ[i]? = some (.ref a)) (hS : S[a]? = some (.lst l)) : evE Φ (.blt .len [.var i]) ρ S = .ok (I l.length) S := by
  refine E.blt (ds := [.ref a]) (Es.cons (E.var h rfl) Es.nil) ?_
  have : vws S [.ref a] = [.lst l] := vws_cons (vq_lst hS) vws_nil
  rw [this]
  rfl
theorem erase_perm : ∀ (l : List D) (x : Nat) (h : x < l.length), (l[x] :: l.eraseIdx x).Perm l
  | a :: l, 0, _ => List.Perm.refl _
  | a :: l, x + 1, h => (List.Perm.swap a _ _).trans (List.Perm.cons a (erase_perm l x (by simpa using h)))
theorem some_ok (k : Nat) {pn b : Nat} {S : Store} (hp : PotAt pn b S) (hb : b ≤ 900000) (pool : List D) {w : Nat} (hw : w ≤ pool.length) (hpl : pool.length ≤ 100) :
    ∃ (r : List D) (S' : Store), Ph (k + 2) I__law_some [.ref pn, .lst pool, I w] S = .ok (.lst r) S' ∧ r.length = w ∧ (∃ rest, (r ++ rest).Perm pool) ∧ PotAt pn (b + w) S' ∧ Kp pn S S' := by
  have hL' : (LIM : Nat) = 16777216 := rfl
  obtain ⟨a, ha⟩ : ∃ a, a = S.length := ⟨_, rfl⟩
  have hpn := pot_lt hp
  obtain ⟨ρ', S', e1, ⟨lap, hρ⟩, Fn, Pl, f1, f2, f3, f4, f5, f6⟩ := forL_inv (t := .one 3) (body := evSs 1000 (Ph (k + 1)) [.expr (.mut 0 5 [.mut 3 4 [.call I__law_take 0 [.var 0, .blt .len [.var 4]]]])]) (its := (List.range w).map I)
    (fun i ρ S1 => (∃ lap, ρ = [.ref pn, .lst pool, I w, lap, .ref a, .ref (a + 1)]) ∧ ∃ Fn Pl : List D, S1[a]? = some (.lst Pl) ∧ S1[a + 1]? = some (.lst Fn) ∧ Fn.length = i ∧ (Fn ++ Pl).Perm pool ∧ PotAt pn (b + i) S1 ∧ Kp pn S S1) 0 [.ref pn, .lst pool, I w, .undef, .ref a, .ref (a + 1)] ((S ++ [.lst pool]) ++ [.lst []]) (Nat.zero_le _)
    ⟨⟨_, rfl⟩, [], pool, by rw [ha, List.getElem?_append_left (by simp)]; exact List.getElem?_concat_length, by rw [ha, show S.length + 1 = (S ++ [Cell.lst pool]).length by simp]; exact List.getElem?_concat_length, rfl, by simp, pot_app (pot_app hp _) _, (Kp.app _ _ _).trans (Kp.app _ _ _)⟩ fun i d ρ S1 hi hh => by
      obtain ⟨⟨lap, rfl⟩, Fn, Pl, f1, f2, f3, f4, f5, f6⟩ := hh
      have hiw : i < w := by
        have := (List.getElem?_eq_some_iff.mp hi).1
        rw [List.length_map, List.length_range] at this
        exact this
      have hlen := f4.length_eq
      rw [List.length_append] at hlen
      obtain ⟨x, S2, t, hx, p2, k2⟩ := take' k f5 (by omega) (u := Pl.length) (by omega) (by omega)
      have g1 : S2[a]? = some (.lst Pl) := by rw [k2.oth a (by omega)]; exact f1
      have g2 : S2[a + 1]? = some (.lst Fn) := by rw [k2.oth (a + 1) (by omega)]; exact f2
      have hm : mutE 3 (.lst Pl) [I x] = some (Pl[x], .lst (Pl.eraseIdx x)) := by
        have hn : normIx ((x : Nat) : Int) Pl.length = some x := by
          unfold normIx
          rw [if_neg (by omega), if_pos (by omega)]
          rfl
        show (if -16777216 ≤ ((x : Nat) : Int) ∧ ((x : Nat) : Int) ≤ 16777216 then (match normIx ((x : Nat) : Int) Pl.length with
          | some k => (Pl[k]?).map fun z => (z, Cell.lst (Pl.eraseIdx k))
          | none => none) else none) = _
        rw [if_pos (by omega), hn]
        show (Pl[x]?).map _ = _
        rw [List.getElem?_eq_getElem hx]
        rfl
      obtain ⟨ρ1, hρ1⟩ : ∃ ρ1, ρ1 = [.ref pn, .lst pool, I w, d, .ref a, .ref (a + 1)] := ⟨_, rfl⟩
      have e2 : evE (Ph (k + 1)) (.mut 3 4 [.call I__law_take 0 [.var 0, .blt .len [.var 4]]]) ρ1 S1 = .ok Pl[x] (S2.set a (.lst (Pl.eraseIdx x))) := by
        rw [hρ1]
        exact F.mutS (n := a) rfl (live_of f1) (Es.cons (E.call (Es.cons (E.var rfl rfl) (Es.cons (len_ref rfl f1) Es.nil)) t) Es.nil) g1 mutA_3 hm rfl
      have g3 : (S2.set a (.lst (Pl.eraseIdx x)))[a + 1]? = some (.lst Fn) := by rw [List.getElem?_set_ne (by omega)]; exact g2
      obtain ⟨s1, m1⟩ := app_step (W := 1000) (Φ := Ph (k + 1)) (ρ := ρ1) (i := 5) (m := a + 1) (by rw [hρ1]; rfl) (live_of f2) e2 g3 (by omega)
      refine ⟨ρ1, ρ1, _, by rw [hρ1]; rfl, .inl (Ts.nx s1 Ts.nil), ⟨d, hρ1⟩, Fn ++ [Pl[x]], Pl.eraseIdx x, ?_, m1, by rw [List.length_append, List.length_singleton, f3], ?_, ?_, ?_⟩
      · rw [List.getElem?_set_ne (by omega), List.getElem?_set_self (List.getElem?_eq_some_iff.mp g1).1]
      · rw [List.append_assoc]
        refine List.Perm.trans (List.Perm.append_left Fn ?_) f4
        exact erase_perm Pl x hx
      · have := pot_set (pot_set p2 (m := a) (by omega) (.lst (Pl.eraseIdx x))) (m := a + 1) (by omega) (.lst (Fn ++ [Pl[x]]))
        rw [Nat.add_assoc] at this
        exact this
      · exact ((f6.trans (Kp.of k2)).set (by omega) _).set (by omega) _
  rw [List.drop_zero, hρ] at e1
  rw [List.length_map, List.length_range] at f3 f5
  have rg := rng_ok w (by omega)
  refine ⟨Fn, S'.set (a + 1) .dead, ?_, f3, ⟨Pl, f4⟩, pot_set f5 (by omega) _, f6.set (by omega) _⟩
  rw [ph (k + 1) I__law_some _ _ n__law_some rfl]
  refine runR (fn := n__law_some) (ds := [.ref pn, .lst pool, I w]) rfl ?_
  dsimp only [n__law_some, b__law_some]
  show evSs _ _ _ [.ref pn, .lst pool, I w, .undef, .undef, .undef] _ = _
  refine Ts.nx (ρ1 := [.ref pn, .lst pool, I w, .undef, .ref a, .ref (a + 1)]) (S1 := (S ++ [.lst pool]) ++ [.lst []]) ?_ ?_
  · refine T.set (E.tup (ds := [.ref a, .ref (a + 1)]) (Es.cons (x := .ref a) (S1 := S ++ [.lst pool]) ?_ (Es.cons (x := .ref (a + 1)) ?_ Es.nil))) rfl
    · rw [ha]
      exact E.alloc (E.blt (ds := [.lst pool]) (Es.cons (E.var rfl rfl) Es.nil) rfl)
    · rw [ha, show S.length + 1 = (S ++ [Cell.lst pool]).length by simp]
      exact E.alloc (E.lst Es.nil)
  refine Ts.nx (T.for (Es.cons (E.var rfl rfl) Es.nil) rg e1) ?_
  refine Ts.nx (T.ghost (n := a + 1) rfl f2) ?_
  exact Ts.rt (T.ret (E.var rfl rfl))
/-- a value of any kind -/
def odds : List D := [.non, .bl true, .bl false, .int 0, .int 1, .int (-1), .int 7, I (10 ^ 11), .str [], .str [97], .str [119, 97, 118, 101], .tup [], .tup [.int 0], .tup [.non], .lst [], .lst [.int 0], .exc 0 .non, .exc 0 .non, .tup [.tup [.int 0, .int 0]]]
theorem odds_ok (k : Nat) : okVs (k + 2) odds = true := rfl
theorem ten11 : bopE .pow (.int 10) (.int 11) = some (I (10 ^ 11)) := pow_I 10 11 (by decide) (by omega)
theorem odd_ok (k : Nat) {pn b : Nat} {S : Store} (hp : PotAt pn b S) (hb : b ≤ 900000) : ∃ d S', Ph (k + 3) I__law_odd [.ref pn] S = .ok d S' ∧ (∀ j, okV (j + 2) d = true) ∧ PotAt pn (b + 1) S' ∧ Keep pn S S' := by
  obtain ⟨x, S', d, t, hx, p', k'⟩ := of_ok k hp (by omega) odds (by simp [odds]) (by simp [odds])
  refine ⟨d, S', ?_, fun j => okVs_mem (odds_ok j) d (List.mem_of_getElem? hx), p', k'⟩
  rw [ph (k + 2) I__law_odd _ _ n__law_odd rfl]
  refine runR (fn := n__law_odd) (ds := [.ref pn]) rfl ?_
  dsimp only [n__law_odd, b__law_odd]
  show evSs _ _ _ [.ref pn, .undef] _ = _
  refine Ts.nx (ρ1 := [.ref pn, .lst odds]) (S1 := S) (T.set (E.lst ?_) rfl) ?_
  · exact Es.cons E.cst (Es.cons E.cst (Es.cons E.cst (Es.cons E.cst (Es.cons E.cst (Es.cons (E.neg E.cst) (Es.cons E.cst (Es.cons (E.bop E.cst E.cst ten11) (Es.cons E.cst (Es.cons E.cst (Es.cons E.cst (Es.cons (E.tup Es.nil) (Es.cons (E.tup (Es.cons E.cst Es.nil)) (Es.cons (E.tup (Es.cons E.cst Es.nil)) (Es.cons (E.lst Es.nil) (Es.cons (E.lst (Es.cons E.cst Es.nil)) (Es.cons E.cst (Es.cons E.cst (Es.cons (E.tup (Es.cons (E.tup (Es.cons E.cst (Es.cons E.cst Es.nil))) Es.nil)) Es.nil))))))))))))))))))
  · exact Ts.rt (T.ret (E.call (Es.cons (E.var rfl rfl) (Es.cons (E.var rfl rfl) Es.nil)) (call0.trans t)))
end NgB
end

section
set_option autoImplicit false
set_option maxRecDepth 100000
set_option maxHeartbeats 1000000
namespace NgB
open NG
/-! what is bent: ints, texts, tuples of such -/
mutual
def inB : Nat → D → Bool
  | _, .int i => decide (i.natAbs ≤ 1000000000000)
  | _, .str s => decide (s.length ≤ 100) && s.all fun c => decide (c < 1114112)
  | k + 1, .tup l => decide (l.length ≤ 50) && inBs k l
  | _, _ => false
def inBs : Nat → List D → Bool
  | _, [] => true
  | k, x :: xs => inB k x && inBs k xs
end
theorem inBs_mem {k : Nat} : ∀ {l : List D}, inBs k l = true → ∀ d ∈ l, inB k d = true
  | [], _, d, h => by simp at h
  | x :: xs, h, d, hd => by
    simp only [inBs, Bool.and_eq_true] at h
    rcases List.mem_cons.mp hd with rfl | hd
    · exact h.1
    · exact inBs_mem h.2 d hd
mutual
theorem inB_ok : ∀ (k e : Nat) (d : D), inB k d = true → okV (k + e) d = true ∧ isPy d = true ∧ ddepth d ≤ k
  | k, e, .int i, h => by
    have hb : BIG = 100000000000000000000 := rfl
    simp only [inB, decide_eq_true_eq] at h
    refine ⟨?_, rfl, Nat.zero_le _⟩
    simp only [okV, decide_eq_true_eq]
    omega
  | k, e, .str s, h => by
    simp only [inB, Bool.and_eq_true, decide_eq_true_eq] at h
    refine ⟨?_, h.2, Nat.zero_le _⟩
    simp only [okV, Bool.and_eq_true, decide_eq_true_eq]
    exact ⟨by omega, h.2⟩
  | k + 1, e, .tup l, h => by
    simp only [inB, Bool.and_eq_true, decide_eq_true_eq] at h
    obtain ⟨a, b, c⟩ := inBs_ok k e l h.2
    rw [show k + 1 + e = k + e + 1 by omega]
    refine ⟨?_, b, by show ddepths l + 1 ≤ k + 1; omega⟩
    simp only [okV, Bool.and_eq_true, decide_eq_true_eq]
    exact ⟨by omega, a⟩
  | 0, e, .tup l, h => by simp [inB] at h
  | k, e, .non, h => by simp [inB] at h
  | k, e, .bl _, h => by simp [inB] at h
  | k, e, .lst _, h => by simp [inB] at h
  | k, e, .undef, h => by simp [inB] at h
  | k, e, .dic _ _, h => by simp [inB] at h
  | k, e, .scr _, h => by simp [inB] at h
  | k, e, .ref _, h => by simp [inB] at h
  | k, e, .exc _ _, h => by simp [inB] at h
  | k, e, .clo _ _, h => by simp [inB] at h
theorem inBs_ok : ∀ (k e : Nat) (l : List D), inBs k l = true → okVs (k + e) l = true ∧ arePy l = true ∧ ddepths l ≤ k
  | _, _, [], _ => ⟨rfl, rfl, Nat.zero_le _⟩
  | k, e, x :: xs, h => by
    simp only [inBs, Bool.and_eq_true] at h
    obtain ⟨a, b, c⟩ := inB_ok k e x h.1
    obtain ⟨a', b', c'⟩ := inBs_ok k e xs h.2
    refine ⟨by simp only [okVs, a, a', Bool.and_self], by simp only [arePy, b, b', Bool.and_self], ?_⟩
    show max (ddepth x) (ddepths xs) ≤ k
    omega
end
theorem ok_tup {k : Nat} {l : List D} (hl : l.length ≤ 60) (h : ∀ d ∈ l, okV k d = true) : okV (k + 1) (.tup l) = true := by
  show (decide (l.length ≤ 60) && okVs k l) = true
  rw [decide_eq_true hl, okVs_of h]
  rfl
theorem ok_lst {k : Nat} {l : List D} (hl : l.length ≤ 60) (h : ∀ d ∈ l, okV k d = true) : okV (k + 1) (.lst l) = true := by
  show (decide (l.length ≤ 60) && okVs k l) = true
  rw [decide_eq_true hl, okVs_of h]
  rfl
theorem ok_int {k : Nat} {i : Int} (h : i.natAbs ≤ BIG) : okV k (.int i) = true := by cases k <;> exact decide_eq_true h
theorem ok_bl (k : Nat) (b : Bool) : okV k (.bl b) = true := by cases k <;> rfl
theorem cut_mem {α : Type} {l : List α} {a b : Option Int} {x : α} (h : x ∈ cutL l a b) : x ∈ l := List.mem_of_mem_drop (List.mem_of_mem_take h)
theorem cut_len {α : Type} (l : List α) (a b : Option Int) : (cutL l a b).length ≤ l.length := by
  unfold cutL
  rw [List.length_take, List.length_drop]
  omega
/-- a number, written -/
theorem str_int {i : Int} (h : i.natAbs ≤ 1000000000000) : bltE .str [.int i] = some (.str (decInt i)) := by
  refine if_pos ?_
  have : (1000000000000 : Nat) < 2 ^ 1900 := by decide +kernel
  exact Nat.lt_of_le_of_lt h this
theorem ne_nilT {xs : List D} (h1 : arePy xs = true) (h2 : ddepths xs ≤ 50) : cmpE .ne (.tup xs) (.tup []) = some (!xs.isEmpty) := by
  rw [c_ne_ok _ _ (by
    show (arePy xs && isPy (.tup []) && decide (ddepths xs + 1 ≤ 60) && decide (ddepth (.tup []) ≤ 60)) = true
    rw [h1, decide_eq_true (show ddepths xs + 1 ≤ 60 by omega)]
    rfl)]
  cases xs <;> rfl
theorem add_T (x y : List D) (h : x.length + y.length ≤ LIM) : bopE .add (.tup x) (.tup y) = some (.tup (x ++ y)) := if_pos h
theorem decNat_ok {n : Nat} (h : n ≤ 1000000000000) : (decNat n).length ≤ 13 ∧ ∀ c ∈ decNat n, c < 1114112 := by
  constructor
  · unfold decNat
    rw [List.length_map]
    refine (Nat.length_toDigits_le_iff (by omega) (by omega)).mpr ?_
    have : (10 : Nat) ^ 13 = 10000000000000 := by decide
    omega
  · intro c hc
    obtain ⟨x, _, rfl⟩ := List.mem_map.mp hc
    have := x.valid
    unfold UInt32.isValidChar Nat.isValidChar at this
    show x.val.toNat < 1114112
    omega
theorem decInt_ok {i : Int} (h : i.natAbs ≤ 1000000000000) (k : Nat) : okV k (.str (decInt i)) = true := by
  obtain ⟨h1, h2⟩ := decNat_ok h
  have : (decInt i).length ≤ 6000 ∧ ∀ c ∈ decInt i, c < 1114112 := by
    unfold decInt
    split
    · refine ⟨by rw [List.length_cons]; omega, fun c hc => ?_⟩
      rcases List.mem_cons.mp hc with rfl | hc
      · omega
      · exact h2 c hc
    · exact ⟨by omega, h2⟩
  have e : (decide ((decInt i).length ≤ 6000) && (decInt i).all fun c => decide (c < 1114112)) = true := by
    rw [decide_eq_true this.1, Bool.true_and, List.all_eq_true]
    exact fun c hc => decide_eq_true (this.2 c hc)
  cases k <;> exact e
theorem sl_T (xs : List D) (a b : Option Int) : slE (.tup xs) a b = some (.tup (cutL xs a b)) := rfl
theorem sl_L (xs : List D) (a b : Option Int) : slE (.lst xs) a b = some (.lst (cutL xs a b)) := rfl
theorem bent_ok (c : Nat) {pn : Nat} : ∀ (k : Nat) (v : D) (b : Nat) (S : Store), inB k v = true → k ≤ 20 → PotAt pn b S → b + 10 * (k + 1) ≤ 900000 → ∃ d S', Ph (c + k + 4) I__law_bent [.ref pn, v] S = .ok d S' ∧ (∀ j, okV (k + j + 2) d = true) ∧ PotAt pn (b + 10 * (k + 1)) S' ∧ Keep pn S S' := by
  have hL' : (LIM : Nat) = 16777216 := rfl
  have hb0 : BIG = 100000000000000000000 := rfl
  have h30 : (10 ^ 30 : Nat) = 1000000000000000000000000000000 := by decide
  -- where nothing is taken apart: a text, an int
  have leaf : ∀ (k : Nat) (v : D) (b : Nat) (S : Store), (∀ l, v ≠ .tup l) → inB k v = true → PotAt pn b S → b + 10 * (k + 1) ≤ 900000 → ∃ d S', Ph (c + k + 4) I__law_bent [.ref pn, v] S = .ok d S' ∧ (∀ j, okV (k + j + 2) d = true) ∧ PotAt pn (b + 10 * (k + 1)) S' ∧ Keep pn S S' := by
    intro k v b S hnt hv hp hb
    have hok := (inB_ok k 0 v hv).1
    have hk := okV_kd hok
    have hc := okV_cl _ _ hok
    have v1 : evE (Ph (c + k + 3)) (.var 1) [.ref pn, v, .undef, .undef] S = .ok v S := vkd rfl hk
    have e1 := is_tup_ev hk v1
    have ht : isTp v = false := by cases hk <;> first | rfl | exact absurd rfl (hnt _)
    rw [ht] at e1
    have e2 : evE (Ph (c + k + 3)) (.call I__law_is_int 1 [.var 1, .neg (.bop .pow (.cst (.int 10)) (.cst (.int 30))), .bop .pow (.cst (.int 10)) (.cst (.int 30))]) [.ref pn, v, .undef, .undef] S = .ok (.bl (btw (-((10 ^ 30 : Nat) : Int)) ((10 ^ 30 : Nat) : Int) v)) S := E.call (Es.cons v1 (Es.cons (E.neg (E.bop E.cst E.cst ten30)) (Es.cons (E.bop E.cst E.cst ten30) Es.nil))) (law_is_int_gen (c + k + 2) S _ _ hk hc)
    obtain ⟨d0, S1, o1, o2, o3, o4⟩ := odd_ok (c + k) hp (by omega)
    have co : callE (Ph (c + k + 3)) I__law_odd 0 [.ref pn] S = .ok d0 S1 := call0.trans o1
    by_cases hi : ∃ i, v = .int i
    · obtain ⟨i, rfl⟩ := hi
      have hib : i.natAbs ≤ 1000000000000 := by
        simp only [inB, decide_eq_true_eq] at hv
        exact hv
      have e3 : btw (-((10 ^ 30 : Nat) : Int)) ((10 ^ 30 : Nat) : Int) (.int i) = true := by
        rw [h30]
        show (decide (_ ≤ i) && decide (i ≤ _)) = true
        rw [decide_eq_true (by omega), decide_eq_true (by omega)]
        rfl
      rw [e3] at e2
      obtain ⟨x, S2, d, t, hx, p2, k2⟩ := of_ok (c + k + 1) o3 (by omega) [.int (i + 1), .int (i - 1), .int (-i), .str (decInt i), .bl (decide (i = 1)), d0] (by simp) (by simp)
      refine ⟨d, S2, ?_, fun j => ?_, p2.mono (by omega), o4.trans k2⟩
      · rw [ph (c + k + 3) I__law_bent _ _ n__law_bent rfl]
        refine runR (fn := n__law_bent) (ds := [.ref pn, .int i]) rfl ?_
        dsimp only [n__law_bent, b__law_bent]
        show evSs _ _ _ [.ref pn, .int i, .undef, .undef] _ = _
        refine Ts.nx (T.ite (x := .bl false) (u := false) (E.and e1 rfl (condF rfl)) rfl (condF Ts.nil)) ?_
        refine Ts.nx (T.ite (x := .bl false) (u := false) e1 rfl (condF Ts.nil)) ?_
        refine Ts.rt (T.ite (x := .bl true) (u := true) e2 rfl (condT (Ts.rt (T.ret ?_))))
        refine E.call (Es.cons (E.var rfl rfl) (Es.cons (E.lst (Es.cons (E.bop v1 E.cst rfl) (Es.cons (E.bop v1 E.cst rfl) (Es.cons (E.neg v1) (Es.cons (E.blt (ds := [.int i]) (Es.cons v1 Es.nil) (str_int hib)) (Es.cons (E.cmp v1 E.cst (eq_ZZ i 1)) (Es.cons (E.call (Es.cons (E.var rfl rfl) Es.nil) co) Es.nil))))))) Es.nil)) (call0.trans t)
      · have hm := List.mem_of_getElem? hx
        simp only [List.mem_cons, List.not_mem_nil, or_false] at hm
        rcases hm with rfl | rfl | rfl | rfl | rfl | rfl
        · exact ok_int (by omega)
        · exact ok_int (by omega)
        · exact ok_int (by omega)
        · exact decInt_ok hib _
        · exact ok_bl _ _
        · exact o2 (k + j)
    · have e3 : btw (-((10 ^ 30 : Nat) : Int)) ((10 ^ 30 : Nat) : Int) v = false := btw_no (by cases hk <;> first | rfl | exact absurd ⟨_, rfl⟩ hi)
      rw [e3] at e2
      refine ⟨d0, S1, ?_, fun j => o2 (k + j), o3.mono (by omega), o4⟩
      rw [ph (c + k + 3) I__law_bent _ _ n__law_bent rfl]
      refine runR (fn := n__law_bent) (ds := [.ref pn, v]) rfl ?_
      dsimp only [n__law_bent, b__law_bent]
      show evSs _ _ _ [.ref pn, v, .undef, .undef] _ = _
      refine Ts.nx (T.ite (x := .bl false) (u := false) (E.and e1 rfl (condF rfl)) rfl (condF Ts.nil)) ?_
      refine Ts.nx (T.ite (x := .bl false) (u := false) e1 rfl (condF Ts.nil)) ?_
      refine Ts.nx (T.ite (x := .bl false) (u := false) e2 rfl (condF Ts.nil)) ?_
      exact Ts.rt (T.ret (E.call (Es.cons (E.var rfl rfl) Es.nil) co))
  intro k
  induction k with
  | zero =>
    intro v b S hv _ hp hb
    exact leaf 0 v b S (fun l e => by rw [e] at hv; simp [inB] at hv) hv hp hb
  | succ k ih =>
    intro v b S hv hk20 hp hb
    by_cases ht : ∃ xs, v = .tup xs
    case neg => exact leaf (k + 1) v b S (fun l e => ht ⟨l, e⟩) hv hp hb
    obtain ⟨xs, rfl⟩ := ht
    simp only [inB, Bool.and_eq_true, decide_eq_true_eq] at hv
    obtain ⟨hl, hxs⟩ := hv
    have v1 : ∀ (a2 a3 : D) (S : Store), evE (Ph (c + (k + 1) + 3)) (.var 1) [.ref pn, .tup xs, a2, a3] S = .ok (.tup xs) S := fun a2 a3 S => E.var rfl rfl
    have e1 : ∀ (S : Store), evE (Ph (c + (k + 1) + 3)) (.blt (.isinst .tuple) [.var 1]) [.ref pn, .tup xs, .undef, .undef] S = .ok (.bl true) S := fun S => E.blt (Es.cons (v1 _ _ S) Es.nil) rfl
    obtain ⟨_, hpy, hdp⟩ := inBs_ok k 0 xs hxs
    have e2 : evE (Ph (c + (k + 1) + 3)) (.cmp .ne (.var 1) (.tup [])) [.ref pn, .tup xs, .undef, .undef] S = .ok (.bl (!xs.isEmpty)) S := E.cmp (v1 _ _ S) (E.tup Es.nil) (ne_nilT hpy (by omega))
    have okx : ∀ j, ∀ d ∈ xs, okV (k + j) d = true := fun j d hd => (inB_ok k j d (inBs_mem hxs d hd)).1
    -- the second way: the tuple as a whole
    have whole : ∀ (b : Nat) (S0 S1 : Store), evE (Ph (c + (k + 1) + 3)) (.and (.blt (.isinst .tuple) [.var 1]) (.and (.cmp .ne (.var 1) (.tup [])) (.cmp .ne (.call I__law_take 0 [.var 0, .cst (.int 5)]) (.cst (.int 0))))) [.ref pn, .tup xs, .undef, .undef] S0 = .ok (.bl false) S1 → PotAt pn b S1 → b + 5 ≤ 900000 → Keep pn S0 S1 →
        ∃ d S', Ph (c + (k + 1) + 4) I__law_bent [.ref pn, .tup xs] S0 = .ok d S' ∧ (∀ j, okV (k + 1 + j + 2) d = true) ∧ PotAt pn (b + 5) S' ∧ Keep pn S0 S' := by
      intro b S0 S1 h1 hp hb hk
      obtain ⟨d0, S2, o1, o2, o3, o4⟩ := odd_ok (c + (k + 1)) hp (by omega)
      have co : callE (Ph (c + (k + 1) + 3)) I__law_odd 0 [.ref pn] S1 = .ok d0 S2 := call0.trans o1
      have c1 := cut_len xs none (some (-1))
      have c2 := cut_len xs none (some 1)
      obtain ⟨x, S3, d, t, hx, p3, k3⟩ := of_ok (c + (k + 1) + 1) o3 (by omega) [.lst xs, .tup (cutL xs none (some (-1))), .tup (xs ++ cutL xs none (some 1)), .tup (xs ++ [.int 0]), .tup xs.reverse, .tup [.tup xs], .lst (cutL xs none (some 1)), d0] (by simp) (by simp)
      refine ⟨d, S3, ?_, fun j => ?_, p3.mono (by omega), hk.trans (o4.trans k3)⟩
      · rw [ph (c + (k + 1) + 3) I__law_bent _ _ n__law_bent rfl]
        refine runR (fn := n__law_bent) (ds := [.ref pn, .tup xs]) rfl ?_
        dsimp only [n__law_bent, b__law_bent]
        show evSs _ _ _ [.ref pn, .tup xs, .undef, .undef] _ = _
        refine Ts.nx (T.ite (x := .bl false) (u := false) h1 rfl (condF Ts.nil)) ?_
        refine Ts.rt (T.ite (x := .bl true) (u := true) (e1 S1) rfl (condT ?_))
        refine Ts.nx (ρ1 := [.ref pn, .tup xs, .undef, .lst xs]) (S1 := S1) (T.set (E.blt (Es.cons (v1 _ _ S1) Es.nil) rfl) rfl) ?_
        have w3 : evE (Ph (c + (k + 1) + 3)) (.var 3) [.ref pn, .tup xs, .undef, .lst xs] S1 = .ok (.lst xs) S1 := E.var rfl rfl
        have w1 := v1 .undef (.lst xs) S1
        have hlim : xs.length + 60 ≤ LIM := by omega
        have wc2 : evE (Ph (c + (k + 1) + 3)) (.sl (.var 1) [] [.cst (.int 1)]) [.ref pn, .tup xs, .undef, .lst xs] S1 = .ok (.tup (cutL xs none (some 1))) S1 := E.sl w1 Es.nil (Es.cons E.cst Es.nil) rfl rfl (sl_T xs none (some 1))
        refine Ts.rt (T.ret ?_)
        exact E.call (Es.cons (E.var rfl rfl) (Es.cons (E.lst (Es.cons w3 (Es.cons (E.sl w1 Es.nil (Es.cons (E.neg E.cst) Es.nil) rfl rfl (sl_T xs none (some (-1)))) (Es.cons (E.bop w1 wc2 (add_T xs (cutL xs none (some 1)) (by omega))) (Es.cons (E.bop w1 (E.tup (Es.cons E.cst Es.nil)) (add_T xs [.int 0] (by show _ + 1 ≤ _; omega))) (Es.cons (E.blt (Es.cons w1 Es.nil) rfl) (Es.cons (E.tup (Es.cons w1 Es.nil)) (Es.cons (E.sl w3 Es.nil (Es.cons E.cst Es.nil) rfl rfl (sl_L xs none (some 1))) (Es.cons (E.call (Es.cons (E.var rfl rfl) Es.nil) co) Es.nil))))))))) Es.nil)) (call0.trans t)
      · have hm := List.mem_of_getElem? hx
        simp only [List.mem_cons, List.not_mem_nil, or_false] at hm
        have eq1 : k + 1 + j + 2 = (k + (j + 2)) + 1 := by omega
        have okx := okx (j + 2)
        have c3 : (cutL xs none (some 1)).length ≤ 1 := by
          unfold cutL
          rw [List.length_take]
          show min (min (1 : Int).toNat xs.length - 0) _ ≤ 1
          have : (1 : Int).toNat = 1 := rfl
          omega
        rcases hm with rfl | rfl | rfl | rfl | rfl | rfl | rfl | rfl
        · rw [eq1]; exact ok_lst (by omega) okx
        · rw [eq1]; exact ok_tup (by omega) fun d hd => okx d (cut_mem hd)
        · rw [eq1]
          refine ok_tup (by rw [List.length_append]; omega) fun d hd => ?_
          rcases List.mem_append.mp hd with hd | hd
          · exact okx d hd
          · exact okx d (cut_mem hd)
        · rw [eq1]
          refine ok_tup (by rw [List.length_append, List.length_singleton]; omega) fun d hd => ?_
          rcases List.mem_append.mp hd with hd | hd
          · exact okx d hd
          · simp at hd
            subst hd
            exact ok_int (by decide)
        · rw [eq1]; exact ok_tup (by rw [List.length_reverse]; omega) fun d hd => okx d (List.mem_reverse.mp hd)
        · rw [eq1]
          refine ok_tup (by simp) fun d hd => ?_
          simp at hd
          subst hd
          rw [show k + (j + 2) = (k + (j + 1)) + 1 by omega]
          exact ok_tup (by omega) fun d hd => (inB_ok k (j + 1) d (inBs_mem hxs d hd)).1
        · rw [eq1]; exact ok_lst (by omega) fun d hd => okx d (cut_mem hd)
        · exact o2 (k + 1 + j)
    by_cases hne : xs = []
    · subst hne
      have e2 : evE (Ph (c + (k + 1) + 3)) (.cmp .ne (.var 1) (.tup [])) [.ref pn, .tup [], .undef, .undef] S = .ok (.bl false) S := e2
      obtain ⟨d, S', r1, r2, r3, r4⟩ := whole b S S (E.and (e1 S) rfl (condT (E.and e2 rfl (condF rfl)))) hp (by omega) (Keep.refl ..)
      exact ⟨d, S', r1, r2, r3.mono (by omega), r4⟩
    · have he : xs.isEmpty = false := by cases xs with
        | nil => exact absurd rfl hne
        | cons _ _ => rfl
      rw [he] at e2
      obtain ⟨y, S1, t1, hy, p1, k1⟩ := take' (c + (k + 1) + 2) hp (by omega) (u := 5) (by omega) (by omega)
      have t1 : callE (Ph (c + (k + 1) + 3)) I__law_take 0 [.ref pn, .int 5] S = .ok (I y) S1 := t1
      have e3 : evE (Ph (c + (k + 1) + 3)) (.and (.blt (.isinst .tuple) [.var 1]) (.and (.cmp .ne (.var 1) (.tup [])) (.cmp .ne (.call I__law_take 0 [.var 0, .cst (.int 5)]) (.cst (.int 0))))) [.ref pn, .tup xs, .undef, .undef] S = .ok (.bl (!decide (y = 0))) S1 :=
        E.and (e1 S) rfl (condT (E.and e2 rfl (condT (E.cmp (x := I y) (y := .int 0) (E.call (Es.cons (E.var rfl rfl) (Es.cons E.cst Es.nil)) t1) E.cst (ne_II y 0)))))
      by_cases hy0 : y = 0
      · rw [decide_eq_true hy0] at e3
        obtain ⟨d, S', r1, r2, r3, r4⟩ := whole (b + 1) S S1 e3 p1 (by omega) k1
        exact ⟨d, S', r1, r2, r3.mono (by omega), r4⟩
      · rw [decide_eq_false hy0] at e3
        have hlp : 0 < xs.length := List.length_pos_iff.mpr hne
        obtain ⟨x, S2, t2, hx, p2, k2⟩ := take' (c + (k + 1) + 2) p1 (by omega) (u := xs.length) (by omega) (by omega)
        have hxm : xs[x] ∈ xs := List.getElem_mem hx
        obtain ⟨d, S3, r1, r2, r3, r4⟩ := ih xs[x] (b + 1 + 1) S2 (inBs_mem hxs _ hxm) (by omega) p2 (by omega)
        have r1 : callE (Ph (c + (k + 1) + 3)) I__law_bent 0 [.ref pn, xs[x]] S2 = .ok d S3 := call0.trans r1
        have l1 : evE (Ph (c + (k + 1) + 3)) (.blt .len [.var 1]) [.ref pn, .tup xs, .undef, .undef] S1 = .ok (I xs.length) S1 := E.blt (Es.cons (v1 _ _ S1) Es.nil) rfl
        have w1 : ∀ S, evE (Ph (c + (k + 1) + 3)) (.var 1) [.ref pn, .tup xs, I x, .undef] S = .ok (.tup xs) S := fun S => v1 _ _ S
        have w2 : ∀ S, evE (Ph (c + (k + 1) + 3)) (.var 2) [.ref pn, .tup xs, I x, .undef] S = .ok (I x) S := fun S => E.var rfl rfl
        have hix : ixE (.tup xs) (I x) = some xs[x] := by
          show atIx xs ((x : Nat) : Int) = _
          rw [at_nat, List.getElem?_eq_getElem hx]
        have s1 : slE (.tup xs) none (some ((x : Nat) : Int)) = some (.tup (xs.take x)) := by rw [sl_T, cut_take]
        have s2 : slE (.tup xs) (some ((x + 1 : Nat) : Int)) none = some (.tup (xs.drop (x + 1))) := by rw [sl_T, cut_drop]
        have h1 : (xs.take x).length ≤ 50 := by rw [List.length_take]; omega
        have h2 : (xs.drop (x + 1)).length ≤ 50 := by rw [List.length_drop]; omega
        refine ⟨.tup ((xs.take x ++ [d]) ++ xs.drop (x + 1)), S3, ?_, fun j => ?_, r3.mono (by omega), k1.trans (k2.trans r4)⟩
        · rw [ph (c + (k + 1) + 3) I__law_bent _ _ n__law_bent rfl]
          refine runR (fn := n__law_bent) (ds := [.ref pn, .tup xs]) rfl ?_
          dsimp only [n__law_bent, b__law_bent]
          show evSs _ _ _ [.ref pn, .tup xs, .undef, .undef] _ = _
          refine Ts.rt (T.ite (x := .bl true) (u := true) e3 rfl (condT ?_))
          refine Ts.nx (ρ1 := [.ref pn, .tup xs, I x, .undef]) (S1 := S2) (T.set (E.call (Es.cons (E.var rfl rfl) (Es.cons l1 Es.nil)) t2) rfl) ?_
          refine Ts.rt (T.ret ?_)
          refine E.bop (E.bop (E.sl (w1 S2) Es.nil (Es.cons (w2 S2) Es.nil) rfl rfl s1) (E.tup (Es.cons (E.call (Es.cons (E.var rfl rfl) (Es.cons (E.ix (w1 S2) (w2 S2) hix) Es.nil)) r1) Es.nil)) (add_T _ [d] (by show _ + 1 ≤ _; omega))) (E.sl (w1 S3) (Es.cons (E.bop (w2 S3) E.cst (add_1 x)) Es.nil) Es.nil rfl rfl s2) (add_T _ _ (by rw [List.length_append]; show _ + 1 + _ ≤ _; omega))
        · rw [show k + 1 + j + 2 = (k + j + 2) + 1 by omega]
          refine ok_tup (by rw [List.length_append, List.length_append, List.length_take, List.length_drop]; show _ + 1 + _ ≤ _; omega) fun z hz => ?_
          rcases List.mem_append.mp hz with hz | hz
          · rcases List.mem_append.mp hz with hz | hz
            · rw [show k + j + 2 = k + (j + 2) by omega]
              exact okx _ z (List.mem_of_mem_take hz)
            · simp at hz
              subst hz
              exact r2 j
          · rw [show k + j + 2 = k + (j + 2) by omega]
            exact okx _ z (List.mem_of_mem_drop hz)
end NgB
end

section
set_option autoImplicit false
set_option maxRecDepth 100000
set_option maxHeartbeats 1000000
namespace NgB
open NG
def cs1 (w : List Nat) : List D := w.map fun c => .str [c]
def envT (pn : Nat) (gs hs : List Nat) (rw : Nat) (L : Bool) (o m sz : Nat) (a8 a9 a11 a12 : D) : Env := [.ref pn, tI gs, .lst (hs.map I), .ref rw, .bl L, I o, I m, I sz, a8, a9, .undef, a11, a12, .undef]
theorem mul_1 (x : D) (j : Nat) (h : j ≤ 1000) : bopE .mul (.lst [x]) (I j) = some (.lst (List.replicate j x)) := by
  have hL' : (LIM : Nat) = 16777216 := rfl
  show (if 0 ≤ ((j : Nat) : Int) ∧ ((j : Nat) : Int) ≤ LIM ∧ 1 * ((j : Nat) : Int).toNat ≤ LIM then some (D.lst (List.replicate ((j : Nat) : Int).toNat [x]).flatten) else none) = _
  rw [if_pos (by omega), show ((j : Nat) : Int).toNat = j from rfl]
  congr 2
  induction j with
  | zero => rfl
  | succ j ih =>
    rw [List.replicate_succ, List.flatten_cons, ih (by omega), List.replicate_succ]
    rfl
theorem rep_cs (c j : Nat) : List.replicate j (D.str [c]) = cs1 (List.replicate j c) := by
  unfold cs1
  rw [List.map_replicate]
theorem cat_L (x y : List D) (h : x.length + y.length ≤ LIM) : bopE .add (.lst x) (.lst y) = some (.lst (x ++ y)) := if_pos h
/-- one wave of a table -/
theorem entry_ok (k : Nat) {pn b : Nat} {S : Store} (hp : PotAt pn b S) (hb : b ≤ 890000) {gs hs : List Nat} {rw q o n m sz : Nat} {L : Bool} (ho : o < hs.length) (hn : n < hs.length) (hh : ∀ x ∈ hs, x ≤ 2) (hs1 : 1 ≤ sz) (hs6 : sz ≤ 6) (hL : L = true → 2 ≤ sz) (a11 a12 : D) {row : List (List Nat)} (hq : S[q]? = some (.lst (row.map D.str))) (hqn : q ≠ pn) (hrl : row.length ≤ 10) :
    ∃ w S' a11' a12', evSs 1000 (Ph (k + 3)) [.set (.one 11) (.bop .sub (.ix (.var 2) (.var 9)) (.ix (.var 2) (.var 5))), .set (.one 12) (.bop .mul (.lst [.ite (.cmp .gt (.var 11) (.cst (.int 0))) (.cst (.str [100])) (.cst (.str [108]))]) (.blt .abs [.var 11])), .set (.one 12) (.ite (.var 4) (.bop .add (.var 12) (.bop .mul (.lst [.cst (.str [114])]) (.bop .sub (.var 7) (.blt .len [.var 12])))) (.comp (.call I__law_of 0 [.var 0, .lst [.cst (.str [100]), .cst (.str [108]), .cst (.str [114])]]) (.one 13) [13] .rng1 [.var 7] [])), .expr (.mut 0 8 [.mth .join (.cst (.str [])) [.call I__law_some 0 [.var 0, .var 12, .blt .len [.var 12]]]])] (envT pn gs hs rw L o m sz (.ref q) (I n) a11 a12) S
      = .ok (.nx (envT pn gs hs rw L o m sz (.ref q) (I n) a11' a12')) S' ∧ Wv w ∧ w.length = sz ∧ S'[q]? = some (.lst ((row ++ [w]).map D.str)) ∧ PotAt pn (b + 12) S' ∧ (∀ z, z ≠ pn → z ≠ q → z < S.length → S'[z]? = S[z]?) ∧ S.length ≤ S'.length := by
  have hL' : (LIM : Nat) = 16777216 := rfl
  have ix : ∀ i, i < hs.length → ixE (.lst (hs.map I)) (I i) = some (I (hs.getD i 0)) := fun i hi => by
    show atIx (hs.map I) ((i : Nat) : Int) = _
    rw [at_nat, List.getElem?_map, (getD_in (l := hs) (d := 0) hi).2]
    rfl
  have b1 := hh _ (getD_in (l := hs) (d := 0) hn).1
  have b2 := hh _ (getD_in (l := hs) (d := 0) ho).1
  obtain ⟨wy, hwy⟩ : ∃ wy : Int, wy = ((hs.getD n 0 : Nat) : Int) - ((hs.getD o 0 : Nat) : Int) := ⟨_, rfl⟩
  obtain ⟨j, hj⟩ : ∃ j, j = wy.natAbs := ⟨_, rfl⟩
  have hj2 : j ≤ 2 := by omega
  obtain ⟨c, hc⟩ : ∃ c, c = if 0 < wy then 100 else 108 := ⟨_, rfl⟩
  have hcP : isP c := by rw [hc]; split; exact .inl rfl; exact .inr (.inl rfl)
  have s1 : evE (Ph (k + 3)) (.bop .sub (.ix (.var 2) (.var 9)) (.ix (.var 2) (.var 5))) (envT pn gs hs rw L o m sz (.ref q) (I n) a11 a12) S = .ok (.int wy) S := by
    rw [hwy]
    exact E.bop (x := I (hs.getD n 0)) (y := I (hs.getD o 0)) (E.ix (x := .lst (hs.map I)) (y := I n) (E.var rfl rfl) (E.var rfl rfl) (ix n hn)) (E.ix (x := .lst (hs.map I)) (y := I o) (E.var rfl rfl) (E.var rfl rfl) (ix o ho)) rfl
  have ab1 : bltE .abs [.int wy] = some (I j) := by rw [hj]; exact abs_I wy
  have s2 : evE (Ph (k + 3)) (.bop .mul (.lst [.ite (.cmp .gt (.var 11) (.cst (.int 0))) (.cst (.str [100])) (.cst (.str [108]))]) (.blt .abs [.var 11])) (envT pn gs hs rw L o m sz (.ref q) (I n) (.int wy) a12) S = .ok (.lst (cs1 (List.replicate j c))) S := by
    have e0 : evE (Ph (k + 3)) (.cmp .gt (.var 11) (.cst (.int 0))) (envT pn gs hs rw L o m sz (.ref q) (I n) (.int wy) a12) S = .ok (.bl (decide (0 < wy))) S := E.cmp (x := .int wy) (E.var rfl rfl) E.cst rfl
    have e1 : evE (Ph (k + 3)) (.ite (.cmp .gt (.var 11) (.cst (.int 0))) (.cst (.str [100])) (.cst (.str [108]))) (envT pn gs hs rw L o m sz (.ref q) (I n) (.int wy) a12) S = .ok (.str [c]) S := by
      refine E.ite e0 rfl ?_
      rw [hc]
      by_cases h0 : 0 < wy
      · rw [decide_eq_true h0, if_pos h0]
        exact condT E.cst
      · rw [decide_eq_false h0, if_neg h0]
        exact condF E.cst
    rw [← rep_cs]
    exact E.bop (x := .lst [.str [c]]) (y := I j) (E.lst (Es.cons e1 Es.nil)) (E.blt (ds := [.int wy]) (Es.cons (E.var rfl rfl) Es.nil) ab1) (mul_1 _ j (by omega))
  -- the signs
  have s3 : ∃ w0 S1, evE (Ph (k + 3)) (.ite (.var 4) (.bop .add (.var 12) (.bop .mul (.lst [.cst (.str [114])]) (.bop .sub (.var 7) (.blt .len [.var 12])))) (.comp (.call I__law_of 0 [.var 0, .lst [.cst (.str [100]), .cst (.str [108]), .cst (.str [114])]]) (.one 13) [13] .rng1 [.var 7] [])) (envT pn gs hs rw L o m sz (.ref q) (I n) (.int wy) (.lst (cs1 (List.replicate j c)))) S = .ok (.lst (cs1 w0)) S1 ∧ w0.length = sz ∧ (∀ c ∈ w0, isP c) ∧ PotAt pn (b + 6) S1 ∧ Keep pn S S1 := by
    cases L with
    | true =>
      have h2 := hL rfl
      refine ⟨List.replicate j c ++ List.replicate (sz - j) 114, S, ?_, by rw [List.length_append, List.length_replicate, List.length_replicate]; omega, fun z hz => ?_, hp.mono (by omega), Keep.refl ..⟩
      · have e1 : evE (Ph (k + 3)) (.bop .mul (.lst [.cst (.str [114])]) (.bop .sub (.var 7) (.blt .len [.var 12]))) (envT pn gs hs rw true o m sz (.ref q) (I n) (.int wy) (.lst (cs1 (List.replicate j c)))) S = .ok (.lst (cs1 (List.replicate (sz - j) 114))) S := by
          rw [← rep_cs 114 (sz - j)]
          have l12 : bltE .len [.lst (cs1 (List.replicate j c))] = some (I j) := by
            show some (D.int ((cs1 (List.replicate j c)).length : Nat)) = _
            unfold cs1
            rw [List.length_map, List.length_replicate]
            rfl
          have sb : bopE .sub (I sz) (I j) = some (I (sz - j)) := by
            show some (D.int ((sz : Int) - (j : Int))) = some (D.int ((sz - j : Nat) : Int))
            congr 2
            omega
          exact E.bop (x := .lst [.str [114]]) (y := I (sz - j)) (E.lst (Es.cons E.cst Es.nil)) (E.bop (x := I sz) (y := I j) (E.var rfl rfl) (E.blt (Es.cons (E.var rfl rfl) Es.nil) l12) sb) (mul_1 _ _ (by omega))
        have e2 : cs1 (List.replicate j c ++ List.replicate (sz - j) 114) = cs1 (List.replicate j c) ++ cs1 (List.replicate (sz - j) 114) := List.map_append ..
        rw [e2]
        refine E.ite (t := true) (x := .bl true) (S1 := S) (E.var rfl rfl) rfl (condT (E.bop (E.var rfl rfl) e1 (cat_L _ _ ?_)))
        unfold cs1
        rw [List.length_map, List.length_map, List.length_replicate, List.length_replicate]
        omega
      · rcases List.mem_append.mp hz with hz | hz
        · rw [(List.mem_replicate.mp hz).2]; exact hcP
        · rw [(List.mem_replicate.mp hz).2]; exact .inr (.inr rfl)
    | false =>
      have rg := rng_ok sz (by omega)
      obtain ⟨ys, S2, e2, hl, hq2, p2, k2⟩ := comp_goD (Φ := Ph (k + 3)) (t := .one 13) (n := pn) (m := sz) (B := b + sz) (fun y => ∃ c, y = .str [c] ∧ isP c) (e := .call I__law_of 0 [.var 0, .lst [.cst (.str [100]), .cst (.str [108]), .cst (.str [114])]]) (W := envT pn gs hs rw false o m sz (.ref q) (I n) (.int wy) (.lst (cs1 (List.replicate j c)))) (fun z => [.ref pn, tI gs, .lst (hs.map I), .ref rw, .bl false, I o, I m, I sz, .ref q, I n, .undef, .int wy, .lst (cs1 (List.replicate j c)), z]) (fun z => rfl) (fun i S b' hi hp hb' => by
        obtain ⟨x, S', y, t, hy, hp', hk⟩ := of_ok (k + 1) hp (by omega) [.str [100], .str [108], .str [114]] (by simp) (by simp)
        have t : callE (Ph (k + 3)) I__law_of 0 [.ref pn, .lst [.str [100], .str [108], .str [114]]] S = .ok y S' := call0.trans t
        refine ⟨y, S', E.call (Es.cons (E.var rfl rfl) (Es.cons (E.lst (Es.cons E.cst (Es.cons E.cst (Es.cons E.cst Es.nil)))) Es.nil)) t, ?_, hp', hk⟩
        rcases x with _ | _ | _ | x
        · exact ⟨100, (Option.some.inj hy).symm, .inl rfl⟩
        · exact ⟨108, (Option.some.inj hy).symm, .inr (.inl rfl)⟩
        · exact ⟨114, (Option.some.inj hy).symm, .inr (.inr rfl)⟩
        · simp at hy) (List.range sz) b S (fun i hi => List.mem_range.mp hi) (by rw [List.length_range]; omega) hp
      rw [List.length_range] at hl p2
      obtain ⟨w0, rfl, hw0⟩ := toS ys hq2
      rw [List.length_map] at hl
      exact ⟨w0, S2, E.ite (t := false) (x := .bl false) (S1 := S) (E.var rfl rfl) rfl (condF (E.comp (Es.cons (E.var rfl rfl) Es.nil) rg e2)), hl, hw0, p2.mono (by omega), k2⟩
  obtain ⟨w0, S1, s3, hw0l, hw0P, p1, k1⟩ := s3
  have hcl : (cs1 w0).length = sz := by unfold cs1; rw [List.length_map]; exact hw0l
  obtain ⟨r, S2, t, hr, ⟨rest, hperm⟩, p2, k2⟩ := some_ok (k + 1) p1 (by omega) (cs1 w0) (w := sz) (by omega) (by omega)
  have hrP : ∀ y ∈ r, ∃ c, y = .str [c] ∧ isP c := fun y hy => by
    have := hperm.subset (List.mem_append_left _ hy)
    obtain ⟨c, hc, rfl⟩ := List.mem_map.mp this
    exact ⟨c, rfl, hw0P c hc⟩
  obtain ⟨w, rfl, hw⟩ := toS r hrP
  rw [List.length_map] at hr
  have j1 := join_ok w (by omega)
  have l12 : bltE .len [.lst (cs1 w0)] = some (I sz) := by
    show some (D.int ((cs1 w0).length : Nat)) = _
    rw [hcl]
    rfl
  have t : callE (Ph (k + 3)) I__law_some 0 [.ref pn, .lst (cs1 w0), I sz] S1 = .ok (.lst (w.map fun c => .str [c])) S2 := call0.trans t
  have e5 : evE (Ph (k + 3)) (.mth .join (.cst (.str [])) [.call I__law_some 0 [.var 0, .var 12, .blt .len [.var 12]]]) (envT pn gs hs rw L o m sz (.ref q) (I n) (.int wy) (.lst (cs1 w0))) S1 = .ok (.str w) S2 :=
    E.mth (x := .str []) E.cst rfl (Es.cons (E.call (Es.cons (E.var rfl rfl) (Es.cons (E.var rfl rfl) (Es.cons (E.blt (Es.cons (E.var rfl rfl) Es.nil) l12) Es.nil))) t) Es.nil) j1
  have hqS := (List.getElem?_eq_some_iff.mp hq).1
  have q1 : S1[q]? = some (.lst (row.map D.str)) := by rw [k1.oth q hqn]; exact hq
  have q2 : S2[q]? = some (.lst (row.map D.str)) := by rw [k2.oth q hqn (by rw [k1.len]; exact hqS)]; exact q1
  obtain ⟨st, m1⟩ := app_step (W := 1000) (Φ := Ph (k + 3)) (ρ := envT pn gs hs rw L o m sz (.ref q) (I n) (.int wy) (.lst (cs1 w0))) (i := 8) (m := q) rfl (live_of q1) e5 q2 (by rw [List.length_map]; omega)
  refine ⟨w, _, .int wy, .lst (cs1 w0), ?_, hw, hr, by rw [m1, List.map_append]; rfl, pot_set (p2.mono (by omega)) (Ne.symm hqn) _, fun z hz hzq hzl => ?_, ?_⟩
  · exact Ts.nx (T.set s1 rfl) (Ts.nx (T.set s2 rfl) (Ts.nx (T.set s3 rfl) (Ts.nx st Ts.nil)))
  · rw [List.getElem?_set_ne (Ne.symm hzq), k2.oth z hz (by rw [k1.len]; exact hzl), k1.oth z hz]
  · rw [List.length_set]
    have := k2.len
    rw [k1.len] at this
    exact this
end NgB
end

section
set_option autoImplicit false
set_option maxRecDepth 100000
set_option maxHeartbeats 1000000
namespace NgB
open NG
def bodyN : List CS := [.set (.one 11) (.bop .sub (.ix (.var 2) (.var 9)) (.ix (.var 2) (.var 5))), .set (.one 12) (.bop .mul (.lst [.ite (.cmp .gt (.var 11) (.cst (.int 0))) (.cst (.str [100])) (.cst (.str [108]))]) (.blt .abs [.var 11])), .set (.one 12) (.ite (.var 4) (.bop .add (.var 12) (.bop .mul (.lst [.cst (.str [114])]) (.bop .sub (.var 7) (.blt .len [.var 12])))) (.comp (.call I__law_of 0 [.var 0, .lst [.cst (.str [100]), .cst (.str [108]), .cst (.str [114])]]) (.one 13) [13] .rng1 [.var 7] [])), .expr (.mut 0 8 [.mth .join (.cst (.str [])) [.call I__law_some 0 [.var 0, .var 12, .blt .len [.var 12]]]])]
def bodyO : List CS := [.set (.one 8) (.alloc (.lst [])), .for (.one 9) .rng1 [.var 6] bodyN, .ghost 8, .expr (.mut 0 3 [.blt .tuple [.var 8]])]
def RowOk (m sz : Nat) (row : List (List Nat)) : Prop := row.length = m ∧ ∀ w ∈ row, Wv w ∧ w.length = sz
theorem row_ok (k : Nat) {pn b : Nat} {S : Store} (hp : PotAt pn b S) (hb : b ≤ 880000) {gs hs : List Nat} {rw o m sz : Nat} {L : Bool} (hm : hs.length = m) (hm4 : m ≤ 4) (ho : o < m) (hh : ∀ x ∈ hs, x ≤ 2) (hs1 : 1 ≤ sz) (hs6 : sz ≤ 6) (hL : L = true → 2 ≤ sz) (hrp : rw ≠ pn) (a8 a9 a11 a12 : D) {Rd : List (List (List Nat))} (hR : S[rw]? = some (.lst (Rd.map rowD))) (hRl : Rd.length ≤ 10) :
    ∃ row S' a8' a9' a11' a12', evSs 1000 (Ph (k + 3)) bodyO (envT pn gs hs rw L o m sz a8 a9 a11 a12) S = .ok (.nx (envT pn gs hs rw L o m sz a8' a9' a11' a12')) S' ∧ RowOk m sz row ∧ S'[rw]? = some (.lst ((Rd ++ [row]).map rowD)) ∧ PotAt pn (b + 48) S' := by
  have hL' : (LIM : Nat) = 16777216 := rfl
  obtain ⟨q, hq⟩ : ∃ q, q = S.length := ⟨_, rfl⟩
  have hpn := pot_lt hp
  have hrwS := (List.getElem?_eq_some_iff.mp hR).1
  obtain ⟨ρ', S', e1, ⟨a9', a11', a12', hρ⟩, row, f1, f2, f3, f4, f5, f6⟩ := forL_inv (t := .one 9) (body := evSs 1000 (Ph (k + 3)) bodyN) (its := (List.range m).map I)
    (fun i ρ S1 => (∃ a9 a11 a12, ρ = envT pn gs hs rw L o m sz (.ref q) a9 a11 a12) ∧ ∃ row : List (List Nat), S1[q]? = some (.lst (row.map D.str)) ∧ row.length = i ∧ (∀ w ∈ row, Wv w ∧ w.length = sz) ∧ PotAt pn (b + 12 * i) S1 ∧ S1[rw]? = some (.lst (Rd.map rowD)) ∧ q < S1.length) 0 (envT pn gs hs rw L o m sz (.ref q) a9 a11 a12) (S ++ [.lst []]) (Nat.zero_le _)
    ⟨⟨_, _, _, rfl⟩, [], by rw [hq]; exact List.getElem?_concat_length, rfl, by simp, pot_app hp _, by rw [List.getElem?_append_left hrwS]; exact hR, by simp [hq]⟩ fun i d ρ S1 hi hh' => by
      obtain ⟨⟨x9, x11, x12, rfl⟩, row, f1, f2, f3, f4, f5, f6⟩ := hh'
      rw [List.getElem?_map] at hi
      obtain ⟨n, hn, rfl⟩ := Option.map_eq_some_iff.mp hi
      have hnm := List.mem_range.mp (List.mem_of_getElem? hn)
      have him : i < m := by
        have := (List.getElem?_eq_some_iff.mp hn).1
        rw [List.length_range] at this
        exact this
      obtain ⟨w, S2, y11, y12, ee, hw, hwl, g1, g2, g3, g4⟩ := entry_ok k f4 (by omega) (gs := gs) (hs := hs) (rw := rw) (q := q) (o := o) (n := n) (m := m) (sz := sz) (L := L) (by omega) (by omega) hh hs1 hs6 hL x11 x12 f1 (by omega) (by omega)
      refine ⟨envT pn gs hs rw L o m sz (.ref q) (I n) x11 x12, _, S2, rfl, .inl ee, ⟨_, _, _, rfl⟩, row ++ [w], g1, by rw [List.length_append, List.length_singleton, f2], fun v hv => ?_, by rw [show b + 12 * (i + 1) = b + 12 * i + 12 by omega]; exact g2, ?_, by omega⟩
      · rcases List.mem_append.mp hv with hv | hv
        · exact f3 v hv
        · simp at hv
          subst hv
          exact ⟨hw, hwl⟩
      · rw [g3 rw hrp (by omega) (by omega)]
        exact f5
  rw [List.drop_zero, hρ] at e1
  rw [List.length_map, List.length_range] at f2 f4
  have rg := rng_ok m (by omega)
  have f5' : (S'.set q .dead)[rw]? = some (.lst (Rd.map rowD)) := by rw [List.getElem?_set_ne (by omega)]; exact f5
  obtain ⟨st, m1⟩ := app_step (W := 1000) (Φ := Ph (k + 3)) (ρ := envT pn gs hs rw L o m sz (.lst (row.map D.str)) a9' a11' a12') (i := 3) (m := rw) (S := S'.set q .dead) (e := .blt .tuple [.var 8]) (x := rowD row) rfl (live_of f5') (E.blt (Es.cons (E.var rfl rfl) Es.nil) rfl) f5' (by rw [List.length_map]; omega)
  refine ⟨row, _, .lst (row.map D.str), a9', a11', a12', ?_, ⟨f2, f3⟩, by rw [m1, List.map_append]; rfl, pot_set (pot_set (f4.mono (by omega)) (by omega) _) (Ne.symm hrp) _⟩
  unfold bodyO
  refine Ts.nx (ρ1 := envT pn gs hs rw L o m sz (.ref q) a9 a11 a12) (S1 := S ++ [.lst []]) (by rw [hq]; exact T.set (E.alloc (E.lst Es.nil)) rfl) ?_
  refine Ts.nx (T.for (Es.cons (E.var rfl rfl) Es.nil) rg e1) ?_
  refine Ts.nx (T.ghost (n := q) rfl f1) ?_
  exact Ts.nx st Ts.nil
theorem I_inj {a b : Nat} (h : I a = I b) : a = b := by
  have : (a : Int) = (b : Int) := D.int.inj h
  omega
theorem law_table_ok (k : Nat) {pn b : Nat} {S : Store} (hp : PotAt pn b S) (hb : b ≤ 850000) : ∃ m sz gs R S', Ph (k + 4) I__law_table [.ref pn] S = .ok (tbD gs R) S' ∧ TbOk m sz gs R ∧ PotAt pn (b + 400) S' := by
  have hL' : (LIM : Nat) = 16777216 := rfl
  obtain ⟨x1, S1, t1, hx1, p1, k1⟩ := take' (k + 2) hp (by omega) (u := 4) (by omega) (by omega)
  have t1 : callE (Ph (k + 3)) I__law_take 0 [.ref pn, .int 4] S = .ok (I x1) S1 := t1
  obtain ⟨x2, S2, t2, hx2, p2, k2⟩ := take' (k + 2) p1 (by omega) (u := 6) (by omega) (by omega)
  have t2 : callE (Ph (k + 3)) I__law_take 0 [.ref pn, .int 6] S1 = .ok (I x2) S2 := t2
  obtain ⟨m, hm⟩ : ∃ m, m = 1 + x1 := ⟨_, rfl⟩
  obtain ⟨sz, hsz⟩ : ∃ sz, sz = 1 + x2 := ⟨_, rfl⟩
  obtain ⟨r, S3, t3, hr, ⟨rest, hperm⟩, p3, k3⟩ := some_ok (k + 1) p2 (by omega) ((List.range 8).map I) (w := m) (by rw [List.length_map, List.length_range]; omega) (by rw [List.length_map, List.length_range]; omega)
  have t3 : callE (Ph (k + 3)) I__law_some 0 [.ref pn, .lst ((List.range 8).map I), I m] S2 = .ok (.lst r) S3 := call0.trans t3
  obtain ⟨t, rfl, ht8⟩ := toN (fun x => x < 8) r fun y hy => by
    obtain ⟨x, hx, rfl⟩ := List.mem_map.mp (hperm.subset (List.mem_append_left _ hy))
    exact ⟨x, rfl, List.mem_range.mp hx⟩
  rw [List.length_map] at hr
  have hnd : t.Nodup := by
    have h1 : ((List.range 8).map I).Nodup := List.Pairwise.map I (fun a b h e => h (I_inj e)) List.nodup_range
    have h2 := (List.nodup_append.mp (hperm.nodup_iff.mpr h1)).1
    exact List.Pairwise.of_map I (fun a b h e => h (by rw [e])) h2
  obtain ⟨gs, hgs⟩ : ∃ gs, gs = sortN t := ⟨_, rfl⟩
  have hgl : gs.length = m := by rw [hgs, sortN_len, hr]
  have hgb : ∀ x ∈ gs, x ≤ 7 := fun x hx => by
    rw [hgs] at hx
    have := ht8 x (mem_sortN.mp hx)
    omega
  have hga : asc gs = true := by rw [hgs]; exact asc_up.mpr (sortN_up hnd)
  have so := sorted_I t
  rw [← hgs] at so
  have m8 : bltE .listRng [.int 8] = some (.lst ((List.range 8).map I)) := rfl
  -- heights
  obtain ⟨hs, S4, e4, hhl, hhb, p4, k4⟩ := comp_go (Φ := Ph (k + 3)) (t := .one 10) (n := pn) (m := 8) (B := b + 2 + m + m) (fun x => x ≤ 2) (e := .call I__law_take 0 [.var 0, .cst (.int 3)]) (W := [.ref pn, tI gs, .undef, .undef, .undef, .undef, I m, I sz, .undef, .undef, .undef, .undef, .undef, .undef]) (fun q => [.ref pn, tI gs, .undef, .undef, .undef, .undef, I m, I sz, .undef, .undef, q, .undef, .undef, .undef]) (fun q => rfl) (fun i S b' hi hp hb' => by
    obtain ⟨x, S', t, hx, hp', hk⟩ := take' (k + 2) hp (by omega) (u := 3) (by omega) (by omega)
    have t : callE (Ph (k + 3)) I__law_take 0 [.ref pn, .int 3] S = .ok (I x) S' := t
    exact ⟨x, S', E.call (Es.cons (E.var rfl rfl) (Es.cons E.cst Es.nil)) t, by omega, hp', hk⟩) gs (b + 1 + 1 + m) S3 (fun i hi => by have := hgb i hi; omega) (by rw [hgl]; omega) p3
  rw [hgl] at hhl p4
  obtain ⟨rw, hrw⟩ : ∃ rw, rw = S4.length := ⟨_, rfl⟩
  have hpn4 := pot_lt p4
  have p5 := pot_app p4 (.lst [])
  obtain ⟨x6, S6, t6, hx6, p6, k6⟩ := take' (k + 2) p5 (by omega) (u := 2) (by omega) (by omega)
  have t6 : callE (Ph (k + 3)) I__law_take 0 [.ref pn, .int 2] (S4 ++ [.lst []]) = .ok (I x6) S6 := t6
  have hrw6 : S6[rw]? = some (.lst (([] : List (List (List Nat))).map rowD)) := by
    rw [k6.oth rw (by omega), hrw]
    exact List.getElem?_concat_length
  have hlv : ∃ L : Bool, evE (Ph (k + 3)) (.and (.cmp .eq (.call I__law_take 0 [.var 0, .cst (.int 2)]) (.cst (.int 0))) (.cmp .gt (.var 7) (.cst (.int 1)))) [.ref pn, tI gs, .lst (hs.map I), .ref rw, .undef, .undef, I m, I sz, .undef, .undef, .undef, .undef, .undef, .undef] (S4 ++ [.lst []]) = .ok (.bl L) S6 ∧ (L = true → 2 ≤ sz) := by
    have e1 : evE (Ph (k + 3)) (.cmp .eq (.call I__law_take 0 [.var 0, .cst (.int 2)]) (.cst (.int 0))) [.ref pn, tI gs, .lst (hs.map I), .ref rw, .undef, .undef, I m, I sz, .undef, .undef, .undef, .undef, .undef, .undef] (S4 ++ [.lst []]) = .ok (.bl (decide (x6 = 0))) S6 := E.cmp (x := I x6) (y := .int 0) (E.call (Es.cons (E.var rfl rfl) (Es.cons E.cst Es.nil)) t6) E.cst (eq_II x6 0)
    cases h0 : decide (x6 = 0) with
    | false =>
      rw [h0] at e1
      exact ⟨false, E.and e1 rfl (condF rfl), fun h => by cases h⟩
    | true =>
      rw [h0] at e1
      refine ⟨decide (1 < sz), E.and e1 rfl (condT (E.cmp (x := I sz) (y := .int 1) (E.var rfl rfl) E.cst ?_)), fun h => by have := of_decide_eq_true h; omega⟩
      show some (decide ((1 : Int) < (sz : Int))) = some (decide (1 < sz))
      congr 1
      rw [Bool.eq_iff_iff, decide_eq_true_eq, decide_eq_true_eq]
      omega
  obtain ⟨L, eL, hL⟩ := hlv
  obtain ⟨ρ', S', e7, ⟨a5, a8, a9, a11, a12, hρ⟩, Rd, f1, f2, f3, f4⟩ := forL_inv (t := .one 5) (body := evSs 1000 (Ph (k + 3)) bodyO) (its := (List.range m).map I)
    (fun i ρ S1 => (∃ a5 a8 a9 a11 a12 : D, ρ = [.ref pn, tI gs, .lst (hs.map I), .ref rw, .bl L, a5, I m, I sz, a8, a9, .undef, a11, a12, .undef]) ∧ ∃ Rd : List (List (List Nat)), S1[rw]? = some (.lst (Rd.map rowD)) ∧ Rd.length = i ∧ (∀ row ∈ Rd, RowOk m sz row) ∧ PotAt pn (b + 20 + 48 * i) S1) 0 [.ref pn, tI gs, .lst (hs.map I), .ref rw, .bl L, .undef, I m, I sz, .undef, .undef, .undef, .undef, .undef, .undef] S6 (Nat.zero_le _)
    ⟨⟨_, _, _, _, _, rfl⟩, [], hrw6, rfl, by simp, p6.mono (by omega)⟩ fun i d ρ S1 hi hh' => by
      obtain ⟨⟨a5, a8, a9, a11, a12, rfl⟩, Rd, f1, f2, f3, f4⟩ := hh'
      rw [List.getElem?_map] at hi
      obtain ⟨o, ho, rfl⟩ := Option.map_eq_some_iff.mp hi
      have hom := List.mem_range.mp (List.mem_of_getElem? ho)
      have him : i < m := by
        have := (List.getElem?_eq_some_iff.mp ho).1
        rw [List.length_range] at this
        exact this
      obtain ⟨row, S2, y8, y9, y11, y12, ee, r1, r2, r3⟩ := row_ok k f4 (by omega) (gs := gs) (hs := hs) (rw := rw) (o := o) (m := m) (sz := sz) (L := L) hhl (by omega) hom hhb (by omega) (by omega) hL (by omega) a8 a9 a11 a12 f1 (by omega)
      refine ⟨envT pn gs hs rw L o m sz a8 a9 a11 a12, _, S2, rfl, .inl ee, ⟨_, _, _, _, _, rfl⟩, Rd ++ [row], r2, by rw [List.length_append, List.length_singleton, f2], fun z hz => ?_, by rw [show b + 20 + 48 * (i + 1) = b + 20 + 48 * i + 48 by omega]; exact r3⟩
      rcases List.mem_append.mp hz with hz | hz
      · exact f3 z hz
      · simp at hz
        subst hz
        exact r1
  rw [List.drop_zero, hρ] at e7
  rw [List.length_map, List.length_range] at f2 f4
  have rg := rng_ok m (by omega)
  refine ⟨m, sz, gs, Rd, S'.set rw .dead, ?_, ⟨by omega, by omega, by omega, hgl, hgb, hga, f2, f3⟩, pot_set (f4.mono (by omega)) (by omega) _⟩
  rw [ph (k + 3) I__law_table _ _ n__law_table rfl]
  refine runR (fn := n__law_table) (ds := [.ref pn]) rfl ?_
  dsimp only [n__law_table, b__law_table]
  show evSs _ _ _ [.ref pn, .undef, .undef, .undef, .undef, .undef, .undef, .undef, .undef, .undef, .undef, .undef, .undef, .undef] _ = _
  have ad1 : bopE .add (.int 1) (I x1) = some (I m) := by rw [hm]; exact add1_I x1
  have ad2 : bopE .add (.int 1) (I x2) = some (I sz) := by rw [hsz]; exact add1_I x2
  refine Ts.nx (ρ1 := [.ref pn, .undef, .undef, .undef, .undef, .undef, I m, I sz, .undef, .undef, .undef, .undef, .undef, .undef]) (S1 := S2) (T.set (E.tup (Es.cons (E.bop E.cst (E.call (Es.cons (E.var rfl rfl) (Es.cons E.cst Es.nil)) t1) ad1) (Es.cons (E.bop E.cst (E.call (Es.cons (E.var rfl rfl) (Es.cons E.cst Es.nil)) t2) ad2) Es.nil))) rfl) ?_
  refine Ts.nx (ρ1 := [.ref pn, tI gs, .undef, .undef, .undef, .undef, I m, I sz, .undef, .undef, .undef, .undef, .undef, .undef]) (S1 := S3) (T.set (E.blt (Es.cons (E.blt (Es.cons (E.call (Es.cons (E.var rfl rfl) (Es.cons (E.blt (ds := [.int 8]) (Es.cons E.cst Es.nil) m8) (Es.cons (E.var rfl rfl) Es.nil))) t3) Es.nil) so) Es.nil) rfl) rfl) ?_
  refine Ts.nx (ρ1 := [.ref pn, tI gs, .lst (hs.map I), .undef, .undef, .undef, I m, I sz, .undef, .undef, .undef, .undef, .undef, .undef]) (S1 := S4) (T.set (E.comp (Es.cons (E.var rfl rfl) Es.nil) rfl e4) rfl) ?_
  refine Ts.nx (ρ1 := [.ref pn, tI gs, .lst (hs.map I), .ref rw, .undef, .undef, I m, I sz, .undef, .undef, .undef, .undef, .undef, .undef]) (S1 := S4 ++ [.lst []]) (by rw [hrw]; exact T.set (E.alloc (E.lst Es.nil)) rfl) ?_
  refine Ts.nx (ρ1 := [.ref pn, tI gs, .lst (hs.map I), .ref rw, .bl L, .undef, I m, I sz, .undef, .undef, .undef, .undef, .undef, .undef]) (S1 := S6) (T.set eL rfl) ?_
  refine Ts.nx (T.for (Es.cons (E.var rfl rfl) Es.nil) rg e7) ?_
  refine Ts.nx (T.ghost (n := rw) rfl f1) ?_
  exact Ts.rt (T.ret (E.tup (Es.cons (E.var rfl rfl) (Es.cons (E.blt (Es.cons (E.var rfl rfl) Es.nil) rfl) Es.nil))))
end NgB
end

section
set_option autoImplicit false
set_option maxRecDepth 100000
set_option maxHeartbeats 1000000
namespace NgB
open NG
def envR (pn : Nat) (a1 a2 a3 a4 a5 a6 a7 a8 a9 a10 a11 a12 a13 : D) : Env := [.ref pn, a1, a2, a3, a4, a5, a6, a7, a8, a9, a10, a11, a12, a13, .undef, .undef, .undef, .undef, .undef, .undef]
theorem eq_same (s : List Nat) (h : ∀ x ∈ s, x < 1114112) : cmpE .eq (.str s) (.str s) = some true := by
  rw [c_eq_ok _ _ (by simp [okEq, isPy, ddepth]; exact h)]
  have : deq (.str s) (.str s) = true := by simp [deq]
  rw [this]
theorem same_eq {Φ : Phi} {ρ : Env} {S : Store} {a b : CE} {t : Bool} (h1 : evE Φ a ρ S = .ok (.bl t) S) (h2 : evE Φ b ρ S = .ok (.bl t) S) : evE Φ (.cmp .eq (.blt .repr [a]) (.blt .repr [b])) ρ S = .ok (.bl true) S := by
  have q := repr_ok (shB_ok t) (by omega) (by omega)
  exact E.cmp (E.blt (Es.cons h1 Es.nil) q) (E.blt (Es.cons h2 Es.nil) q) (eq_same _ (shB_ok t).cp)
theorem ite_no {W : Nat} {Φ : Phi} {ρ : Env} {S : Store} {a b : CE} {B : List CS} (h1 : evE Φ a ρ S = .ok (.bl false) S) (h2 : evE Φ b ρ S = .ok (.bl false) S) : evS W Φ (.ite (.or a b) B []) ρ S = .ok (.nx ρ) S :=
  T.ite (x := .bl false) (u := false) (E.or h1 rfl (condF h2)) rfl (condF Ts.nil)
theorem part1 (k : Nat) {pn b : Nat} {S : Store} (hp : PotAt pn b S) (hb : b ≤ 800000) : ∃ w bd S', PotAt pn (b + 110) S' ∧ ∀ rest R', evSs 1000 (Ph (k + 8)) rest (envR pn (.lst (zD (preW w))) (.int (mstW w)) .undef .undef .undef .undef .undef .undef .undef .undef .undef (.str w) (I bd)) S' = R' →
    evSs 1000 (Ph (k + 8)) (b__law_right.take 5 ++ rest) (envR pn .undef .undef .undef .undef .undef .undef .undef .undef .undef .undef .undef .undef .undef) S = R' := by
  obtain ⟨w, S1, ew, hwl, hw, p1, k1⟩ := law_wave_ok (k + 5) hp (by omega) 30 (by omega)
  have ew : callE (Ph (k + 8)) I__law_wave 0 [.ref pn, .int 30] S = .ok (.str w) S1 := call0.trans ew
  obtain ⟨bd, S2, t2, hbd, p2, k2⟩ := take' (k + 7) p1 (by omega) (u := 21) (by omega) (by omega)
  have t2 : callE (Ph (k + 8)) I__law_take 0 [.ref pn, .int 21] S1 = .ok (I bd) S2 := t2
  have c3 := call_lcharges (k + 7) S2 hw (by omega)
  have c4 : callE (Ph (k + 8)) I_charge_of 1 [.str w] S2 = .ok (.int (chW w)) S2 := callP rfl (charge_of_ok (k + 5) [] hw (by omega)) rfl
  have c5 : callE (Ph (k + 8)) I_charges_of 1 [.str w] S2 = .ok (.tup (zD (preW w))) S2 := callP rfl (charges_of_ok (k + 5) [] hw (by omega)) (clean_zT _)
  have c6 : callE (Ph (k + 8)) I_least_kept 1 [.str w] S2 = .ok (.int (mstW w)) S2 := callP rfl (least_kept_ok (k + 5) [] hw (by omega)) rfl
  have c7 : callE (Ph (k + 8)) I_does_keep 1 [.str w, I bd] S2 = .ok (.bl (decide (mstW w ≤ (bd : Int)))) S2 := callP rfl (does_keep_ok (k + 4) [] hw (by omega) (by omega)) rfl
  have s1 : Sh 4 0 (.int (chW w)) := by have := chW_bd w; exact shZ_ok (by omega) (by omega)
  have s2 : Sh (31 * 6 + 4) 1 (.tup (zD (preW w))) := by
    refine (shZs_ok fun z hz => by have := pre_bd hz; omega).mono ?_ (by omega)
    unfold preW
    rw [List.length_map, List.length_range]
    omega
  have s3 : Sh 4 0 (.int (mstW w)) := by have := mst_bd w; exact shZ_ok (by omega) (by omega)
  refine ⟨w, bd, S2, p2.mono (by omega), fun rest R' hR => ?_⟩
  show evSs 1000 (Ph (k + 8)) (.set (.tup [.one 12, .one 13]) (.tup [.call I__law_wave 0 [.var 0, .cst (.int 30)], .call I__law_take 0 [.var 0, .cst (.int 21)]]) :: .set (.one 1) (.call I__law_charges 1 [.var 12]) :: .ite (.or (.cmp .ne (.blt .repr [.call I_charge_of 1 [.var 12]]) (.blt .repr [.ix (.var 1) (.neg (.cst (.int 1)))])) (.cmp .ne (.blt .repr [.call I_charges_of 1 [.var 12]]) (.blt .repr [.blt .tuple [.var 1]]))) [.ret (.cst (.bl false))] [] :: .set (.one 2) (.blt .max1 [.comp (.blt .abs [.var 14]) (.one 14) [14] .of [.var 1] []]) :: .ite (.or (.cmp .ne (.blt .repr [.call I_least_kept 1 [.var 12]]) (.blt .repr [.var 2])) (.cmp .ne (.blt .repr [.call I_does_keep 1 [.var 12, .var 13]]) (.blt .repr [.cmp .le (.var 2) (.var 13)]))) [.ret (.cst (.bl false))] [] :: rest) _ _ = _
  refine Ts.nx (ρ1 := envR pn .undef .undef .undef .undef .undef .undef .undef .undef .undef .undef .undef (.str w) (I bd)) (S1 := S2) (T.set (E.tup (Es.cons (E.call (Es.cons (E.var rfl rfl) (Es.cons E.cst Es.nil)) ew) (Es.cons (E.call (Es.cons (E.var rfl rfl) (Es.cons E.cst Es.nil)) t2) Es.nil))) rfl) ?_
  refine Ts.nx (ρ1 := envR pn (.lst (zD (preW w))) .undef .undef .undef .undef .undef .undef .undef .undef .undef .undef (.str w) (I bd)) (S1 := S2) (T.set (E.call (Es.cons (E.var rfl rfl) Es.nil) c3) rfl) ?_
  refine Ts.nx (ite_no (same_repr (d := .int (chW w)) (E.call (Es.cons (E.var rfl rfl) Es.nil) c4) (E.ix (x := .lst (zD (preW w))) (E.var rfl rfl) (E.neg E.cst) (preW_last w)) rfl s1 (by omega) (by omega)) (same_repr (d := .tup (zD (preW w))) (E.call (Es.cons (E.var rfl rfl) Es.nil) c5) (E.blt (ds := [.lst (zD (preW w))]) (Es.cons (E.var rfl rfl) Es.nil) rfl) rfl s2 (by omega) (by omega))) ?_
  refine Ts.nx (ρ1 := envR pn (.lst (zD (preW w))) (.int (mstW w)) .undef .undef .undef .undef .undef .undef .undef .undef .undef (.str w) (I bd)) (S1 := S2) (T.set (most_ev (Ph (k + 8)) S2 (ρ := envR pn (.lst (zD (preW w))) .undef .undef .undef .undef .undef .undef .undef .undef .undef .undef (.str w) (I bd)) (E.var rfl rfl) rfl (fun d => [.ref pn, .lst (zD (preW w)), .undef, .undef, .undef, .undef, .undef, .undef, .undef, .undef, .undef, .undef, .str w, I bd, d, .undef, .undef, .undef, .undef, .undef]) (fun d => rfl) fun d => rfl) rfl) ?_
  refine Ts.nx (ite_no (same_repr (d := .int (mstW w)) (E.call (Es.cons (E.var rfl rfl) Es.nil) c6) (E.var rfl rfl) rfl s3 (by omega) (by omega)) (same_repr (d := .bl (decide (mstW w ≤ (bd : Int)))) (E.call (Es.cons (E.var rfl rfl) (Es.cons (E.var rfl rfl) Es.nil)) c7) (E.cmp (x := .int (mstW w)) (y := I bd) (E.var rfl rfl) (E.var rfl rfl) rfl) rfl (shB_ok _) (by omega) (by omega))) ?_
  exact hR
section
variable {m sz : Nat} {gs : List Nat} {R : List (List (List Nat))}
theorem sum_bd : ∀ (l : List Int), (∀ z ∈ l, -6 ≤ z ∧ z ≤ 6) → -(6 * l.length : Int) ≤ l.sum ∧ l.sum ≤ 6 * l.length
  | [], _ => by simp
  | x :: l, h => by
    have h1 := h x (List.mem_cons_self ..)
    have h2 := sum_bd l fun z hz => h z (List.mem_cons_of_mem _ hz)
    rw [List.sum_cons, List.length_cons]
    omega
theorem ch_bd (h : TbOk m sz gs R) {o n : Nat} (ho : o < m) (hn : n < m) : -6 ≤ ch R o n ∧ ch R o n ≤ 6 := by
  have h1 := (wv_ok h ho hn).2.1
  have h2 := chW_bd (wv R o n)
  have h3 := h.s6
  unfold ch
  omega
theorem sumZ_bd (h : TbOk m sz gs R) {ws : List Nat} (hw : ∀ x ∈ ws, x < m) (hl : ws.length ≤ 6) : ∀ z ∈ sumZ (chs R ws), -100 ≤ z ∧ z ≤ 100 := by
  intro z hz
  obtain ⟨i, _, rfl⟩ := List.mem_map.mp hz
  rw [sumI_sum]
  have h1 := sum_bd ((chs R ws).take i) fun y hy => by
    obtain ⟨p, hp, rfl⟩ := List.mem_map.mp (List.mem_of_mem_take hy)
    obtain ⟨p1, p2⟩ := prs_mem hp
    exact ch_bd h (hw _ p1) (hw _ p2)
  have h2 : ((chs R ws).take i).length ≤ 6 := by
    rw [List.length_take]
    unfold chs
    rw [List.length_map, prs_len]
    omega
  omega
theorem part2 (k : Nat) {pn b : Nat} {S : Store} (hp : PotAt pn b S) (hb : b ≤ 800000) (a1 a2 a12 a13 : D) : ∃ m sz gs R ws a7 S', TbOk m sz gs R ∧ (∀ x ∈ ws, x < m) ∧ 1 ≤ ws.length ∧ ws.length ≤ 6 ∧ PotAt pn (b + 420) S' ∧ ∀ rest R', evSs 1000 (Ph (k + 8)) rest (envR pn a1 a2 (tbD gs R) (I m) (tI ws) (.lst (zD (sumZ (chs R ws)))) a7 .undef .undef .undef .undef a12 a13) S' = R' →
    evSs 1000 (Ph (k + 8)) ((b__law_right.drop 5).take 7 ++ rest) (envR pn a1 a2 .undef .undef .undef .undef .undef .undef .undef .undef .undef a12 a13) S = R' := by
  have hL' : (LIM : Nat) = 16777216 := rfl
  obtain ⟨m, sz, gs, R, S1, et, ht, p1⟩ := law_table_ok (k + 4) hp (by omega)
  have et : callE (Ph (k + 8)) I__law_table 0 [.ref pn] S = .ok (tbD gs R) S1 := call0.trans et
  have hm1 := ht.m1
  have hm4 := ht.m4
  have l1 := len_I gs
  rw [ht.gl] at l1
  obtain ⟨x, S2, t2, hx, p2, k2⟩ := take' (k + 7) p1 (by omega) (u := 6) (by omega) (by omega)
  have t2 : callE (Ph (k + 8)) I__law_take 0 [.ref pn, .int 6] S1 = .ok (I x) S2 := t2
  have ad := add1_I x
  obtain ⟨n, hn⟩ : ∃ n, n = 1 + x := ⟨_, rfl⟩
  rw [← hn] at ad
  have rg := rng_ok n (by omega)
  obtain ⟨ws, S3, e3, hwl, hwb, p3, k3⟩ := comp_takes (Φ := Ph (k + 8)) (t := .one 15) (e := .call I__law_take 0 [.var 0, .var 4]) (W := envR pn a1 a2 (tbD gs R) (I m) .undef .undef .undef .undef .undef .undef .undef a12 a13) (m := n) (fun x => x < m) (fun q => [.ref pn, a1, a2, tbD gs R, I m, .undef, .undef, .undef, .undef, .undef, .undef, .undef, a12, a13, .undef, q, .undef, .undef, .undef, .undef]) (fun q => rfl) p2 fun i S b' hi hp hb' => by
    obtain ⟨y, S', t, hy, hp', hk⟩ := take' (k + 7) hp (by omega) (u := m) (by omega) (by omega)
    exact ⟨y, S', E.call (Es.cons (E.var rfl rfl) (Es.cons (E.var rfl rfl) Es.nil)) t, hy, hp', hk⟩
  obtain ⟨q, hq⟩ : ∃ q, q = S3.length := ⟨_, rfl⟩
  have hpn := pot_lt p3
  have l2 := len_I ws
  have rg2 := rng_ok (ws.length - 1) (by omega)
  have ixw : ∀ q, q < ws.length → ixE (tI ws) (I q) = some (I (ws.getD q 0)) := fun q hq => by
    show atIx (ws.map I) ((q : Nat) : Int) = _
    rw [at_nat, List.getElem?_map, (getD_in (l := ws) (d := 0) hq).2]
    rfl
  obtain ⟨ρ', S', e4, ⟨a7, hρ⟩, f1, f2⟩ := forL_inv (t := .one 7) (body := evSs 1000 (Ph (k + 8)) [.expr (.mut 0 6 [.bop .add (.ix (.var 6) (.neg (.cst (.int 1)))) (.ix (.call I__law_charges 1 [.ix (.ix (.ix (.var 3) (.cst (.int 1))) (.ix (.var 5) (.var 7))) (.ix (.var 5) (.bop .add (.var 7) (.cst (.int 1))))]) (.neg (.cst (.int 1))))])]) (its := (List.range (ws.length - 1)).map I)
    (fun i ρ S1 => (∃ a7, ρ = envR pn a1 a2 (tbD gs R) (I m) (tI ws) (.ref q) a7 .undef .undef .undef .undef a12 a13) ∧ S1[q]? = some (.lst (zD (sumZ ((chs R ws).take i)))) ∧ PotAt pn (b + 400 + 1 + n) S1) 0 (envR pn a1 a2 (tbD gs R) (I m) (tI ws) (.ref q) .undef .undef .undef .undef .undef a12 a13) (S3 ++ [.lst [.int 0]]) (Nat.zero_le _) ⟨⟨_, rfl⟩, by rw [hq]; exact List.getElem?_concat_length, pot_app p3 _⟩ fun i d ρ S1 hi hh => by
      obtain ⟨⟨a7, rfl⟩, f1, f2⟩ := hh
      rw [List.getElem?_map] at hi
      obtain ⟨j, hj, rfl⟩ := Option.map_eq_some_iff.mp hi
      have hil : i < ws.length - 1 := by
        have := (List.getElem?_eq_some_iff.mp hj).1
        rw [List.length_range] at this
        exact this
      have hji : j = i := by rw [List.getElem?_range hil] at hj; exact (Option.some.inj hj).symm
      subst hji
      have htk : (chs R ws).take (j + 1) = (chs R ws).take j ++ [ch R (ws.getD j 0) (ws.getD (j + 1) 0)] := by
        rw [List.take_add_one]
        congr 1
        rw [chs_range, List.getElem?_map, List.getElem?_range hil]
        rfl
      obtain ⟨w1, w2, _⟩ := wv_ok ht (hwb _ (getD_in (l := ws) (d := 0) (i := j) (by omega)).1) (hwb _ (getD_in (l := ws) (d := 0) (i := j + 1) (by omega)).1)
      have hs6 := ht.s6
      have e5 : evE (Ph (k + 8)) (.ix (.call I__law_charges 1 [.ix (.ix (.ix (.var 3) (.cst (.int 1))) (.ix (.var 5) (.var 7))) (.ix (.var 5) (.bop .add (.var 7) (.cst (.int 1))))]) (.neg (.cst (.int 1)))) (envR pn a1 a2 (tbD gs R) (I m) (tI ws) (.ref q) (I j) .undef .undef .undef .undef a12 a13) S1 = .ok (.int (ch R (ws.getD j 0) (ws.getD (j + 1) 0))) S1 := by
        refine E.ix (x := .lst (zD (preW (wv R (ws.getD j 0) (ws.getD (j + 1) 0))))) (E.call (Es.cons (cell_ev ht (hwb _ (getD_in (l := ws) (d := 0) (i := j) (by omega)).1) (hwb _ (getD_in (l := ws) (d := 0) (i := j + 1) (by omega)).1) (E.var rfl rfl) ?_ ?_) Es.nil) (call_lcharges (k + 7) S1 w1 (by omega))) (E.neg E.cst) (preW_last _)
        · exact E.ix (x := tI ws) (y := I j) (E.var rfl rfl) (E.var rfl rfl) (ixw j (by omega))
        · exact E.ix (x := tI ws) (y := I (j + 1)) (E.var rfl rfl) (E.bop (x := I j) (E.var rfl rfl) E.cst (add_1 j)) (ixw (j + 1) (by omega))
      have hcl : ((chs R ws).take j).length ≤ 10000 := by
        rw [List.length_take]
        omega
      obtain ⟨s1, s2⟩ := sum_step (Φ := Ph (k + 8)) (W := 1000) (n := q) (i := 6) (ρ := envR pn a1 a2 (tbD gs R) (I m) (tI ws) (.ref q) (I j) .undef .undef .undef .undef a12 a13) rfl f1 hcl e5
      rw [htk]
      exact ⟨_, _, _, rfl, .inl (Ts.nx s1 Ts.nil), ⟨_, rfl⟩, s2, pot_set f2 (by omega) _⟩
  rw [List.drop_zero, hρ] at e4
  rw [List.length_map, List.length_range, show ws.length - 1 = (chs R ws).length from by unfold chs; rw [List.length_map, prs_len], List.take_length] at f1
  have c6 : callE (Ph (k + 8)) I_row_charges 1 [tbD gs R, tI ws] (S'.set q .dead) = .ok (.tup (zD (sumZ (chs R ws)))) (S'.set q .dead) := callP (by simp [cleans, clean_tb, clean_tI]) (row_charges_ok (k + 1) [] ht hwb (by omega) (by omega)) (clean_zT _)
  have sh6 : Sh (6 * 6 + 4) 1 (.tup (zD (sumZ (chs R ws)))) := by
    refine (shZs_ok (sumZ_bd ht hwb (by omega))).mono ?_ (by omega)
    rw [sumZ_len]
    unfold chs
    rw [List.length_map, prs_len]
    omega
  refine ⟨m, sz, gs, R, ws, a7, S'.set q .dead, ht, hwb, by omega, by omega, pot_set (f2.mono (by omega)) (by omega) _, fun rest R' hR => ?_⟩
  show evSs 1000 (Ph (k + 8)) (.set (.one 3) (.call I__law_table 0 [.var 0]) :: .set (.one 4) (.blt .len [.ix (.var 3) (.cst (.int 0))]) :: .set (.one 5) (.blt .tuple [.comp (.call I__law_take 0 [.var 0, .var 4]) (.one 15) [15] .rng1 [.bop .add (.cst (.int 1)) (.call I__law_take 0 [.var 0, .cst (.int 6)])] []]) :: .set (.one 6) (.alloc (.lst [.cst (.int 0)])) :: .for (.one 7) .rng1 [.bop .sub (.blt .len [.var 5]) (.cst (.int 1))] [.expr (.mut 0 6 [.bop .add (.ix (.var 6) (.neg (.cst (.int 1)))) (.ix (.call I__law_charges 1 [.ix (.ix (.ix (.var 3) (.cst (.int 1))) (.ix (.var 5) (.var 7))) (.ix (.var 5) (.bop .add (.var 7) (.cst (.int 1))))]) (.neg (.cst (.int 1))))])] :: .ghost 6 :: .ite (.cmp .ne (.blt .repr [.call I_row_charges 1 [.var 3, .var 5]]) (.blt .repr [.blt .tuple [.var 6]])) [.ret (.cst (.bl false))] [] :: rest) _ _ = _
  refine Ts.nx (ρ1 := envR pn a1 a2 (tbD gs R) .undef .undef .undef .undef .undef .undef .undef .undef a12 a13) (S1 := S1) (T.set (E.call (Es.cons (E.var rfl rfl) Es.nil) et) rfl) ?_
  refine Ts.nx (ρ1 := envR pn a1 a2 (tbD gs R) (I m) .undef .undef .undef .undef .undef .undef .undef a12 a13) (S1 := S1) (T.set (E.blt (Es.cons (E.ix (x := tbD gs R) (E.var rfl rfl) E.cst rfl) Es.nil) l1) rfl) ?_
  refine Ts.nx (ρ1 := envR pn a1 a2 (tbD gs R) (I m) (tI ws) .undef .undef .undef .undef .undef .undef a12 a13) (S1 := S3) (T.set (E.blt (Es.cons (E.comp (Es.cons (E.bop E.cst (E.call (Es.cons (E.var rfl rfl) (Es.cons E.cst Es.nil)) t2) ad) Es.nil) rg e3) Es.nil) rfl) rfl) ?_
  refine Ts.nx (ρ1 := envR pn a1 a2 (tbD gs R) (I m) (tI ws) (.ref q) .undef .undef .undef .undef .undef a12 a13) (S1 := S3 ++ [.lst [.int 0]]) (by rw [hq]; exact T.set (E.alloc (E.lst (Es.cons E.cst Es.nil))) rfl) ?_
  refine Ts.nx (T.for (Es.cons (E.bop (x := I ws.length) (E.blt (Es.cons (E.var rfl rfl) Es.nil) l2) E.cst (sub1_I ws.length (by omega))) Es.nil) rg2 e4) ?_
  refine Ts.nx (ρ1 := envR pn a1 a2 (tbD gs R) (I m) (tI ws) (.lst (zD (sumZ (chs R ws)))) a7 .undef .undef .undef .undef a12 a13) (T.ghost (n := q) rfl f1) ?_
  refine Ts.nx (T.ite (x := .bl false) (u := false) (same_repr (d := .tup (zD (sumZ (chs R ws)))) (E.call (Es.cons (E.var rfl rfl) (Es.cons (E.var rfl rfl) Es.nil)) c6) (E.blt (ds := [.lst (zD (sumZ (chs R ws)))]) (Es.cons (E.var rfl rfl) Es.nil) rfl) rfl sh6 (by omega) (by omega)) rfl (condF Ts.nil)) ?_
  exact hR
end
end NgB
end

section
set_option autoImplicit false
set_option maxRecDepth 100000
set_option maxHeartbeats 1000000
namespace NgB
open NG
theorem ok_pair {k : Nat} {a u : D} (ha : okV k a = true) (hu : okV k u = true) : okV (k + 1) (.tup [a, u]) = true := ok_tup (by simp) fun d hd => by
  simp only [List.mem_cons, List.not_mem_nil, or_false] at hd
  rcases hd with rfl | rfl
  · exact ha
  · exact hu
theorem ok_zT (k : Nat) {l : List Int} (hl : l.length ≤ 60) (h : ∀ z ∈ l, -1000 ≤ z ∧ z ≤ 1000) : okV (k + 1) (.tup (zD l)) = true := ok_tup (by rw [List.length_map]; exact hl) fun d hd => by
  have hb : BIG = 100000000000000000000 := rfl
  obtain ⟨z, hz, rfl⟩ := List.mem_map.mp hd
  have := h z hz
  exact ok_int (by omega)
theorem ok_LV (k : Nat) : okV k (.str LV) = true := by cases k <;> rfl
theorem ok_RD (k : Nat) : okV k (.str RD) = true := by cases k <;> rfl
theorem inBs_Z : ∀ {l : List Int} (k : Nat), (∀ z ∈ l, -1000 ≤ z ∧ z ≤ 1000) → inBs k (zD l) = true
  | [], _, _ => rfl
  | x :: l, k, h => by
    show (inB k (.int x) && inBs k (zD l)) = true
    have hx := h x (List.mem_cons_self ..)
    have : inB k (.int x) = true := by cases k <;> exact decide_eq_true (by omega)
    rw [this, inBs_Z k fun z hz => h z (List.mem_cons_of_mem _ hz)]
    rfl
theorem I_Z (ws : List Nat) : ws.map I = zD (ws.map fun x : Nat => (x : Int)) := by
  unfold zD
  rw [List.map_map]
  rfl
theorem in_told {a : List Nat} (ha : a = LV ∨ a = RD) {l : List Int} (hl : l.length ≤ 50) (h : ∀ z ∈ l, -1000 ≤ z ∧ z ≤ 1000) : inB 2 (.tup [.str a, .tup (zD l)]) = true := by
  show (decide (2 ≤ 50) && (inB 1 (.str a) && (inB 1 (.tup (zD l)) && true))) = true
  have h1 : inB 1 (.str a) = true := by rcases ha with rfl | rfl <;> rfl
  have h2 : inB 1 (.tup (zD l)) = true := by
    show (decide ((zD l).length ≤ 50) && inBs 0 (zD l)) = true
    rw [List.length_map, decide_eq_true hl, inBs_Z 0 h]
    rfl
  rw [h1, h2]
  rfl
section
variable {m sz : Nat} {gs : List Nat} {R : List (List (List Nat))}
theorem hgt_bd (h : TbOk m sz gs R) : ∀ z ∈ hgt R m, -6 ≤ z ∧ z ≤ 6 := by
  intro z hz
  rcases List.mem_cons.mp hz with rfl | hz
  · omega
  · obtain ⟨i, hi, rfl⟩ := List.mem_map.mp hz
    have := List.mem_range.mp hi
    have hm1 := h.m1
    exact ch_bd h (by omega) (by omega)
theorem own_ok (k : Nat) (S : Store) (h : TbOk m sz gs R) (pn : Nat) (a1 a2 a5 a6 a7 a12 a13 : D) : evE (Ph (k + 1)) (.blt .tuple [.bop .add (.lst [.cst (.int 0)]) (.comp (.ix (.call I__law_charges 1 [.ix (.ix (.ix (.var 3) (.cst (.int 1))) (.cst (.int 0))) (.var 17)]) (.neg (.cst (.int 1)))) (.one 17) [17] .rng2 [.cst (.int 1), .var 4] [])]) (envR pn a1 a2 (tbD gs R) (I m) a5 a6 a7 .undef .undef .undef .undef a12 a13) S = .ok (.tup (zD (hgt R m))) S := by
  have hm1 := h.m1
  have hm4 := h.m4
  have hL' : (LIM : Nat) = 16777216 := rfl
  have c := compI (t := .one 17) (cond := evC (Ph (k + 1)) []) (elt := evE (Ph (k + 1)) (.ix (.call I__law_charges 1 [.ix (.ix (.ix (.var 3) (.cst (.int 1))) (.cst (.int 0))) (.var 17)]) (.neg (.cst (.int 1))))) (ρ := envR pn a1 a2 (tbD gs R) (I m) a5 a6 a7 .undef .undef .undef .undef a12 a13) (S := S) (fun i => .int (ch R 0 i)) (l := (List.range (m - 1)).map fun i => i + 1) fun i hi => by
    obtain ⟨j, hj, rfl⟩ := List.mem_map.mp hi
    have hj := List.mem_range.mp hj
    obtain ⟨w1, w2, _⟩ := wv_ok h (o := 0) (n := j + 1) (by omega) (by omega)
    have hs6 := h.s6
    refine ⟨[.ref pn, a1, a2, tbD gs R, I m, a5, a6, a7, .undef, .undef, .undef, .undef, a12, a13, .undef, .undef, .undef, I (j + 1), .undef, .undef], rfl, C.nil, ?_⟩
    exact E.ix (x := .lst (zD (preW (wv R 0 (j + 1))))) (E.call (Es.cons (cell_ev h (o := 0) (n := j + 1) (by omega) (by omega) (E.var rfl rfl) E.cst (E.var rfl rfl)) Es.nil) (call_lcharges k S w1 (by omega))) (E.neg E.cst) (preW_last _)
  rw [hgt_D]
  refine E.blt (ds := [.lst (.int 0 :: (((List.range (m - 1)).map fun i => i + 1).map fun i => .int (ch R 0 i)))]) (Es.cons (E.bop (E.lst (Es.cons E.cst Es.nil)) (E.comp (Es.cons E.cst (Es.cons (E.var rfl rfl) Es.nil)) (it_rng2 m hm1 (by omega)) c) ?_) Es.nil) rfl
  refine o_cat_lst (l := [.int 0]) _ ?_
  rw [List.length_map, List.length_map, List.length_range]
  show 1 + _ ≤ _
  omega
theorem shB_lv (hl : (hgt R m).length = m) : shB R m (.tup [.str LV, .tup (zD (hgt R m))]) = lvB R m (hgt R m) := by
  show (if LV = RD then rdB R m (.tup (zD (hgt R m))) else decide (LV = LV) && lvV R m (.tup (zD (hgt R m)))) = _
  rw [if_neg (by decide), decide_eq_true rfl, Bool.true_and]
  show (decide ((zD (hgt R m)).length = m) && ((zD (hgt R m)).all isI && lvB R m (intsOf (zD (hgt R m))))) = _
  rw [List.length_map, decide_eq_true hl, intsOf_Z]
  have : (zD (hgt R m)).all isI = true := List.all_eq_true.mpr fun d hd => by
    obtain ⟨z, _, rfl⟩ := List.mem_map.mp hd
    rfl
  rw [this]
  rfl
theorem shB_rd {ws : List Nat} (hw : ws ∈ rnds m) (hs : sumI (chs R ws) ≠ 0) (hm : 1 ≤ m) : shB R m (.tup [.str RD, tI ws]) = true := by
  obtain ⟨h1, h2, _, h4⟩ := mem_rnds hw
  show (if RD = RD then rdB R m (tI ws) else decide (RD = LV) && lvV R m (tI ws)) = true
  rw [if_pos rfl]
  show (decide (2 ≤ (ws.map I).length) && ((ws.map I).all (btw 0 ((m : Int) - 1)) && rdW R (natsOf (ws.map I)))) = true
  have : (ws.map I).all (btw 0 ((m : Int) - 1)) = true := List.all_eq_true.mpr fun d hd => by
    obtain ⟨x, hx, rfl⟩ := List.mem_map.mp hd
    have := h1 x hx
    show (decide ((0 : Int) ≤ (x : Int)) && decide ((x : Int) ≤ (m : Int) - 1)) = true
    rw [decide_eq_true (by omega), decide_eq_true (by omega)]
    rfl
  rw [this, natsOf_I, List.length_map, decide_eq_true h2]
  unfold rdW
  rw [decide_eq_true h4, decide_eq_false hs]
  rfl
theorem bents_go (c : Nat) {pn : Nat} {v : D} (hv : inB 2 v = true) (hu : isU v = false) {W : Env} (F : D → Env) (ht : ∀ q, asg (.one 19) q W = some (F q)) (h0 : ∀ q, (F q)[0]? = some (.ref pn)) (h9 : ∀ q, (F q)[9]? = some v) : ∀ (its : List D) (b : Nat) (S : Store), PotAt pn b S → b + 30 * its.length ≤ 890000 →
    ∃ ys S', compL (.one 19) (evC (Ph (c + 6)) []) (evE (Ph (c + 6)) (.call I__law_bent 0 [.var 0, .var 9])) W its S = .ok ys S' ∧ ys.length = its.length ∧ (∀ y ∈ ys, okV 6 y = true) ∧ PotAt pn (b + 30 * its.length) S' ∧ Keep pn S S'
  | [], b, S, hp, _ => ⟨[], S, compL_nil, rfl, by simp, hp, Keep.refl ..⟩
  | q :: its, b, S, hp, hb => by
    rw [List.length_cons] at hb
    obtain ⟨d, S1, e1, o1, p1, k1⟩ := bent_ok c 2 v b S hv (by omega) hp (by omega)
    have e1 : callE (Ph (c + 6)) I__law_bent 0 [.ref pn, v] S = .ok d S1 := call0.trans e1
    obtain ⟨ys, S2, e2, hl, o2, p2, k2⟩ := bents_go c hv hu F ht h0 h9 its (b + 30) S1 p1 (by omega)
    have e3 : evE (Ph (c + 6)) (.call I__law_bent 0 [.var 0, .var 9]) (F q) S = .ok d S1 := E.call (Es.cons (E.var (h0 q) rfl) (Es.cons (E.var (h9 q) hu) Es.nil)) e1
    have hc : evC (Ph (c + 6)) [] (F q) S = .ok true S := C.nil
    refine ⟨d :: ys, S2, ?_, by rw [List.length_cons, List.length_cons, hl], fun y hy => ?_, by rw [List.length_cons, show b + 30 * (its.length + 1) = b + 30 + 30 * its.length by omega]; exact p2, k1.trans k2⟩
    · rw [compL_cons, ht]
      simp only [hc, bind_ok', if_true, e3, e2]
    · rcases List.mem_cons.mp hy with rfl | hy
      · exact o1 2
      · exact o2 y hy
/-- the values that are judged -/
def vls (a : List Nat) (u : D) (hg : List Int) (ws : List Nat) : List D := [.tup [.str a, u], .lst [.str a, u], .tup [.str a], .tup [.str a, u, .int 0], .tup [u, .str a], .tup [.str LV, .tup (zD hg)], .tup [.str LV, .tup (zD hg).reverse], .tup [.str RD, tI ws], .tup [.str RD, .tup (ws.map I ++ cutL (ws.map I) none (some 1))], .non, .tup []]
def vl2 (hg : List Int) (ws : List Nat) (m : Nat) : List D := [.tup [.str [76, 101, 118, 101, 108], .tup (zD hg)], .tup [.str RD, .tup [.int 0]], .tup [.str RD, .tup [.int 0, I m, .int 0]]]
theorem vls_ok {a : List Nat} {u : D} (ha : ∀ k, okV k (.str a) = true) (hu : ∀ e, okV (e + 1) u = true) {hg : List Int} (hl : hg.length ≤ 10) (hb : ∀ z ∈ hg, -6 ≤ z ∧ z ≤ 6) {ws : List Nat} (hw : ∀ x ∈ ws, x < 4) (hwl : ws.length ≤ 6) : okVs 6 (vls a u hg ws) = true := by
  have hB : BIG = 100000000000000000000 := rfl
  have f1 : okV 6 (.tup [.str a, u]) = true := ok_pair (ha _) (hu _)
  have f2 : okV 6 (.lst [.str a, u]) = true := ok_lst (by simp) fun d hd => by
    simp only [List.mem_cons, List.not_mem_nil, or_false] at hd
    rcases hd with rfl | rfl
    · exact ha _
    · exact hu _
  have f3 : okV 6 (.tup [.str a]) = true := ok_tup (by simp) fun d hd => by
    simp only [List.mem_cons, List.not_mem_nil, or_false] at hd
    subst hd
    exact ha _
  have f4 : okV 6 (.tup [.str a, u, .int 0]) = true := ok_tup (by simp) fun d hd => by
    simp only [List.mem_cons, List.not_mem_nil, or_false] at hd
    rcases hd with rfl | rfl | rfl
    · exact ha _
    · exact hu _
    · rfl
  have f5 : okV 6 (.tup [u, .str a]) = true := ok_pair (hu _) (ha _)
  have f6 : okV 6 (.tup [.str LV, .tup (zD hg)]) = true := ok_pair (ok_LV _) (ok_zT 4 (by omega) fun z hz => by have := hb z hz; omega)
  have f7 : okV 6 (.tup [.str LV, .tup (zD hg).reverse]) = true := ok_pair (ok_LV _) (ok_tup (by rw [List.length_reverse, List.length_map]; omega) fun d hd => by
    obtain ⟨z, hz, rfl⟩ := List.mem_map.mp (List.mem_reverse.mp hd)
    have := hb z hz
    exact ok_int (by omega))
  have okI : ∀ d ∈ ws.map I, okV 4 d = true := fun d hd => by
    obtain ⟨x, hx, rfl⟩ := List.mem_map.mp hd
    have := hw x hx
    exact ok_int (by show ((x : Int)).natAbs ≤ _; omega)
  have f8 : okV 6 (.tup [.str RD, tI ws]) = true := ok_pair (ok_RD _) (ok_tup (by rw [List.length_map]; omega) okI)
  have f9 : okV 6 (.tup [.str RD, .tup (ws.map I ++ cutL (ws.map I) none (some 1))]) = true := ok_pair (ok_RD _) (ok_tup (by have := cut_len (ws.map I) none (some 1); rw [List.length_append]; rw [List.length_map] at *; omega) fun d hd => by
    rcases List.mem_append.mp hd with hd | hd
    · exact okI d hd
    · exact okI d (cut_mem hd))
  have f10 : okV 6 .non = true := rfl
  have f11 : okV 6 (.tup []) = true := rfl
  simp only [vls, okVs, f1, f2, f3, f4, f5, f6, f7, f8, f9, f10, f11, Bool.and_self]
theorem vl2_ok {hg : List Int} (hl : hg.length ≤ 10) (hb : ∀ z ∈ hg, -6 ≤ z ∧ z ≤ 6) (ws : List Nat) {m : Nat} (hm : m ≤ 4) : okVs 6 (vl2 hg ws m) = true := by
  have hB : BIG = 100000000000000000000 := rfl
  have f1 : okV 6 (.tup [.str [76, 101, 118, 101, 108], .tup (zD hg)]) = true := ok_pair rfl (ok_zT 4 (by omega) fun z hz => by have := hb z hz; omega)
  have f2 : okV 6 (.tup [.str RD, .tup [.int 0]]) = true := rfl
  have f3 : okV 6 (.tup [.str RD, .tup [.int 0, I m, .int 0]]) = true := ok_pair (ok_RD _) (ok_tup (by simp) fun d hd => by
    simp only [List.mem_cons, List.not_mem_nil, or_false] at hd
    rcases hd with rfl | rfl | rfl
    · rfl
    · exact ok_int (by show ((m : Int)).natAbs ≤ _; omega)
    · rfl)
  simp only [vl2, okVs, f1, f2, f3, Bool.and_self]
end
end NgB
end

section
set_option autoImplicit false
set_option maxRecDepth 100000
set_option maxHeartbeats 1000000
namespace NgB
open NG
theorem ne_bl (a b : Bool) : cmpE .ne (.bl a) (.bl b) = some (a != b) := by
  rw [c_ne_ok _ _ rfl]
  cases a <;> cases b <;> rfl
section
variable {m sz : Nat} {gs : List Nat} {R : List (List (List Nat))}
/-- from what is told on -/
theorem part4 (k : Nat) {pn b : Nat} {S : Store} (hp : PotAt pn b S) (hb : b ≤ 800000) (h : TbOk m sz gs R) {ws : List Nat} (hw : ∀ x ∈ ws, x < m) (hwl : ws.length ≤ 6) {a : List Nat} {u : D} (hin : inB 2 (.tup [.str a, u]) = true) (hk : Kd u) (ha : ∀ k, okV k (.str a) = true) (hu : ∀ e, okV (e + 1) u = true) (a1 a2 a6 a7 a12 a13 : D) :
    ∃ S', PotAt pn (b + 300) S' ∧ evSs 1000 (Ph (k + 8)) (b__law_right.drop 15) (envR pn a1 a2 (tbD gs R) (I m) (tI ws) a6 a7 (.tup (zD (hgt R m))) (.tup [.str a, u]) .undef .undef a12 a13) S = .ok (.rt (.bl true)) S' := by
  have hL' : (LIM : Nat) = 16777216 := rfl
  have hm1 := h.m1
  have hm4 := h.m4
  have hgl := hgt_len R hm1
  have hgb := hgt_bd h
  have hw4 : ∀ x ∈ ws, x < 4 := fun x hx => by have := hw x hx; omega
  obtain ⟨r1, hr1⟩ : ∃ r1, r1 = ws.map I ++ cutL (ws.map I) none (some 1) := ⟨_, rfl⟩
  obtain ⟨K, hK⟩ : ∃ K, K = tbD gs R := ⟨_, rfl⟩
  obtain ⟨q, hq⟩ : ∃ q, q = S.length := ⟨_, rfl⟩
  have hpn := pot_lt hp
  obtain ⟨V0, hV0⟩ : ∃ V0, V0 = vls a u (hgt R m) ws := ⟨_, rfl⟩
  have p1 := pot_app hp (.lst V0)
  have q1 : (S ++ [.lst V0])[q]? = some (.lst V0) := by rw [hq]; exact List.getElem?_concat_length
  -- nine more
  obtain ⟨h9, hh9⟩ : ∃ h9, h9 = (hgt R m).map fun z => z + 9 := ⟨_, rfl⟩
  have e9 : evE (Ph (k + 8)) (.tup [.cst (.str [108, 101, 118, 101, 108]), .blt .tuple [.comp (.bop .add (.var 18) (.cst (.int 9))) (.one 18) [18] .of [.var 8] []]]) (envR pn a1 a2 K (I m) (tI ws) a6 a7 (.tup (zD (hgt R m))) (.tup [.str a, u]) (.tup r1) (.ref q) a12 a13) (S ++ [.lst V0]) = .ok (.tup [.str LV, .tup (zD h9)]) (S ++ [.lst V0]) := by
    have c := compZ (t := .one 18) (cond := evC (Ph (k + 8)) []) (elt := evE (Ph (k + 8)) (.bop .add (.var 18) (.cst (.int 9)))) (ρ := envR pn a1 a2 K (I m) (tI ws) a6 a7 (.tup (zD (hgt R m))) (.tup [.str a, u]) (.tup r1) (.ref q) a12 a13) (S := S ++ [.lst V0]) (fun z => .int (z + 9)) (l := hgt R m) fun z hz => ⟨[.ref pn, a1, a2, K, I m, tI ws, a6, a7, .tup (zD (hgt R m)), .tup [.str a, u], .tup r1, .ref q, a12, a13, .undef, .undef, .undef, .undef, .int z, .undef], rfl, C.nil, E.bop (x := .int z) (E.var rfl rfl) E.cst rfl⟩
    have e : ((hgt R m).map fun z => D.int (z + 9)) = zD h9 := by
      rw [hh9]
      unfold zD
      rw [List.map_map]
      rfl
    rw [e] at c
    exact E.tup (Es.cons E.cst (Es.cons (E.blt (ds := [.lst (zD h9)]) (Es.cons (E.comp (Es.cons (E.var rfl rfl) Es.nil) rfl c) Es.nil) rfl) Es.nil))
  have hV0l : V0.length = 11 := by rw [hV0]; rfl
  obtain ⟨st1, m1⟩ := app_step (W := 1000) (Φ := Ph (k + 8)) (ρ := envR pn a1 a2 K (I m) (tI ws) a6 a7 (.tup (zD (hgt R m))) (.tup [.str a, u]) (.tup r1) (.ref q) a12 a13) (i := 11) (m := q) rfl (live_of q1) e9 q1 (by omega)
  obtain ⟨S2, hS2⟩ : ∃ S2 : Store, S2 = (S ++ [Cell.lst V0]).set q (Cell.lst (V0 ++ [D.tup [.str LV, .tup (zD h9)]])) := ⟨_, rfl⟩
  rw [← hS2] at st1 m1
  have p2 : PotAt pn b S2 := by rw [hS2]; exact pot_set p1 (by omega) _
  -- bent ones, an odd one
  have hut : isU (.tup [.str a, u]) = false := rfl
  obtain ⟨ys, S3, e3, hyl, oy, p3, k3⟩ := bents_go (k + 2) hin hut (W := envR pn a1 a2 K (I m) (tI ws) a6 a7 (.tup (zD (hgt R m))) (.tup [.str a, u]) (.tup r1) (.ref q) a12 a13) (fun z => [.ref pn, a1, a2, K, I m, tI ws, a6, a7, .tup (zD (hgt R m)), .tup [.str a, u], .tup r1, .ref q, a12, a13, .undef, .undef, .undef, .undef, .undef, z]) (fun z => rfl) (fun z => rfl) (fun z => rfl) ((List.range 6).map I) b S2 p2 (by rw [List.length_map, List.length_range]; omega)
  rw [List.length_map, List.length_range] at hyl p3
  obtain ⟨d0, S4, o1, o2, p4, k4⟩ := odd_ok (k + 5) p3 (by omega)
  have o1 : callE (Ph (k + 8)) I__law_odd 0 [.ref pn] S3 = .ok d0 S4 := call0.trans o1
  obtain ⟨V2, hV2⟩ : ∃ V2, V2 = vl2 (hgt R m) ws m := ⟨_, rfl⟩
  have hV2l : V2.length = 3 := by rw [hV2]; rfl
  have rg6 : iterE .rng1 [.int 6] = some ((List.range 6).map I) := rfl
  have e5 : evE (Ph (k + 8)) (.bop .add (.bop .add (.lst [.tup [.cst (.str [76, 101, 118, 101, 108]), .var 8], .tup [.cst (.str [114, 111, 117, 110, 100]), .tup [.cst (.int 0)]], .tup [.cst (.str [114, 111, 117, 110, 100]), .tup [.cst (.int 0), .var 4, .cst (.int 0)]]]) (.comp (.call I__law_bent 0 [.var 0, .var 9]) (.one 19) [19] .rng1 [.cst (.int 6)] [])) (.lst [.call I__law_odd 0 [.var 0]])) (envR pn a1 a2 K (I m) (tI ws) a6 a7 (.tup (zD (hgt R m))) (.tup [.str a, u]) (.tup r1) (.ref q) a12 a13) S2 = .ok (.lst ((V2 ++ ys) ++ [d0])) S4 := by
    have x1 : evE (Ph (k + 8)) (.lst [.tup [.cst (.str [76, 101, 118, 101, 108]), .var 8], .tup [.cst (.str [114, 111, 117, 110, 100]), .tup [.cst (.int 0)]], .tup [.cst (.str [114, 111, 117, 110, 100]), .tup [.cst (.int 0), .var 4, .cst (.int 0)]]]) (envR pn a1 a2 K (I m) (tI ws) a6 a7 (.tup (zD (hgt R m))) (.tup [.str a, u]) (.tup r1) (.ref q) a12 a13) S2 = .ok (.lst V2) S2 := by
      rw [hV2]
      exact E.lst (Es.cons (E.tup (Es.cons E.cst (Es.cons (E.var rfl rfl) Es.nil))) (Es.cons (E.tup (Es.cons E.cst (Es.cons (E.tup (Es.cons E.cst Es.nil)) Es.nil))) (Es.cons (E.tup (Es.cons E.cst (Es.cons (E.tup (Es.cons E.cst (Es.cons (E.var rfl rfl) (Es.cons E.cst Es.nil)))) Es.nil))) Es.nil)))
    exact E.bop (x := .lst (V2 ++ ys)) (y := .lst [d0]) (E.bop (x := .lst V2) (y := .lst ys) x1 (E.comp (Es.cons E.cst Es.nil) rg6 e3) (cat_L V2 ys (by omega))) (E.lst (Es.cons (E.call (Es.cons (E.var rfl rfl) Es.nil) o1) Es.nil)) (cat_L _ [d0] (by rw [List.length_append]; show _ + 1 ≤ _; omega))
  have q4 : S4[q]? = some (.lst (V0 ++ [.tup [.str LV, .tup (zD h9)]])) := by
    rw [k4.oth q (by omega), k3.oth q (by omega)]
    exact m1
  obtain ⟨st2, m2⟩ := ext_step (W := 1000) (Φ := Ph (k + 8)) (ρ := envR pn a1 a2 K (I m) (tI ws) a6 a7 (.tup (zD (hgt R m))) (.tup [.str a, u]) (.tup r1) (.ref q) a12 a13) (i := 11) (m := q) rfl (live_of m1) e5 q4 (by simp only [List.length_append, List.length_singleton]; omega)
  obtain ⟨V, hV⟩ : ∃ V, V = (V0 ++ [.tup [.str LV, .tup (zD h9)]]) ++ ((V2 ++ ys) ++ [d0]) := ⟨_, rfl⟩
  rw [← hV] at st2 m2
  have hVk : ∀ v ∈ V, okV 6 v = true := by
    have g0 : okVs 6 V0 = true := by rw [hV0]; exact vls_ok ha hu (by omega) hgb hw4 hwl
    have g2 : okVs 6 V2 = true := by rw [hV2]; exact vl2_ok (by omega) hgb ws hm4
    have g1 : okV 6 (.tup [.str LV, .tup (zD h9)]) = true := ok_pair (ok_LV _) (ok_zT 4 (by rw [hh9, List.length_map]; omega) fun z hz => by
      rw [hh9] at hz
      obtain ⟨y, hy, rfl⟩ := List.mem_map.mp hz
      have := hgb y hy
      omega)
    intro v hv
    rw [hV] at hv
    rcases List.mem_append.mp hv with hv | hv
    · rcases List.mem_append.mp hv with hv | hv
      · exact okVs_mem g0 v hv
      · simp at hv
        subst hv
        exact g1
    · rcases List.mem_append.mp hv with hv | hv
      · rcases List.mem_append.mp hv with hv | hv
        · exact okVs_mem g2 v hv
        · exact oy v hv
      · simp at hv
        subst hv
        exact o2 4
  refine ⟨(S4.set q (.lst V)).set q .dead, pot_set (pot_set (p4.mono (by omega)) (by omega) _) (by omega) _, ?_⟩
  rw [← hK]
  show evSs 1000 (Ph (k + 8)) [.set (.one 10) (.bop .add (.var 5) (.sl (.var 5) [] [.cst (.int 1)])), .set (.one 11) (.alloc (.lst [.var 9, .blt .list [.var 9], .sl (.var 9) [] [.cst (.int 1)], .bop .add (.var 9) (.tup [.cst (.int 0)]), .blt .rev [.var 9], .tup [.cst (.str [108, 101, 118, 101, 108]), .var 8], .tup [.cst (.str [108, 101, 118, 101, 108]), .blt .rev [.var 8]], .tup [.cst (.str [114, 111, 117, 110, 100]), .var 5], .tup [.cst (.str [114, 111, 117, 110, 100]), .var 10], .cst (.non), .tup []])), .expr (.mut 0 11 [.tup [.cst (.str [108, 101, 118, 101, 108]), .blt .tuple [.comp (.bop .add (.var 18) (.cst (.int 9))) (.one 18) [18] .of [.var 8] []]]]), .expr (.mut 1 11 [.bop .add (.bop .add (.lst [.tup [.cst (.str [76, 101, 118, 101, 108]), .var 8], .tup [.cst (.str [114, 111, 117, 110, 100]), .tup [.cst (.int 0)]], .tup [.cst (.str [114, 111, 117, 110, 100]), .tup [.cst (.int 0), .var 4, .cst (.int 0)]]]) (.comp (.call I__law_bent 0 [.var 0, .var 9]) (.one 19) [19] .rng1 [.cst (.int 6)] [])) (.lst [.call I__law_odd 0 [.var 0]])]), .ghost 11, .ret (.blt .all [.comp (.cmp .eq (.blt .repr [.call I_shows_level 1 [.var 3, .var 16]]) (.blt .repr [.call I__law_is_shown 1 [.var 3, .var 16]])) (.one 16) [16] .of [.var 11] []])] _ _ = _
  refine Ts.nx (ρ1 := envR pn a1 a2 K (I m) (tI ws) a6 a7 (.tup (zD (hgt R m))) (.tup [.str a, u]) (.tup r1) .undef a12 a13) (S1 := S) ?_ ?_
  · rw [hr1]
    exact T.set (E.bop (x := tI ws) (y := .tup (cutL (ws.map I) none (some 1))) (E.var rfl rfl) (E.sl (x := tI ws) (E.var rfl rfl) Es.nil (Es.cons E.cst Es.nil) rfl rfl rfl) (add_T _ _ (by have := cut_len (ws.map I) none (some 1); rw [List.length_map] at *; omega))) rfl
  refine Ts.nx (ρ1 := envR pn a1 a2 K (I m) (tI ws) a6 a7 (.tup (zD (hgt R m))) (.tup [.str a, u]) (.tup r1) (.ref q) a12 a13) (S1 := S ++ [.lst V0]) ?_ ?_
  · rw [hq, hV0]
    have v9 : evE (Ph (k + 8)) (.var 9) (envR pn a1 a2 K (I m) (tI ws) a6 a7 (.tup (zD (hgt R m))) (.tup [.str a, u]) (.tup r1) .undef a12 a13) S = .ok (.tup [.str a, u]) S := E.var rfl rfl
    have v8 : evE (Ph (k + 8)) (.var 8) (envR pn a1 a2 K (I m) (tI ws) a6 a7 (.tup (zD (hgt R m))) (.tup [.str a, u]) (.tup r1) .undef a12 a13) S = .ok (.tup (zD (hgt R m))) S := E.var rfl rfl
    have v10 : evE (Ph (k + 8)) (.var 10) (envR pn a1 a2 K (I m) (tI ws) a6 a7 (.tup (zD (hgt R m))) (.tup [.str a, u]) (.tup r1) .undef a12 a13) S = .ok (.tup (ws.map I ++ cutL (ws.map I) none (some 1))) S := by rw [← hr1]; exact E.var rfl rfl
    have w1 : evE (Ph (k + 8)) (.blt .list [.var 9]) (envR pn a1 a2 K (I m) (tI ws) a6 a7 (.tup (zD (hgt R m))) (.tup [.str a, u]) (.tup r1) .undef a12 a13) S = .ok (.lst [.str a, u]) S := E.blt (Es.cons v9 Es.nil) rfl
    have w2 : evE (Ph (k + 8)) (.sl (.var 9) [] [.cst (.int 1)]) (envR pn a1 a2 K (I m) (tI ws) a6 a7 (.tup (zD (hgt R m))) (.tup [.str a, u]) (.tup r1) .undef a12 a13) S = .ok (.tup [.str a]) S := E.sl v9 Es.nil (Es.cons E.cst Es.nil) rfl rfl rfl
    have w3 : evE (Ph (k + 8)) (.bop .add (.var 9) (.tup [.cst (.int 0)])) (envR pn a1 a2 K (I m) (tI ws) a6 a7 (.tup (zD (hgt R m))) (.tup [.str a, u]) (.tup r1) .undef a12 a13) S = .ok (.tup [.str a, u, .int 0]) S := E.bop v9 (E.tup (Es.cons E.cst Es.nil)) (add_T [.str a, u] [.int 0] (by show 2 + 1 ≤ LIM; omega))
    have w4 : evE (Ph (k + 8)) (.blt .rev [.var 9]) (envR pn a1 a2 K (I m) (tI ws) a6 a7 (.tup (zD (hgt R m))) (.tup [.str a, u]) (.tup r1) .undef a12 a13) S = .ok (.tup [u, .str a]) S := E.blt (Es.cons v9 Es.nil) rfl
    have w5 : evE (Ph (k + 8)) (.blt .rev [.var 8]) (envR pn a1 a2 K (I m) (tI ws) a6 a7 (.tup (zD (hgt R m))) (.tup [.str a, u]) (.tup r1) .undef a12 a13) S = .ok (.tup (zD (hgt R m)).reverse) S := E.blt (Es.cons v8 Es.nil) rfl
    exact T.set (E.alloc (E.lst (Es.cons v9 (Es.cons w1 (Es.cons w2 (Es.cons w3 (Es.cons w4 (Es.cons (E.tup (Es.cons E.cst (Es.cons v8 Es.nil))) (Es.cons (E.tup (Es.cons E.cst (Es.cons w5 Es.nil))) (Es.cons (E.tup (Es.cons E.cst (Es.cons (E.var rfl rfl) Es.nil))) (Es.cons (E.tup (Es.cons E.cst (Es.cons v10 Es.nil))) (Es.cons E.cst (Es.cons (E.tup Es.nil) Es.nil))))))))))))) rfl
  refine Ts.nx st1 (Ts.nx st2 ?_)
  refine Ts.nx (ρ1 := envR pn a1 a2 K (I m) (tI ws) a6 a7 (.tup (zD (hgt R m))) (.tup [.str a, u]) (.tup r1) (.lst V) a12 a13) (T.ghost (n := q) rfl m2) ?_
  refine Ts.rt (T.ret ?_)
  have cc : compL (.one 16) (evC (Ph (k + 8)) []) (evE (Ph (k + 8)) (.cmp .eq (.blt .repr [.call I_shows_level 1 [.var 3, .var 16]]) (.blt .repr [.call I__law_is_shown 1 [.var 3, .var 16]]))) (envR pn a1 a2 K (I m) (tI ws) a6 a7 (.tup (zD (hgt R m))) (.tup [.str a, u]) (.tup r1) (.lst V) a12 a13) V ((S4.set q (.lst V)).set q .dead) = .ok (V.map fun _ => .bl true) ((S4.set q (.lst V)).set q .dead) := by
    refine compL_map (fun _ => .bl true) fun v hv => ?_
    have ho := hVk v hv
    have c1 := shows_level_gen (k + 1) ((S4.set q (.lst V)).set q .dead) h ho
    have c2 := law_is_shown_gen (k + 6) ((S4.set q (.lst V)).set q .dead) h ho
    rw [← hK] at c1 c2
    have v16 : evE (Ph (k + 8)) (.var 16) [.ref pn, a1, a2, K, I m, tI ws, a6, a7, .tup (zD (hgt R m)), .tup [.str a, u], .tup r1, .lst V, a12, a13, .undef, .undef, v, .undef, .undef, .undef] ((S4.set q (.lst V)).set q .dead) = .ok v ((S4.set q (.lst V)).set q .dead) := vkd rfl (okV_kd ho)
    have v3 : evE (Ph (k + 8)) (.var 3) [.ref pn, a1, a2, K, I m, tI ws, a6, a7, .tup (zD (hgt R m)), .tup [.str a, u], .tup r1, .lst V, a12, a13, .undef, .undef, v, .undef, .undef, .undef] ((S4.set q (.lst V)).set q .dead) = .ok K ((S4.set q (.lst V)).set q .dead) := E.var rfl (by rw [hK]; rfl)
    exact ⟨[.ref pn, a1, a2, K, I m, tI ws, a6, a7, .tup (zD (hgt R m)), .tup [.str a, u], .tup r1, .lst V, a12, a13, .undef, .undef, v, .undef, .undef, .undef], rfl, C.nil, same_eq (E.call (Es.cons v3 (Es.cons v16 Es.nil)) c1) (E.call (Es.cons v3 (Es.cons v16 Es.nil)) c2)⟩
  exact E.blt (ds := [.lst (V.map fun _ => .bl true)]) (Es.cons (E.comp (Es.cons (E.var rfl rfl) Es.nil) rfl cc) Es.nil) (alls V)
theorem part3 (k : Nat) {pn b : Nat} {S : Store} (hp : PotAt pn b S) (hb : b ≤ 800000) (h : TbOk m sz gs R) {ws : List Nat} (hw : ∀ x ∈ ws, x < m) (hwl : ws.length ≤ 6) (a1 a2 a6 a7 a12 a13 : D) :
    ∃ S', PotAt pn (b + 300) S' ∧ evSs 1000 (Ph (k + 8)) (b__law_right.drop 12) (envR pn a1 a2 (tbD gs R) (I m) (tI ws) a6 a7 .undef .undef .undef .undef a12 a13) S = .ok (.rt (.bl true)) S' := by
  have hm1 := h.m1
  have hm4 := h.m4
  have hgl := hgt_len R hm1
  have hgb := hgt_bd h
  have e8 := own_ok (k + 7) S h pn a1 a2 (tI ws) a6 a7 a12 a13
  obtain ⟨d, c9, hd⟩ := level_told_ok (k + 1) S h
  obtain ⟨a, u, rfl, hin, hku, ha, hu, hlv, hsh⟩ : ∃ a u, d = .tup [.str a, u] ∧ inB 2 (.tup [.str a, u]) = true ∧ Kd u ∧ (∀ k, okV k (.str a) = true) ∧ (∀ e, okV (e + 1) u = true) ∧ decide (a = LV) = lvB R m (hgt R m) ∧ shB R m (.tup [.str a, u]) = true := by
    rcases hd with ⟨h1, rfl⟩ | ⟨h1, vs, hv, hs, rfl⟩
    · exact ⟨LV, _, rfl, in_told (.inl rfl) (by omega) fun z hz => by have := hgb z hz; omega, .tup _, ok_LV, fun e => ok_zT e (by omega) fun z hz => by have := hgb z hz; omega, by rw [h1]; rfl, by rw [shB_lv hgl]; exact h1⟩
    · obtain ⟨r1, r2, r3, _⟩ := mem_rnds hv
      have hbz : ∀ z ∈ vs.map (fun x : Nat => (x : Int)), -1000 ≤ z ∧ z ≤ 1000 := fun z hz => by
        obtain ⟨x, hx, rfl⟩ := List.mem_map.mp hz
        have := r1 x hx
        omega
      refine ⟨RD, _, rfl, ?_, .tup _, ok_RD, fun e => ?_, by rw [h1]; rfl, shB_rd hv hs hm1⟩
      · show inB 2 (.tup [.str RD, .tup (vs.map I)]) = true
        rw [I_Z]
        exact in_told (.inr rfl) (by rw [List.length_map]; omega) hbz
      · show okV (e + 1) (.tup (vs.map I)) = true
        rw [I_Z]
        exact ok_zT e (by rw [List.length_map]; omega) hbz
  obtain ⟨S', p', r⟩ := part4 k hp hb h hw hwl hin hku ha hu a1 a2 a6 a7 a12 a13
  refine ⟨S', p', ?_⟩
  have c1 := law_is_shown_gen (k + 6) S h (v := .tup [.str LV, .tup (zD (hgt R m))]) (j := 2) (ok_pair (ok_LV _) (ok_zT 0 (by omega) fun z hz => by have := hgb z hz; omega))
  rw [shB_lv hgl] at c1
  have c2 := law_is_shown_gen (k + 6) S h (v := .tup [.str a, u]) (j := 2) (ok_pair (ha _) (hu 0))
  rw [hsh] at c2
  have rr : b__law_right.drop 12 = .set (.one 8) (.blt .tuple [.bop .add (.lst [.cst (.int 0)]) (.comp (.ix (.call I__law_charges 1 [.ix (.ix (.ix (.var 3) (.cst (.int 1))) (.cst (.int 0))) (.var 17)]) (.neg (.cst (.int 1)))) (.one 17) [17] .rng2 [.cst (.int 1), .var 4] [])]) :: .set (.one 9) (.call I_level_told 1 [.var 3]) :: .ite (.or (.cmp .ne (.cmp .eq (.ix (.var 9) (.cst (.int 0))) (.cst (.str [108, 101, 118, 101, 108]))) (.call I__law_is_shown 1 [.var 3, .tup [.cst (.str [108, 101, 118, 101, 108]), .var 8]])) (.not (.call I__law_is_shown 1 [.var 3, .var 9]))) [.ret (.cst (.bl false))] [] :: b__law_right.drop 15 := rfl
  rw [rr]
  refine Ts.nx (ρ1 := envR pn a1 a2 (tbD gs R) (I m) (tI ws) a6 a7 (.tup (zD (hgt R m))) .undef .undef .undef a12 a13) (S1 := S) (T.set e8 rfl) ?_
  refine Ts.nx (ρ1 := envR pn a1 a2 (tbD gs R) (I m) (tI ws) a6 a7 (.tup (zD (hgt R m))) (.tup [.str a, u]) .undef .undef a12 a13) (S1 := S) (T.set (E.call (Es.cons (E.var rfl rfl) Es.nil) c9) rfl) ?_
  have v9 : evE (Ph (k + 8)) (.var 9) (envR pn a1 a2 (tbD gs R) (I m) (tI ws) a6 a7 (.tup (zD (hgt R m))) (.tup [.str a, u]) .undef .undef a12 a13) S = .ok (.tup [.str a, u]) S := E.var rfl rfl
  have t1 : evE (Ph (k + 8)) (.cmp .eq (.ix (.var 9) (.cst (.int 0))) (.cst (.str [108, 101, 118, 101, 108]))) (envR pn a1 a2 (tbD gs R) (I m) (tI ws) a6 a7 (.tup (zD (hgt R m))) (.tup [.str a, u]) .undef .undef a12 a13) S = .ok (.bl (lvB R m (hgt R m))) S := by
    rw [← hlv]
    have hac : a.all (fun c => decide (c < 1114112)) = true := by
      have := ha 1
      simp only [okV, Bool.and_eq_true] at this
      exact this.2
    exact E.cmp (E.ix v9 E.cst rfl) E.cst (eq_str hac (by decide))
  have nb : cmpE .ne (.bl (lvB R m (hgt R m))) (.bl (lvB R m (hgt R m))) = some false := by
    rw [ne_bl]
    simp
  refine Ts.nx (ite_no (E.cmp t1 (E.call (Es.cons (E.var rfl rfl) (Es.cons (E.tup (Es.cons E.cst (Es.cons (E.var rfl rfl) Es.nil))) Es.nil)) c1) nb) (E.not (x := .bl true) (E.call (Es.cons (E.var rfl rfl) (Es.cons v9 Es.nil)) c2) rfl)) ?_
  exact r
end
theorem right_ok (k : Nat) {n b : Nat} {S : Store} (h : PotAt n b S) (hb : b ≤ 790000) :
    ∃ S', Ph (k + 9) I__law_right [.ref n] S = .ok (.bl true) S' ∧ PotAt n (b + 1000) S' := by
  obtain ⟨w, bd, S1, p1, f1⟩ := part1 k h (by omega)
  obtain ⟨m, sz, gs, R, ws, a7, S2, ht, hw, hw1, hwl, p2, f2⟩ := part2 k p1 (by omega) (.lst (zD (preW w))) (.int (mstW w)) (.str w) (I bd)
  obtain ⟨S3, p3, f3⟩ := part3 k p2 (by omega) ht hw hwl (.lst (zD (preW w))) (.int (mstW w)) (.lst (zD (sumZ (chs R ws)))) a7 (.str w) (I bd)
  refine ⟨S3, ?_, p3.mono (by omega)⟩
  rw [ph (k + 8) I__law_right _ _ n__law_right rfl]
  refine runR (fn := n__law_right) (ds := [.ref n]) rfl ?_
  have e := f1 _ _ (f2 _ _ f3)
  exact e
end NgB
end

section
set_option autoImplicit false
set_option maxRecDepth 100000
set_option maxHeartbeats 400000
namespace NgB
open NG
local macro_rules | `(tactic| rwa [$[$ts:term],*]) => `(tactic| first
    | ((with_reducible show callE _ _ _ _ _ = _); (first $[| ((with_reducible refine callE_fact $ts ?_ ?_) <;> exact rfl)]*))
    | ((with_reducible show compL _ _ _ _ _ _ = _); (first $[| ((with_reducible refine compL_fact $ts ?_ ?_) <;> exact rfl)]*))
    | ((with_reducible show forL _ _ _ _ _ = _); (first $[| ((with_reducible refine forL_fact $ts ?_ ?_) <;> exact rfl)]*))
    | ((with_reducible show whileL _ _ _ _ _ = _); (first $[| ((with_reducible refine whileL_fact $ts ?_ ?_) <;> exact rfl)]*)))
local macro_rules | `(tactic| exists $ts,*) => `(tactic| repeat' (first
    | (first
      | ((with_reducible apply E.var); exact rfl; exact rfl)
      | ((with_reducible show asg _ _ _ = _); exact rfl)
      | ((with_reducible show truthy _ = _); exact rfl)
      | ((with_reducible show R.ok _ _ = R.ok _ _); exact rfl)
      | ((with_reducible apply vw_id); exact rfl)
      | ((with_reducible apply condT'); exact rfl)
      | ((with_reducible apply condF'); exact rfl))
    | (with_reducible first
      | apply E.cst | apply E.glob | apply Es.nil | apply C.nil | apply Ts.nil'
      | apply E.tup | apply E.lst | apply E.dic | apply F.bop | apply E.neg | apply E.not | apply F.cmp | apply E.and | apply E.or | apply E.ite | apply F.ix | apply F.sl
      | apply E.call | apply E.callk | apply F.blt | apply F.mth | apply E.comp | apply F.mutS | apply E.alloc
      | apply Es.cons | apply C.one | apply Ts.ret' | apply Ts.nx
      | apply T.set | apply F.setIx | apply T.expr | apply T.ite | apply T.for | apply T.while | apply T.ret | apply F.ghost
      | apply vws_nil | apply vws_cons | apply mutA_0 | apply mutA_1 | apply mutA_2 | apply mutA_3 | apply mthA_x | apply mthA_gx | apply mthA_jx | apply mthA_tx)
    | rwa [$[$ts:term],*]
    $[| with_reducible exact $ts]*
    | exact (rfl : (_ : Option _) = _) | exact (rfl : (_ : Bool) = _) | exact (rfl : (_ : List _) = _)))
theorem rights_ok (k : Nat) {n : Nat} {ρ : Env} (F : D → Env) (ht : ∀ d, asg (.one 3) d ρ = some (F d)) (h2 : ∀ d, (F d)[2]? = some (.ref n)) : ∀ (its : List D) (b : Nat) (S : Store), PotAt n b S → b + 1000 * its.length ≤ 700000 →
    ∃ S', compL (.one 3) (evC (Ph (k + 10)) []) (evE (Ph (k + 10)) (.call I__law_right 0 [.var 2])) ρ its S = .ok (its.map fun _ => .bl true) S'
  | [], b, S, _, _ => ⟨S, compL_nil⟩
  | d :: its, b, S, hp, hb => by
    rw [List.length_cons] at hb
    obtain ⟨S1, e1, p1⟩ := right_ok (k + 1) hp (by omega)
    have e1 : callE (Ph (k + 10)) I__law_right 0 [.ref n] S = .ok (.bl true) S1 := call0.trans e1
    obtain ⟨S2, e2⟩ := rights_ok k F ht h2 its (b + 1000) S1 p1 (by omega)
    refine ⟨S2, ?_⟩
    have e3 : evE (Ph (k + 10)) (.call I__law_right 0 [.var 2]) (F d) S = .ok (.bl true) S1 := E.call (Es.cons (E.var (h2 d) rfl) Es.nil) e1
    have hc : evC (Ph (k + 10)) [] (F d) S = .ok true S := C.nil
    rw [compL_cons, ht]
    simp only [hc, bind_ok', if_true, e3, e2, List.map_cons]
theorem one_cell (k : Nat) (S : Store) (ns : List Int) {j : Nat} (hj : j < ns.length ∨ (ns = [] ∧ j = 0)) (hj2 : j ≤ 3) (a2 a3 : D) :
    ∃ S' x, evSs 1000 (Ph (k + 10)) [.set (.one 2) (.call I__law_pot 0 [.var 0, .var 1]), .ite (.not (.blt .all [.comp (.call I__law_right 0 [.var 2]) (.one 3) [3] .rng1 [.cst (.int 6)] []])) [.ret (.cst (.bl false))] []] [.scr (ns.map D.int), I j, a2, a3] S = .ok (.nx [.scr (ns.map D.int), I j, x, a3]) S' := by
  obtain ⟨S0, e0, p0⟩ := pot_ok (k + 9) S ns j hj hj2
  have q0 : callE (Ph (k + 10)) I__law_pot 0 [.scr (ns.map D.int), I j] S = .ok (.ref S.length) S0 := call0.trans e0
  obtain ⟨n, hn⟩ : ∃ n, n = S.length := ⟨_, rfl⟩
  rw [← hn] at q0 p0
  have rg : iterE .rng1 [.int 6] = some ((List.range 6).map I) := rfl
  obtain ⟨S4, c⟩ := rights_ok k (n := n) (ρ := [.scr (ns.map D.int), I j, .ref n, .undef]) (fun d => [.scr (ns.map D.int), I j, .ref n, d]) (fun d => rfl) (fun d => rfl) ((List.range 6).map I) 0 S0 p0 (by rw [List.length_map, List.length_range]; omega)
  refine ⟨S4, .ref n, ?_⟩
  refine Ts.nx (ρ1 := [.scr (ns.map D.int), I j, .ref n, a3]) (S1 := S0) (T.set (E.call (Es.cons (E.var rfl rfl) (Es.cons (E.var rfl rfl) Es.nil)) q0) rfl) ?_
  exact Ts.nx (T.ite (x := .bl false) (u := false) (E.not (x := .bl true) (E.blt (ds := [.lst (((List.range 6).map I).map fun _ => .bl true)]) (Es.cons (E.comp (Es.cons E.cst Es.nil) rg c) Es.nil) rfl) rfl) rfl (condF Ts.nil)) Ts.nil
theorem law_ok (ns : List Int) : ∃ S1, phi 1000 Tb 40 I_law [.scr (ns.map D.int)] [] = .ok (.bl true) S1 := by
  obtain ⟨m, h1, h3, hj, ec⟩ := cells_ok 38 [] ns
  have q : callE (Ph 39) I__law_cells 0 [.scr (ns.map D.int), .int 3] [] = .ok (.lst ((List.range m).map I)) [] := call0.trans ec
  obtain ⟨ρ', S', e, x, y, rfl⟩ := forL_inv (t := .one 1) (body := evSs 1000 (Ph 39) [.set (.one 2) (.call I__law_pot 0 [.var 0, .var 1]), .ite (.not (.blt .all [.comp (.call I__law_right 0 [.var 2]) (.one 3) [3] .rng1 [.cst (.int 6)] []])) [.ret (.cst (.bl false))] []]) (its := (List.range m).map I)
    (fun i ρ S => ∃ x y, ρ = [.scr (ns.map D.int), x, y, .undef]) 0 [.scr (ns.map D.int), .undef, .undef, .undef] [] (Nat.zero_le _) ⟨_, _, rfl⟩ fun i d ρ S hi hp => by
      obtain ⟨x, y, rfl⟩ := hp
      rw [List.getElem?_map] at hi
      obtain ⟨c, hc, rfl⟩ := Option.map_eq_some_iff.mp hi
      have hcm := List.mem_range.mp (List.mem_of_getElem? hc)
      obtain ⟨S', z, e⟩ := one_cell 29 S ns (hj c hcm) (by omega) y .undef
      exact ⟨_, _, S', rfl, .inl e, _, _, rfl⟩
  rw [List.drop_zero] at e
  refine ⟨S', ?_⟩
  show Ph (39 + 1) I_law _ _ = _
  rw [ph 39 I_law _ _ n_law rfl]
  refine runR (fn := n_law) (ds := [.scr (ns.map D.int)]) rfl ?_
  dsimp only [n_law, b_law]
  (exists q, e)
end NgB
end

section
set_option autoImplicit false
set_option maxRecDepth 100000
theorem NgT.fs_eq : NgT.Fs = NgB.Tb := by
  have h : NgT.fis.map (·.fn) = NgB.fl := by rfl
  funext i
  show (NgT.fis[i]?).map (·.fn) = NgB.fl[i]?
  rw [← h, List.getElem?_map]
theorem NgT.law_ev (ns : List Int) (_ : ns.length ≤ 63) : ∃ S1, NG.phi 1000 NgT.Fs 40 42 [.scr (ns.map NG.D.int)] [] = .ok (.bl true) S1 := by
  rw [NgT.fs_eq]
  exact NgB.law_ok ns
end
section
set_option autoImplicit false
set_option maxRecDepth 100000
set_option maxHeartbeats 0
open PySem PySem.W PySem.Calls PyProof.Rows
theorem PySem.Challenge.cw_noghostleft_k44_whole_charges_and_levels_holds : PySem.Challenge.rw_noghostleft_k44_whole_charges_and_levels.Holds := by
  w_on; o_law
  refine HandSHeadRun.head_any (r := OpenLaw.row PySem.Challenge.rw_noghostleft_k44_whole_charges_and_levels) (q := view (OpenLaw.row PySem.Challenge.rw_noghostleft_k44_whole_charges_and_levels).prog [66]) (H := NgT.hk) (ob := NgT.ob) (M := 20000) (loose := NgT.loose) (d := HandSHeadRun.topDef (OpenLaw.row PySem.Challenge.rw_noghostleft_k44_whole_charges_and_levels).prog 66) (kwd := []) NgT.ob_eq
    (by kernel_rfl) (fun s => by kernel_rfl) NgT.run (by kernel_rfl) (by kernel_rfl) (by kernel_rfl) (by rfl) (by first | assumption | decide +kernel) (by decide +kernel) ⟨rfl, rfl, rfl, rfl, rfl, by decide +kernel⟩ ?hw ?hc
  case hw => w_witness2
  case hc =>
    refine NG.walk_ofG (l := PySem.Challenge.rw_noghostleft_k44_whole_charges_and_levels) (n := 63) (k := 40) (x := "script") rfl (by decide) (by kernel_rfl) ⟨rfl, by decide, by decide⟩ ?F
    intro w mg fa h Y G hmg0
    have hmg : mg NgT.f_42.name = some (.ref fa) := by
      have e : (HandSHeadRun.topDef (OpenLaw.row PySem.Challenge.rw_noghostleft_k44_whole_charges_and_levels).prog 66).name = NgT.f_42.name := by kernel_rfl
      rw [← e]
      exact hmg0
    exact NG.whole (fis := NgT.fis) (Γ := NgT.Γ) (W := 1000) (k := 40) (li := 42) (fi := NgT.f_42) Y G NgT.gfn NgT.chk (by rfl) (by rfl) hmg NgT.law_ev
end
