import PyProof.Rows.All
import Wide.All
import OpenK.AllK
import Wide.FinOn
import HandS.ForMost
import HandS.ForExc
import HandS.Walk
import KE.KDictKeyed
import KE.DataEq
import KE.DataCmp
import HandS.TupAny
import HandS.TupMul
import HandS.Deep
import HandS.Style
import HandS.Flow
import PyProof.StrOps2
import KE.SortData
import KE.DataMinMax
import HandS.SortKw
import HandS.Conv
import KE.GoesMore
import HandS.Zip
import HandS.Rev
import HandS.Iter
import HandS.WordsExc
import HandS.Replace
import HandS.ExcCtx
import HandS.Defaults
import HandS.HotCalls
import HandS.HeadHook1
import HandS.ExcIs
import HandS.IsInst
import KE.KDictPairs
import KE.DataFind
import KE.KDictSum
import HandS.TupSets
import KE.KStateDown
import HandS.Head0
import HandS.Head1
import HandS.Head2
import HandS.HeadEnd
import HandS.HeadHook2
import PySem.Challenge.RW_staymark_k47_whole_depths
section
set_option autoImplicit false
set_option linter.all false
/-! PyA: values as plain data, the small language, what it computes. No model in sight. -/
namespace Py

/-- a name: its signs -/
abbrev Nm := List Nat

/-- values as data -/
inductive D where
  | non
  | bl (b : Bool)
  | int (i : Int)
  | str (s : List Nat)
  | tup (xs : List D)
  | lst (xs : List D)
  | dct (kvs : List (D × D))
  | fn (f : Nm)
  | exc (c : Nm)
  deriving Inhabited

/-- what code comes to -/
inductive Out (α : Type) where
  | val (a : α)
  | exc (c : Nm)
  | bad

namespace Out
def bind {α β : Type} (x : Out α) (f : α → Out β) : Out β := match x with
  | .val a => f a
  | .exc c => .exc c
  | .bad => .bad
instance : Monad Out where
  pure := .val
  bind := Out.bind
@[simp] theorem bind_val {α β : Type} (a : α) (f : α → Out β) : (Out.val a >>= f) = f a := rfl
@[simp] theorem bind_exc {α β : Type} (c : Nm) (f : α → Out β) : ((Out.exc c : Out α) >>= f) = .exc c := rfl
@[simp] theorem bind_bad {α β : Type} (f : α → Out β) : ((Out.bad : Out α) >>= f) = .bad := rfl
@[simp] theorem pure_val {α : Type} (a : α) : (pure a : Out α) = .val a := rfl
end Out

def LIM : Nat := 16777216

/-! ### equality, order -/
namespace D
mutual
/-- no dict, function or error within -/
def plain : D → Bool
  | .non => true
  | .bl _ => true
  | .int _ => true
  | .str _ => true
  | .tup xs => plainAll xs
  | .lst xs => plainAll xs
  | .dct _ => false
  | .fn _ => false
  | .exc _ => false
def plainAll : List D → Bool
  | [] => true
  | x :: xs => plain x && plainAll xs
end
mutual
def dep : D → Nat
  | .tup xs => depAll xs + 1
  | .lst xs => depAll xs + 1
  | .non => 0
  | .bl _ => 0
  | .int _ => 0
  | .str _ => 0
  | .dct _ => 0
  | .fn _ => 0
  | .exc _ => 0
def depAll : List D → Nat
  | [] => 0
  | x :: xs => max (dep x) (depAll xs)
end
mutual
/-- nothing that may be changed within -/
def imm : D → Bool
  | .non => true
  | .bl _ => true
  | .int _ => true
  | .str _ => true
  | .tup xs => immAll xs
  | .lst _ => false
  | .dct _ => false
  | .fn _ => true
  | .exc _ => false
def immAll : List D → Bool
  | [] => true
  | x :: xs => imm x && immAll xs
end
mutual
/-- == of plain data -/
def eqv : D → D → Bool
  | .non, .non => true
  | .bl a, .bl b => a == b
  | .bl a, .int j => (if a then 1 else 0) == j
  | .int i, .bl b => i == (if b then 1 else 0)
  | .int i, .int j => i == j
  | .str x, .str y => x == y
  | .lst xs, .lst ys => eqvAll xs ys
  | .tup xs, .tup ys => eqvAll xs ys
  | _, _ => false
def eqvAll : List D → List D → Bool
  | [], [] => true
  | x :: xs, y :: ys => eqv x y && eqvAll xs ys
  | [], _ :: _ => false
  | _ :: _, [] => false
end
mutual
/-- the two can be compared by order, place by place -/
def alike : D → D → Bool
  | .bl _, .bl _ => true
  | .int _, .int _ => true
  | .str _, .str _ => true
  | .tup xs, .tup ys => alikeAll xs ys
  | .lst xs, .lst ys => alikeAll xs ys
  | _, _ => false
def alikeAll : List D → List D → Bool
  | x :: xs, y :: ys => alike x y && alikeAll xs ys
  | [], _ => true
  | _ :: _, [] => true
end
/-- the order of texts -/
def ltS : List Nat → List Nat → Bool
  | [], [] => false
  | [], _ :: _ => true
  | _ :: _, [] => false
  | x :: xs, y :: ys => if x = y then ltS xs ys else decide (x < y)
mutual
/-- <, for alike data -/
def lt : D → D → Bool
  | .bl a, .bl b => !a && b
  | .int i, .int j => decide (i < j)
  | .str x, .str y => ltS x y
  | .lst xs, .lst ys => ltAll xs ys
  | .tup xs, .tup ys => ltAll xs ys
  | _, _ => false
def ltAll : List D → List D → Bool
  | [], [] => false
  | [], _ :: _ => true
  | _ :: _, [] => false
  | x :: xs, y :: ys => if eqv x y then ltAll xs ys else lt x y
end
/-- it may be asked for equality -/
def ok (d : D) : Bool := plain d && decide (dep d ≤ 60)
mutual
/-- it may be a key -/
def key : D → Bool
  | .non => true
  | .bl _ => true
  | .int _ => true
  | .str _ => true
  | .tup xs => keyAll xs
  | .lst _ => false
  | .dct _ => false
  | .fn _ => false
  | .exc _ => false
def keyAll : List D → Bool
  | [] => true
  | x :: xs => key x && keyAll xs
end
def hkey (d : D) : Bool := key d && decide (dep d ≤ 8)
def isL : D → Bool
  | .lst _ => true
  | .dct _ => true
  | _ => false
end D

open D

def look (kvs : List (D × D)) (k : D) : Option D := match kvs with
  | [] => none
  | p :: r => if eqv p.1 k then some p.2 else look r k
def put (kvs : List (D × D)) (k v : D) : List (D × D) := match kvs with
  | [] => [(k, v)]
  | p :: r => if eqv p.1 k then (p.1, v) :: r else p :: put r k v
def putAll (kvs : List (D × D)) : List (D × D) → List (D × D)
  | [] => kvs
  | p :: r => putAll (put kvs p.1 p.2) r

/-! ### operators -/
def chk {α : Type} (b : Bool) (x : α) : Out α := if b then .val x else .bad
@[simp] theorem chk_true {α : Type} (x : α) : chk true x = .val x := rfl

def dAdd : D → D → Out D
  | .int i, .int j => .val (.int (i + j))
  | .str a, .str b => chk (decide (a.length + b.length ≤ LIM)) (.str (a ++ b))
  | .lst a, .lst b => chk (decide (a.length + b.length ≤ LIM)) (.lst (a ++ b))
  | .tup a, .tup b => chk (decide (a.length + b.length ≤ LIM)) (.tup (a ++ b))
  | _, _ => .bad
def dSub : D → D → Out D
  | .int i, .int j => .val (.int (i - j))
  | _, _ => .bad
def small (i : Int) : Bool := decide (-18446744073709551616 < i) && decide (i < 18446744073709551616)
def repL {α : Type} (xs : List α) : Nat → List α
  | 0 => []
  | n + 1 => xs ++ repL xs n
def dMul : D → D → Out D
  | .int i, .int j => chk (small i) (.int (i * j))
  | .str a, .int j => chk (decide (a.length * j.toNat ≤ LIM) && decide (0 ≤ j) && decide (j < 1000000)) (.str (repL a j.toNat))
  | .lst a, .int j => chk (decide (a.length * j.toNat ≤ LIM) && decide (0 ≤ j) && decide (j < 1000000)) (.lst (repL a j.toNat))
  | .tup a, .int j => chk (!a.isEmpty && decide (2 ≤ j) && decide (j ≤ 1000) && decide (a.length ≤ 1000)) (.tup (repL a j.toNat))
  | _, _ => .bad
def dDiv : D → D → Out D
  | .int i, .int j => chk (decide (0 < j) && decide (j < 1073741824)) (.int (i / j))
  | _, _ => .bad
def dMod : D → D → Out D
  | .int i, .int j => chk (decide (0 < j)) (.int (i % j))
  | _, _ => .bad
def dNeg : D → Out D
  | .int i => .val (.int (-i))
  | _ => .bad
def dNot : D → Out D
  | .bl b => .val (.bl (!b))
  | _ => .bad

inductive Cp where
  | eq | ne | lt | le | gt | ge | mem | nmem | isN | notN
  deriving DecidableEq

def memb (d : D) : List D → Bool
  | [] => false
  | x :: xs => eqv x d || memb d xs
/-- x stands in y as a piece -/
def pre : List Nat → List Nat → Bool
  | [], _ => true
  | _ :: _, [] => false
  | x :: xs, y :: ys => x == y && pre xs ys
def sub : List Nat → List Nat → Bool
  | x, [] => pre x []
  | x, y :: ys => pre x (y :: ys) || sub x ys
def okAll (xs : List D) : Bool := match xs with
  | [] => true
  | x :: r => ok x && okAll r
def dMem (x : D) : D → Out Bool
  | .lst ys => chk (ok x && okAll ys) (memb x ys)
  | .tup ys => chk (ok x && okAll ys) (memb x ys)
  | .dct kvs => chk (hkey x) (look kvs x).isSome
  | .str y => match x with
    | .str x => .val (sub x y)
    | _ => .bad
  | _ => .bad
def dLt (x y : D) : Out Bool := chk (ok x && ok y && alike x y) (D.lt x y)
/-- <= of alike data -/
def dLe (x y : D) : Out Bool := chk (ok x && ok y && alike x y) (!D.lt y x)
def isNon : D → Bool
  | .non => true
  | _ => false
def dCmp (op : Cp) (x y : D) : Out Bool := match op with
  | .eq => chk (ok x && ok y) (eqv x y)
  | .ne => chk (ok x && ok y) (!eqv x y)
  | .lt => dLt x y
  | .gt => dLt y x
  | .le => dLe x y
  | .ge => dLe y x
  | .mem => dMem x y
  | .nmem => match dMem x y with
    | .val b => .val (!b)
    | .exc c => .exc c
    | .bad => .bad
  | .isN => match y with
    | .non => .val (isNon x)
    | .bl b => match x with
      | .bl a => .val (decide (a = b))
      | _ => .bad
    | _ => .bad
  | .notN => match y with
    | .non => .val (!isNon x)
    | .bl b => match x with
      | .bl a => .val (!decide (a = b))
      | _ => .bad
    | _ => .bad

/-- a place, from either end -/
def pl (n : Nat) (i : Int) : Option Nat := if 0 ≤ i then (if i < n then some i.toNat else none) else if -(n : Int) ≤ i then some (i + n).toNat else none
def at_ {α : Type} (xs : List α) (i : Int) : Option α := match pl xs.length i with
  | some j => xs[j]?
  | none => none
def orBad {α : Type} : Option α → Out α
  | some a => .val a
  | none => .bad
@[simp] theorem orBad_some {α : Type} (a : α) : orBad (some a) = .val a := rfl
def dIdx : D → D → Out D
  | .lst xs, .int i => orBad (at_ xs i)
  | .tup xs, .int i => orBad (at_ xs i)
  | .str s, .int i => match at_ s i with
    | some c => .val (.str [c])
    | none => .bad
  | .dct kvs, k => if hkey k then orBad (look kvs k) else .bad
  | _, _ => .bad
def cutIx (n d : Nat) : Option Int → Nat
  | none => d
  | some v => if v < 0 then (v + (n : Int)).toNat else min v.toNat n
def cut {α : Type} (xs : List α) (lo hi : Option Int) : List α := (xs.drop (cutIx xs.length 0 lo)).take (cutIx xs.length xs.length hi - cutIx xs.length 0 lo)
def bound : D → Out (Option Int)
  | .non => .val none
  | .int i => .val (some i)
  | _ => .bad
def dCut (x : D) (lo hi : Option Int) : Out D := match x with
  | .lst xs => .val (.lst (cut xs lo hi))
  | .tup xs => .val (.tup (cut xs lo hi))
  | .str s => .val (.str (cut s lo hi))
  | _ => .bad
def dRev : D → Out D
  | .lst xs => .val (.lst xs.reverse)
  | .tup xs => .val (.tup xs.reverse)
  | .str s => .val (.str s.reverse)
  | _ => .bad

/-! ### what is walked -/
def signs : List Nat → List D
  | [] => []
  | c :: cs => .str [c] :: signs cs
def keysOf : List (D × D) → List D
  | [] => []
  | p :: r => p.1 :: keysOf r
def items : D → Out (List D)
  | .lst xs => .val xs
  | .tup xs => .val xs
  | .str s => .val (signs s)
  | .dct kvs => .val (keysOf kvs)
  | _ => .bad
def zipD : List D → List D → List D
  | x :: xs, y :: ys => .tup [x, y] :: zipD xs ys
  | _, _ => []

/-- lists and tuples alone -/
def itemsQ : D → Out (List D)
  | .lst xs => .val xs
  | .tup xs => .val xs
  | _ => .bad
def zipQ : D → D → Out (List D)
  | .lst xs, .lst ys => .val (zipD xs ys)
  | .tup xs, .tup ys => .val (zipD xs ys)
  | _, _ => .bad
def upTo (lo : Int) : Nat → List D
  | 0 => []
  | n + 1 => .int lo :: upTo (lo + 1) n
def range2 : D → D → Out (List D)
  | .int a, .int b => chk (decide (-1000000000 < a) && decide (a < 1000000000) && decide (-1000000000 < b) && decide (b < 10000000)  && decide (b - a < 10000000)) (upTo a (b - a).toNat)
  | _, _ => .bad
def stepTo (lo c : Int) : Nat → List D
  | 0 => []
  | n + 1 => .int lo :: stepTo (lo + c) c n
def turns (a b c : Int) : Nat := if 0 < c then ((b - a + c - 1) / c).toNat else ((a - b - c - 1) / (-c)).toNat
def range3 : D → D → D → Out (List D)
  | .int a, .int b, .int c => chk (decide (-1000000 < a) && decide (a < 1000000) && decide (-1000000 < b) && decide (b < 1000000) && decide (c ≠ 0) && decide (-1000000 < c) && decide (c < 1000000)) (stepTo a c (turns a b c))
  | _, _, _ => .bad
def enumFrom (i : Int) : List D → List D
  | [] => []
  | x :: xs => .tup [.int i, x] :: enumFrom (i + 1) xs

/-! ### built-ins -/
inductive Bi where
  | len | int | str | tuple | list | dict | sorted | sortset | all | any | max1 | maxd | max2 | min2 | sum
  deriving DecidableEq
inductive Ty where
  | int | bool | str | tuple | list | valueError | own (c : Nm)
  deriving DecidableEq

def bools : List D → Option (List Bool)
  | [] => some []
  | .bl b :: r => (bools r).map (b :: ·)
  | _ :: _ => none
def intsOf : List D → Option (List Int)
  | [] => some []
  | .int b :: r => (intsOf r).map (b :: ·)
  | _ :: _ => none
def pairsOf : List D → Option (List (D × D))
  | [] => some []
  | .tup [k, v] :: r => (pairsOf r).map ((k, v) :: ·)
  | _ :: _ => none
def hkeys : List (D × D) → Bool
  | [] => true
  | p :: r => hkey p.1 && hkeys r
def maxI : Int → List Int → Int
  | m, [] => m
  | m, x :: xs => maxI (max m x) xs
/-- all may stand in one order -/
def alikes (xs : List D) : Bool := xs.all fun x => ok x && xs.all fun y => alike x y
/-- tuples that are not empty, or none a tuple -/
def isTup1 : D → Bool
  | .tup (_ :: _) => true
  | _ => false
def noTup : D → Bool
  | .tup _ => false
  | .non => false
  | _ => true
def sortable (xs : List D) : Bool := alikes xs && (xs.all isTup1 || xs.all noTup)
def le (x y : D) : Bool := !D.lt y x
def sortD (xs : List D) : List D := xs.mergeSort le
/-- the digits of a number -/
def digs (n : Int) : List Nat := (toString n).toList.map Char.toNat
/-- none twice, the first of equal ones -/
def dedup : List D → List D → List D
  | seen, [] => seen
  | seen, x :: xs => if memb x seen then dedup seen xs else dedup (seen ++ [x]) xs

def bi1 (b : Bi) (x : D) : Out D := match b, x with
  | .len, .lst xs => .val (.int xs.length)
  | .len, .tup xs => .val (.int xs.length)
  | .len, .str s => .val (.int s.length)
  | .int, .bl b => .val (.int (if b then 1 else 0))
  | .int, .int i => .val (.int i)
  | .str, .int i => chk (small i) (.str (digs i))
  | .tuple, .lst xs => .val (.tup xs)
  | .tuple, .tup xs => .val (.tup xs)
  | .list, .lst xs => .val (.lst xs)
  | .list, .tup xs => .val (.lst xs)
  | .dict, .lst xs => match pairsOf xs with
    | some ps => chk (hkeys ps) (.dct (putAll [] ps))
    | none => .bad
  | .sorted, .lst xs => chk (sortable xs) (.lst (sortD xs))
  | .sorted, .tup xs => chk (sortable xs) (.lst (sortD xs))
  | .sorted, .dct kvs => chk (sortable (keysOf kvs)) (.lst (sortD (keysOf kvs)))
  | .sortset, .lst xs => chk (sortable xs && xs.all hkey && xs.all isTup1 && decide ((dedup [] xs).length < 64)) (.lst (sortD (dedup [] xs)))
  | .all, .lst xs => match bools xs with
    | some bs => .val (.bl (bs.all id))
    | none => .bad
  | .any, .lst xs => match bools xs with
    | some bs => .val (.bl (bs.any id))
    | none => .bad
  | .max1, .lst xs => match intsOf xs with
    | some (i :: is) => .val (.int (maxI i is))
    | _ => .bad
  | .sum, .lst xs => match intsOf xs with
    | some is => .val (.int is.sum)
    | _ => .bad
  | _, _ => .bad
def bi2 (b : Bi) (x y : D) : Out D := match b, x, y with
  | .maxd, .lst xs, .int j => match intsOf xs with
    | some (i :: is) => .val (.int (maxI i is))
    | some [] => .val (.int j)
    | none => .bad
  | .max2, .int i, .int j => .val (.int (if j > i then j else i))
  | .min2, .int i, .int j => .val (.int (if j < i then j else i))
  | _, _, _ => .bad

inductive Me where
  | join | get1 | get2 | index | count | find | split | partition | replace | values
  deriving DecidableEq

def joinL (sep : List Nat) : List (List Nat) → List Nat
  | [] => []
  | [x] => x
  | x :: y :: r => x ++ sep ++ joinL sep (y :: r)
def strsOf : List D → Option (List (List Nat))
  | [] => some []
  | .str s :: r => (strsOf r).map (s :: ·)
  | _ :: _ => none
def sizes (sep : Nat) : List (List Nat) → Nat
  | [] => 0
  | x :: r => x.length + sep + sizes sep r
def place (d : D) : List D → Option Nat
  | [] => none
  | x :: xs => if eqv x d then some 0 else (place d xs).map (· + 1)
def placeS (x : Nat) : List Nat → Option Nat
  | [] => none
  | y :: ys => if y = x then some 0 else (placeS x ys).map (· + 1)
def countD (d : D) : List D → Nat
  | [] => 0
  | x :: xs => (if eqv x d then 1 else 0) + countD d xs
/-- the first place of a piece -/
def findL (x : List Nat) : List Nat → Option Nat
  | [] => if x = [] then some 0 else none
  | y :: ys => if pre x (y :: ys) then some 0 else (findL x ys).map (· + 1)
def splitAux (c : Nat) : List Nat → List Nat → List (List Nat)
  | acc, [] => [acc]
  | acc, y :: ys => if y = c then acc :: splitAux c [] ys else splitAux c (acc ++ [y]) ys
def partAux (c : Nat) : List Nat → List Nat → List Nat × List Nat × List Nat
  | acc, [] => (acc, [], [])
  | acc, y :: ys => if y = c then (acc, [c], ys) else partAux c (acc ++ [y]) ys
def replS (c : Nat) (z : List Nat) : List Nat → List Nat
  | [] => []
  | y :: ys => if y = c then z ++ replS c z ys else y :: replS c z ys

def me1 (m : Me) (r x : D) : Out D := match m, r, x with
  | .join, .str sep, .lst xs => match strsOf xs with
    | some ss => chk (decide (sizes sep.length ss ≤ LIM)) (.str (joinL sep ss))
    | none => .bad
  | .get1, .dct kvs, k => if hkey k then .val ((look kvs k).getD .non) else .bad
  | .index, .str s, .str [c] => match placeS c s with
    | some n => .val (.int n)
    | none => .bad
  | .index, .lst xs, d => if ok d && okAll xs then (match place d xs with
    | some n => .val (.int n)
    | none => .bad) else .bad
  | .count, .lst xs, d => if ok d && okAll xs then .val (.int (countD d xs)) else .bad
  | .find, .str s, .str x => .val (.int (match findL x s with
    | some n => (n : Int)
    | none => -1))
  | .split, .str s, .str [c] => .val (.lst ((splitAux c [] s).map .str))
  | .partition, .str s, .str [c] => .val (.tup [.str (partAux c [] s).1, .str (partAux c [] s).2.1, .str (partAux c [] s).2.2])
  | _, _, _ => .bad
def me2 (m : Me) (r x y : D) : Out D := match m, r, x, y with
  | .get2, .dct kvs, k, d => if hkey k then .val ((look kvs k).getD d) else .bad
  | .replace, .str s, .str [c], .str z => chk (decide ((replS c z s).length ≤ LIM)) (.str (replS c z s))
  | _, _, _, _ => .bad
def me0 (m : Me) (r : D) : Out D := .bad
/-- what has such a method -/
def meTy : Me → D → Bool
  | .join, .str _ => true
  | .get1, .dct _ => true
  | .get2, .dct _ => true
  | .index, .str _ => true
  | .index, .lst _ => true
  | .count, .lst _ => true
  | .find, .str _ => true
  | .split, .str _ => true
  | .partition, .str _ => true
  | .replace, .str _ => true
  | .values, .dct _ => true
  | _, _ => false

/-- an error of a class, and its bases: every own error is a MarkError, and that a ValueError -/
def isTy (marks : Nm) (d : D) (t : Ty) : Out Bool := match t, d with
  | .int, .int _ => .val true
  | .int, .bl _ => .val true
  | .int, .non => .val false
  | .int, .str _ => .val false
  | .int, .tup _ => .val false
  | .int, .lst _ => .val false
  | .bool, .bl _ => .val true
  | .bool, .int _ => .val false
  | .bool, .non => .val false
  | .bool, .str _ => .val false
  | .bool, .tup _ => .val false
  | .bool, .lst _ => .val false
  | .str, .str _ => .val true
  | .str, .non => .val false
  | .str, .bl _ => .val false
  | .str, .int _ => .val false
  | .str, .tup _ => .val false
  | .str, .lst _ => .val false
  | .tuple, .tup _ => .val true
  | .tuple, .non => .val false
  | .tuple, .bl _ => .val false
  | .tuple, .int _ => .val false
  | .tuple, .str _ => .val false
  | .tuple, .lst _ => .val false
  | .list, .lst _ => .val true
  | .list, .non => .val false
  | .list, .bl _ => .val false
  | .list, .int _ => .val false
  | .list, .str _ => .val false
  | .list, .tup _ => .val false
  | .valueError, .exc _ => .val true
  | .own c, .exc c' => .val (c == c' || c == marks)
  | _, _ => .bad

/-! ### the language -/
inductive Tg where
  | one (i : Nat)
  | many (is : List Nat)
mutual
inductive E where
  | c (d : D)
  | v (i : Nat)
  | vv (i : Nat)
  | fn (f : Nm)
  | add (a b : E) | sub (a b : E) | mul (a b : E) | dv (a b : E) | md (a b : E)
  | neg (a : E) | not (a : E)
  | and (a b : E) | or (a b : E)
  | ite (c a b : E)
  | cmp (op : Cp) (a b : E)
  | cmp2 (o1 o2 : Cp) (a b c : E)
  | tup (es : Es) | lst (es : Es) | dnil
  | idx (a b : E) | sl (a lo hi : E) | rev (a : E)
  | call (f : Nm) (es : Es)
  | callv (e : E) (es : Es)
  | bi1 (b : Bi) (a : E) | bi2 (b : Bi) (a c : E)
  | me1 (m : Me) (r a : E) | me2 (m : Me) (r a b : E)
  | isi (a : E) (t : Ty)
  | sortk (a : E) (f : Nm)
  | comp (elt : E) (tg : Tg) (own : List Nat) (it : It)
  | compIf (elt : E) (tg : Tg) (own : List Nat) (it : It) (c : E)
  | lit (it : It)
inductive Es where
  | nil
  | cons (e : E) (es : Es)
inductive It where
  | e (a : E)
  | range1 (a : E) | range2 (a b : E) | range3 (a b c : E)
  | enum (a : E) | zip (a b : E) | rev (a : E)
end
mutual
inductive S where
  | set (i : Nat) (e : E) (ow : Bool) (fz : List Nat)
  | unpack (is : List Nat) (e : E)
  | setIdx (i : Nat) (k e : E)
  | app (i : Nat) (e : E)
  | ext (i : Nat) (e : E)
  | upd (i : Nat) (e : E)
  | popTo (j i : Nat)
  | ex (e : E)
  | ret (e : E) (fz : List Nat)
  | ifS (c : E) (a b : Ss)
  | forS (tg : Tg) (it : It) (fz : List Nat) (body : Ss)
  | whileS (c : E) (body : Ss)
  | raise (c : Nm)
  | tryS (body : Ss) (c : Nm) (n : Option Nat) (h : Ss)
  | pass
inductive Ss where
  | nil
  | cons (s : S) (ss : Ss)
end

/-- a slot: without a value; a value that others may hold too; a list or dict that no one else holds -/
inductive Ent where
  | un
  | sh (d : D)
  | ow (d : D)
  deriving Inhabited
abbrev Env := List Ent
def get : Env → Nat → Ent
  | [], _ => .un
  | x :: _, 0 => x
  | _ :: xs, n + 1 => get xs n
def setE : Env → Nat → Ent → Env
  | [], _, _ => []
  | _ :: xs, 0, e => e :: xs
  | x :: xs, n + 1, e => x :: setE xs n e
def Ent.d : Ent → Out D
  | .un => .bad
  | .sh d => .val d
  | .ow d => .val d
def Ent.v : Ent → Out D
  | .un => .bad
  | .sh d => .val d
  | .ow _ => .bad
def Ent.frz : Ent → Ent
  | .ow d => .sh d
  | e => e
def frz (δ : Env) : List Nat → Env
  | [] => δ
  | i :: r => frz (setE δ i (get δ i).frz) r
def wipeE (δ : Env) : List Nat → Env
  | [] => δ
  | i :: r => setE (wipeE δ r) i .un
def setMany (δ : Env) : List Nat → List D → Out Env
  | [], [] => .val δ
  | i :: is, d :: ds => setMany (setE δ i (.sh d)) is ds
  | _, _ => .bad
def bindT (δ : Env) (tg : Tg) (d : D) : Out Env := match tg with
  | .one i => .val (setE δ i (.sh d))
  | .many is => match d with
    | .tup ds => setMany δ is ds
    | _ => .bad
def Ent.isOw : Ent → Bool
  | .ow _ => true
  | _ => false
/-- some argument is a name's own list -/
def bor (δ : Env) : Es → Bool
  | .nil => false
  | .cons (.v i) es => (get δ i).isOw || bor δ es
  | .cons _ es => bor δ es
/-- elements one by one -/
def mapD (f : D → Out D) : List D → Out (List D)
  | [] => .val []
  | x :: xs => do
    let y ← f x
    let ys ← mapD f xs
    return y :: ys
/-- with a test ahead -/
def mapIfD (f : D → Out (Option D)) : List D → Out (List D)
  | [] => .val []
  | x :: xs => do
    match ← f x with
    | some y => do
      let ys ← mapIfD f xs
      return y :: ys
    | none => mapIfD f xs
def asB : D → Out Bool
  | .bl b => .val b
  | _ => .bad
@[simp] theorem asB_bl (b : Bool) : asB (.bl b) = .val b := rfl
/-- errors are not let out of a comprehension -/
def noExc {α : Type} : Out α → Out α
  | .exc _ => .bad
  | x => x
@[simp] theorem noExc_val {α : Type} (a : α) : noExc (.val a) = .val a := rfl
def immIf (b : Bool) (d : D) : Out D := if b then (if imm d then .val d else .bad) else .val d
@[simp] theorem immIf_false (d : D) : immIf false d = .val d := rfl
def stepOf (own : List Nat) (tg : Tg) (fc : Env → Out Bool) (fe : Env → Out D) (δ : Env) (x : D) : Out (Option D) := do
  let δ' ← bindT (wipeE δ own) tg x
  let p ← fc δ'
  if p then (do
    let y ← fe δ'
    return some y) else .val none
def keyLe (p q : D × D) : Bool := le p.1 q.1
def sndAll : List (D × D) → List D
  | [] => []
  | p :: r => p.2 :: sndAll r
def sortKD (ks xs : List D) : List D := sndAll ((ks.zip xs).mergeSort keyLe)
def fnName : D → Out Nm
  | .fn f => .val f
  | _ => .bad
@[simp] theorem fnName_fn (f : Nm) : fnName (.fn f) = .val f := rfl
/-- an own error's name that catches all own errors -/
def marks : Nm := [77, 97, 114, 107, 69, 114, 114, 111, 114]
def lstOf : D → Out (List D)
  | .lst xs => .val xs
  | _ => .bad
@[simp] theorem lstOf_lst (xs : List D) : lstOf (.lst xs) = .val xs := rfl

section
variable (F : Nm → List D → Out D)
mutual
def ev : E → Env → Out D
  | .c d, _ => .val d
  | .v i, δ => (get δ i).d
  | .vv i, δ => (get δ i).v
  | .fn f, _ => .val (.fn f)
  | .add a b, δ => do let x ← ev a δ; let y ← ev b δ; dAdd x y
  | .sub a b, δ => do let x ← ev a δ; let y ← ev b δ; dSub x y
  | .mul a b, δ => do let x ← ev a δ; let y ← ev b δ; dMul x y
  | .dv a b, δ => do let x ← ev a δ; let y ← ev b δ; dDiv x y
  | .md a b, δ => do let x ← ev a δ; let y ← ev b δ; dMod x y
  | .neg a, δ => do let x ← ev a δ; dNeg x
  | .not a, δ => do let x ← ev a δ; dNot x
  | .and a b, δ => do
    let x ← ev a δ
    let p ← asB x
    if p then ev b δ else .val (.bl false)
  | .or a b, δ => do
    let x ← ev a δ
    let p ← asB x
    if p then .val (.bl true) else ev b δ
  | .ite c a b, δ => do
    let x ← ev c δ
    let p ← asB x
    if p then ev a δ else ev b δ
  | .cmp op a b, δ => do
    let x ← ev a δ
    let y ← ev b δ
    let r ← dCmp op x y
    return .bl r
  | .cmp2 o1 o2 a b c, δ => do
    let x ← ev a δ
    let y ← ev b δ
    let r ← dCmp o1 x y
    if r then (do
      let z ← ev c δ
      let r2 ← dCmp o2 y z
      return .bl r2) else .val (.bl false)
  | .tup es, δ => do let xs ← evs es δ; return .tup xs
  | .lst es, δ => do let xs ← evs es δ; return .lst xs
  | .dnil, _ => .val (.dct [])
  | .idx a b, δ => do let x ← ev a δ; let y ← ev b δ; dIdx x y
  | .sl a lo hi, δ => do
    let x ← ev a δ
    let l ← ev lo δ
    let l ← bound l
    let h ← ev hi δ
    let h ← bound h
    dCut x l h
  | .rev a, δ => do let x ← ev a δ; dRev x
  | .call f es, δ => do
    let xs ← evs es δ
    let r ← F f xs
    immIf (bor δ es) r
  | .callv e es, δ => do
    let g ← ev e δ
    let f ← fnName g
    let xs ← evs es δ
    let r ← F f xs
    immIf (bor δ es) r
  | .bi1 b a, δ => do let x ← ev a δ; bi1 b x
  | .bi2 b a c, δ => do let x ← ev a δ; let y ← ev c δ; bi2 b x y
  | .me1 m r a, δ => do let x ← ev r δ; let x ← chk (meTy m x) x; let y ← ev a δ; me1 m x y
  | .me2 m r a b, δ => do let x ← ev r δ; let x ← chk (meTy m x) x; let y ← ev a δ; let z ← ev b δ; me2 m x y z
  | .isi a t, δ => do
    let x ← ev a δ
    let r ← isTy marks x t
    return .bl r
  | .sortk a f, δ => do
    let x ← ev a δ
    let xs ← lstOf x
    let ks ← noExc (mapD (fun x => F f [x]) xs)
    chk (sortable ks) (.lst (sortKD ks xs))
  | .comp elt tg own it, δ => do
    let xs ← evIt it δ
    let ys ← noExc (mapIfD (stepOf own tg (fun _ => .val true) (fun δ' => ev elt δ') δ) xs)
    return .lst ys
  | .compIf elt tg own it c, δ => do
    let xs ← evIt it δ
    let ys ← noExc (mapIfD (stepOf own tg (fun δ' => ev c δ' >>= asB) (fun δ' => ev elt δ') δ) xs)
    return .lst ys
  | .lit it, δ => do let xs ← evIt it δ; return .lst xs
def evs : Es → Env → Out (List D)
  | .nil, _ => .val []
  | .cons e es, δ => do
    let x ← ev e δ
    let xs ← evs es δ
    return x :: xs
def evIt : It → Env → Out (List D)
  | .e a, δ => do let x ← ev a δ; items x
  | .range1 a, δ => do let x ← ev a δ; range2 (.int 0) x
  | .range2 a b, δ => do let x ← ev a δ; let y ← ev b δ; range2 x y
  | .range3 a b c, δ => do let x ← ev a δ; let y ← ev b δ; let z ← ev c δ; range3 x y z
  | .enum a, δ => do let x ← ev a δ; let xs ← itemsQ x; return enumFrom 0 xs
  | .zip a b, δ => do let x ← ev a δ; let y ← ev b δ; zipQ x y
  | .rev a, δ => do let x ← ev a δ; let xs ← itemsQ x; return xs.reverse
end

/-- how a statement ends -/
inductive Ctl where
  | nx
  | rt (d : D)

/-- on to what comes next -/
def nxt (k : Env → Out (Ctl × Env)) : Ctl × Env → Out (Ctl × Env)
  | (.nx, δ) => k δ
  | (.rt d, δ) => .val (.rt d, δ)
def forD (f : D → Env → Out (Ctl × Env)) : List D → Env → Out (Ctl × Env)
  | [], δ => .val (.nx, δ)
  | x :: xs, δ => do
    let r ← f x δ
    nxt (fun δ' => forD f xs δ') r
def whileD (c : Env → Out D) (b : Env → Out (Ctl × Env)) : Nat → Env → Out (Ctl × Env)
  | 0, _ => .bad
  | n + 1, δ => do
    let x ← c δ
    let p ← asB x
    if p then (do
      let r ← b δ
      nxt (fun δ' => whileD c b n δ') r) else .val (.nx, δ)
/-- the error's name, if it has one -/
def slotH (δ : Env) (e : Nm) : Option Nat → Env
  | none => δ
  | some i => setE δ i (.sh (.exc e))
/-- a handler gives back what is not to be changed -/
def hdl (δ : Env) : Out (Ctl × Env) → Out (Ctl × Env)
  | .val (.rt d, _) => if imm d then .val (.rt d, δ) else .bad
  | _ => .bad
def wFuel : Nat := 1000000
/-- a list or dict that no one else holds -/
def owned : Ent → Out D
  | .ow d => .val d
  | _ => .bad
@[simp] theorem owned_ow (d : D) : owned (.ow d) = .val d := rfl
def dSet (x k e : D) : Out D := match x with
  | .dct kvs => chk (hkey k && decide (kvs.length < LIM)) (.dct (put kvs k e))
  | .lst xs => match k with
    | .int i => match pl xs.length i with
      | some j => .val (.lst (xs.set j e))
      | none => .bad
    | _ => .bad
  | _ => .bad
def dApp (x e : D) : Out D := match x with
  | .lst xs => chk (decide (xs.length < LIM)) (.lst (xs ++ [e]))
  | _ => .bad
def dExt (x e : D) : Out D := match x, e with
  | .lst xs, .lst ys => chk (decide (xs.length + ys.length ≤ LIM)) (.lst (xs ++ ys))
  | _, _ => .bad
def dUpd (x e : D) : Out D := match x, e with
  | .dct xs, .dct ys => chk (decide (xs.length + ys.length ≤ LIM)) (.dct (putAll xs ys))
  | _, _ => .bad
def popL : List D → Option (D × List D)
  | [] => none
  | [x] => some (x, [])
  | x :: y :: r => match popL (y :: r) with
    | some (z, s) => some (z, x :: s)
    | none => none
/-- what makes a new list or dict -/
def fresh : E → Bool
  | .lst _ => true
  | .dnil => true
  | .add _ _ => true
  | .mul _ _ => true
  | .sl _ _ _ => true
  | .comp .. => true
  | .compIf .. => true
  | .lit _ => true
  | .bi1 .list _ => true
  | .bi1 .dict _ => true
  | .bi1 .sorted _ => true
  | .bi1 .sortset _ => true
  | _ => false
def entOf (ow fr : Bool) (d : D) : Ent := if ow && fr && isL d then .ow d else .sh d
mutual
def ex : S → Env → Out (Ctl × Env)
  | .set i e ow fz, δ => do
    let d ← ev F e (frz δ fz)
    return (.nx, setE (frz δ fz) i (entOf ow (fresh e) d))
  | .unpack is e, δ => do
    let d ← ev F e δ
    let δ' ← bindT δ (.many is) d
    return (.nx, δ')
  | .setIdx i k e, δ => do
    let d ← ev F e δ
    let x ← owned (get δ i)
    let kd ← ev F k δ
    let y ← dSet x kd d
    return (.nx, setE δ i (.ow y))
  | .app i e, δ => do
    let x ← owned (get δ i)
    let xs ← lstOf x
    let d ← ev F e δ
    let y ← dApp (.lst xs) d
    return (.nx, setE δ i (.ow y))
  | .ext i e, δ => do
    let x ← owned (get δ i)
    let d ← ev F e δ
    let y ← dExt x d
    return (.nx, setE δ i (.ow y))
  | .upd i e, δ => do
    let x ← owned (get δ i)
    let d ← ev F e δ
    let y ← dUpd x d
    return (.nx, setE δ i (.ow y))
  | .popTo j i, δ => do
    let x ← owned (get δ i)
    let xs ← lstOf x
    match popL xs with
    | some (z, r) => .val (.nx, setE (setE δ i (.ow (.lst r))) j (.sh z))
    | none => .bad
  | .ex e, δ => do
    let _ ← ev F e δ
    return (.nx, δ)
  | .ret e fz, δ => do
    let d ← ev F e (frz δ fz)
    return (.rt d, δ)
  | .ifS c a b, δ => do
    let x ← ev F c δ
    let p ← asB x
    if p then exs a δ else exs b δ
  | .forS tg it fz body, δ => do
    let xs ← evIt F it (frz δ fz)
    forD (fun x δ => do
      let δ' ← bindT δ tg x
      exs body δ') xs (frz δ fz)
  | .whileS c body, δ => whileD (fun δ => ev F c δ) (fun δ => exs body δ) wFuel δ
  | .raise c, _ => .exc c
  | .tryS body c n h, δ => match exs body δ with
    | .val r => .val r
    | .bad => .bad
    | .exc e => if e == c || c == marks then hdl δ (exs h (slotH δ e n)) else .exc e
  | .pass, δ => .val (.nx, δ)
def exs : Ss → Env → Out (Ctl × Env)
  | .nil, δ => .val (.nx, δ)
  | .cons s ss, δ => do
    let r ← ex s δ
    nxt (fun δ' => exs ss δ') r
end
end

/-- a def: its parameters, its slots, its body -/
structure FD where
  np : Nat
  ns : Nat
  body : Ss
abbrev Tab := Nm → Option FD
def uns : Nat → Env
  | 0 => []
  | n + 1 => .un :: uns n
def startE (ds : List D) (k : Nat) : Env := match ds with
  | [] => uns k
  | d :: r => .sh d :: startE r k
def fin : Out (Ctl × Env) → Out D
  | .val (.rt d, _) => .val d
  | .val (.nx, _) => .val .non
  | .exc c => .exc c
  | .bad => .bad
/-- a def's value, calls no deeper than the number -/
def evF (T : Tab) : Nat → Nm → List D → Out D
  | 0, _, _ => .bad
  | n + 1, f, ds => match T f with
    | some fd => if ds.length = fd.np then fin (exs (evF T n) fd.body (startE ds (fd.ns - fd.np))) else .bad
    | none => .bad
end Py
end
section
set_option autoImplicit false
set_option linter.all false
set_option maxRecDepth 100000
/-! PyB: how plain data stands in the heap: RepV; frames: EnvOk; what code is to reach: OutE. -/
namespace Py
open PySem PySem.Spec L2

theorem LIM_eq : LIM = sizeLine := by decide +kernel

/-- what stays through the whole law: the program, the world, the written part, where the defs and the error classes stand -/
structure Gx where
  P : Program
  w : World
  K : PySem.W.Frag
  fa : Nm → Option Addr
  ca : Nm → Option Addr
  hx : Option (Addr × Nm)

abbrev tx (s : List Nat) : Str := ⟨s.toArray⟩
def sV (s : List Nat) : V := .str (tx s)
def SOk (s : List Nat) : Prop := s.length ≤ LIM ∧ ∀ c ∈ s, c < 0x110000
theorem SOk.of_sub {s t : List Nat} (h : SOk s) (hl : t.length ≤ s.length) (hs : ∀ c ∈ t, c ∈ s) : SOk t := ⟨Nat.le_trans hl h.1, fun c hc => h.2 c (hs c hc)⟩

mutual
def nk : D → NestedKey
  | .bl b => .num (if b then 1 else 0)
  | .int i => .num i
  | .str s => .text (tx s)
  | .tup xs => .tup (nks xs)
  | .non => .none
  | .lst _ => .none
  | .dct _ => .none
  | .fn _ => .none
  | .exc _ => .none
def nks : List D → List NestedKey
  | [] => []
  | x :: xs => nk x :: nks xs
end

/-- a dict at a by its entries -/
def dctO (a : Addr) (es : List DictEntry) (ep : Nat) : HO := .ext fun h => ∃ o, h.get? a = some o ∧ o.ExactDict ∧ o.data = .dict es.toArray ep

/-- a list that may be read: it stands in H, or it is an object of the module -/
def LsT (K : PySem.W.Frag) (H : Hp) (a : Addr) (vs : List V) : Prop := Rd H a (.lst vs) ∨ ∃ (its : List Value) (n : Nat), K.lookup a = some { cls := .type "list", data := .seq its.toArray n } ∧ its.length ≤ sizeLine ∧ Vals vs its
theorem LsT.sq {K : PySem.W.Frag} {H : Hp} {a : Addr} {vs : List V} (h : LsT K H a vs) : SqL K H a vs := by
  rcases h with h | ⟨its, n, hk, hl, hv⟩
  · exact .inl h
  · exact .inr ⟨_, its.toArray, n, hk, rfl, rfl, rfl, by simpa using hl, by simpa using hv⟩
theorem LsT.same {K : PySem.W.Frag} {H H' : Hp} (e : Same H H') {a : Addr} {vs : List V} (h : LsT K H a vs) : LsT K H' a vs := by
  rcases h with (h | ⟨o, h⟩) | h
  · exact .inl (.inl (e _ _ h))
  · exact .inl (.inr ⟨o, e _ _ h⟩)
  · exact .inr h
mutual
/-- the value v is the data d -/
inductive RepV (G : Gx) (H : Hp) : D → V → Prop where
  | non : RepV G H .non .non
  | bl (b : Bool) : RepV G H (.bl b) (.bl b)
  | int (i : Int) : RepV G H (.int i) (.int i)
  | str {s : List Nat} : SOk s → RepV G H (.str s) (sV s)
  | tup {a : Addr} {vs : List V} {ds : List D} : SqT G.K H a vs → RepAll G H ds vs → RepV G H (.tup ds) (.ref a)
  | lst {a : Addr} {vs : List V} {ds : List D} : LsT G.K H a vs → RepAll G H ds vs → RepV G H (.lst ds) (.ref a)
  | dct {a : Addr} {es : List DictEntry} {ep : Nat} {kvs : List (D × D)} : H a = some (dctO a es ep) → (a == sysModules) = false → (kvs.map fun p => nk p.1).Nodup → kvs.length ≤ LIM → RepEs G H es kvs → RepV G H (.dct kvs) (.ref a)
  | fn {f : Nm} {a : Addr} : G.fa f = some a → RepV G H (.fn f) (.ref a)
  | exc {c : Nm} {a : Addr} : G.hx = some (a, c) → RepV G H (.exc c) (.ref a)
inductive RepAll (G : Gx) (H : Hp) : List D → List V → Prop where
  | nil : RepAll G H [] []
  | cons {d : D} {ds : List D} {v : V} {vs : List V} : RepV G H d v → RepAll G H ds vs → RepAll G H (d :: ds) (v :: vs)
inductive RepEs (G : Gx) (H : Hp) : List DictEntry → List (D × D) → Prop where
  | nil : RepEs G H [] []
  | cons {e : DictEntry} {es : List DictEntry} {p : D × D} {kvs : List (D × D)} {kv vv : V} : e.hash = (nk p.1).hash G.w → RelV kv e.key → RelV vv e.val → RepV G H p.1 kv → RepV G H p.2 vv → D.hkey p.1 = true → RepEs G H es kvs → RepEs G H (e :: es) (p :: kvs)
end

theorem Same.rd {H H' : Hp} (e : Same H H') {a : Addr} {u : HO} (h : Rd H a u) : Rd H' a u := by
  rcases h with h | ⟨o, h⟩
  · exact .inl (e _ _ h)
  · exact .inr ⟨o, e _ _ h⟩
theorem Same.sqT {K : PySem.W.Frag} {H H' : Hp} (e : Same H H') {a : Addr} {xs : List V} (h : SqT K H a xs) : SqT K H' a xs := by
  rcases h with h | h
  · exact .inl (Same.rd e h)
  · exact .inr h

mutual
theorem RepV.mono {G : Gx} {H H' : Hp} (e : Same H H') : ∀ {d : D} {v : V}, RepV G H d v → RepV G H' d v
  | _, _, .non => .non
  | _, _, .bl b => .bl b
  | _, _, .int i => .int i
  | _, _, .str h => .str h
  | _, _, .tup s r => .tup (Same.sqT e s) (RepAll.mono e r)
  | _, _, .lst s r => .lst (LsT.same e s) (RepAll.mono e r)
  | _, _, .dct h y n l r => .dct (e _ _ h) y n l (RepEs.mono e r)
  | _, _, .fn h => .fn h
  | _, _, .exc h => .exc h
theorem RepAll.mono {G : Gx} {H H' : Hp} (e : Same H H') : ∀ {ds : List D} {vs : List V}, RepAll G H ds vs → RepAll G H' ds vs
  | _, _, .nil => .nil
  | _, _, .cons r rs => .cons (RepV.mono e r) (RepAll.mono e rs)
theorem RepEs.mono {G : Gx} {H H' : Hp} (e : Same H H') : ∀ {es : List DictEntry} {kvs : List (D × D)}, RepEs G H es kvs → RepEs G H' es kvs
  | _, _, .nil => .nil
  | _, _, .cons h1 h2 h3 h4 h5 h6 h7 => .cons h1 h2 h3 (RepV.mono e h4) (RepV.mono e h5) h6 (RepEs.mono e h7)
end

section
variable {G : Gx} {H H' : Hp}
theorem RepAll.length : ∀ {ds : List D} {vs : List V}, RepAll G H ds vs → ds.length = vs.length
  | _, _, .nil => rfl
  | _, _, .cons _ r => by rw [List.length_cons, List.length_cons, RepAll.length r]
theorem RepEs.length : ∀ {es : List DictEntry} {kvs : List (D × D)}, RepEs G H es kvs → es.length = kvs.length
  | _, _, .nil => rfl
  | _, _, .cons _ _ _ _ _ _ r => by rw [List.length_cons, List.length_cons, RepEs.length r]
theorem RepAll.get : ∀ {ds : List D} {vs : List V} {i : Nat} {d : D}, RepAll G H ds vs → ds[i]? = some d → ∃ v, vs[i]? = some v ∧ RepV G H d v
  | _, _, _, _, .nil, e => by simp at e
  | _, _, 0, _, .cons r _, e => by simp at e; subst e; exact ⟨_, rfl, r⟩
  | _, _, i + 1, d, .cons _ t, e => by
    obtain ⟨u, h1, h2⟩ := RepAll.get (i := i) (d := d) t (by simpa using e)
    exact ⟨u, by simpa using h1, h2⟩
theorem RepAll.get' : ∀ {ds : List D} {vs : List V} {i : Nat} {v : V}, RepAll G H ds vs → vs[i]? = some v → ∃ d, ds[i]? = some d ∧ RepV G H d v
  | _, _, _, _, .nil, e => by simp at e
  | _, _, 0, _, .cons r _, e => by simp at e; subst e; exact ⟨_, rfl, r⟩
  | _, _, i + 1, d, .cons _ t, e => by
    obtain ⟨u, h1, h2⟩ := RepAll.get' (i := i) (v := d) t (by simpa using e)
    exact ⟨u, by simpa using h1, h2⟩
theorem RepAll.append : ∀ {ds es : List D} {vs us : List V}, RepAll G H ds vs → RepAll G H es us → RepAll G H (ds ++ es) (vs ++ us)
  | _, _, _, _, .nil, s => s
  | _, _, _, _, .cons r t, s => .cons r (RepAll.append t s)
theorem RepAll.take : ∀ {ds : List D} {vs : List V} (n : Nat), RepAll G H ds vs → RepAll G H (ds.take n) (vs.take n)
  | _, _, 0, _ => .nil
  | _, _, _ + 1, .nil => .nil
  | _, _, n + 1, .cons r t => .cons r (RepAll.take n t)
theorem RepAll.drop : ∀ {ds : List D} {vs : List V} (n : Nat), RepAll G H ds vs → RepAll G H (ds.drop n) (vs.drop n)
  | _, _, 0, r => r
  | _, _, _ + 1, .nil => .nil
  | _, _, n + 1, .cons _ t => RepAll.drop n t
theorem RepAll.set {d : D} {v : V} (r : RepV G H d v) : ∀ {ds : List D} {vs : List V} (i : Nat), RepAll G H ds vs → RepAll G H (ds.set i d) (vs.set i v)
  | _, _, _, .nil => .nil
  | _, _, 0, .cons _ t => .cons r t
  | _, _, i + 1, .cons q t => .cons q (RepAll.set r i t)
theorem RepAll.reverse {ds : List D} {vs : List V} (r : RepAll G H ds vs) : RepAll G H ds.reverse vs.reverse := by
  induction ds generalizing vs with
  | nil => cases r; exact .nil
  | cons d ds ih =>
    cases r with
    | cons q t =>
      rw [List.reverse_cons, List.reverse_cons]
      exact (ih t).append (.cons q .nil)
theorem RepAll.of_get : ∀ {ds : List D} {vs : List V}, ds.length = vs.length → (∀ (i : Nat) (d : D) (v : V), ds[i]? = some d → vs[i]? = some v → RepV G H d v) → RepAll G H ds vs
  | [], [], _, _ => .nil
  | [], _ :: _, e, _ => by simp at e
  | _ :: _, [], e, _ => by simp at e
  | d :: ds, v :: vs, e, h => .cons (h 0 d v rfl rfl) (RepAll.of_get (by simpa using e) fun i d' v' h1 h2 => h (i + 1) d' v' (by simpa using h1) (by simpa using h2))
end

/-! ### what is hidden -/
def Hide (H : Hp) (A : Addr → Bool) : Hp := fun a => if A a = true then none else H a
section
variable {G : Gx} {H H' : Hp} {A A' : Addr → Bool}
theorem Hide.le : Same (Hide H A) H := fun b o e => by
  unfold Hide at e
  split at e
  · cases e
  · exact e
theorem Hide.mono (e : Same H H') : Same (Hide H A) (Hide H' A) := fun b o q => by
  unfold Hide at q ⊢
  split at q
  · cases q
  · rename_i h
    rw [if_neg h]
    exact e _ _ q
theorem Hide.anti (h : ∀ a, A' a = true → A a = true) : Same (Hide H A) (Hide H A') := fun b o q => by
  unfold Hide at q ⊢
  split at q
  · cases q
  · rename_i hb
    rw [if_neg fun z => hb (h _ z)]
    exact q
theorem Hide.at {a : Addr} (h : A a = false) : Hide H A a = H a := by unfold Hide; rw [h]; rfl
theorem Hide.in {a : Addr} (h : A a = true) : Hide H A a = none := by unfold Hide; rw [if_pos h]
/-- a write at a hidden place is not seen -/
theorem Hide.upd {a : Addr} {o : HO} (h : A a = true) : Hide (upd H a o) A = Hide H A := by
  funext b
  unfold Hide
  by_cases hb : A b = true
  · rw [if_pos hb, if_pos hb]
  · rw [if_neg hb, if_neg hb, upd_ne fun (e : b = a) => hb (by rw [e]; exact h)]

/-- what is hidden are lists and dicts that may be changed -/
def Prot (A : Addr → Bool) (H : Hp) : Prop := ∀ a, A a = true → (∃ vs, H a = some (.lst vs)) ∨ ∃ es ep, H a = some (dctO a es ep)
theorem Prot.mono (p : Prot A H) (e : Same H H') : Prot A H' := fun a h => by
  rcases p a h with ⟨vs, q⟩ | ⟨es, ep, q⟩
  · exact .inl ⟨vs, e _ _ q⟩
  · exact .inr ⟨es, ep, e _ _ q⟩
theorem Prot.sqT (p : Prot A H) {a : Addr} {xs : List V} (h : SqT G.K H a xs) : SqT G.K (Hide H A) a xs := by
  have key : ∀ u, H a = some u → (∀ vs, u ≠ .lst vs) → (∀ φ, u ≠ .ext φ) → Hide H A a = some u := fun u e n1 n2 => by
    cases hA : A a with
    | false => rw [Hide.at hA, e]
    | true =>
      rcases p a hA with ⟨vs, q⟩ | ⟨es, ep, q⟩
      · rw [e] at q; cases q; exact absurd rfl (n1 _)
      · rw [e] at q; cases q; exact absurd rfl (n2 _)
  rcases h with (h | ⟨o, h⟩) | h
  · exact .inl (.inl (key _ h (fun _ z => nomatch z) fun _ z => nomatch z))
  · exact .inl (.inr ⟨o, key _ h (fun _ z => nomatch z) fun _ z => nomatch z⟩)
  · exact .inr h
end

mutual
theorem RepV.imm {G : Gx} {H : Hp} {A : Addr → Bool} (p : Prot A H) : ∀ {d : D} {v : V}, D.imm d = true → RepV G H d v → RepV G (Hide H A) d v
  | _, _, _, .non => .non
  | _, _, _, .bl b => .bl b
  | _, _, _, .int i => .int i
  | _, _, _, .str h => .str h
  | _, _, h, .tup s r => .tup (p.sqT s) (RepAll.imm p (by simpa [D.imm] using h) r)
  | _, _, h, .lst s r => by simp [D.imm] at h
  | _, _, h, .dct .. => by simp [D.imm] at h
  | _, _, _, .fn h => .fn h
  | _, _, h, .exc _ => by simp [D.imm] at h
theorem RepAll.imm {G : Gx} {H : Hp} {A : Addr → Bool} (p : Prot A H) : ∀ {ds : List D} {vs : List V}, D.immAll ds = true → RepAll G H ds vs → RepAll G (Hide H A) ds vs
  | _, _, _, .nil => .nil
  | _, _, h, .cons r rs => by
    simp only [D.immAll, Bool.and_eq_true] at h
    exact .cons (RepV.imm p h.1 r) (RepAll.imm p h.2 rs)
end

/-- an own list or dict at a -/
def OwnAt (G : Gx) (Hf H : Hp) (d : D) (a : Addr) : Prop :=
  (∃ ds vs, d = .lst ds ∧ H a = some (.lst vs) ∧ RepAll G Hf ds vs) ∨
  ∃ kvs es ep, d = .dct kvs ∧ H a = some (dctO a es ep) ∧ (a == sysModules) = false ∧ (kvs.map fun p => nk p.1).Nodup ∧ kvs.length ≤ LIM ∧ RepEs G Hf es kvs
theorem OwnAt.mono {G : Gx} {Hf Hf' H H' : Hp} {d : D} {a : Addr} (h : OwnAt G Hf H d a) (ef : Same Hf Hf') (e : Same H H') : OwnAt G Hf' H' d a := by
  rcases h with ⟨ds, vs, h1, h2, h3⟩ | ⟨kvs, es, ep, h1, h2, h3, h4, h5, h6⟩
  · exact .inl ⟨ds, vs, h1, e _ _ h2, h3.mono ef⟩
  · exact .inr ⟨kvs, es, ep, h1, e _ _ h2, h3, h4, h5, h6.mono ef⟩
theorem OwnAt.rep {G : Gx} {H : Hp} {d : D} {a : Addr} (h : OwnAt G H H d a) : RepV G H d (.ref a) := by
  rcases h with ⟨ds, vs, rfl, h2, h3⟩ | ⟨kvs, es, ep, rfl, h2, h3, h4, h5, h6⟩
  · exact .lst (.inl (.inl h2)) h3
  · exact .dct h2 h3 h4 h5 h6
theorem OwnAt.isL {G : Gx} {Hf H : Hp} {d : D} {a : Addr} (h : OwnAt G Hf H d a) : D.isL d = true := by
  rcases h with ⟨ds, vs, rfl, _⟩ | ⟨kvs, es, ep, rfl, _⟩ <;> rfl

/-- d, whose top may be an own list -/
def RepT (G : Gx) (A : Addr → Bool) (H : Hp) (d : D) (v : V) : Prop := RepV G (Hide H A) d v ∨ ∃ a, v = .ref a ∧ A a = true ∧ OwnAt G (Hide H A) H d a
section
variable {G : Gx} {H H' : Hp} {A : Addr → Bool} {d : D} {v : V}
theorem RepT.mono (h : RepT G A H d v) (e : Same H H') : RepT G A H' d v := by
  rcases h with h | ⟨a, h1, h2, h3⟩
  · exact .inl (h.mono (Hide.mono e))
  · exact .inr ⟨a, h1, h2, h3.mono (Hide.mono e) e⟩
/-- seen with nothing hidden -/
theorem RepT.all (h : RepT G A H d v) : RepV G H d v := by
  rcases h with h | ⟨a, rfl, h2, h3⟩
  · exact h.mono Hide.le
  · exact (h3.mono Hide.le (Same.refl _)).rep
theorem RepT.of_not (h : RepT G A H d v) (n : D.isL d = false) : RepV G (Hide H A) d v := by
  rcases h with h | ⟨a, rfl, h2, h3⟩
  · exact h
  · rw [h3.isL] at n; cases n
/-- a list's items -/
theorem RepT.lst {ds : List D} (h : RepT G A H (.lst ds) v) : ∃ a vs, v = .ref a ∧ LsT G.K H a vs ∧ RepAll G (Hide H A) ds vs := by
  rcases h with h | ⟨a, rfl, h2, h3⟩
  · cases h with
    | lst s r => exact ⟨_, _, rfl, LsT.same Hide.le s, r⟩
  · rcases h3 with ⟨ds', vs, e, h4, h5⟩ | ⟨kvs, es, ep, e, _⟩
    · cases e
      exact ⟨a, vs, rfl, .inl (.inl h4), h5⟩
    · cases e
theorem RepT.tup {ds : List D} (h : RepT G A H (.tup ds) v) : ∃ a vs, v = .ref a ∧ SqT G.K H a vs ∧ RepAll G (Hide H A) ds vs := by
  have h' := h.of_not rfl
  cases h' with
  | tup s r => exact ⟨_, _, rfl, Same.sqT Hide.le s, r⟩
theorem RepT.dct {kvs : List (D × D)} (h : RepT G A H (.dct kvs) v) : ∃ a es ep, v = .ref a ∧ H a = some (dctO a es ep) ∧ (a == sysModules) = false ∧ (kvs.map fun p => nk p.1).Nodup ∧ kvs.length ≤ LIM ∧ RepEs G (Hide H A) es kvs := by
  rcases h with h | ⟨a, rfl, h2, h3⟩
  · cases h with
    | dct s y n l r => exact ⟨_, _, _, rfl, Hide.le _ _ s, y, n, l, r⟩
  · rcases h3 with ⟨ds', vs, e, h4, h5⟩ | ⟨kvs', es, ep, e, h4, h5, h6, h7, h8⟩
    · cases e
    · cases e
      exact ⟨a, es, ep, rfl, h4, h5, h6, h7, h8⟩
theorem RepT.str {s : List Nat} (h : RepT G A H (.str s) v) : v = sV s ∧ SOk s := by
  cases h.of_not rfl with
  | str k => exact ⟨rfl, k⟩
theorem RepT.int {i : Int} (h : RepT G A H (.int i) v) : v = .int i := by
  cases h.of_not rfl with
  | int => rfl
theorem RepT.bl {b : Bool} (h : RepT G A H (.bl b) v) : v = .bl b := by
  cases h.of_not rfl with
  | bl => rfl
theorem RepT.non (h : RepT G A H .non v) : v = .non := by
  cases h.of_not rfl with
  | non => rfl
end

/-! ### frames -/
structure EnvOk (G : Gx) (A : Addr → Bool) (H : Hp) (δ : Env) (σ : St) : Prop where
  prot : Prot A H
  len : δ.length ≤ σ.length
  sh : ∀ (i : Nat) (d : D), get δ i = .sh d → ∃ v, σ[i]? = some (some v) ∧ RepV G (Hide H A) d v
  ow : ∀ (i : Nat) (d : D), get δ i = .ow d → ∃ a, σ[i]? = some (some (.ref a)) ∧ A a = true ∧ OwnAt G (Hide H A) H d a
theorem EnvOk.mono {G : Gx} {A : Addr → Bool} {H H' : Hp} {δ : Env} {σ : St} (h : EnvOk G A H δ σ) (e : Same H H') : EnvOk G A H' δ σ where
  prot := h.prot.mono e
  len := h.len
  sh := fun i d q => let ⟨v, h1, h2⟩ := h.sh i d q; ⟨v, h1, h2.mono (Hide.mono e)⟩
  ow := fun i d q => let ⟨a, h1, h2, h3⟩ := h.ow i d q; ⟨a, h1, h2, h3.mono (Hide.mono e) e⟩

abbrev XS := L2.St → Nm → Hp → Prop
/-- what an expression is to reach -/
def OutE (Ex : Nm → Hp → Prop) (H : Hp) (M : D → V → Hp → Prop) (Q : VK) : Out D → Prop
  | .val d => ∀ v H', Same H H' → M d v H' → Q v H'
  | .exc c => ∀ H', Same H H' → Ex c H'
  | .bad => False
theorem OutE.after {Ex : Nm → Hp → Prop} {H H1 : Hp} {M : D → V → Hp → Prop} {Q : VK} {o : Out D} (h : OutE Ex H M Q o) (e : Same H H1) : OutE Ex H1 M Q o := by
  cases o with
  | val d => exact fun v H' s m => h v H' (e.trans s) m
  | exc c => exact fun H' s => h H' (e.trans s)
  | bad => exact h
theorem OutE.imp {Ex : Nm → Hp → Prop} {H : Hp} {M M' : D → V → Hp → Prop} {Q : VK} {o : Out D} (h : OutE Ex H M Q o) (k : ∀ d v H', Same H H' → M' d v H' → M d v H') : OutE Ex H M' Q o := by
  cases o with
  | val d => exact fun v H' s m => h v H' s (k d v H' s m)
  | exc c => exact h
  | bad => exact h
def MT (G : Gx) (A : Addr → Bool) : D → V → Hp → Prop := fun d v H' => RepT G A H' d v
def addA (A : Addr → Bool) (a : Addr) : Addr → Bool := fun b => A b || b == a
def MA (G : Gx) (A : Addr → Bool) (H : Hp) (fr : Bool) : D → V → Hp → Prop := fun d v H' => RepV G (Hide H' A) d v ∧ (fr = true → D.isL d = true → ∃ a, v = .ref a ∧ H a = none ∧ OwnAt G (Hide H' (addA A a)) H' d a)
/-- the code e computes f; the answer's top may be an own list -/
def ST (G : Gx) (Ex : XS) (X : Cx) (e : Expr) (f : Env → Out D) : Prop := ∀ (δ : Env) (A : Addr → Bool), PE X e (fun σ H Q => EnvOk G A H δ σ ∧ OutE (Ex σ) H (MT G A) Q (f δ))
/-- the code e computes f; the answer is free of own lists; fr: a list or dict that it gives is new -/
def SA (G : Gx) (Ex : XS) (X : Cx) (fr : Bool) (e : Expr) (f : Env → Out D) : Prop := ∀ (δ : Env) (A : Addr → Bool), PE X e (fun σ H Q => EnvOk G A H δ σ ∧ OutE (Ex σ) H (MA G A H fr) Q (f δ))
theorem pImp {X : Cx} {e : Expr} {t t' : TE} (h : PE X e t) (k : ∀ σ H Q, t' σ H Q → t σ H Q) : PE X e t' := ⟨fun pins s σ H Q I q => h.run pins s σ H Q I (k σ H Q q)⟩
theorem tImp {X : Cx} {e : Expr} {t t' : TT} (h : PT X e t) (k : ∀ σ H Q, t' σ H Q → t σ H Q) : PT X e t' := ⟨fun pins s σ H Q I q => h.run pins s σ H Q I (k σ H Q q)⟩
theorem SA.top {G : Gx} {Ex : XS} {X : Cx} {fr : Bool} {e : Expr} {f : Env → Out D} (h : SA G Ex X fr e f) : ST G Ex X e f := fun δ A =>
  pImp (h δ A) fun σ H Q ⟨ok, o⟩ => ⟨ok, o.imp fun d v H' _ m => .inl m.1⟩
theorem SA.weak {G : Gx} {Ex : XS} {X : Cx} {fr : Bool} {e : Expr} {f : Env → Out D} (h : SA G Ex X fr e f) : SA G Ex X false e f := fun δ A =>
  pImp (h δ A) fun σ H Q ⟨ok, o⟩ => ⟨ok, o.imp fun d v H' _ m => ⟨m.1, fun z => nomatch z⟩⟩
end Py
end
section
set_option autoImplicit false
set_option linter.all false
set_option maxRecDepth 100000
set_option maxHeartbeats 2000000
/-! PyC: dicts whose keys are any nested data (None, numbers, texts, tuples, mixed): find, get, set, at the model's level. -/
namespace Py
open PySem PySem.Spec
open Sem (wp)

/-- the entries' keys are the keys ks -/
def KeyE (w : World) (h : Heap) (e : DictEntry) (k : NestedKey) : Prop := e.hash = k.hash w ∧ NestedIs h k e.key ∧ k.depth ≤ 8
abbrev Keyed (w : World) (h : Heap) (es : List DictEntry) (ks : List NestedKey) : Prop := Paired (KeyE w h) es ks
theorem Keyed.get {w : World} {h : Heap} : ∀ {es : List DictEntry} {ks : List NestedKey} {i : Nat} {e : DictEntry}, Keyed w h es ks → es[i]? = some e → ∃ k, ks[i]? = some k ∧ KeyE w h e k
  | _, _, _, _, .nil, q => by simp at q
  | _, _, 0, _, .cons r _, q => by simp at q; subst q; exact ⟨_, rfl, r⟩
  | _, _, i + 1, e, .cons _ t, q => by
    obtain ⟨k, h1, h2⟩ := Keyed.get (i := i) (e := e) t (by simpa using q)
    exact ⟨k, by simpa using h1, h2⟩
theorem Keyed.get' {w : World} {h : Heap} : ∀ {es : List DictEntry} {ks : List NestedKey} {i : Nat} {k : NestedKey}, Keyed w h es ks → ks[i]? = some k → ∃ e, es[i]? = some e ∧ KeyE w h e k
  | _, _, _, _, .nil, q => by simp at q
  | _, _, 0, _, .cons r _, q => by simp at q; subst q; exact ⟨_, rfl, r⟩
  | _, _, i + 1, e, .cons _ t, q => by
    obtain ⟨k, h1, h2⟩ := Keyed.get' (i := i) (k := e) t (by simpa using q)
    exact ⟨k, by simpa using h1, h2⟩

section
variable {P : Program} {w : World} {A : Around} {E : Value → Shared → Prop} {s : Shared}

theorem quiet_v {k : NestedKey} {v : Value} {Q : Bool → Shared → Prop} (hv : NestedIs s.heap k v) (hd : k.depth ≤ 8) (q : Q true s) : wpAny (model P w) A (eqIsQuiet 8 v) Q E s :=
  quiet_key k v 8 s hv hd A E Q q

theorem noTell {v : Value} {k : NestedKey} {stored : List Value} {Q : Bool → Shared → Prop} (hv : NestedIs s.heap k v) (hd : k.depth ≤ 8)
    (hst : ∀ u ∈ stored, ∃ k', NestedIs s.heap k' u ∧ k'.depth ≤ 8) (q : Q false s) : wpAny (model P w) A (tableMayTell v stored) Q E s := by
  unfold tableMayTell
  split
  · exact wpAny_pure q
  · refine wpAny_bind (quiet_v hv hd ?_)
    rw [if_neg (by decide)]
    refine wpAny_bind (wpAny_forIn_list _ (fun left r s' => s' = s ∧ r = (none, ()) ∧ ∀ u ∈ left, ∃ k', NestedIs s.heap k' u ∧ k'.depth ≤ 8) _ ?_ ?_ _ _ ⟨rfl, rfl, hst⟩)
    · intro u left r s' ⟨e1, e2, hl⟩
      subst e1 e2
      obtain ⟨k', h1, h2⟩ := hl u List.mem_cons_self
      refine wpAny_bind (quiet_v h1 h2 ?_)
      rw [if_neg (by decide)]
      exact wpAny_pure ⟨rfl, rfl, fun z hz => hl z (List.mem_cons_of_mem _ hz)⟩
    · intro r s' ⟨e1, e2, _⟩
      subst e1 e2
      exact wpAny_pure q

/-- what is found: the place of the key, if it is there -/
def At1 (ks : List NestedKey) (k : NestedKey) (Q : Option Nat → Shared → Prop) (s : Shared) : Prop := (k ∉ ks → Q none s) ∧ ∀ j, ks[j]? = some k → Q (some j) s

theorem uniq {ks : List NestedKey} (hn : ks.Nodup) {i j : Nat} {k : NestedKey} (hi : ks[i]? = some k) (hj : ks[j]? = some k) : i = j := by
  have h1 : i < ks.length := (List.getElem?_eq_some_iff.mp hi).1
  exact (List.getElem?_inj h1 hn).mp (hi.trans hj.symm)

theorem find_nk {d : Addr} {o : Obj} {es : List DictEntry} {ep : Nat} {ks : List NestedKey} {k : NestedKey} {v : Value} {Q : Option Nat → Shared → Prop} (hu : A.units + 8 < cLine)
    (hv : NestedIs s.heap k v) (hdk : k.depth ≤ 8) (ho : s.heap.get? d = some o) (hd : o.data = .dict es.toArray ep) (hk : Keyed w s.heap es ks) (hn : ks.Nodup) (q : At1 ks k Q s) :
    wpAny (model P w) A (dictFind d v (k.hash w)) Q E s := by
  have hlen : es.toArray.size = ks.length := by rw [List.size_toArray]; exact Paired.length hk
  have hat : ∀ j : Nat, es.toArray[j]? = es[j]? := fun j => by simp
  have hit : ∀ j : Nat, ks[j]? = some k → ((es.toArray[j]?.map (·.hash)) == some (k.hash w)) = true := fun j e => by
    obtain ⟨en, h1, h2, _⟩ := hk.get' e
    rw [hat, h1, Option.map_some, h2]
    exact beq_self_eq_true _
  have eqb : ∀ (A : Around) (E : Value → Shared → Prop) (R : Bool → Shared → Prop) (x : NestedKey) (u : Value), A.units + 8 < cLine → NestedIs s.heap x u → x.depth ≤ 8 → R (NestedKey.beq x k) s → wpAny (model P w) A (eqBool u v) R E s :=
    fun A E R x u hu hx hxd r => eqAt_key x k A s u v hx hv (by omega) P w E R r
  -- the stored keys of this hash
  generalize hpl : placesWithHash es.toArray.size (fun i => es.toArray[i]?.map (·.hash)) (k.hash w) = pls
  have hmem : ∀ j ∈ pls, ∃ k' e, ks[j]? = some k' ∧ es[j]? = some e ∧ KeyE w s.heap e k' := fun j hj => by
    rw [← hpl] at hj
    have hlt : j < es.toArray.size := List.mem_range.mp (List.mem_filter.mp hj).1
    rw [hlen] at hlt
    obtain ⟨e, h1, h2⟩ := hk.get' (List.getElem?_eq_getElem hlt)
    exact ⟨ks[j], e, List.getElem?_eq_getElem hlt, h1, h2⟩
  have hst : ∀ u ∈ pls.filterMap (fun i => es.toArray[i]?.map (·.key)), ∃ k', NestedIs s.heap k' u ∧ k'.depth ≤ 8 := fun u hu => by
    obtain ⟨j, hj, e⟩ := List.mem_filterMap.mp hu
    obtain ⟨k', en, h1, h2, h3, h4, h5⟩ := hmem j hj
    rw [hat, h2] at e
    have e2 : en.key = u := by simpa using e
    exact ⟨k', e2 ▸ h4, h5⟩
  -- the walk through the places, by any loop that ends at the first hit
  have inPl : ∀ j, ks[j]? = some k → j ∈ pls := fun j e => by
    rw [← hpl]
    have hlt : j < es.toArray.size := by
      rw [hlen]
      exact (List.getElem?_eq_some_iff.mp e).1
    exact List.mem_filter.mpr ⟨List.mem_range.mpr hlt, hit j e⟩
  have byVal : ∀ Q' : Option Nat → Shared → Prop, (∀ r, Q r s → Q' r s) → wpAny (model P w) A (dictWalkPlain d v (k.hash w) es.toArray pls) Q' E s := fun Q' hQ => by
    unfold dictWalkPlain
    refine wpAny_bind (wpAny_forIn_list _ (fun left r s' => s' = s ∧ r = (none, ()) ∧ (∀ j ∈ left, j ∈ pls) ∧ ∀ j, ks[j]? = some k → j ∈ left) _ ?_ ?_ _ _ ⟨rfl, rfl, fun _ h => h, inPl⟩)
    · intro x left r s' ⟨e1, e2, h1, h2⟩
      subst e1 e2
      obtain ⟨k', en, g1, g2, g3, g4, g5⟩ := hmem x (h1 x List.mem_cons_self)
      have rest : k' ≠ k → (∀ j ∈ left, j ∈ pls) ∧ ∀ j, ks[j]? = some k → j ∈ left := fun ne => ⟨fun j hj => h1 j (List.mem_cons_of_mem _ hj), fun j e => by
        rcases List.mem_cons.mp (h2 j e) with z | z
        · subst z
          rw [g1] at e
          exact absurd (Option.some.inj e) ne
        · exact z⟩
      simp only [hat, g2]
      by_cases hh : (en.hash == k.hash w) = true
      · rw [if_pos hh]
        refine wpAny_bind (wpAny_dictEpoch ho hd (wpAny_bind (eqb A E _ k' en.key hu g4 g5 (wpAny_bind (wpAny_dictEpoch ho hd ?_)))))
        rw [if_neg (by simp)]
        by_cases hkk : k' = k
        · subst hkk
          rw [NestedKey.beq_self]
          exact wpAny_bind (wpAny_rule (wpAny_pure (wpAny_pure (hQ _ (q.2 x g1)))))
        · rw [show NestedKey.beq k' k = false by rw [← NestedKey.decide_eq]; exact decide_eq_false hkk]
          exact wpAny_bind (wpAny_rule (wpAny_pure ⟨rfl, rfl, rest hkk⟩))
      · rw [if_neg hh]
        refine wpAny_pure ⟨rfl, rfl, rest fun e => hh ?_⟩
        rw [g3, e]
        exact beq_self_eq_true _
    · intro r s' ⟨e1, e2, h1, h2⟩
      subst e1 e2
      refine wpAny_pure (hQ _ (q.1 fun hm => ?_))
      obtain ⟨j, hj, e⟩ := List.mem_iff_getElem.mp hm
      exact absurd (h2 j (by rw [List.getElem?_eq_getElem hj, e])) (by simp)
  have byLoop : ∀ tells : Bool, tells = false → wpAny (model P w) A (do
      if tells && (pls.filterMap (fun i => es.toArray[i]?.map (·.key))).length ≥ 2 then unsupported "dict.find:order-among-keys-of-one-hash"
      let mut hit : Option Nat := none
      for i in pls do
        if let some e := es.toArray[i]? then
          if e.hash == k.hash w then
            let before ← dictEpoch d (keyPart v)
            let same ← eqBool e.key v
            if (← dictEpoch d (keyPart v)) != before then unsupported "dict.changed-during-lookup"
            if same then
              if hit.isSome then unsupported "dict.find:order-among-keys-of-one-hash"
              rule "dict.find.hit"
              if (pls.filterMap (fun i => es.toArray[i]?.map (·.key))).length < 2 then return some i
              hit := some i
            else
              rule "dict.find.same-hash-other-key"
              if tells && !(0 ≤ k.hash w && k.hash w < 32) then unsupported "dict.find:asked-again-or-not-hangs-on-the-table"
      return hit) Q E s := fun tells ht => by
    subst ht
    rw [if_neg (by simp)]
    refine wpAny_bind (wpAny_forIn_list _ (fun left r s' => s' = s ∧ r.1 = none ∧ (∀ j ∈ left, j ∈ pls) ∧ left.Nodup ∧ ((r.2 = none ∧ ∀ j, ks[j]? = some k → j ∈ left) ∨ ∃ j, r.2 = some j ∧ ks[j]? = some k ∧ j ∉ left)) _ ?_ ?_ _ _
      ⟨rfl, rfl, fun _ h => h, by rw [← hpl]; exact List.Nodup.sublist List.filter_sublist List.nodup_range, .inl ⟨rfl, inPl⟩⟩)
    · intro x left r s' ⟨e1, e2, h1, hnd, h2⟩
      obtain ⟨r1, r2⟩ := r
      have e2 : r1 = none := e2
      subst e1 e2
      obtain ⟨k', en, g1, g2, g3, g4, g5⟩ := hmem x (h1 x List.mem_cons_self)
      have nd2 := List.nodup_cons.mp hnd
      have rest : k' ≠ k → ((r2 = none ∧ ∀ j, ks[j]? = some k → j ∈ left) ∨ ∃ j, r2 = some j ∧ ks[j]? = some k ∧ j ∉ left) := fun ne => by
        rcases h2 with ⟨z1, z2⟩ | ⟨j, z1, z2, z3⟩
        · refine .inl ⟨z1, fun j e => ?_⟩
          rcases List.mem_cons.mp (z2 j e) with z | z
          · subst z
            rw [g1] at e
            exact absurd (Option.some.inj e) ne
          · exact z
        · exact .inr ⟨j, z1, z2, fun z => z3 (List.mem_cons_of_mem _ z)⟩
      have sub : ∀ j ∈ left, j ∈ pls := fun j hj => h1 j (List.mem_cons_of_mem _ hj)
      simp only [hat, g2]
      by_cases hh : (en.hash == k.hash w) = true
      · rw [if_pos hh]
        refine wpAny_bind (wpAny_dictEpoch ho hd (wpAny_bind (eqb A E _ k' en.key hu g4 g5 (wpAny_bind (wpAny_dictEpoch ho hd ?_)))))
        rw [if_neg (by simp)]
        by_cases hkk : k' = k
        · subst hkk
          rw [NestedKey.beq_self, if_pos rfl]
          rcases h2 with ⟨z1, z2⟩ | ⟨j, z1, z2, z3⟩
          · have z1 : r2 = none := z1
            subst z1
            rw [if_neg (by simp)]
            refine wpAny_bind (wpAny_rule ?_)
            split
            · exact wpAny_pure (wpAny_pure (q.2 x g1))
            · exact wpAny_pure ⟨rfl, rfl, sub, nd2.2, .inr ⟨x, rfl, g1, nd2.1⟩⟩
          · exact absurd (uniq hn z2 g1) fun e => z3 (e ▸ List.mem_cons_self)
        · rw [show NestedKey.beq k' k = false by rw [← NestedKey.decide_eq]; exact decide_eq_false hkk, if_neg (by decide)]
          refine wpAny_bind (wpAny_rule ?_)
          rw [if_neg (by simp)]
          exact wpAny_pure ⟨rfl, rfl, sub, nd2.2, rest hkk⟩
      · rw [if_neg hh]
        refine wpAny_pure ⟨rfl, rfl, sub, nd2.2, rest fun e => hh ?_⟩
        rw [g3, e]
        exact beq_self_eq_true _
    · intro r s' ⟨e1, e2, h1, hnd, h2⟩
      obtain ⟨r1, r2⟩ := r
      have e2 : r1 = none := e2
      subst e1 e2
      rcases h2 with ⟨z1, z2⟩ | ⟨j, z1, z2, z3⟩
      · have z1 : r2 = none := z1
        subst z1
        refine wpAny_pure (q.1 fun hm => ?_)
        obtain ⟨j, hj, e⟩ := List.mem_iff_getElem.mp hm
        exact absurd (z2 j (by rw [List.getElem?_eq_getElem hj, e])) (by simp)
      · have z1 : r2 = some j := z1
        subst z1
        exact wpAny_pure (q.2 j z2)
  have tail : wpAny (model P w) A (do
      let tells ← if pls.filterMap (fun i => es.toArray[i]?.map (·.key)) == [v] then pure false else tableMayTell v (pls.filterMap (fun i => es.toArray[i]?.map (·.key)))
      if tells && (pls.filterMap (fun i => es.toArray[i]?.map (·.key))).length ≥ 2 then unsupported "dict.find:order-among-keys-of-one-hash"
      let mut hit : Option Nat := none
      for i in pls do
        if let some e := es.toArray[i]? then
          if e.hash == k.hash w then
            let before ← dictEpoch d (keyPart v)
            let same ← eqBool e.key v
            if (← dictEpoch d (keyPart v)) != before then unsupported "dict.changed-during-lookup"
            if same then
              if hit.isSome then unsupported "dict.find:order-among-keys-of-one-hash"
              rule "dict.find.hit"
              if (pls.filterMap (fun i => es.toArray[i]?.map (·.key))).length < 2 then return some i
              hit := some i
            else
              rule "dict.find.same-hash-other-key"
              if tells && !(0 ≤ k.hash w && k.hash w < 32) then unsupported "dict.find:asked-again-or-not-hangs-on-the-table"
      return hit) Q E s := by
    by_cases hone : (pls.filterMap (fun i => es.toArray[i]?.map (·.key)) == [v]) = true
    · rw [if_pos hone]
      exact wpAny_bind (wpAny_pure (byLoop false rfl))
    · rw [if_neg hone]
      exact wpAny_bind (noTell hv hdk hst (byLoop false rfl))
  have body : ∀ X : Sem (Option Nat), (¬ ((v :: pls.filterMap (fun i => es.toArray[i]?.map (·.key))).all carriedByValue) = true → wpAny (model P w) A X Q E s) →
      wpAny (model P w) A (if ((v :: pls.filterMap (fun i => es.toArray[i]?.map (·.key))).all carriedByValue) = true then (do
        let r ← dictWalkPlain d v (k.hash w) es.toArray pls
        pure r) else X) Q E s := fun X hX => by
    by_cases hc : ((v :: pls.filterMap (fun i => es.toArray[i]?.map (·.key))).all carriedByValue) = true
    · rw [if_pos hc]
      exact byVal Q fun r h => h
    · rw [if_neg hc]
      exact hX hc
  have hv' := hv
  unfold dictFind
  refine wpAny_holding ?_
  refine wpAny_bind (wpAny_dictEntries ho hd ?_)
  dsimp only
  rw [hpl]
  cases hv with
  | none => exact body _ fun _ => tail
  | bool e => exact body _ fun _ => tail
  | int i t => exact body _ fun _ => tail
  | text x t =>
    dsimp only
    by_cases hs : (es.toArray.all fun e => isExactStrKey e.key) = true
    · rw [if_pos hs]
      have keyAt : ∀ j e, es[j]? = some e → ∃ y : Str, ks[j]? = some (NestedKey.text y) ∧ e.key.isStr x = decide (y = x) ∧ KeyE w s.heap e (NestedKey.text y) := fun j e h => by
        obtain ⟨k', h1, h2⟩ := hk.get h
        have hlt : j < es.toArray.size := by simpa using (List.getElem?_eq_some_iff.mp h).1
        have h3 := Array.all_eq_true.mp hs j hlt
        have h4 : es.toArray[j]'hlt = e := by
          have := (List.getElem?_eq_some_iff.mp h).2
          simpa using this
        rw [h4] at h3
        obtain ⟨hh, key, val⟩ := e
        obtain ⟨g1, g2, g3⟩ := id h2
        have g2 : NestedIs s.heap k' key := g2
        have h3 : isExactStrKey key = true := h3
        cases g2 with
        | none => cases h3
        | bool e => cases h3
        | int i t => cases h3
        | text y u => exact ⟨y, h1, by first | rfl | (simp [Value.isStr]; done) | (simp only [Value.isStr]; by_cases hyx : y = x <;> simp [hyx]), h2⟩
        | tup h1 h2 h3' h4 => cases h3
      unfold foundByValue
      cases hf : es.toArray.findIdx? (fun e => e.key.isStr x) with
      | none =>
        refine wpAny_pure (q.1 fun hm => ?_)
        obtain ⟨j, hj, e⟩ := List.mem_iff_getElem.mp hm
        obtain ⟨en, g1, g2⟩ := hk.get' (show ks[j]? = some (NestedKey.text x) by rw [List.getElem?_eq_getElem hj, e])
        obtain ⟨y, f1, f2, f3⟩ := keyAt j en g1
        rw [List.getElem?_eq_getElem hj, e] at f1
        cases f1
        have := Array.findIdx?_eq_none_iff.mp hf en (by simpa using List.mem_of_getElem? g1)
        rw [f2] at this
        simp at this
      | some i =>
        obtain ⟨hlt, hi, _⟩ := Array.findIdx?_eq_some_iff_getElem.mp hf
        have hget : es[i]? = some (es.toArray[i]'hlt) := by simp
        obtain ⟨y, f1, f2, g1, g2, g3⟩ := keyAt i _ hget
        rw [f2] at hi
        have e : y = x := of_decide_eq_true hi
        subst e
        simp only [Array.getElem?_eq_getElem hlt]
        refine wpAny_bind (wpAny_dictEpoch ho hd (wpAny_bind (eqb A E _ _ _ hu g2 g3 (wpAny_bind (wpAny_dictEpoch ho hd ?_)))))
        rw [if_neg (by simp), NestedKey.beq_self]
        exact wpAny_bind (wpAny_rule (wpAny_pure (q.2 i f1)))
    · rw [if_neg hs]
      exact body _ fun _ => tail
  | tup h1 h2 h3 h4 =>
    rw [if_neg (by simp [carriedByValue])]
    dsimp only
    rw [if_neg ?n]
    · exact tail
    rw [← Array.any_toList, List.any_eq_true]
    rintro ⟨e, hin, hc⟩
    obtain ⟨j, hj, e1⟩ := List.mem_iff_getElem.mp hin
    have e2 : es[j]? = some e := by rw [← e1]; simp
    obtain ⟨k', g1, g2, g3, g4⟩ := hk.get e2
    simp only [Bool.and_eq_true, beq_iff_eq, bne_iff_ne, ne_eq] at hc
    obtain ⟨c1, c2⟩ := hc
    rw [c1] at g3
    exact c2 (by rw [g2, NestedIs.inj _ _ _ g3 hv'])
end
end Py
end
section
set_option autoImplicit false
set_option linter.all false
set_option maxRecDepth 100000
set_option maxHeartbeats 2000000
/-! PyD: dicts of plain data over the layer: in, get, [], a store. -/
namespace Py
open PySem PySem.Spec L2
open Sem (wp)

mutual
theorem nk_depth : ∀ d : D, D.key d = true → (nk d).depth = D.dep d
  | .non, _ => rfl
  | .bl _, _ => rfl
  | .int _, _ => rfl
  | .str _, _ => rfl
  | .tup xs, h => by
    simp only [D.key] at h
    simp only [nk, NestedKey.depth, D.dep, nks_depth xs h]
  | .lst _, h => by simp [D.key] at h
  | .dct _, h => by simp [D.key] at h
  | .fn _, h => by simp [D.key] at h
  | .exc _, h => by simp [D.key] at h
theorem nks_depth : ∀ xs : List D, D.keyAll xs = true → NestedKey.depthAll (nks xs) = D.depAll xs
  | [], _ => rfl
  | x :: xs, h => by
    simp only [D.keyAll, Bool.and_eq_true] at h
    simp only [nks, NestedKey.depthAll, D.depAll, nk_depth x h.1, nks_depth xs h.2]
end
theorem tx_inj {a b : List Nat} (h : tx a = tx b) : a = b := by
  have := congrArg (fun z : Str => z.cps.toList) h
  simpa using this
theorem beq_tx (a b : List Nat) : decide (tx a = tx b) = (a == b) := by
  by_cases h : a = b
  · subst h; simp
  · rw [decide_eq_false fun e => h (tx_inj e)]
    exact (beq_eq_false_iff_ne.mpr h).symm
mutual
theorem eqv_nk : ∀ d e : D, D.key d = true → D.key e = true → D.eqv d e = NestedKey.beq (nk d) (nk e)
  | .non, e, _, he => by cases e <;> simp_all [D.key, D.eqv, nk, NestedKey.beq]
  | .bl a, e, _, he => by
    cases e <;> simp_all [D.key, D.eqv, nk, NestedKey.beq]
    · rename_i b; cases a <;> cases b <;> rfl
    · rename_i b; cases a <;> rfl
  | .int i, e, _, he => by
    cases e <;> simp_all [D.key, D.eqv, nk, NestedKey.beq] <;> rfl
  | .str s, e, _, he => by
    cases e <;> simp_all [D.key, D.eqv, nk, NestedKey.beq]
    rename_i t
    rw [← beq_tx]
    by_cases h : s = t <;> simp [h]
  | .tup xs, e, hd, he => by
    cases e <;> simp_all [D.key, D.eqv, nk, NestedKey.beq]
    rename_i ys
    exact eqvAll_nks xs ys hd he
  | .lst _, _, h, _ => by simp [D.key] at h
  | .dct _, _, h, _ => by simp [D.key] at h
  | .fn _, _, h, _ => by simp [D.key] at h
  | .exc _, _, h, _ => by simp [D.key] at h
theorem eqvAll_nks : ∀ xs ys : List D, D.keyAll xs = true → D.keyAll ys = true → D.eqvAll xs ys = NestedKey.beqAll (nks xs) (nks ys)
  | [], [], _, _ => rfl
  | [], _ :: _, _, _ => rfl
  | _ :: _, [], _, _ => rfl
  | x :: xs, y :: ys, h1, h2 => by
    simp only [D.keyAll, Bool.and_eq_true] at h1 h2
    simp only [D.eqvAll, nks, NestedKey.beqAll, eqv_nk x y h1.1 h2.1, eqvAll_nks xs ys h1.2 h2.2]
end
theorem eqv_iff {d e : D} (hd : D.key d = true) (he : D.key e = true) : D.eqv d e = true ↔ nk d = nk e := by
  rw [eqv_nk d e hd he, ← NestedKey.decide_eq, decide_eq_true_eq]

/-! ### look, put -/
theorem hkey_key {d : D} (h : D.hkey d = true) : D.key d = true := (Bool.and_eq_true_iff.mp h).1
theorem hkey_dep {d : D} (h : D.hkey d = true) : D.dep d ≤ 8 := of_decide_eq_true (Bool.and_eq_true_iff.mp h).2
theorem look_none {k : D} (hk : D.key k = true) : ∀ {kvs : List (D × D)}, (∀ p ∈ kvs, D.key p.1 = true) → nk k ∉ kvs.map (fun p => nk p.1) → look kvs k = none
  | [], _, _ => rfl
  | p :: r, h, n => by
    have hp := h p List.mem_cons_self
    simp only [List.map_cons, List.mem_cons, not_or] at n
    unfold look
    rw [if_neg fun e => n.1 ((eqv_iff hp hk).mp e).symm]
    exact look_none hk (fun q hq => h q (List.mem_cons_of_mem _ hq)) n.2
theorem look_at {k : D} (hk : D.key k = true) : ∀ {kvs : List (D × D)} {j : Nat} {p : D × D}, (∀ p ∈ kvs, D.key p.1 = true) → (kvs.map fun p => nk p.1).Nodup → kvs[j]? = some p → nk p.1 = nk k → look kvs k = some p.2
  | [], _, _, _, _, e, _ => by simp at e
  | q :: r, 0, p, h, n, e, ek => by
    simp at e; subst e
    unfold look
    rw [if_pos ((eqv_iff (h q List.mem_cons_self) hk).mpr ek)]
  | q :: r, j + 1, p, h, n, e, ek => by
    simp only [List.map_cons, List.nodup_cons] at n
    have e' : r[j]? = some p := by simpa using e
    unfold look
    rw [if_neg]
    · exact look_at hk (fun q hq => h q (List.mem_cons_of_mem _ hq)) n.2 e' ek
    · intro z
      have z' := (eqv_iff (h q List.mem_cons_self) hk).mp z
      exact n.1 (List.mem_map.mpr ⟨p, List.mem_of_getElem? e', by rw [ek, z']⟩)
theorem put_new {k v : D} (hk : D.key k = true) : ∀ {kvs : List (D × D)}, (∀ p ∈ kvs, D.key p.1 = true) → nk k ∉ kvs.map (fun p => nk p.1) → put kvs k v = kvs ++ [(k, v)]
  | [], _, _ => rfl
  | p :: r, h, n => by
    have hp := h p List.mem_cons_self
    simp only [List.map_cons, List.mem_cons, not_or] at n
    unfold put
    rw [if_neg fun e => n.1 ((eqv_iff hp hk).mp e).symm, put_new hk (fun q hq => h q (List.mem_cons_of_mem _ hq)) n.2]
    rfl
theorem put_at {k v : D} (hk : D.key k = true) : ∀ {kvs : List (D × D)} {j : Nat} {p : D × D}, (∀ p ∈ kvs, D.key p.1 = true) → (kvs.map fun p => nk p.1).Nodup → kvs[j]? = some p → nk p.1 = nk k → put kvs k v = kvs.set j (p.1, v)
  | [], _, _, _, _, e, _ => by simp at e
  | q :: r, 0, p, h, n, e, ek => by
    simp at e; subst e
    unfold put
    rw [if_pos ((eqv_iff (h q List.mem_cons_self) hk).mpr ek)]
    rfl
  | q :: r, j + 1, p, h, n, e, ek => by
    simp only [List.map_cons, List.nodup_cons] at n
    have e' : r[j]? = some p := by simpa using e
    unfold put
    rw [if_neg]
    · rw [put_at hk (fun q hq => h q (List.mem_cons_of_mem _ hq)) n.2 e' ek]
      rfl
    · intro z
      have z' := (eqv_iff (h q List.mem_cons_self) hk).mp z
      exact n.1 (List.mem_map.mpr ⟨p, List.mem_of_getElem? e', by rw [ek, z']⟩)
theorem put_keys {k v : D} (hk : D.key k = true) : ∀ {kvs : List (D × D)}, (∀ p ∈ kvs, D.key p.1 = true) → (kvs.map fun p => nk p.1).Nodup → ((put kvs k v).map fun p => nk p.1).Nodup
  | kvs, h, n => by
    by_cases hm : nk k ∈ kvs.map fun p => nk p.1
    · obtain ⟨j, hj, e⟩ := List.mem_iff_getElem.mp hm
      have hj' : j < kvs.length := by simpa using hj
      have e2 : nk kvs[j].1 = nk k := by simpa using e
      rw [put_at hk h n (List.getElem?_eq_getElem hj') e2, List.map_set]
      have e3 : (kvs.map fun p => nk p.1).set j (nk kvs[j].1) = kvs.map fun p => nk p.1 := by
        apply List.ext_getElem?
        intro i
        rw [List.getElem?_set]
        split
        · rename_i hij
          subst hij
          simp [hj']
        · rfl
      rw [e3]
      exact n
    · rw [put_new hk h hm, List.map_append, List.nodup_append]
      refine ⟨n, by simp, fun a ha b hb e => ?_⟩
      simp only [List.map_cons, List.map_nil, List.mem_singleton] at hb
      subst hb
      exact hm (e ▸ ha)
theorem put_length (kvs : List (D × D)) (k v : D) : (put kvs k v).length ≤ kvs.length + 1 := by
  induction kvs with
  | nil => simp [put]
  | cons p r ih =>
    unfold put
    split
    · simp
    · simp only [List.length_cons]; omega

theorem rel_inj {v v' : V} {u : Value} (a : RelV v u) (b : RelV v' u) : v = v' := by
  cases v <;> cases v' <;> simp only [RelV] at a b <;> (try (obtain ⟨t, rfl⟩ := a)) <;> (try (obtain ⟨t', e⟩ := b)) <;> (try subst a) <;> (try cases e) <;> (try cases b) <;> rfl
/-! ### what the heap has -/
section
variable {G : Gx} {X : Cx} {pins : List (Addr × Obj)} {σ : St} {H : Hp} {s : Shared}
structure GOk (G : Gx) (X : Cx) : Prop where
  P : X.prog = G.P
  w : X.w = G.w
  K : X.K = G.K
mutual
theorem nested_of (g : GOk G X) (I : Inv X pins σ H s) : ∀ (d : D) (v : V) (u : Value), RepV G H d v → D.key d = true → RelV v u → NestedIs s.heap (nk d) u
  | .non, _, _, h, _, r => by cases h; cases r; exact .none
  | .bl b, _, _, h, _, r => by cases h; cases r; exact .bool rfl
  | .int i, _, _, h, _, r => by cases h; obtain ⟨t, rfl⟩ := r; exact .int i t
  | .str x, _, _, h, _, r => by
    cases h
    obtain ⟨t, rfl⟩ := (show ∃ t, _ = Value.str (tx x) t from r)
    exact .text _ t
  | .tup ds, _, _, h, k, r => by
    cases h with
    | tup q ra =>
      cases r
      rw [← g.K] at q
      obtain ⟨its, rv, ⟨o, h1, h2, n, h3⟩, _⟩ := I.tuple q
      exact .tup h1 h2 h3 (nested_all g I ds _ its ra (by simpa [D.key] using k) rv)
  | .lst _, _, _, _, k, _ => by simp [D.key] at k
  | .dct _, _, _, _, k, _ => by simp [D.key] at k
  | .fn _, _, _, _, k, _ => by simp [D.key] at k
  | .exc _, _, _, _, k, _ => by simp [D.key] at k
theorem nested_all (g : GOk G X) (I : Inv X pins σ H s) : ∀ (ds : List D) (vs : List V) (us : List Value), RepAll G H ds vs → D.keyAll ds = true → Vals vs us → NestedAll s.heap (nks ds) us
  | [], _, _, h, _, r => by cases h; cases r; exact .nil
  | d :: ds, _, _, h, k, r => by
    cases h with
    | cons h1 h2 =>
      cases r with
      | cons r1 r2 =>
        simp only [D.keyAll, Bool.and_eq_true] at k
        exact .cons (nested_of g I d _ _ h1 k.1 r1) (nested_all g I ds _ _ h2 k.2 r2)
end
theorem keyed_of (g : GOk G X) (I : Inv X pins σ H s) : ∀ {es : List DictEntry} {kvs : List (D × D)}, RepEs G H es kvs → Keyed X.w s.heap es (kvs.map fun p => nk p.1)
  | _, _, .nil => .nil
  | _, _, .cons h1 h2 h3 h4 h5 h6 h7 => .cons ⟨by rw [g.w]; exact h1, nested_of g I _ _ _ h4 (hkey_key h6) h2, by rw [nk_depth _ (hkey_key h6)]; exact hkey_dep h6⟩ (keyed_of g I h7)
theorem RepEs.key : ∀ {es : List DictEntry} {kvs : List (D × D)}, RepEs G H es kvs → ∀ p ∈ kvs, D.key p.1 = true
  | _, _, .nil, p, h => by simp at h
  | _, _, .cons _ _ _ _ _ h6 h7, p, h => by
    rcases List.mem_cons.mp h with e | h
    · rw [e]; exact hkey_key h6
    · exact RepEs.key h7 p h
theorem RepEs.at : ∀ {es : List DictEntry} {kvs : List (D × D)} {j : Nat} {e : DictEntry}, RepEs G H es kvs → es[j]? = some e → ∃ p kv vv, kvs[j]? = some p ∧ RelV kv e.key ∧ RelV vv e.val ∧ RepV G H p.1 kv ∧ RepV G H p.2 vv ∧ e.hash = (nk p.1).hash G.w ∧ D.hkey p.1 = true
  | _, _, _, _, .nil, q => by simp at q
  | _, _, 0, _, .cons h1 h2 h3 h4 h5 h6 _, q => by simp at q; subst q; exact ⟨_, _, _, rfl, h2, h3, h4, h5, h1, h6⟩
  | _, _, j + 1, e, .cons _ _ _ _ _ _ t, q => by
    obtain ⟨p, kv, vv, h1, h2⟩ := RepEs.at (j := j) (e := e) t (by simpa using q)
    exact ⟨p, kv, vv, by simpa using h1, h2⟩
theorem RepEs.set {d : D} {vv : V} {u : Value} (r : RepV G H d vv) (ru : RelV vv u) : ∀ {es : List DictEntry} {kvs : List (D × D)} {j : Nat} {p : D × D}, RepEs G H es kvs → kvs[j]? = some p → RepEs G H (es.modify j fun e => { e with val := u }) (kvs.set j (p.1, d))
  | _, _, _, _, .nil, q => by simp at q
  | _, _, 0, _, .cons h1 h2 h3 h4 h5 h6 t, q => by
    simp at q; subst q
    exact .cons h1 h2 ru h4 r h6 t
  | _, _, j + 1, p, .cons h1 h2 h3 h4 h5 h6 t, q => by
    have q' := RepEs.set r ru (j := j) (p := p) t (by simpa using q)
    exact .cons h1 h2 h3 h4 h5 h6 q'
theorem RepEs.snoc {k d : D} {kv vv : V} {uk uv : Value} (hk : D.hkey k = true) (rk : RepV G H k kv) (rd : RepV G H d vv) (r1 : RelV kv uk) (r2 : RelV vv uv) : ∀ {es : List DictEntry} {kvs : List (D × D)}, RepEs G H es kvs → RepEs G H (es ++ [⟨(nk k).hash G.w, uk, uv⟩]) (kvs ++ [(k, d)])
  | _, _, .nil => .cons rfl r1 r2 rk rd hk .nil
  | _, _, .cons h1 h2 h3 h4 h5 h6 t => .cons h1 h2 h3 h4 h5 h6 (RepEs.snoc hk rk rd r1 r2 t)

/-- the dict's object -/
def DictAt (h : Heap) (a : Addr) (es : List DictEntry) : Prop := ∃ o ep, h.get? a = some o ∧ o.ExactDict ∧ o.data = .dict es.toArray ep
theorem dict_ob (I : Inv X pins σ H s) {a : Addr} {es : List DictEntry} {ep : Nat} (e : H a = some (dctO a es ep)) : ∃ o, s.heap.get? a = some o ∧ o.ExactDict ∧ o.data = .dict es.toArray ep := (I.hok a _ e).1
theorem dict_at (I : Inv X pins σ H s) {a : Addr} {es : List DictEntry} {ep : Nat} (e : H a = some (dctO a es ep)) : DictAt s.heap a es := let ⟨o, h⟩ := dict_ob I e; ⟨o, ep, h⟩
theorem DictAt.typeIs {a : Addr} {es : List DictEntry} (h : DictAt s.heap a es) : s.TypeIs (.ref a) "dict" := let ⟨o, _, h1, h2, _⟩ := h; ⟨o, h1, h2.1⟩

/-- the answer of a look-up -/
theorem get_nk {A : Around} {E : Value → Shared → Prop} {a : Addr} {es : List DictEntry} {ep0 : Nat} {kvs : List (D × D)} {k : D} {kv : V} {u : Value} {Q : Option Value → Shared → Prop} (g : GOk G X) (I : Inv X pins σ H s) (hu : A.units + 8 < cLine)
    (e : H a = some (dctO a es ep0)) (hn : (kvs.map fun p => nk p.1).Nodup) (r : RepEs G H es kvs) (hk : D.hkey k = true) (rk : RepV G H k kv) (ru : RelV kv u)
    (q : ∀ s', Inv X pins σ H s' → (match look kvs k with
      | none => Q none s'
      | some d => ∀ vv uv, RelV vv uv → (∀ Hf : Hp, RepEs G Hf es kvs → RepV G Hf d vv) → Q (some uv) s')) :
    wpAny (model X.prog X.w) A (dictGet a u) Q E s := by
  obtain ⟨o, ep, h1, h2, h3⟩ := dict_at I e
  have hv := nested_of g I k kv u rk (hkey_key hk) ru
  have hd : (nk k).depth ≤ 8 := by rw [nk_depth _ (hkey_key hk)]; exact hkey_dep hk
  unfold dictGet
  refine wpAny_holding ?_
  refine wpAny_bind (pyHash_key (nk k) u A s _ hv (by omega) ?_)
  have I2 : Inv X pins σ H { s with toks := s.toks + (nk k).draws } := I.tok _
  have q2 := q _ I2
  refine wpAny_bind (find_nk (s := { s with toks := s.toks + (nk k).draws }) (o := o) (ep := ep) hu hv hd h1 h3 (keyed_of g I r) hn ⟨fun hm => ?_, fun j hj => ?_⟩)
  · rw [look_none (hkey_key hk) r.key hm] at q2
    exact wpAny_pure q2
  · obtain ⟨p, hp, hpk⟩ : ∃ p, kvs[j]? = some p ∧ nk p.1 = nk k := by
      rw [List.getElem?_map] at hj
      cases z : kvs[j]? with
      | none => rw [z] at hj; cases hj
      | some p => rw [z] at hj; exact ⟨p, rfl, Option.some.inj hj⟩
    rw [look_at (hkey_key hk) r.key hn hp hpk] at q2
    have hlt : j < es.length := by
      rw [r.length]
      exact (List.getElem?_eq_some_iff.mp hp).1
    obtain ⟨p', kv', vv, f1, f2, f3, f4, f5, f6, f7⟩ := r.at (List.getElem?_eq_getElem hlt)
    rw [hp] at f1
    cases f1
    refine wpAny_bind (wpAny_dictEntries (s := { s with toks := s.toks + (nk k).draws }) h1 h3 ?_)
    rw [show es.toArray[j]? = some es[j] by simp [hlt]]
    refine wpAny_pure (q2 vv _ f3 fun Hf rf => ?_)
    obtain ⟨p'', kv'', vv'', g1, g2, g3, g4, g5, _⟩ := rf.at (List.getElem?_eq_getElem hlt)
    rw [hp] at g1
    cases g1
    have e : vv'' = vv := rel_inj g3 f3
    rw [← e]
    exact g5
end
end Py
end
section
set_option autoImplicit false
set_option linter.all false
set_option maxRecDepth 100000
set_option maxHeartbeats 2000000
/-! PyE: dicts of plain data: in, not in, d[k], get, d[k] = v at the model's level, over the layer's state. -/
namespace Py
open PySem PySem.Spec L2
open Sem (wp)

section
variable {G : Gx} {X : Cx} {pins : List (Addr × Obj)} {σ : St} {H Hf : Hp} {s : Shared}
variable {A : Around} {E : Value → Shared → Prop} {a : Addr} {es : List DictEntry} {kvs : List (D × D)} {k : D} {kv : V} {u : Value}

/-- what an asker gets -/
def Got (X : Cx) (G : Gx) (pins : List (Addr × Obj)) (σ : St) (H : Hp) (es : List DictEntry) (kvs : List (D × D)) (k : D) (Qn : Shared → Prop) (Qs : D → V → Value → Shared → Prop) : Prop :=
  ∀ s', Inv X pins σ H s' → (match look kvs k with
    | none => Qn s'
    | some d => ∀ vv uv, RelV vv uv → (∀ Hf : Hp, RepEs G Hf es kvs → RepV G Hf d vv) → Qs d vv uv s')

theorem look_cases {kvs : List (D × D)} {k : D} {Pn : Prop} {Ps : D → Prop} (h : match look kvs k with
    | none => Pn
    | some d => Ps d) : (look kvs k = none ∧ Pn) ∨ ∃ d, look kvs k = some d ∧ Ps d := by
  cases e : look kvs k with
  | none => rw [e] at h; exact .inl ⟨rfl, h⟩
  | some d => rw [e] at h; exact .inr ⟨d, rfl, h⟩

theorem dget_got {ep0 : Nat} {Qn : Shared → Prop} {Qs : D → V → Value → Shared → Prop} {Q : Option Value → Shared → Prop} (g : GOk G X) (I : Inv X pins σ H s) (hu : A.units + 8 < cLine) (e : H a = some (dctO a es ep0)) (hn : (kvs.map fun p => nk p.1).Nodup) (r : RepEs G H es kvs) (hk : D.hkey k = true) (rk : RepV G H k kv) (ru : RelV kv u)
    (q : Got X G pins σ H es kvs k Qn Qs) (h1 : ∀ s', look kvs k = none → Qn s' → Q none s') (h2 : ∀ s' d vv uv, look kvs k = some d → Qs d vv uv s' → Q (some uv) s') : wpAny (model X.prog X.w) A (dictGet a u) Q E s := by
  refine get_nk g I hu e hn r hk rk ru fun s' I' => ?_
  have z := q s' I'
  cases el : look kvs k with
  | none => rw [el] at z; exact h1 s' el z
  | some d => rw [el] at z; exact fun vv uv rv rr => h2 s' d vv uv el (z vv uv rv rr)

theorem in_nk {ep0 : Nat} {Q : Value → Shared → Prop} (g : GOk G X) (I : Inv X pins σ H s) (hu : A.units + 9 < cLine) (e : H a = some (dctO a es ep0)) (hd : (a == sysModules) = false) (hn : (kvs.map fun p => nk p.1).Nodup) (r : RepEs G H es kvs) (hk : D.hkey k = true) (rk : RepV G H k kv) (ru : RelV kv u)
    (q : ∀ s', Inv X pins σ H s' → Q (.bool (look kvs k).isSome) s') : wpAny (model X.prog X.w) A (compareOp .In u (.ref a)) Q E s := by
  have T := (dict_at I e).typeIs
  show wpAny _ A (contains (.ref a) u >>= fun b => pure (Value.bool b)) Q E s
  refine wpAny_bind (wpAny_contains_slot T F.slot_dict_contains ?_)
  refine wpAny_call (codeAny_call_builtin F.slot_dict_contains.plain F.entry_dict_contains (F.slot_dict_contains.check _ _ _ _ _ _ _ _ T (F.args_dict_contains_2 _ _) ?_))
  show wpAny _ _ (dictGet a u >>= _) _ _ s
  refine wpAny_bind (dget_got (A := A.in1) (Qn := fun s' => Q (.bool false) s') (Qs := fun _ _ _ s' => Q (.bool true) s') g I (by show A.units + 1 + 8 < cLine; omega) e hn r hk rk ru (fun s' I' => ?_) (fun s' el z => ?_) fun s' d vv uv el z => ?_)
  · have z := q s' I'
    cases el : look kvs k with
    | none => rw [el] at z; exact z
    | some d => rw [el] at z; exact fun _ _ _ _ => z
  · exact wpAny_bind (wpAny_pendingKey_other hd (wpAny_pure (wpAny_truthy_bool (wpAny_pure z))))
  · exact wpAny_pure (wpAny_truthy_bool (wpAny_pure z))
theorem notIn_nk {ep0 : Nat} {Q : Value → Shared → Prop} (g : GOk G X) (I : Inv X pins σ H s) (hu : A.units + 9 < cLine) (e : H a = some (dctO a es ep0)) (hd : (a == sysModules) = false) (hn : (kvs.map fun p => nk p.1).Nodup) (r : RepEs G H es kvs) (hk : D.hkey k = true) (rk : RepV G H k kv) (ru : RelV kv u)
    (q : ∀ s', Inv X pins σ H s' → Q (.bool (!(look kvs k).isSome)) s') : wpAny (model X.prog X.w) A (compareOp .NotIn u (.ref a)) Q E s := by
  have T := (dict_at I e).typeIs
  show wpAny _ A (contains (.ref a) u >>= fun b => pure (Value.bool (!b))) Q E s
  refine wpAny_bind (wpAny_contains_slot T F.slot_dict_contains ?_)
  refine wpAny_call (codeAny_call_builtin F.slot_dict_contains.plain F.entry_dict_contains (F.slot_dict_contains.check _ _ _ _ _ _ _ _ T (F.args_dict_contains_2 _ _) ?_))
  show wpAny _ _ (dictGet a u >>= _) _ _ s
  refine wpAny_bind (dget_got (A := A.in1) (Qn := fun s' => Q (.bool true) s') (Qs := fun _ _ _ s' => Q (.bool false) s') g I (by show A.units + 1 + 8 < cLine; omega) e hn r hk rk ru (fun s' I' => ?_) (fun s' el z => ?_) fun s' d vv uv el z => ?_)
  · have z := q s' I'
    cases el : look kvs k with
    | none => rw [el] at z; exact z
    | some d => rw [el] at z; exact fun _ _ _ _ => z
  · exact wpAny_bind (wpAny_pendingKey_other hd (wpAny_pure (wpAny_truthy_bool (wpAny_pure z))))
  · exact wpAny_pure (wpAny_truthy_bool (wpAny_pure z))
theorem item_nk {ep0 : Nat} {Q : Value → Shared → Prop} {d : D} (g : GOk G X) (I : Inv X pins σ H s) (hu : A.units + 9 < cLine) (e : H a = some (dctO a es ep0)) (hn : (kvs.map fun p => nk p.1).Nodup) (r : RepEs G H es kvs) (hk : D.hkey k = true) (rk : RepV G H k kv) (ru : RelV kv u) (hl : look kvs k = some d)
    (q : ∀ s' vv uv, Inv X pins σ H s' → RelV vv uv → (∀ Hf : Hp, RepEs G Hf es kvs → RepV G Hf d vv) → Q uv s') : wpAny (model X.prog X.w) A (getItem (.ref a) u) Q E s := by
  have T := (dict_at I e).typeIs
  unfold getItem
  refine wpAny_holding (wpAny_bind (wpAny_sequenceKey T (by decide) ?_))
  refine wpAny_bind (wpAny_callSpecial?_slot (name := Str.ofString "__getitem__") T F.slot_dict_getitem (wpAny_call_entry F.slot_dict_getitem T F.entry_dict_getitem ?_ (F.args_dict_getitem_2 _ _)))
  show wpAny _ _ (dictGet a u >>= _) _ _ s
  refine wpAny_bind (dget_got (A := A.in1) (Qn := fun _ => False) (Qs := fun _ _ uv s' => Q uv s') g I (by show A.units + 1 + 8 < cLine; omega) e hn r hk rk ru (fun s' I' => ?_) (fun s' el z => z.elim) fun s' d vv uv el z => ?_)
  · rw [hl]
    exact fun vv uv rv rr => q s' vv uv I' rv rr
  · exact wpAny_pure ⟨uv, rfl, wpAny_pure z⟩
theorem get1_nk {ep0 : Nat} {Q : Value → Shared → Prop} (g : GOk G X) (I : Inv X pins σ H s) (hu : A.units + 9 < cLine) (e : H a = some (dctO a es ep0)) (hd : (a == sysModules) = false) (hn : (kvs.map fun p => nk p.1).Nodup) (r : RepEs G H es kvs) (hk : D.hkey k = true) (rk : RepV G H k kv) (ru : RelV kv u)
    (q1 : look kvs k = none → ∀ s', Inv X pins σ H s' → Q .none s') (q2 : ∀ d, look kvs k = some d → ∀ s' vv uv, Inv X pins σ H s' → RelV vv uv → (∀ Hf : Hp, RepEs G Hf es kvs → RepV G Hf d vv) → Q uv s') : wpAny (model X.prog X.w) A (call (.builtin "dict.get") [.ref a, u]) Q E s := by
  have T := (dict_at I e).typeIs
  refine wpAny_call (codeAny_call_builtin F.slot_dict_get.plain F.entry_dict_get (F.slot_dict_get.check _ _ _ _ _ _ _ _ T (F.args_dict_get_2 _ _) ?_))
  show wpAny _ _ (dictGet a u >>= _) _ _ s
  refine wpAny_bind (dget_got (A := A.in1) (Qn := fun s' => Q .none s') (Qs := fun _ _ uv s' => Q uv s') g I (by show A.units + 1 + 8 < cLine; omega) e hn r hk rk ru (fun s' I' => ?_) (fun s' el z => ?_) fun s' d vv uv el z => ?_)
  · cases el : look kvs k with
    | none => exact q1 el s' I'
    | some d => exact fun vv uv rv rr => q2 d el s' vv uv I' rv rr
  · exact wpAny_bind (wpAny_missed_other hd (wpAny_pure z))
  · exact wpAny_pure z
theorem get2_nk {ep0 : Nat} {Q : Value → Shared → Prop} {dflt : Value} (g : GOk G X) (I : Inv X pins σ H s) (hu : A.units + 9 < cLine) (e : H a = some (dctO a es ep0)) (hd : (a == sysModules) = false) (hn : (kvs.map fun p => nk p.1).Nodup) (r : RepEs G H es kvs) (hk : D.hkey k = true) (rk : RepV G H k kv) (ru : RelV kv u)
    (q1 : look kvs k = none → ∀ s', Inv X pins σ H s' → Q dflt s') (q2 : ∀ d, look kvs k = some d → ∀ s' vv uv, Inv X pins σ H s' → RelV vv uv → (∀ Hf : Hp, RepEs G Hf es kvs → RepV G Hf d vv) → Q uv s') : wpAny (model X.prog X.w) A (call (.builtin "dict.get") [.ref a, u, dflt]) Q E s := by
  have T := (dict_at I e).typeIs
  refine wpAny_call (codeAny_call_builtin F.slot_dict_get.plain F.entry_dict_get (F.slot_dict_get.check _ _ _ _ _ _ _ _ T (F.args_dict_get_3 _ _ _) ?_))
  show wpAny _ _ (dictGet a u >>= _) _ _ s
  refine wpAny_bind (dget_got (A := A.in1) (Qn := fun s' => Q dflt s') (Qs := fun _ _ uv s' => Q uv s') g I (by show A.units + 1 + 8 < cLine; omega) e hn r hk rk ru (fun s' I' => ?_) (fun s' el z => ?_) fun s' d vv uv el z => ?_)
  · cases el : look kvs k with
    | none => exact q1 el s' I'
    | some d => exact fun vv uv rv rr => q2 d el s' vv uv I' rv rr
  · exact wpAny_bind (wpAny_missed_other hd (wpAny_pure z))
  · exact wpAny_pure z

/-- d[k] = v -/
theorem set_nk {ep0 : Nat} {d : D} {vv : V} {uv : Value} {Q : Unit → Shared → Prop} {Hv : Hp} (g : GOk G X) (I : Inv X pins σ H s) (hu : A.units + 9 < cLine) (e : H a = some (dctO a es ep0)) (hn : (kvs.map fun p => nk p.1).Nodup) (hl : kvs.length ≤ LIM) (r : RepEs G H es kvs) (hk : D.hkey k = true) (rk : RepV G H k kv) (ru : RelV kv u) (rv : RelV vv uv)
    (q : ∀ s' es' ep', Inv X pins σ (upd H a (dctO a es' ep')) s' → (∀ Hf : Hp, RepEs G Hf es kvs → RepV G Hf k kv → RepV G Hf d vv → RepEs G Hf es' (put kvs k d)) → Q () s') : wpAny (model X.prog X.w) A (setItem (.ref a) u uv) Q E s := by
  have T := (dict_at I e).typeIs
  obtain ⟨o, h1, h2, h3⟩ := dict_ob I e
  have hv := nested_of g I k kv u rk (hkey_key hk) ru
  have hdp : (nk k).depth ≤ 8 := by rw [nk_depth _ (hkey_key hk)]; exact hkey_dep hk
  unfold setItem
  refine wpAny_holding (wpAny_bind (wpAny_sequenceKey T (by decide) ?_))
  refine wpAny_bind (wpAny_callSpecial?_slot (name := Str.ofString "__setitem__") T F.slot_dict_setitem (wpAny_call_entry F.slot_dict_setitem T F.entry_dict_setitem ?_ (F.args_dict_setitem_3 _ _ _)))
  show wpAny _ _ (Builtin.Dict.notOrdered "__setitem__" ⟨[.ref a, u, uv], []⟩ >>= _) _ _ s
  refine wpAny_bind (wpAny_notOrdered_dict T ?_)
  have big : es.toArray.size ≤ sizeLine := by
    rw [List.size_toArray, r.length, ← LIM_eq]
    exact hl
  have wr : ∀ (h' : Heap) (t : Nat) (es' : List DictEntry) (ep' : Nat), Heap.SameBut a s.heap h' → (∃ o, h'.get? a = some o ∧ o.ExactDict ∧ o.data = .dict es'.toArray ep') → Inv X pins σ (upd H a (dctO a es' ep')) { s with heap := h', toks := t } := fun h' t es' ep' sb ⟨o', z1, z2, z3⟩ =>
    I.write (x := a) (e := a) (by rw [e]; exact True.intro) (.inl rfl) (fun b q hb z => (sb.2 b hb).trans z) ⟨o', z1⟩
      ⟨⟨o', z1, z2, z3⟩, ⟨o', z1⟩, fun g1 g2 ⟨o2, y1, y2, y3⟩ kp => ⟨o2, kp o2 y1, y2, y3⟩⟩
  show wpAny _ _ (dictSet a u uv >>= _) _ _ s
  refine wpAny_bind ?_
  unfold dictSet
  refine wpAny_holding (wpAny_bind (pyHash_key (nk k) u A.in1 s _ hv (by show A.units + 1 + _ < cLine; omega) ?_))
  unfold dictSetHashed
  refine wpAny_holding (wpAny_bind (find_nk (A := A.in1) (s := { s with toks := s.toks + (nk k).draws }) (o := o) (ep := ep0) (by show A.units + 1 + 8 < cLine; omega) hv hdp h1 h3 (keyed_of g I r) hn ⟨fun hm => ?_, fun j hj => ?_⟩))
  · refine wpAny_bind (wpAny_rule (wpAny_updateDictKeys (hz := big) (s := { s with toks := s.toks + (nk k).draws }) h1 h3 (wpAny_pure ⟨.none, rfl, wpAny_pure (q _ (es ++ [⟨(nk k).hash G.w, u, uv⟩]) (ep0 + 1) (wr _ _ _ _ (Heap.SameBut.update ..) ⟨_, Heap.get?_update_self _ h1 (Obj.isFreed_of_dict (Obj.data_mapDictKeys h3 _)), h2.mapDictKeys _, ?_⟩) fun Hf f1 f2 f3 => ?_)⟩)))
    · rw [Obj.data_mapDictKeys h3, g.w]
      simp
    · rw [put_new (hkey_key hk) r.key hm]
      exact f1.snoc hk f2 f3 ru rv
  · obtain ⟨p, hp, hpk⟩ : ∃ p, kvs[j]? = some p ∧ nk p.1 = nk k := by
      rw [List.getElem?_map] at hj
      cases z : kvs[j]? with
      | none => rw [z] at hj; cases hj
      | some p => rw [z] at hj; exact ⟨p, rfl, Option.some.inj hj⟩
    refine wpAny_bind (wpAny_rule (wpAny_bind (wpAny_updateDict (s := { s with toks := s.toks + (nk k).draws }) h1 h3 (wpAny_point (wpAny_pure ⟨.none, rfl, wpAny_pure (q _ (es.modify j fun e => { e with val := uv }) ep0 (wr _ _ _ _ (Heap.SameBut.update ..) ⟨_, Heap.get?_update_self _ h1 (Obj.isFreed_of_dict (Obj.data_mapDict h3 _)), h2.mapDict _, ?_⟩) fun Hf f1 f2 f3 => ?_)⟩)))))
    · rw [Obj.data_mapDict h3]
      congr 1
      apply Array.toList_inj.mp
      simp
    · rw [put_at (hkey_key hk) r.key hn hp hpk]
      exact f1.set f3 rv hp
end
end Py
end
section
set_option autoImplicit false
set_option linter.all false
set_option maxRecDepth 100000
set_option maxHeartbeats 2000000
/-! PyF: the operators keep what the data says. -/
namespace Py
open PySem PySem.Spec L2
open Sem (wp)

section
variable {G : Gx} {A : Addr → Bool} {H : Hp} {q : Addr} {ds : List D} {vs : List V} {fr : Bool}
theorem same_upd {o : HO} (h : H q = none) : Same H (upd H q o) := fun b x e => by
  rw [upd_ne (ne_of_none e h)]
  exact e
theorem Prot.new (p : Prot A H) (h : H q = none) : A q = false := by
  cases e : A q with
  | false => rfl
  | true =>
    rcases p q e with ⟨vs, z⟩ | ⟨es, ep, z⟩
    · rw [h] at z; cases z
    · rw [h] at z; cases z
theorem same_add {o : HO} (h : H q = none) : Same (Hide H A) (Hide (upd H q o) (addA A q)) := fun b x e => by
  have hb : b ≠ q := fun z => by
    subst z
    rw [Hide.le _ _ e] at h
    cases h
  unfold Hide at e ⊢
  split at e
  · cases e
  · rename_i hA
    have : ¬ (addA A q b = true) := by
      unfold addA
      simp only [Bool.or_eq_true, beq_iff_eq, not_or]
      exact ⟨hA, hb⟩
    rw [if_neg this, upd_ne hb]
    exact e
theorem mk_lst (p : Prot A H) (h : H q = none) (r : RepAll G (Hide H A) ds vs) : MA G A H fr (.lst ds) (.ref q) (upd H q (.lst vs)) := by
  refine ⟨.lst (.inl (.inl ?_)) (r.mono (Hide.mono (same_upd h))), fun _ _ => ⟨q, rfl, h, .inl ⟨ds, vs, rfl, upd_same, r.mono (same_add h)⟩⟩⟩
  rw [Hide.at (p.new h), upd_same]
theorem mk_tup (p : Prot A H) (h : H q = none) (r : RepAll G (Hide H A) ds vs) : MA G A H fr (.tup ds) (.ref q) (upd H q (.tup vs)) := by
  refine ⟨.tup (.inl (.inl ?_)) (r.mono (Hide.mono (same_upd h))), fun _ z => by cases z⟩
  rw [Hide.at (p.new h), upd_same]
theorem mk_dct {kvs : List (D × D)} {es : List DictEntry} {ep : Nat} (p : Prot A H) (h : H q = none) (hs : (q == sysModules) = false) (hn : (kvs.map fun p => nk p.1).Nodup) (hl : kvs.length ≤ LIM) (r : RepEs G (Hide H A) es kvs) :
    MA G A H fr (.dct kvs) (.ref q) (upd H q (dctO q es ep)) := by
  refine ⟨.dct (es := es) (ep := ep) ?_ hs hn hl (r.mono (Hide.mono (same_upd h))), fun _ _ => ⟨q, rfl, h, .inr ⟨kvs, es, ep, rfl, upd_same, hs, hn, hl, r.mono (same_add h)⟩⟩⟩
  rw [Hide.at (p.new h), upd_same]
/-- what is no list or dict -/
theorem mk_flat {H0 : Hp} {d : D} {v : V} (h : D.isL d = false) (r : RepV G (Hide H A) d v) : MA G A H0 fr d v H := ⟨r, fun _ z => by rw [h] at z; cases z⟩
theorem mk_int {i : Int} {H0 : Hp} : MA G A H0 fr (.int i) (.int i) H := mk_flat rfl (.int i)
theorem mk_bl {b : Bool} {H0 : Hp} : MA G A H0 fr (.bl b) (.bl b) H := mk_flat rfl (.bl b)
theorem mk_non {H0 : Hp} : MA G A H0 fr .non .non H := mk_flat rfl .non
theorem mk_str {H0 : Hp} {s : List Nat} (k : SOk s) : MA G A H0 fr (.str s) (sV s) H := mk_flat rfl (.str k)
/-- an item of what stands -/
theorem mk_item {H0 : Hp} {d : D} {v : V} (r : RepV G (Hide H A) d v) : MA G A H0 false d v H := ⟨r, fun z => nomatch z⟩
end

/-- what is wanted of an answer -/
abbrev Want (G : Gx) (A : Addr → Bool) (H : Hp) (fr : Bool) (r : D) (Q : VK) : Prop := ∀ v H', Same H H' → MA G A H fr r v H' → Q v H'

/-- an operation of two values computes g -/
def Op2 (G : Gx) (X : Cx) (fr : Bool) (f : Value → Value → Sem Value) (g : D → D → Out D) : Prop :=
  ∀ (A : Addr → Bool) (pins : List (Addr × Obj)) (s : Shared) (σ : L2.St) (H : Hp) (x y : V) (v u : Value) (d e r : D) (Q : VK), Inv X pins σ H s → Prot A H → RelV x v → RelV y u → RepT G A H d x → RepT G A H e y → g d e = .val r → Want G A H fr r Q →
    wpAny (model X.prog X.w) X.A (f v u) (EP X pins σ Q) X.xe s
def Op1 (G : Gx) (X : Cx) (fr : Bool) (f : Value → Sem Value) (g : D → Out D) : Prop :=
  ∀ (A : Addr → Bool) (pins : List (Addr × Obj)) (s : Shared) (σ : L2.St) (H : Hp) (x : V) (v : Value) (d r : D) (Q : VK), Inv X pins σ H s → Prot A H → RelV x v → RepT G A H d x → g d = .val r → Want G A H fr r Q →
    wpAny (model X.prog X.w) X.A (f v) (EP X pins σ Q) X.xe s
/-- no own error comes of it -/
def NoX {α : Type} (o : Out α) : Prop := ∀ c, o ≠ .exc c

section
variable {fr : Bool} {G : Gx} {Ex : XS} {Ex0 : Nm → Hp → Prop} {X : Cx} {A : Addr → Bool} {H : Hp} {M M1 : D → V → Hp → Prop} {Q : VK}
theorem OutE.bnd {R : VK} {o : Out D} {k : D → Out D} (h : OutE Ex0 H M Q (o >>= k)) (c : ∀ d x H1, o = .val d → M1 d x H1 → Same H H1 → OutE Ex0 H M Q (k d) → R x H1) : OutE Ex0 H M1 R o := by
  cases o with
  | val d => exact fun v H' s m => c d v H' rfl m s h
  | exc c => exact h
  | bad => exact h
theorem OutE.val {o : Out D} (h : OutE Ex0 H M Q o) (n : NoX o) : ∃ r, o = .val r ∧ ∀ v H', Same H H' → M r v H' → Q v H' := by
  cases o with
  | val d => exact ⟨d, rfl, h⟩
  | exc c => exact absurd rfl (n c)
  | bad => exact h.elim
theorem Want.after {H1 H2 : Hp} {fr : Bool} {r : D} (h : ∀ v H', Same H1 H' → MA G A H fr r v H' → Q v H') (e1 : Same H1 H2) (e : Same H H2) : Want G A H2 fr r Q := fun v H' s m =>
  h v H' (e1.trans s) ⟨m.1, fun z1 z2 => let ⟨a, h1, h2, h3⟩ := m.2 z1 z2; ⟨a, h1, e.free h2, h3⟩⟩

theorem sa_bin {op : Operator} {a b : Expr} {pos : Pos} {fr : Bool} {g : D → D → Out D} {fa fb : Env → Out D} (ho : Op2 G X fr (binaryOp op) g) (hn : ∀ d e, NoX (g d e)) (ha : ST G Ex X a fa) (hb : ST G Ex X b fb) :
    SA G Ex X fr (.BinOp a op b pos) (fun δ => do let x ← fa δ; let y ← fb δ; g x y) := fun δ A => by
  have core : OpR X (binaryOp op) (fun x y H Q => ∃ d e r, Prot A H ∧ RepT G A H d x ∧ RepT G A H e y ∧ g d e = .val r ∧ Want G A H fr r Q) := by
    intro pins s σ H x y v u Q I rx ry ⟨d, e, r, h1, h2, h3, h4, h5⟩
    exact ho A pins s σ H x y v u d e r Q I h1 rx ry h2 h3 h4 h5
  refine pImp (pe_op core (ha δ A) (hb δ A)) fun σ H Q ⟨ok, o⟩ => ⟨ok, o.bnd fun d x H1 _ m1 s1 o1 => ⟨ok.mono s1, (o1.after s1).bnd fun e y H2 _ m2 s2 o2 => ?_⟩⟩
  obtain ⟨r, h1, h2⟩ := o2.val (hn d e)
  exact ⟨d, e, r, (ok.mono (s1.trans s2)).prot, m1.mono s2, m2, h1, Want.after h2 s2 (s1.trans s2)⟩
theorem sa_un {op : UnaryOp} {a : Expr} {pos : Pos} {fr : Bool} {g : D → Out D} {fa : Env → Out D} (ho : Op1 G X fr (unaryOp op) g) (hn : ∀ d, NoX (g d)) (ha : ST G Ex X a fa) :
    SA G Ex X fr (.UnaryOp op a pos) (fun δ => do let x ← fa δ; g x) := fun δ A => by
  have core : UnR X (unaryOp op) (fun x H Q => ∃ d r, Prot A H ∧ RepT G A H d x ∧ g d = .val r ∧ Want G A H fr r Q) := by
    intro pins s σ H x v Q I rx ⟨d, r, h1, h2, h4, h5⟩
    exact ho A pins s σ H x v d r Q I h1 rx h2 h4 h5
  refine pImp (pe_un core (ha δ A)) fun σ H Q ⟨ok, o⟩ => ⟨ok, o.bnd fun d x H1 _ m1 s1 o1 => ?_⟩
  obtain ⟨r, h1, h2⟩ := o1.val (hn d)
  exact ⟨d, r, (ok.mono s1).prot, m1, h1, Want.after h2 s1 s1⟩

/-! ### arithmetic -/
theorem repL_eq {α : Type} (xs : List α) : ∀ n : Nat, repL xs n = (List.replicate n xs).flatten
  | 0 => rfl
  | n + 1 => by rw [repL, repL_eq xs n, List.replicate_succ, List.flatten_cons]
theorem RepAll.rep {Hf : Hp} {ds : List D} {vs : List V} (r : RepAll G Hf ds vs) : ∀ n : Nat, RepAll G Hf (repL ds n) (List.replicate n vs).flatten
  | 0 => .nil
  | n + 1 => by
    rw [repL, List.replicate_succ, List.flatten_cons]
    exact r.append (RepAll.rep r n)
theorem chk_val {α : Type} {b : Bool} {x r : α} (h : chk b x = .val r) : b = true ∧ x = r := by
  unfold chk at h
  cases b with
  | true => rw [if_pos rfl] at h; exact ⟨rfl, Out.val.inj h⟩
  | false => rw [if_neg (by decide)] at h; cases h
theorem nox_chk {α : Type} {b : Bool} {x : α} : NoX (chk b x) := fun c h => by
  unfold chk at h
  split at h <;> cases h
theorem nox_val {α : Type} {x : α} : NoX (Out.val x) := fun c h => by cases h
theorem nox_bad {α : Type} : NoX (Out.bad : Out α) := fun c h => by cases h
theorem nox_orBad {α : Type} {o : Option α} : NoX (orBad o) := fun c h => by cases o <;> cases h
theorem nox_add (d e : D) : NoX (dAdd d e) := by
  unfold dAdd
  split <;> first | exact nox_val | exact nox_chk | exact nox_bad
theorem nox_sub (d e : D) : NoX (dSub d e) := by
  unfold dSub
  split <;> first | exact nox_val | exact nox_chk | exact nox_bad
theorem nox_mul (d e : D) : NoX (dMul d e) := by
  unfold dMul
  split <;> first | exact nox_val | exact nox_chk | exact nox_bad
theorem nox_div (d e : D) : NoX (dDiv d e) := by
  unfold dDiv
  split <;> first | exact nox_val | exact nox_chk | exact nox_bad
theorem nox_mod (d e : D) : NoX (dMod d e) := by
  unfold dMod
  split <;> first | exact nox_val | exact nox_chk | exact nox_bad
theorem nox_neg (d : D) : NoX (dNeg d) := by
  unfold dNeg
  split <;> first | exact nox_val | exact nox_chk | exact nox_bad
theorem op2_sub : Op2 G X fr (binaryOp .Sub) dSub := by
  intro A pins s σ H x y v u d e r Q I p rx ry hd he hg q
  unfold dSub at hg
  split at hg
  · cases hd.int
    cases he.int
    cases hg
    exact op_sub pins s σ H _ _ v u Q I rx ry ⟨_, _, rfl, rfl, q _ H (Same.refl H) mk_int⟩
  · cases hg
theorem op2_div : Op2 G X fr (binaryOp .FloorDiv) dDiv := by
  intro A pins s σ H x y v u d e r Q I p rx ry hd he hg q
  unfold dDiv at hg
  split at hg
  · cases hd.int
    cases he.int
    obtain ⟨h1, rfl⟩ := chk_val hg
    simp only [Bool.and_eq_true, decide_eq_true_eq] at h1
    exact op_fdiv pins s σ H _ _ v u Q I rx ry ⟨_, _, rfl, rfl, ⟨h1.1, h1.2⟩, q _ H (Same.refl H) mk_int⟩
  · cases hg
theorem op2_mod : Op2 G X fr (binaryOp .Mod) dMod := by
  intro A pins s σ H x y v u d e r Q I p rx ry hd he hg q
  unfold dMod at hg
  split at hg
  · cases hd.int
    cases he.int
    obtain ⟨h1, rfl⟩ := chk_val hg
    exact op_mod pins s σ H _ _ v u Q I rx ry ⟨_, _, rfl, rfl, of_decide_eq_true h1, q _ H (Same.refl H) mk_int⟩
  · cases hg
theorem op1_neg : Op1 G X fr (unaryOp .USub) dNeg := by
  intro A pins s σ H x v d r Q I p rx hd hg q
  unfold dNeg at hg
  split at hg
  · cases hd.int
    cases hg
    exact un_neg pins s σ H _ v Q I rx ⟨_, rfl, q _ H (Same.refl H) mk_int⟩
  · cases hg
/-- the list's own object -/
theorem lst_obj {pins : List (Addr × Obj)} {σ : L2.St} {H : Hp} {s : Shared} {a : Addr} {vs : List V} (I : Inv X pins σ H s) (h : LsT X.K H a vs) : vs.length ≤ sizeLine ∧ ∃ (its : List Value) (n : Nat), Vals vs its ∧ vs.length = its.length ∧ s.heap.get? a = some { cls := .type "list", data := .seq its.toArray n } := by
  rcases h with h | ⟨its, n, hk, hl, hv⟩
  · obtain ⟨z, its, n, r, e⟩ := h.ok I.hok
    exact ⟨z, its, n, r, r.length, e⟩
  · exact ⟨by rw [hv.length]; exact hl, its, n, hv, hv.length, I.kIn _ _ hk⟩
theorem cat_lst {pins : List (Addr × Obj)} {σ : L2.St} {H : Hp} {s : Shared} {a b : Addr} {vs us : List V} {Q : VK} (I : Inv X pins σ H s) (h1 : LsT X.K H a vs) (h2 : LsT X.K H b us) (hz : vs.length + us.length ≤ sizeLine)
    (q : ∀ p, H p = none → Q (.ref p) (upd H p (.lst (vs ++ us)))) : wpAny (model X.prog X.w) X.A (binaryOp .Add (.ref a) (.ref b)) (EP X pins σ Q) X.xe s := by
  obtain ⟨z1, its, n, r1, l1, e1⟩ := lst_obj I h1
  obtain ⟨z2, its2, n2, r2, l2, e2⟩ := lst_obj I h2
  refine P.add_list e1 e2 ?_ (by rw [List.size_toArray, List.size_toArray, ← l1, ← l2]; exact hz)
  rw [show its.toArray ++ its2.toArray = (its ++ its2).toArray by simp]
  exact ⟨.ref _, _, I.lnew (t' := s.toks) (r1.append r2) (by rw [List.length_append]; exact hz), rfl, q _ I.fresh⟩
theorem op2_add (gk : GOk G X) : Op2 G X true (binaryOp .Add) dAdd := by
  intro A pins s σ H x y v u d e r Q I p rx ry hd he hg q
  unfold dAdd at hg
  split at hg
  · cases hd.int
    cases he.int
    cases hg
    exact op_add pins s σ H _ _ v u Q I rx ry ⟨_, _, rfl, rfl, q _ H (Same.refl H) mk_int⟩
  · rename_i a b
    obtain ⟨rfl, k1⟩ := hd.str
    obtain ⟨rfl, k2⟩ := he.str
    obtain ⟨h1, rfl⟩ := chk_val hg
    have hl : a.length + b.length ≤ LIM := of_decide_eq_true h1
    refine op_add_str pins s σ H _ _ v u Q I rx ry ⟨tx a, tx b, rfl, rfl, ?_, ?_⟩
    · rw [← LIM_eq]
      simpa [Str.length] using hl
    · have e : tx a ++ tx b = tx (a ++ b) := by
        show Str.append (tx a) (tx b) = tx (a ++ b)
        simp [Str.append]
      rw [e]
      refine q _ H (Same.refl H) (mk_str ⟨by rw [List.length_append]; exact hl, fun c hc => ?_⟩)
      rcases List.mem_append.mp hc with hc | hc
      · exact k1.2 c hc
      · exact k2.2 c hc
  · rename_i a b
    obtain ⟨l1, vs, rfl, s1, r1⟩ := hd.lst
    obtain ⟨l2, us, rfl, s2, r2⟩ := he.lst
    rw [← gk.K] at s1 s2
    obtain ⟨h1, rfl⟩ := chk_val hg
    have hl : a.length + b.length ≤ LIM := of_decide_eq_true h1
    cases rx
    cases ry
    exact cat_lst I s1 s2 (by rw [← r1.length, ← r2.length, ← LIM_eq]; exact hl) fun p' hp => q _ _ (same_upd hp) (mk_lst p hp (r1.append r2))
  · rename_i a b
    obtain ⟨l1, vs, rfl, s1, r1⟩ := hd.tup
    obtain ⟨l2, us, rfl, s2, r2⟩ := he.tup
    obtain ⟨h1, rfl⟩ := chk_val hg
    have hl : a.length + b.length ≤ LIM := of_decide_eq_true h1
    rw [← gk.K] at s1 s2
    refine op_catA pins s σ H _ _ v u Q I rx ry ⟨l1, l2, vs, us, rfl, rfl, s1, s2, by rw [← r1.length, ← r2.length, ← LIM_eq]; exact hl, fun e => ?_, fun e1 e2 => ?_, fun e1 e2 p' hp => q _ _ (same_upd hp) (mk_tup p hp (r1.append r2))⟩
    · subst e
      cases r1
      exact q _ H (Same.refl H) (mk_flat rfl (he.of_not rfl))
    · subst e2
      cases r2
      rw [List.append_nil] at q
      exact q _ H (Same.refl H) (mk_flat rfl (hd.of_not rfl))
  · cases hg
theorem rep_lst {pins : List (Addr × Obj)} {σ : L2.St} {H : Hp} {s : Shared} {a : Addr} {vs : List V} {j : Int} {t : Tok} {Q : VK} (I : Inv X pins σ H s) (h1 : LsT X.K H a vs) (hj : -(2 ^ 63) ≤ j) (hj2 : j < 2 ^ 63) (hz : vs.length * j.toNat ≤ sizeLine)
    (q : ∀ p, H p = none → Q (.ref p) (upd H p (.lst (List.replicate j.toNat vs).flatten))) : wpAny (model X.prog X.w) X.A (binaryOp .Mult (.ref a) (.int j t)) (EP X pins σ Q) X.xe s := by
  obtain ⟨z, its, n, r, hl, e⟩ := lst_obj I h1
  have hs : its.toArray.size * j.toNat ≤ sizeLine := by
    rw [List.size_toArray, ← hl]
    exact hz
  have big : (sizeLine : Nat) ≤ (2 ^ 63 - 1) / 8 := by decide
  have c1 : ¬ its.toArray.size * j.toNat > (2 ^ 63 - 1) / 8 := by omega
  have c2 : ¬ (!Builtin.List.listFitsIndex j) = true := by
    rw [fitsIndex_both hj hj2]
    decide
  have c3 : ¬ Builtin.List.listTooLong (its.toArray.size * j.toNat) = true := by
    rw [notLongL hs]
    decide
  have made : List.foldl (fun x1 x2 => x1 ++ x2) #[] (List.replicate (if its.toArray.isEmpty = true then 0 else j.toNat) its.toArray) = (List.replicate j.toNat its).flatten.toArray := by
    have g := fun m => foldl_rep its m []
    simp only [List.nil_append] at g
    cases its with
    | nil => simp
    | cons b r' =>
      rw [if_neg (by simp)]
      exact g _
  refine wpAny_binaryOp_repeat_ref (T := "list") (U := "int") (by decide) ⟨_, e, rfl⟩ (fun s' => typeIs_int s' j t) noFill_list_mul F.fills_int_mul F.slot_int_rmul repeat_list F.slot_int_index.lookup ?_
  refine call_meets F.slot_int_rmul (typeIs_int s j t) F.entry_int_rmul (F.args_int_rmul_2 _ _) (int___rmul___int_list j t a its.toArray n) ⟨e, rfl, ⟨_, e, rfl⟩, ?_⟩
  refine call_meets F.slot_list_mul ⟨_, e, rfl⟩ F.entry_list_mul (F.args_list_mul_2 _ _) (AutoListH.list___mul___list_int_3 a its.toArray n j t c2 c1 c3) ⟨e, ?_⟩
  rw [made]
  exact ⟨.ref _, _, I.lnew (t' := s.toks) (r.rep j.toNat) (by rw [PyProof.Rows.lm_len_rep_flat, Nat.mul_comm]; exact hz), rfl, q _ I.fresh⟩
theorem small_of {i : Int} (h : small i = true) : -(2 ^ 64) < i ∧ i < 2 ^ 64 := by
  unfold small at h
  simp only [Bool.and_eq_true, decide_eq_true_eq] at h
  omega
theorem repL_mem {α : Type} {xs : List α} {c : α} : ∀ {n : Nat}, c ∈ repL xs n → c ∈ xs
  | 0, h => by simp [repL] at h
  | n + 1, h => by
    rw [repL] at h
    rcases List.mem_append.mp h with h | h
    · exact h
    · exact repL_mem h
theorem repL_len {α : Type} (xs : List α) : ∀ n : Nat, (repL xs n).length = xs.length * n
  | 0 => rfl
  | n + 1 => by rw [repL, List.length_append, repL_len xs n, Nat.mul_succ, Nat.add_comm]
theorem op2_mul (gk : GOk G X) : Op2 G X true (binaryOp .Mult) dMul := by
  intro A pins s σ H x y v u d e r Q I p rx ry hd he hg q
  unfold dMul at hg
  split at hg
  · cases hd.int
    cases he.int
    obtain ⟨h1, rfl⟩ := chk_val hg
    exact op_mul pins s σ H _ _ v u Q I rx ry ⟨_, _, rfl, rfl, .inl (small_of h1), q _ H (Same.refl H) mk_int⟩
  · rename_i a j
    obtain ⟨rfl, k1⟩ := hd.str
    cases he.int
    obtain ⟨h1, rfl⟩ := chk_val hg
    simp only [Bool.and_eq_true, decide_eq_true_eq] at h1
    obtain ⟨⟨hl, hj⟩, hj2⟩ := h1
    obtain ⟨t, rfl⟩ := (show ∃ t, v = Value.str (tx a) t from rx)
    obtain ⟨t', rfl⟩ := ry
    have lenE : (tx a).length = a.length := by simp [Str.length]
    have kr : SOk (repL a j.toNat) := ⟨by rw [repL_len]; exact hl, fun c hc => k1.2 c (repL_mem hc)⟩
    have fin : ∀ t tk, EP X pins σ Q (.str (tx (repL a j.toNat)) t) { s with toks := tk } := fun t tk => ⟨sV _, H, I.tok _, ⟨t, rfl⟩, q _ H (Same.refl H) (mk_str kr)⟩
    have big : (sizeLine : Nat) = 16777216 := by decide +kernel
    have hl2 : a.length * j.toNat ≤ 16777216 := hl
    refine P.mul_str ?_ (fun c1 c2 => ?_) (fun c1 c2 => ?_) ?_
    · rw [decide_eq_false (by omega), decide_eq_false (by omega)]
      rfl
    · rw [lenE]
      intro h
      have h0 : (0 : Int) < j := by omega
      have h1 : (2 ^ 63 - 1) / j < (a.length : Int) := h
      have h2 := Int.lt_mul_of_ediv_lt h0 h1
      have h3 : ((a.length * j.toNat : Nat) : Int) = (a.length : Int) * j := by
        rw [Int.natCast_mul, Int.toNat_of_nonneg hj]
      have h4 : (a.length : Int) * j ≤ 16777216 := by
        rw [← h3]
        exact Int.ofNat_le.mpr hl2
      omega
    · rw [lenE]
      unfold Builtin.Str.tooLong
      simp
      omega
    · split
      · rename_i h
        have h0 : j.toNat = 0 := by omega
        have f := fin s.toks (s.toks + 1)
        rw [h0] at f
        exact ⟨by decide, f⟩
      · split
        · rename_i h1 h2
          have e : repL a j.toNat = a := by
            rcases Bool.or_eq_true_iff.mp h2 with h3 | h3
            · have : j = 1 := by simpa using h3
              subst this
              exact List.append_nil a
            · have : a = [] := by
                rw [lenE] at h3
                simpa using h3
              subst this
              rw [repL_eq]
              simp
          have f := fin t s.toks
          rw [e] at f
          exact f
        · have e : (⟨(List.replicate j.toNat (tx a).cps).foldl (· ++ ·) #[]⟩ : Str) = tx (repL a j.toNat) := by
            rw [repL_eq]
            have g : ∀ (k : Nat) (acc : List Nat), List.foldl (fun x1 x2 => x1 ++ x2) acc.toArray (List.replicate k a.toArray) = (acc ++ (List.replicate k a).flatten).toArray := by
              intro k
              induction k with
              | zero => intro acc; simp
              | succ k ih =>
                intro acc
                rw [List.replicate_succ, List.foldl_cons, show acc.toArray ++ a.toArray = (acc ++ a).toArray by simp, ih]
                simp [List.replicate_succ]
            have := g j.toNat []
            simpa using this
          rw [e]
          exact ⟨by rw [show (tx (repL a j.toNat)).length = (repL a j.toNat).length by simp [Str.length], repL_len, big]; exact hl2, fin _ _⟩
  · rename_i a j
    obtain ⟨l1, vs, rfl, s1, r1⟩ := hd.lst
    rw [← gk.K] at s1
    cases he.int
    obtain ⟨h1, rfl⟩ := chk_val hg
    simp only [Bool.and_eq_true, decide_eq_true_eq] at h1
    obtain ⟨⟨hl, hj⟩, hj2⟩ := h1
    cases rx
    obtain ⟨t, rfl⟩ := ry
    refine rep_lst I s1 (by omega) (by omega) (by rw [← r1.length, ← LIM_eq]; exact hl) fun p' hp => q _ _ (same_upd hp) (mk_lst p hp (r1.rep _))
  · rename_i a j
    obtain ⟨l1, vs, rfl, s1, r1⟩ := hd.tup
    cases he.int
    obtain ⟨h1, rfl⟩ := chk_val hg
    simp only [Bool.and_eq_true, decide_eq_true_eq, Bool.not_eq_true', List.isEmpty_eq_false_iff] at h1
    obtain ⟨⟨⟨h0, h1⟩, h2⟩, h3⟩ := h1
    rw [← gk.K] at s1
    exact op_repT pins s σ H _ _ v u Q I rx ry ⟨l1, j, vs, rfl, rfl, s1, fun e => h0 (by subst e; cases r1; rfl), h1, h2, by rw [← r1.length]; exact h3, fun p' hp => q _ _ (same_upd hp) (mk_tup p hp (r1.rep _))⟩
  · cases hg
end
end Py
end
section
set_option autoImplicit false
set_option linter.all false
set_option maxRecDepth 100000
set_option maxHeartbeats 2000000
/-! PyG: comparisons. -/
namespace Py
open PySem PySem.Spec L2
open Sem (wp)

mutual
def toP : D → PyData
  | .non => .none
  | .bl b => .bool b
  | .int i => .int i
  | .str s => .str (tx s)
  | .tup xs => .tuple (toPs xs)
  | .lst xs => .list (toPs xs)
  | .dct _ => .none
  | .fn _ => .none
  | .exc _ => .none
def toPs : List D → List PyData
  | [] => []
  | x :: xs => toP x :: toPs xs
end
mutual
theorem toP_plain : ∀ d : D, (toP d).plain = true
  | .non => rfl
  | .bl _ => rfl
  | .int _ => rfl
  | .str _ => rfl
  | .tup xs => by simp only [toP, PyData.plain]; exact toPs_plain xs
  | .lst xs => by simp only [toP, PyData.plain]; exact toPs_plain xs
  | .dct _ => rfl
  | .fn _ => rfl
  | .exc _ => rfl
theorem toPs_plain : ∀ xs : List D, PyData.plainAll (toPs xs) = true
  | [] => rfl
  | x :: xs => by simp only [toPs, PyData.plainAll, toP_plain x, toPs_plain xs]; rfl
end
mutual
theorem toP_depth : ∀ d : D, (toP d).depth = D.dep d
  | .non => rfl
  | .bl _ => rfl
  | .int _ => rfl
  | .str _ => rfl
  | .tup xs => by simp only [toP, PyData.depth, D.dep, toPs_depth xs]
  | .lst xs => by simp only [toP, PyData.depth, D.dep, toPs_depth xs]
  | .dct _ => rfl
  | .fn _ => rfl
  | .exc _ => rfl
theorem toPs_depth : ∀ xs : List D, PyData.depthAll (toPs xs) = D.depAll xs
  | [] => rfl
  | x :: xs => by simp only [toPs, PyData.depthAll, D.depAll, toP_depth x, toPs_depth xs]
end
mutual
theorem toP_eqv : ∀ d e : D, D.plain d = true → D.plain e = true → PyData.eqv (toP d) (toP e) = D.eqv d e
  | .non, e, _, h => by cases e <;> simp_all [toP, PyData.eqv, D.eqv, D.plain]
  | .bl a, e, _, h => by cases e <;> simp_all [toP, PyData.eqv, D.eqv, D.plain]
  | .int a, e, _, h => by cases e <;> simp_all [toP, PyData.eqv, D.eqv, D.plain]
  | .str a, e, _, h => by
    cases e <;> simp_all [toP, PyData.eqv, D.eqv, D.plain]
    rename_i b
    rw [← beq_tx]
    by_cases h : tx a = tx b <;> simp [h]
  | .tup xs, e, h1, h => by
    cases e <;> simp_all [toP, PyData.eqv, D.eqv, D.plain]
    rename_i ys
    exact toPs_eqv xs ys h1 h
  | .lst xs, e, h1, h => by
    cases e <;> simp_all [toP, PyData.eqv, D.eqv, D.plain]
    rename_i ys
    exact toPs_eqv xs ys h1 h
  | .dct _, _, h, _ => by simp [D.plain] at h
  | .fn _, _, h, _ => by simp [D.plain] at h
  | .exc _, _, h, _ => by simp [D.plain] at h
theorem toPs_eqv : ∀ xs ys : List D, D.plainAll xs = true → D.plainAll ys = true → PyData.eqvAll (toPs xs) (toPs ys) = D.eqvAll xs ys
  | [], [], _, _ => rfl
  | [], _ :: _, _, _ => rfl
  | _ :: _, [], _, _ => rfl
  | x :: xs, y :: ys, h1, h2 => by
    simp only [D.plainAll, Bool.and_eq_true] at h1 h2
    simp only [toPs, PyData.eqvAll, D.eqvAll, toP_eqv x y h1.1 h2.1, toPs_eqv xs ys h1.2 h2.2]
end
mutual
theorem toP_alike : ∀ d e : D, D.alike d e = true → PySem.W.alike (toP d) (toP e) = true
  | .non, e, h => by simp [D.alike] at h
  | .bl a, e, h => by cases e <;> simp_all [toP, D.alike, PySem.W.alike]
  | .int a, e, h => by cases e <;> simp_all [toP, D.alike, PySem.W.alike]
  | .str a, e, h => by cases e <;> simp_all [toP, D.alike, PySem.W.alike]
  | .tup xs, e, h => by
    cases e <;> simp_all [toP, D.alike, PySem.W.alike]
    exact toPs_alike xs _ h
  | .lst xs, e, h => by
    cases e <;> simp_all [toP, D.alike, PySem.W.alike]
    exact toPs_alike xs _ h
  | .dct _, _, h => by simp [D.alike] at h
  | .fn _, _, h => by simp [D.alike] at h
  | .exc _, _, h => by simp [D.alike] at h
theorem toPs_alike : ∀ xs ys : List D, D.alikeAll xs ys = true → PySem.W.alikeAll (toPs xs) (toPs ys) = true
  | [], [], _ => by simp [toPs, PySem.W.alikeAll]
  | [], _ :: _, _ => by simp [toPs, PySem.W.alikeAll]
  | _ :: _, [], _ => by simp [toPs, PySem.W.alikeAll]
  | x :: xs, y :: ys, h => by
    simp only [D.alikeAll, Bool.and_eq_true] at h
    simp only [toPs, PySem.W.alikeAll, toP_alike x y h.1, toPs_alike xs ys h.2, Bool.and_self]
end
theorem ltS_eq : ∀ x y : List Nat, D.ltS x y = decide (x < y)
  | [], [] => by simp [D.ltS]
  | [], b :: y => by simp [D.ltS]
  | a :: x, [] => by simp [D.ltS]
  | a :: x, b :: y => by
    rw [D.ltS, ltS_eq x y]
    by_cases h : a = b
    · subst h
      simp [List.cons_lt_cons_iff]
    · rw [if_neg h]
      simp [List.cons_lt_cons_iff, h]
mutual
theorem toP_lt : ∀ d e : D, D.plain d = true → D.plain e = true → D.alike d e = true → PySem.W.dataLt (toP d) (toP e) = D.lt d e
  | .non, e, _, _, h => by simp [D.alike] at h
  | .bl a, e, _, _, h => by
    cases e with
    | bl b =>
      simp only [toP, D.lt]
      rw [PySem.W.dataLt_bool]
      cases a <;> cases b <;> rfl
    | _ => simp [D.alike] at h
  | .int a, e, _, _, h => by
    cases e <;> simp_all [toP, D.alike, D.lt]
    rw [PySem.W.dataLt_int]
  | .str a, e, _, _, h => by
    cases e <;> simp_all [toP, D.alike, D.lt]
    rw [PySem.W.dataLt_str, ltS_eq]
  | .tup xs, e, h1, h2, h => by
    cases e <;> simp_all [toP, D.alike, D.lt, D.plain]
    rename_i ys
    rw [PySem.W.dataLt_tuple]
    exact toPs_lt xs ys h1 h2 h
  | .lst xs, e, h1, h2, h => by
    cases e <;> simp_all [toP, D.alike, D.lt, D.plain]
    rename_i ys
    rw [PySem.W.dataLt_list]
    exact toPs_lt xs ys h1 h2 h
  | .dct _, _, _, _, h => by simp [D.alike] at h
  | .fn _, _, _, _, h => by simp [D.alike] at h
  | .exc _, _, _, _, h => by simp [D.alike] at h
theorem toPs_lt : ∀ xs ys : List D, D.plainAll xs = true → D.plainAll ys = true → D.alikeAll xs ys = true → PyProof.Rows.lexLt PyProof.Rows.itemOrd (PySem.W.keyToksAll (toPs xs)) (PySem.W.keyToksAll (toPs ys)) = D.ltAll xs ys
  | [], [], _, _, _ => by first | rfl | decide
  | [], y :: ys, _, _, _ => by
    simp only [toPs, PySem.W.toks_all_cons, PySem.W.keyToksAll, D.ltAll]
    first | rfl | decide
  | x :: xs, [], _, _, _ => by
    simp only [toPs, PySem.W.toks_all_cons, PySem.W.keyToksAll, D.ltAll]
    first | rfl | decide
  | x :: xs, y :: ys, h1, h2, h => by
    simp only [D.plainAll, D.alikeAll, Bool.and_eq_true] at h1 h2 h
    simp only [toPs, D.ltAll]
    rw [PySem.W.dataLt_cons (toP_alike x y h.1), toP_eqv x y h1.1 h2.1, toP_lt x y h1.1 h2.1 h.1, toPs_lt xs ys h1.2 h2.2 h.2]
end

section
variable {G : Gx} {X : Cx} {pins : List (Addr × Obj)} {σ : L2.St} {H : Hp} {s : Shared}
mutual
theorem reads_of (g : GOk G X) (I : Inv X pins σ H s) : ∀ (d : D) (v : V) (u : Value), RepV G H d v → D.plain d = true → RelV v u → ∃ as, Reads s.heap u (toP d) as
  | .non, _, _, h, _, r => by cases h; cases r; exact ⟨_, .none⟩
  | .bl b, _, _, h, _, r => by cases h; cases r; exact ⟨_, .bool b⟩
  | .int i, _, _, h, _, r => by cases h; obtain ⟨t, rfl⟩ := r; exact ⟨_, .int i t⟩
  | .str x, _, _, h, _, r => by
    cases h
    obtain ⟨t, rfl⟩ := (show ∃ t, _ = Value.str (tx x) t from r)
    exact ⟨_, .str _ t⟩
  | .tup ds, _, _, h, k, r => by
    cases h with
    | tup q ra =>
      cases r
      rw [← g.K] at q
      obtain ⟨its, rv, ⟨o, h1, h2, n, h3⟩, _⟩ := I.tuple q
      obtain ⟨as, ha⟩ := reads_all g I ds _ its ra (by simpa [D.plain] using k) rv
      exact ⟨_, .tuple h1 h2 h3 ha⟩
  | .lst ds, _, _, h, k, r => by
    cases h with
    | lst q ra =>
      cases r
      obtain ⟨_, its, n, rv, _, e⟩ := lst_obj I (show LsT X.K H _ _ by rw [g.K]; exact q)
      obtain ⟨as, ha⟩ := reads_all g I ds _ its ra (by simpa [D.plain] using k) rv
      exact ⟨_, .list e rfl rfl ha⟩
  | .dct _, _, _, _, k, _ => by simp [D.plain] at k
  | .fn _, _, _, _, k, _ => by simp [D.plain] at k
  | .exc _, _, _, _, k, _ => by simp [D.plain] at k
theorem reads_all (g : GOk G X) (I : Inv X pins σ H s) : ∀ (ds : List D) (vs : List V) (us : List Value), RepAll G H ds vs → D.plainAll ds = true → Vals vs us → ∃ as, ReadsAll s.heap us (toPs ds) as
  | [], _, _, h, _, r => by cases h; cases r; exact ⟨_, .nil⟩
  | d :: ds, _, _, h, k, r => by
    cases h with
    | cons h1 h2 =>
      cases r with
      | cons r1 r2 =>
        simp only [D.plainAll, Bool.and_eq_true] at k
        obtain ⟨as, a1⟩ := reads_of g I d _ _ h1 k.1 r1
        obtain ⟨bs, a2⟩ := reads_all g I ds _ _ h2 k.2 r2
        exact ⟨_, .cons a1 a2⟩
end
theorem ok_plain {d : D} (h : D.ok d = true) : D.plain d = true := (Bool.and_eq_true_iff.mp h).1
theorem ok_dep {d : D} (h : D.ok d = true) : D.dep d ≤ 60 := of_decide_eq_true (Bool.and_eq_true_iff.mp h).2
theorem okAll_plain : ∀ {xs : List D}, okAll xs = true → D.plainAll xs = true
  | [], _ => rfl
  | x :: xs, h => by
    simp only [okAll, Bool.and_eq_true] at h
    simp only [D.plainAll, ok_plain h.1, okAll_plain h.2, Bool.and_self]
theorem okAll_dep : ∀ {xs : List D}, okAll xs = true → D.depAll xs ≤ 60
  | [], _ => Nat.zero_le _
  | x :: xs, h => by
    simp only [okAll, Bool.and_eq_true] at h
    simp only [D.depAll]
    exact Nat.max_le.mpr ⟨ok_dep h.1, okAll_dep h.2⟩
theorem memb_any : ∀ (d : D) (xs : List D), D.plain d = true → D.plainAll xs = true → ((toPs xs).any fun y => PyData.eqv y (toP d)) = memb d xs
  | d, [], _, _ => rfl
  | d, x :: xs, h1, h2 => by
    simp only [D.plainAll, Bool.and_eq_true] at h2
    simp only [toPs, List.any_cons, memb, toP_eqv x d h2.1 h1, memb_any d xs h1 h2.2]
end

def cpOp : Cp → CmpOp
  | .eq => .Eq
  | .ne => .NotEq
  | .lt => .Lt
  | .le => .LtE
  | .gt => .Gt
  | .ge => .GtE
  | .mem => .In
  | .nmem => .NotIn
  | .isN => .Is
  | .notN => .IsNot
section
variable {fr : Bool} {G : Gx} {Ex : XS} {Ex0 : Nm → Hp → Prop} {X : Cx} {A : Addr → Bool} {H : Hp} {M M1 : D → V → Hp → Prop} {Q : VK}
/-- a comparison as data -/
def dCmpD (op : Cp) (x y : D) : Out D := do
  let r ← dCmp op x y
  return .bl r
theorem nox_map {α β : Type} {o : Out α} {f : α → β} (h : NoX o) : NoX (o >>= fun a => pure (f a)) := fun c e => by
  cases o with
  | val a => cases e
  | exc c' => exact h c' rfl
  | bad => cases e
theorem nox_mem (x y : D) : NoX (dMem x y) := by
  unfold dMem
  split <;> first | exact nox_val | exact nox_chk | exact nox_bad | skip
  split <;> first | exact nox_val | exact nox_chk | exact nox_bad
theorem nox_cmp (op : Cp) (x y : D) : NoX (dCmp op x y) := by
  cases op <;> unfold dCmp <;> dsimp only <;> first
    | exact nox_chk
    | (unfold dLt; exact nox_chk)
    | (unfold dLe; exact nox_chk)
    | exact nox_mem x y
    | (have := nox_mem x y; cases e : dMem x y <;> first | exact nox_val | exact nox_bad | (rw [e] at this; exact absurd rfl (this _)))
    | (split <;> first | exact nox_val | exact nox_bad | (split <;> first | exact nox_val | exact nox_bad))
theorem cmpD_val {op : Cp} {x y r : D} (h : dCmpD op x y = .val r) : ∃ b, dCmp op x y = .val b ∧ r = .bl b := by
  unfold dCmpD at h
  cases e : dCmp op x y with
  | val b => rw [e] at h; exact ⟨b, rfl, (Out.val.inj h).symm⟩
  | exc c => rw [e] at h; cases h
  | bad => rw [e] at h; cases h
theorem alike_ne {d e : D} (h : D.alike d e = true) : toP d ≠ .none := by
  cases d <;> simp_all [D.alike, toP]
mutual
theorem alike_symm : ∀ d e : D, D.alike d e = D.alike e d
  | .non, e => by cases e <;> simp [D.alike]
  | .bl a, e => by cases e <;> simp [D.alike]
  | .int a, e => by cases e <;> simp [D.alike]
  | .str a, e => by cases e <;> simp [D.alike]
  | .tup xs, e => by
    cases e <;> simp [D.alike]
    exact alikeAll_symm xs _
  | .lst xs, e => by
    cases e <;> simp [D.alike]
    exact alikeAll_symm xs _
  | .dct _, e => by cases e <;> simp [D.alike]
  | .fn _, e => by cases e <;> simp [D.alike]
  | .exc _, e => by cases e <;> simp [D.alike]
theorem alikeAll_symm : ∀ xs ys : List D, D.alikeAll xs ys = D.alikeAll ys xs
  | [], [] => rfl
  | [], _ :: _ => rfl
  | _ :: _, [] => rfl
  | x :: xs, y :: ys => by simp only [D.alikeAll, alike_symm x y, alikeAll_symm xs ys]
end
theorem non_iff {d : D} {x : V} (h : RepT G A H d x) : decide (x = V.non) = isNon d := by
  rcases h with h | ⟨a, rfl, _, h⟩
  · cases h <;> first | rfl | (exact decide_eq_false fun z => nomatch z)
  · have := h.isL
    cases d <;> simp_all [isNon, D.isL]
theorem pre_take : ∀ (x y : List Nat), pre x y = (y.take x.length == x)
  | [], y => by simp [pre]
  | a :: x, [] => by simp [pre]
  | a :: x, b :: y => by
    rw [pre, pre_take x y]
    simp only [List.length_cons, List.take_succ_cons]
    by_cases h : a = b
    · subst h; simp
    · have h2 : ¬ b = a := fun e => h e.symm
      rw [beq_eq_false_iff_ne.mpr h, Bool.false_and]
      exact (beq_eq_false_iff_ne.mpr fun e => h2 (List.cons.inj e).1).symm
theorem sub_iff : ∀ (x y : List Nat), sub x y = true ↔ ∃ i, i ≤ y.length ∧ pre x (y.drop i) = true
  | x, [] => by
    simp only [sub]
    constructor
    · intro h; exact ⟨0, Nat.le_refl _, h⟩
    · rintro ⟨i, _, h⟩; simpa using h
  | x, b :: y => by
    rw [sub, Bool.or_eq_true, sub_iff x y]
    constructor
    · rintro (h | ⟨i, h1, h2⟩)
      · exact ⟨0, Nat.zero_le _, h⟩
      · exact ⟨i + 1, by simpa using h1, by simpa using h2⟩
    · rintro ⟨i, h1, h2⟩
      cases i with
      | zero => exact .inl h2
      | succ i => exact .inr ⟨i, by simpa using h1, by simpa using h2⟩
theorem pre_len {x y : List Nat} (h : pre x y = true) : x.length ≤ y.length := by
  rw [pre_take, beq_iff_eq] at h
  have := congrArg List.length h
  rw [List.length_take] at this
  omega
theorem sub_occ (x y : List Nat) : (!(Builtin.Str.occurrences (tx y) (tx x) 0 (tx y).length 1).isEmpty) = sub x y := by
  rw [Bool.eq_iff_iff, StrLaws.found_iff, sub_iff]
  constructor
  · rintro ⟨i, h1, h2⟩
    rw [StrLaws.subAt_eq] at h2
    refine ⟨i, by simp [Str.length] at h1; omega, ?_⟩
    rw [pre_take]
    simpa [Str.length] using h2
  · rintro ⟨i, h1, h2⟩
    refine ⟨i, ?_, ?_⟩
    · have := pre_len h2
      rw [List.length_drop] at this
      simp [Str.length]
      omega
    · rw [StrLaws.subAt_eq]
      rw [pre_take] at h2
      simpa [Str.length] using h2
theorem op2_cmp (gk : GOk G X) (hu : X.A.units + 70 < cLine) (op : Cp) : Op2 G X fr (compareOp (cpOp op)) (dCmpD op) := by
  intro A pins s σ H x y v u d e r Q I p rx ry hd he hg q
  obtain ⟨b, hb, rfl⟩ := cmpD_val hg
  have fin : ∀ t, EP X pins σ Q (.bool b) { s with toks := t } := fun t => ⟨.bl b, H, I.tok t, rfl, q _ H (Same.refl H) mk_bl⟩
  have fin0 : EP X pins σ Q (.bool b) s := ⟨.bl b, H, I, rfl, q _ H (Same.refl H) mk_bl⟩
  have rd := fun (h : D.plain d = true) => reads_of gk I d x v hd.all h rx
  have re := fun (h : D.plain e = true) => reads_of gk I e y u he.all h ry
  have room : ∀ {d e : D}, D.ok d = true → X.A.units + min (toP d).depth (toP e).depth < cLine := fun {d e} h => by
    have := ok_dep h
    rw [toP_depth]
    omega
  cases op with
  | eq =>
    obtain ⟨h, rfl⟩ := chk_val hb
    simp only [Bool.and_eq_true] at h
    obtain ⟨as, ra⟩ := rd (ok_plain h.1)
    obtain ⟨bs, rb⟩ := re (ok_plain h.2)
    exact PySem.SeqAt.eq_plain ra rb (toP_plain d) (toP_plain e) (room h.1) (by rw [toP_eqv d e (ok_plain h.1) (ok_plain h.2)]; exact fin0)
  | ne =>
    obtain ⟨h, rfl⟩ := chk_val hb
    simp only [Bool.and_eq_true] at h
    obtain ⟨as, ra⟩ := rd (ok_plain h.1)
    obtain ⟨bs, rb⟩ := re (ok_plain h.2)
    exact PySem.SeqAt.ne_plain ra rb (toP_plain d) (toP_plain e) (room h.1) (by rw [toP_eqv d e (ok_plain h.1) (ok_plain h.2)]; exact fin0)
  | lt =>
    obtain ⟨h, rfl⟩ := chk_val hb
    simp only [Bool.and_eq_true] at h
    obtain ⟨as, ra⟩ := rd (ok_plain h.1.1)
    obtain ⟨bs, rb⟩ := re (ok_plain h.1.2)
    exact PySem.W.lt_data ra rb (toP_alike d e h.2) (alike_ne h.2) (room h.1.1) (by rw [toP_lt d e (ok_plain h.1.1) (ok_plain h.1.2) h.2]; exact fin0)
  | le =>
    obtain ⟨h, rfl⟩ := chk_val hb
    simp only [Bool.and_eq_true] at h
    obtain ⟨as, ra⟩ := rd (ok_plain h.1.1)
    obtain ⟨bs, rb⟩ := re (ok_plain h.1.2)
    exact PySem.W.le_data ra rb (toP_alike d e h.2) (alike_ne h.2) (room h.1.1) (by rw [toP_lt e d (ok_plain h.1.2) (ok_plain h.1.1) (by rw [alike_symm]; exact h.2)]; exact fin0)
  | gt =>
    obtain ⟨h, rfl⟩ := chk_val hb
    simp only [Bool.and_eq_true] at h
    obtain ⟨as, ra⟩ := rd (ok_plain h.1.2)
    obtain ⟨bs, rb⟩ := re (ok_plain h.1.1)
    have h2 : D.alike d e = true := by rw [alike_symm]; exact h.2
    exact PySem.W.gt_data ra rb (toP_alike d e h2) (alike_ne h2) (room h.1.2) (by rw [toP_lt e d (ok_plain h.1.1) (ok_plain h.1.2) h.2]; exact fin0)
  | ge =>
    obtain ⟨h, rfl⟩ := chk_val hb
    simp only [Bool.and_eq_true] at h
    obtain ⟨as, ra⟩ := rd (ok_plain h.1.2)
    obtain ⟨bs, rb⟩ := re (ok_plain h.1.1)
    have h2 : D.alike d e = true := by rw [alike_symm]; exact h.2
    exact PySem.W.ge_data ra rb (toP_alike d e h2) (alike_ne h2) (room h.1.2) (by rw [toP_lt d e (ok_plain h.1.2) (ok_plain h.1.1) h2]; exact fin0)
  | mem =>
    have hb : dMem d e = .val b := hb
    unfold dMem at hb
    split at hb
    · rename_i ys _
      obtain ⟨h, rfl⟩ := chk_val hb
      simp only [Bool.and_eq_true] at h
      obtain ⟨as, ra⟩ := rd (ok_plain h.1)
      obtain ⟨bs, rb⟩ := re (by simp only [D.plain]; exact okAll_plain h.2)
      have rb' : Reads s.heap u (.list (toPs ys)) bs := by simpa [toP] using rb
      refine PySem.SeqAt.in_list_data rb' ra (toPs_plain ys) (toP_plain d) (by have := ok_dep h.1; rw [toP_depth]; omega) ?_
      rw [memb_any d ys (ok_plain h.1) (okAll_plain h.2)]
      exact fin0
    · rename_i ys _
      obtain ⟨h, rfl⟩ := chk_val hb
      simp only [Bool.and_eq_true] at h
      obtain ⟨as, ra⟩ := rd (ok_plain h.1)
      obtain ⟨bs, rb⟩ := re (by simp only [D.plain]; exact okAll_plain h.2)
      have rb' : Reads s.heap u (.tuple (toPs ys)) bs := by simpa [toP] using rb
      refine PySem.SeqAt.in_tuple_data rb' ra (toPs_plain ys) (toP_plain d) (by have := ok_dep h.1; rw [toP_depth]; omega) ?_
      rw [memb_any d ys (ok_plain h.1) (okAll_plain h.2)]
      exact fin0
    · obtain ⟨h, rfl⟩ := chk_val hb
      obtain ⟨a, es, ep, rfl, h1, h2, h3, h4, h5⟩ := he.dct
      cases ry
      exact in_nk gk I (by omega) h1 h2 h3 (h5.mono Hide.le) h hd.all rx fun s' I' => ⟨.bl _, H, I', rfl, q _ H (Same.refl H) mk_bl⟩
    · split at hb
      · rename_i y _ x' _
        obtain ⟨rfl, k1⟩ := hd.str
        obtain ⟨rfl, k2⟩ := he.str
        cases hb
        refine op_in_str pins s σ H _ _ v u Q I rx ry ⟨_, _, rfl, rfl, ?_⟩
        rw [sub_occ]
        exact q _ H (Same.refl H) mk_bl
      · cases hb
    · cases hb
  | nmem =>
    have hb : (match dMem d e with
      | .val b => Out.val (!b)
      | .exc c => .exc c
      | .bad => .bad) = .val b := hb
    cases hm : dMem d e with
    | exc c => rw [hm] at hb; cases hb
    | bad => rw [hm] at hb; cases hb
    | val b' =>
    rw [hm] at hb
    cases hb
    unfold dMem at hm
    split at hm
    · rename_i ys
      obtain ⟨h, rfl⟩ := chk_val hm
      simp only [Bool.and_eq_true] at h
      obtain ⟨as, ra⟩ := rd (ok_plain h.1)
      obtain ⟨bs, rb⟩ := re (by simp only [D.plain]; exact okAll_plain h.2)
      have rb' : Reads s.heap u (.list (toPs ys)) bs := by simpa [toP] using rb
      refine PySem.SeqAt.notIn_list_data rb' ra (toPs_plain ys) (toP_plain d) (by have := ok_dep h.1; rw [toP_depth]; omega) ?_
      rw [memb_any d ys (ok_plain h.1) (okAll_plain h.2)]
      exact fin0
    · rename_i ys
      obtain ⟨h, rfl⟩ := chk_val hm
      simp only [Bool.and_eq_true] at h
      obtain ⟨as, ra⟩ := rd (ok_plain h.1)
      obtain ⟨bs, rb⟩ := re (by simp only [D.plain]; exact okAll_plain h.2)
      have rb' : Reads s.heap u (.tuple (toPs ys)) bs := by simpa [toP] using rb
      refine PySem.SeqAt.notIn_tuple_data rb' ra (toPs_plain ys) (toP_plain d) (by have := ok_dep h.1; rw [toP_depth]; omega) ?_
      rw [memb_any d ys (ok_plain h.1) (okAll_plain h.2)]
      exact fin0
    · obtain ⟨h, rfl⟩ := chk_val hm
      obtain ⟨a, es, ep, rfl, h1, h2, h3, h4, h5⟩ := he.dct
      cases ry
      exact notIn_nk gk I (by omega) h1 h2 h3 (h5.mono Hide.le) h hd.all rx fun s' I' => ⟨.bl _, H, I', rfl, q _ H (Same.refl H) mk_bl⟩
    · split at hm
      · rename_i y x'
        obtain ⟨rfl, k1⟩ := hd.str
        obtain ⟨rfl, k2⟩ := he.str
        cases hm
        refine op_notIn_str pins s σ H _ _ v u Q I rx ry ⟨_, _, rfl, rfl, ?_⟩
        rw [sub_occ]
        exact q _ H (Same.refl H) mk_bl
      · cases hm
    · cases hm
  | isN =>
    have hb : dCmp .isN d e = .val b := hb
    cases e <;> first | cases hb | skip
    · cases he.non
      refine op_isN pins s σ H _ _ v u Q I rx ry ⟨rfl, ?_⟩
      rw [non_iff hd]
      exact q _ H (Same.refl H) mk_bl
    · cases he.bl
      cases d <;> first | cases hb | skip
      cases hd.bl
      exact op_isBl pins s σ H _ _ v u Q I rx ry ⟨_, _, rfl, rfl, q _ H (Same.refl H) mk_bl⟩
  | notN =>
    have hb : dCmp .notN d e = .val b := hb
    cases e <;> first | cases hb | skip
    · cases he.non
      refine op_notN pins s σ H _ _ v u Q I rx ry ⟨rfl, ?_⟩
      rw [non_iff hd]
      exact q _ H (Same.refl H) mk_bl
    · cases he.bl
      cases d <;> first | cases hb | skip
      cases hd.bl
      exact op_notBl pins s σ H _ _ v u Q I rx ry ⟨_, _, rfl, rfl, q _ H (Same.refl H) mk_bl⟩
end
end Py
end
section
set_option autoImplicit false
set_option linter.all false
set_option maxRecDepth 100000
set_option maxHeartbeats 2000000
/-! PyH: names, constants, tests, and, or, not, if, comparisons, displays. -/
namespace Py
open PySem PySem.Spec L2
open Sem (wp)

/-- what a test is to reach -/
def OutB (Ex : Nm → Hp → Prop) (H : Hp) (Q : Bool → Hp → Prop) : Out Bool → Prop
  | .val b => ∀ H', Same H H' → Q b H'
  | .exc c => ∀ H', Same H H' → Ex c H'
  | .bad => False
theorem OutB.after {Ex : Nm → Hp → Prop} {H H1 : Hp} {Q : Bool → Hp → Prop} {o : Out Bool} (h : OutB Ex H Q o) (e : Same H H1) : OutB Ex H1 Q o := by
  cases o with
  | val d => exact fun H' s => h H' (e.trans s)
  | exc c => exact fun H' s => h H' (e.trans s)
  | bad => exact h
/-- the code e, as a test, computes f -/
def TX (G : Gx) (Ex : XS) (X : Cx) (e : Expr) (f : Env → Out D) : Prop := ∀ (δ : Env) (A : Addr → Bool), PT X e (fun σ H Q => EnvOk G A H δ σ ∧ OutB (Ex σ) H Q (f δ >>= asB))
def TW (G : Gx) (Ex : XS) (X : Cx) (e : Expr) (f : Env → Out D) : Prop := ∀ (δ : Env) (A : Addr → Bool), PW X e (fun σ H Q => EnvOk G A H δ σ ∧ OutB (Ex σ) H Q (f δ >>= asB))
theorem TW.tx {G : Gx} {Ex : XS} {X : Cx} {e : Expr} {f : Env → Out D} (h : TW G Ex X e f) : TX G Ex X e f := fun δ A => (h δ A).pt
theorem wImp {X : Cx} {e : Expr} {t t' : TT} (h : PW X e t) (k : ∀ σ H Q, t' σ H Q → t σ H Q) : PW X e t' := ⟨fun wh pins s σ H Q I q => h.run wh pins s σ H Q I (k σ H Q q)⟩

section
variable {fr : Bool} {G : Gx} {Ex : XS} {Ex0 : Nm → Hp → Prop} {X : Cx} {A : Addr → Bool} {H : Hp} {M M1 : D → V → Hp → Prop} {Q : VK} {a b c : Expr} {pos : Pos} {fa fb fc : Env → Out D}

/-! ### names, constants -/
theorem st_name {i : Nat} {x : Str} (hN : X.N[i]? = some x) (hv : Vis X.env.scope x) (hd : (x == ("__debug__" : Str)) = false) (hcd : (x == ("__classdict__" : Str)) = false) : ST G Ex X (.Name x pos) (fun δ => (get δ i).d) := fun δ A => by
  refine pImp (pe_var hN hv hd hcd) fun σ H Q ⟨ok, o⟩ => ?_
  dsimp only at o
  cases e : get δ i with
  | un => rw [e] at o; exact o.elim
  | sh d =>
    rw [e] at o
    obtain ⟨v, h1, h2⟩ := ok.sh i d e
    exact ⟨v, h1, o v H (Same.refl H) (.inl h2)⟩
  | ow d =>
    rw [e] at o
    obtain ⟨a, h1, h2, h3⟩ := ok.ow i d e
    exact ⟨_, h1, o _ H (Same.refl H) (.inr ⟨a, rfl, h2, h3⟩)⟩
theorem sa_name {i : Nat} {x : Str} (hN : X.N[i]? = some x) (hv : Vis X.env.scope x) (hd : (x == ("__debug__" : Str)) = false) (hcd : (x == ("__classdict__" : Str)) = false) : SA G Ex X false (.Name x pos) (fun δ => (get δ i).v) := fun δ A => by
  refine pImp (pe_var hN hv hd hcd) fun σ H Q ⟨ok, o⟩ => ?_
  dsimp only at o
  cases e : get δ i with
  | un => rw [e] at o; exact o.elim
  | sh d =>
    rw [e] at o
    obtain ⟨v, h1, h2⟩ := ok.sh i d e
    exact ⟨v, h1, o v H (Same.refl H) (mk_item h2)⟩
  | ow d => rw [e] at o; exact o.elim
/-- a value that stands by itself -/
theorem sa_tC {e : Expr} {d : D} {v : V} (h : PE X e (tC v)) (hd : ∀ H : Hp, RepV G H d v) (hl : fr = false ∨ D.isL d = false) : SA G Ex X fr e (fun _ => .val d) := fun δ A => by
  refine pImp h fun σ H Q ⟨ok, o⟩ => o v H (Same.refl H) ⟨hd _, fun z1 z2 => ?_⟩
  rcases hl with hl | hl
  · rw [hl] at z1; cases z1
  · rw [hl] at z2; cases z2
theorem sa_int {i : Int} {j : Nat} : SA G Ex X fr (.Constant (.int i) j pos) (fun _ => .val (.int i)) := sa_tC pe_int (fun _ => .int i) (.inr rfl)
theorem sa_bl {i : Bool} {j : Nat} : SA G Ex X fr (.Constant (.bool i) j pos) (fun _ => .val (.bl i)) := sa_tC pe_bl (fun _ => .bl i) (.inr rfl)
theorem sa_non {j : Nat} : SA G Ex X fr (.Constant .none j pos) (fun _ => .val .non) := sa_tC pe_non (fun _ => .non) (.inr rfl)
theorem sok_by {s : List Nat} (h : (decide (s.length ≤ 1000) && s.all fun c => decide (c < 0x110000)) = true) : SOk s := by
  simp only [Bool.and_eq_true, decide_eq_true_eq, List.all_eq_true] at h
  exact ⟨Nat.le_trans h.1 (by unfold LIM; omega), h.2⟩
theorem sa_str {x : Str} {j : Nat} (h : SOk x.cps.toList) : SA G Ex X fr (.Constant (.str x) j pos) (fun _ => .val (.str x.cps.toList)) := sa_tC pe_str (fun _ => by
  have : V.str x = sV x.cps.toList := by simp [sV, tx]
  rw [this]
  exact .str h) (.inr rfl)

/-! ### tests -/
theorem tx_val (h : ST G Ex X a fa) (he : ∀ whole, isTrue a X.env whole = (do let v ← whole; standAt a.pos; holding [v] (truthy v))) : TX G Ex X a fa := fun δ A => by
  refine tImp (pt_val (h δ A) he) fun σ H Q ⟨ok, o⟩ => ⟨ok, ?_⟩
  cases e : fa δ with
  | val d =>
    rw [e] at o
    intro v H' s m
    cases d <;> first | exact o.elim | skip
    rename_i b
    rw [show v = V.bl b from RepT.bl m]
    exact ⟨b, rfl, o H' s⟩
  | exc c => rw [e] at o; exact o
  | bad => rw [e] at o; exact o
theorem OutB.bnd {Q : Bool → Hp → Prop} {R : Bool → Hp → Prop} {o : Out Bool} {k : Bool → Out Bool} (h : OutB Ex0 H Q (o >>= k)) (c : ∀ b H1, Same H H1 → OutB Ex0 H Q (k b) → R b H1) : OutB Ex0 H R o := by
  cases o with
  | val d => exact fun H' s => c d H' s h
  | exc c => exact h
  | bad => exact h
/-- a test ahead of an expression -/
theorem OutE.ofB {R : Bool → Hp → Prop} {o : Out Bool} {k : Bool → Out D} (h : OutE Ex0 H M Q (o >>= k)) (c : ∀ b H1, Same H H1 → OutE Ex0 H M Q (k b) → R b H1) : OutB Ex0 H R o := by
  cases o with
  | val d => exact fun H' s => c d H' s h
  | exc c => exact h
  | bad => exact h
theorem OutB.ofE {R : VK} {Q : Bool → Hp → Prop} {o : Out D} {k : D → Out Bool} (h : OutB Ex0 H Q (o >>= k)) (c : ∀ d x H1, o = .val d → M1 d x H1 → Same H H1 → OutB Ex0 H Q (k d) → R x H1) : OutE Ex0 H M1 R o := by
  cases o with
  | val d => exact fun v H' s m => c d v H' rfl m s h
  | exc c => exact h
  | bad => exact h
theorem bind_assoc' {α β γ : Type} (x : Out α) (f : α → Out β) (g : β → Out γ) : ((x >>= f) >>= g) = (x >>= fun a => f a >>= g) := by cases x <;> rfl
/-- Want from a value's end -/
theorem OutE.give {o : D} (h : OutE Ex0 H M Q (.val o)) {v : V} {H' : Hp} (s : Same H H') (m : M o v H') : Q v H' := h v H' s m

/-! ### and, or, not, if -/
/-- a and b as f computes -/
def fAnd (fa fb : Env → Out D) : Env → Out D := fun δ => do
  let x ← fa δ
  let p ← asB x
  if p then fb δ else .val (.bl false)
def fOr (fa fb : Env → Out D) : Env → Out D := fun δ => do
  let x ← fa δ
  let p ← asB x
  if p then .val (.bl true) else fb δ
def fIte (fc fa fb : Env → Out D) : Env → Out D := fun δ => do
  let x ← fc δ
  let p ← asB x
  if p then fa δ else fb δ
theorem bl_of {d : D} {x : V} {H : Hp} (h : RepT G A H d x) {α : Type} {k : Bool → Out α} (n : (asB d >>= k) ≠ .bad) : ∃ b, d = .bl b ∧ x = .bl b := by
  cases d <;> first | exact absurd rfl n | skip
  exact ⟨_, rfl, h.bl⟩
theorem OutE.nbad {o : Out D} (h : OutE Ex0 H M Q o) : o ≠ .bad := fun e => by rw [e] at h; exact h
theorem sa_and {rest : List Expr} (ha : ST G Ex X a fa) (hb : SA G Ex X false (.BoolOp .And (b :: rest) pos) fb) : SA G Ex X false (.BoolOp .And (a :: b :: rest) pos) (fAnd fa fb) := fun δ A => by
  refine pImp (pe_and (ha δ A) (hb δ A)) fun σ H Q ⟨ok, o⟩ => ⟨ok, o.bnd fun d x H1 _ m1 s1 o1 => ?_⟩
  obtain ⟨p, rfl, rfl⟩ := bl_of m1 o1.nbad
  refine ⟨p, rfl, ?_⟩
  cases p with
  | true => rw [if_pos rfl]; exact ⟨ok.mono s1, (OutE.after o1 s1).imp fun d v H' s m => ⟨m.1, fun z => nomatch z⟩⟩
  | false => rw [if_neg (by decide)]; exact o1 _ H1 s1 (mk_flat rfl (.bl _))
theorem sa_or {rest : List Expr} (ha : ST G Ex X a fa) (hb : SA G Ex X false (.BoolOp .Or (b :: rest) pos) fb) : SA G Ex X false (.BoolOp .Or (a :: b :: rest) pos) (fOr fa fb) := fun δ A => by
  refine pImp (pe_or (ha δ A) (hb δ A)) fun σ H Q ⟨ok, o⟩ => ⟨ok, o.bnd fun d x H1 _ m1 s1 o1 => ?_⟩
  obtain ⟨p, rfl, rfl⟩ := bl_of m1 o1.nbad
  refine ⟨p, rfl, ?_⟩
  cases p with
  | false => rw [if_neg (by decide)]; exact ⟨ok.mono s1, (OutE.after o1 s1).imp fun d v H' s m => ⟨m.1, fun z => nomatch z⟩⟩
  | true => rw [if_pos rfl]; exact o1 _ H1 s1 (mk_flat rfl (.bl _))
theorem sa_bone {op : BoolOp} (ha : SA G Ex X false a fa) : SA G Ex X false (.BoolOp op [a] pos) fa := fun δ A => pe_one (ha δ A)
theorem tw_and {rest : List Expr} (ha : TX G Ex X a fa) (hb : TW G Ex X (.BoolOp .And (b :: rest) pos) fb) : TW G Ex X (.BoolOp .And (a :: b :: rest) pos) (fAnd fa fb) := fun δ A => by
  refine wImp (pw_and (ha δ A) (hb δ A)) fun σ H Q ⟨ok, o⟩ => ⟨ok, ?_⟩
  have o' : OutB (Ex σ) H Q ((fa δ >>= asB) >>= fun p => (if p then fb δ else .val (.bl false)) >>= asB) := by
    unfold fAnd at o
    simpa only [bind_assoc'] using o
  refine o'.bnd fun p H1 s1 o1 => ?_
  cases p with
  | true => rw [if_pos rfl]; exact ⟨ok.mono s1, o1.after s1⟩
  | false => rw [if_neg (by decide)]; exact o1 H1 s1
theorem tw_or {rest : List Expr} (ha : TX G Ex X a fa) (hb : TW G Ex X (.BoolOp .Or (b :: rest) pos) fb) : TW G Ex X (.BoolOp .Or (a :: b :: rest) pos) (fOr fa fb) := fun δ A => by
  refine wImp (pw_or (ha δ A) (hb δ A)) fun σ H Q ⟨ok, o⟩ => ⟨ok, ?_⟩
  have o' : OutB (Ex σ) H Q ((fa δ >>= asB) >>= fun p => (if p then .val (.bl true) else fb δ) >>= asB) := by
    unfold fOr at o
    simpa only [bind_assoc'] using o
  refine o'.bnd fun p H1 s1 o1 => ?_
  cases p with
  | false => rw [if_neg (by decide)]; exact ⟨ok.mono s1, o1.after s1⟩
  | true => rw [if_pos rfl]; exact o1 H1 s1
theorem tw_one {op : BoolOp} (ha : TX G Ex X a fa) : TW G Ex X (.BoolOp op [a] pos) fa := fun δ A => by
  cases op with
  | And => exact pw_and1 (ha δ A)
  | Or => exact pw_or1 (ha δ A)
def fNot (fa : Env → Out D) : Env → Out D := fun δ => do let x ← fa δ; dNot x
theorem sa_not (ha : ST G Ex X a fa) : SA G Ex X fr (.UnaryOp .Not a pos) (fNot fa) := fun δ A => by
  refine pImp (pe_not (ha δ A)) fun σ H Q ⟨ok, o⟩ => ⟨ok, o.bnd fun d x H1 _ m1 s1 o1 => ?_⟩
  cases d <;> first | exact o1.elim | skip
  exact ⟨_, RepT.bl m1, o1 _ H1 s1 (mk_flat rfl (.bl _))⟩
theorem tx_not (ha : TX G Ex X a fa) : TX G Ex X (.UnaryOp .Not a pos) (fNot fa) := fun δ A => by
  refine tImp (pt_not (ha δ A)) fun σ H Q ⟨ok, o⟩ => ⟨ok, ?_⟩
  unfold fNot at o
  cases e : fa δ with
  | val d =>
    rw [e] at o
    cases d <;> first | exact o.elim | skip
    exact fun H' s => o H' s
  | exc c => rw [e] at o; exact o
  | bad => rw [e] at o; exact o
theorem sa_ite (hc : TX G Ex X c fc) (ha : SA G Ex X false a fa) (hb : SA G Ex X false b fb) : SA G Ex X false (.IfExp c a b pos) (fIte fc fa fb) := fun δ A => by
  refine pImp (pe_ifExp (hc δ A) (ha δ A) (hb δ A)) fun σ H Q ⟨ok, o⟩ => ⟨ok, ?_⟩
  have o' : OutE (Ex σ) H (MA G A H false) Q ((fc δ >>= asB) >>= fun p => if p then fa δ else fb δ) := by
    unfold fIte at o
    simpa only [bind_assoc'] using o
  refine o'.ofB fun p H1 s1 o1 => ?_
  cases p with
  | true => rw [if_pos rfl]; exact ⟨ok.mono s1, (OutE.after o1 s1).imp fun d v H' s m => ⟨m.1, fun z => nomatch z⟩⟩
  | false => rw [if_neg (by decide)]; exact ⟨ok.mono s1, (OutE.after o1 s1).imp fun d v H' s m => ⟨m.1, fun z => nomatch z⟩⟩

/-! ### comparisons -/
def fCmp (op : Cp) (fa fb : Env → Out D) : Env → Out D := fun δ => do
  let x ← fa δ
  let y ← fb δ
  let r ← dCmp op x y
  return .bl r
abbrev rB (G : Gx) (X : Cx) (A : Addr → Bool) (fr : Bool) (g : D → D → Out D) : R2 := fun x y H Q => ∃ d e r, Prot A H ∧ RepT G A H d x ∧ RepT G A H e y ∧ g d e = .val r ∧ Want G A H fr r Q
theorem opR_of {fr : Bool} {f : Value → Value → Sem Value} {g : D → D → Out D} (ho : Op2 G X fr f g) : OpR X f (rB G X A fr g) := by
  intro pins s σ H x y v u Q I rx ry ⟨d, e, r, h1, h2, h3, h4, h5⟩
  exact ho A pins s σ H x y v u d e r Q I h1 rx ry h2 h3 h4 h5
theorem nox_cmpD (op : Cp) (d e : D) : NoX (dCmpD op d e) := nox_map (nox_cmp op d e)
theorem sa_cmp (gk : GOk G X) (hu : X.A.units + 70 < cLine) {op : Cp} (ha : ST G Ex X a fa) (hb : ST G Ex X b fb) (hm : behindInMarks (cpOp op) b = false) : SA G Ex X fr (.Compare a [cpOp op] [b] pos) (fCmp op fa fb) := fun δ A => by
  refine pImp (pe_cmpR (opR_of (A := A) (op2_cmp (fr := fr) gk hu op)) (ha δ A) (hb δ A) hm) fun σ H Q ⟨ok, o⟩ => ⟨ok, o.bnd fun d x H1 _ m1 s1 o1 => ⟨ok.mono s1, (o1.after s1).bnd fun e y H2 _ m2 s2 o2 => ?_⟩⟩
  obtain ⟨r, h1, h2⟩ := OutE.val (o := dCmpD op d e) o2 (nox_cmpD op d e)
  exact ⟨d, e, r, (ok.mono (s1.trans s2)).prot, m1.mono s2, m2, h1, Want.after h2 s2 (s1.trans s2)⟩
theorem tx_cmp (gk : GOk G X) (hu : X.A.units + 70 < cLine) {op : Cp} (ha : ST G Ex X a fa) (hb : ST G Ex X b fb) (hm : behindInMarks (cpOp op) b = false) : TX G Ex X (.Compare a [cpOp op] [b] pos) (fCmp op fa fb) := fun δ A => by
  refine tImp (pt_cmpR (opR_of (A := A) (op2_cmp (fr := false) gk hu op)) (ha δ A) (hb δ A) hm) fun σ H Q ⟨ok, o⟩ => ⟨ok, ?_⟩
  have o' : OutB (Ex σ) H Q (fa δ >>= fun x => fb δ >>= fun y => dCmpD op x y >>= asB) := by
    unfold fCmp at o
    simpa only [bind_assoc', dCmpD] using o
  refine o'.ofE fun d x H1 _ m1 s1 o1 => ⟨ok.mono s1, (o1.after s1).ofE fun e y H2 _ m2 s2 o2 => ?_⟩
  cases hr : dCmpD op d e with
  | val r =>
    rw [hr] at o2
    refine ⟨d, e, r, (ok.mono (s1.trans s2)).prot, m1.mono s2, m2, hr, fun v H' s m => ?_⟩
    obtain ⟨p, _, rfl⟩ := cmpD_val hr
    refine ⟨p, RepT.bl (A := A) (.inl m.1), o2 H' (s2.trans s)⟩
  | exc c => exact absurd hr (nox_cmpD op d e c)
  | bad => rw [hr] at o2; exact o2.elim
end
end Py
end
section
set_option autoImplicit false
set_option linter.all false
set_option maxRecDepth 100000
set_option maxHeartbeats 2000000
/-! PyI: chains, argument lists, displays, subscripts, slices. -/
namespace Py
open PySem PySem.Spec L2
open Sem (wp)

section
variable {fr : Bool} {G : Gx} {Ex : XS} {Ex0 : Nm → Hp → Prop} {X : Cx} {A : Addr → Bool} {H : Hp} {M M1 : D → V → Hp → Prop} {Q : VK} {a b c : Expr} {pos : Pos} {fa fb fc : Env → Out D} {es : List Expr}

/-! ### chains -/
def fCmp2 (k1 k2 : Cp) (fa fb fc : Env → Out D) : Env → Out D := fun δ => do
  let x ← fa δ
  let y ← fb δ
  let r ← dCmp k1 x y
  if r then (do
    let z ← fc δ
    let r2 ← dCmp k2 y z
    return .bl r2) else .val (.bl false)
theorem cmpD_bnd {op : Cp} {x y : D} {k : Bool → Out D} : (dCmp op x y >>= k) = (dCmpD op x y >>= fun d => asB d >>= k) := by
  unfold dCmpD
  cases dCmp op x y <;> rfl
theorem sa_cmp2 (gk : GOk G X) (hu : X.A.units + 70 < cLine) {k1 k2 : Cp} (ha : ST G Ex X a fa) (hb : ST G Ex X b fb) (hc : ST G Ex X c fc) (hm : lastMarks [cpOp k1, cpOp k2] [b, c] = false) :
    SA G Ex X fr (.Compare a [cpOp k1, cpOp k2] [b, c] pos) (fCmp2 k1 k2 fa fb fc) := fun δ A => by
  refine pImp (pe_chain (opR_of (A := A) (op2_cmp (fr := false) gk hu k1)) (opR_of (A := A) (op2_cmp (fr := false) gk hu k2)) (ha δ A) (hb δ A) (hc δ A) hm) fun σ H Q ⟨ok, o⟩ => ⟨ok, o.bnd fun d x H1 _ m1 s1 o1 => ⟨ok.mono s1, (o1.after s1).bnd fun e y H2 _ m2 s2 o2 => ?_⟩⟩
  rw [cmpD_bnd] at o2
  cases hr : dCmpD k1 d e with
  | exc c => exact absurd hr (nox_cmpD k1 d e c)
  | bad => rw [hr] at o2; exact o2.elim
  | val r =>
    rw [hr] at o2
    obtain ⟨p, _, rfl⟩ := cmpD_val hr
    refine ⟨d, e, _, (ok.mono (s1.trans s2)).prot, m1.mono s2, m2, hr, fun v H3 s3 m => ?_⟩
    refine ⟨p, RepT.bl (A := A) (.inl m.1), ?_⟩
    cases p with
    | false => exact o2 _ H3 (s2.trans s3) mk_bl
    | true =>
      rw [if_pos rfl]
      have o3 : OutE (Ex σ) H3 (MA G A H fr) Q (fc δ >>= fun z => dCmpD k2 e z) := OutE.after o2 (s2.trans s3)
      refine ⟨(ok.mono (s1.trans s2)).mono s3, o3.bnd fun g w H4 _ m4 s4 o4 => ?_⟩
      obtain ⟨r2, h1, h2⟩ := o4.val (nox_cmpD k2 e g)
      obtain ⟨p2, _, rfl⟩ := cmpD_val h1
      exact ⟨e, g, _, (ok.mono ((s1.trans s2).trans (s3.trans s4))).prot, m2.mono (s3.trans s4), m4, h1, fun v H5 s5 m5 => h2 v H5 (s4.trans s5) ⟨m5.1, fun z1 z2 => by cases z2⟩⟩
theorem tx_cmp2 (gk : GOk G X) (hu : X.A.units + 70 < cLine) {k1 k2 : Cp} (ha : ST G Ex X a fa) (hb : ST G Ex X b fb) (hc : ST G Ex X c fc) (hm : lastMarks [cpOp k1, cpOp k2] [b, c] = false) :
    TX G Ex X (.Compare a [cpOp k1, cpOp k2] [b, c] pos) (fCmp2 k1 k2 fa fb fc) := fun δ A => by
  refine tImp (pt_chain (opR_of (A := A) (op2_cmp (fr := false) gk hu k1)) (opR_of (A := A) (op2_cmp (fr := false) gk hu k2)) (ha δ A) (hb δ A) (hc δ A) hm) fun σ H Q ⟨ok, o⟩ => ⟨ok, ?_⟩
  have o' : OutB (Ex σ) H Q (fa δ >>= fun x => fb δ >>= fun y => dCmp k1 x y >>= fun r => (if r then (fc δ >>= fun z => dCmp k2 y z >>= fun r2 => pure (D.bl r2)) else .val (.bl false)) >>= asB) := by
    unfold fCmp2 at o
    simpa only [bind_assoc'] using o
  refine o'.ofE fun d x H1 _ m1 s1 o1 => ⟨ok.mono s1, (o1.after s1).ofE fun e y H2 _ m2 s2 o2 => ?_⟩
  cases hr : dCmpD k1 d e with
  | exc c => exact absurd hr (nox_cmpD _ d e c)
  | bad =>
    have : dCmp k1 d e = .bad := by
      unfold dCmpD at hr
      cases z : dCmp k1 d e <;> rw [z] at hr <;> first | rfl | cases hr
    rw [this] at o2
    exact o2.elim
  | val r =>
    obtain ⟨p, hp, rfl⟩ := cmpD_val hr
    rw [hp] at o2
    refine ⟨d, e, _, (ok.mono (s1.trans s2)).prot, m1.mono s2, m2, hr, fun v H3 s3 m => ?_⟩
    refine ⟨p, RepT.bl (A := A) (.inl m.1), ?_⟩
    cases p with
    | false => exact ⟨false, rfl, o2 H3 (s2.trans s3)⟩
    | true =>
      rw [if_pos rfl]
      have o3 : OutB (Ex σ) H3 Q (fc δ >>= fun z => dCmpD k2 e z >>= asB) := by
        have := OutB.after o2 (s2.trans s3)
        simpa only [Out.bind_val, if_true, bind_assoc', dCmpD] using this
      refine ⟨(ok.mono (s1.trans s2)).mono s3, o3.ofE fun g w H4 _ m4 s4 o4 => ?_⟩
      cases hr2 : dCmpD k2 e g with
      | exc c => exact absurd hr2 (nox_cmpD _ e g c)
      | bad => rw [hr2] at o4; exact o4.elim
      | val r2 =>
        rw [hr2] at o4
        obtain ⟨p2, _, rfl⟩ := cmpD_val hr2
        exact ⟨e, g, _, (ok.mono ((s1.trans s2).trans (s3.trans s4))).prot, m2.mono (s3.trans s4), m4, hr2, fun v H5 s5 m5 => ⟨p2, RepT.bl (A := A) (.inl m5.1), o4 H5 (s4.trans s5)⟩⟩

/-! ### argument lists -/
def OutEs (Ex : Nm → Hp → Prop) (H : Hp) (M : List D → List V → Hp → Prop) (Q : List V → Hp → Prop) : Out (List D) → Prop
  | .val d => ∀ v H', Same H H' → M d v H' → Q v H'
  | .exc c => ∀ H', Same H H' → Ex c H'
  | .bad => False
theorem OutEs.after {Ex : Nm → Hp → Prop} {H H1 : Hp} {M : List D → List V → Hp → Prop} {Q : List V → Hp → Prop} {o : Out (List D)} (h : OutEs Ex H M Q o) (e : Same H H1) : OutEs Ex H1 M Q o := by
  cases o with
  | val d => exact fun v H' s m => h v H' (e.trans s) m
  | exc c => exact fun H' s => h H' (e.trans s)
  | bad => exact h
/-- item by item -/
inductive RepTs (G : Gx) (A : Addr → Bool) (H : Hp) : List D → List V → Prop where
  | nil : RepTs G A H [] []
  | cons {d : D} {ds : List D} {v : V} {vs : List V} : RepT G A H d v → RepTs G A H ds vs → RepTs G A H (d :: ds) (v :: vs)
theorem RepTs.mono {G : Gx} {A : Addr → Bool} {H H' : Hp} (e : Same H H') : ∀ {ds : List D} {vs : List V}, RepTs G A H ds vs → RepTs G A H' ds vs
  | _, _, .nil => .nil
  | _, _, .cons r rs => .cons (r.mono e) (RepTs.mono e rs)
theorem RepTs.all {G : Gx} {A : Addr → Bool} {H : Hp} : ∀ {ds : List D} {vs : List V}, RepTs G A H ds vs → RepAll G H ds vs
  | _, _, .nil => .nil
  | _, _, .cons r rs => .cons r.all (RepTs.all rs)
/-- values, free of own lists -/
def PAa (G : Gx) (Ex : XS) (X : Cx) (es : List Expr) (f : Env → Out (List D)) : Prop := ∀ (δ : Env) (A : Addr → Bool), PA X es (fun σ H Q => EnvOk G A H δ σ ∧ OutEs (Ex σ) H (fun ds vs H' => RepAll G (Hide H' A) ds vs) Q (f δ))
/-- values, whose tops may be own lists -/
def PAt (G : Gx) (Ex : XS) (X : Cx) (es : List Expr) (f : Env → Out (List D)) : Prop := ∀ (δ : Env) (A : Addr → Bool), PA X es (fun σ H Q => EnvOk G A H δ σ ∧ OutEs (Ex σ) H (fun ds vs H' => RepTs G A H' ds vs) Q (f δ))
theorem aImp {X : Cx} {es : List Expr} {t t' : TA} (h : PA X es t) (k : ∀ σ H Q, t' σ H Q → t σ H Q) : PA X es t' := ⟨fun pos pins s σ H Q I q => h.run pos pins s σ H Q I (k σ H Q q)⟩
theorem aa_nil : PAa G Ex X [] (fun _ => .val []) := fun δ A => aImp pa_nil fun σ H Q ⟨ok, o⟩ => o [] H (Same.refl H) .nil
theorem at_nil : PAt G Ex X [] (fun _ => .val []) := fun δ A => aImp pa_nil fun σ H Q ⟨ok, o⟩ => o [] H (Same.refl H) .nil
def fCons (fa : Env → Out D) (fs : Env → Out (List D)) : Env → Out (List D) := fun δ => do
  let x ← fa δ
  let xs ← fs δ
  return x :: xs
theorem aa_cons {fs : Env → Out (List D)} (ha : SA G Ex X false a fa) (hr : PAa G Ex X es fs) (hs : starEach (a :: es) X.env = (false, eval a X.env) :: starEach es X.env) : PAa G Ex X (a :: es) (fCons fa fs) := fun δ A => by
  refine aImp (pa_cons (ha δ A) (hr δ A) hs) fun σ H Q ⟨ok, o⟩ => ⟨ok, ?_⟩
  unfold fCons at o
  cases e : fa δ with
  | exc c => rw [e] at o; exact o
  | bad => rw [e] at o; exact o.elim
  | val d =>
    rw [e] at o
    intro v H1 s1 m1
    refine ⟨ok.mono s1, ?_⟩
    cases e2 : fs δ with
    | exc c => rw [e2] at o; exact fun H' s => o H' (s1.trans s)
    | bad => rw [e2] at o; exact o.elim
    | val ds =>
      rw [e2] at o
      exact fun vs H2 s2 m2 => o (v :: vs) H2 (s1.trans s2) (.cons (m1.1.mono (Hide.mono s2)) m2)
theorem at_cons {fs : Env → Out (List D)} (ha : ST G Ex X a fa) (hr : PAt G Ex X es fs) (hs : starEach (a :: es) X.env = (false, eval a X.env) :: starEach es X.env) : PAt G Ex X (a :: es) (fCons fa fs) := fun δ A => by
  refine aImp (pa_cons (ha δ A) (hr δ A) hs) fun σ H Q ⟨ok, o⟩ => ⟨ok, ?_⟩
  unfold fCons at o
  cases e : fa δ with
  | exc c => rw [e] at o; exact o
  | bad => rw [e] at o; exact o.elim
  | val d =>
    rw [e] at o
    intro v H1 s1 m1
    refine ⟨ok.mono s1, ?_⟩
    cases e2 : fs δ with
    | exc c => rw [e2] at o; exact fun H' s => o H' (s1.trans s)
    | bad => rw [e2] at o; exact o.elim
    | val ds =>
      rw [e2] at o
      exact fun vs H2 s2 m2 => o (v :: vs) H2 (s1.trans s2) (.cons (m1.mono s2) m2)
def fTup (fs : Env → Out (List D)) : Env → Out D := fun δ => do
  let xs ← fs δ
  return .tup xs
def fLst (fs : Env → Out (List D)) : Env → Out D := fun δ => do
  let xs ← fs δ
  return .lst xs
theorem OutEs.bnd {R : List V → Hp → Prop} {M1 : List D → List V → Hp → Prop} {o : Out (List D)} {k : List D → Out D} (h : OutE Ex0 H M Q (o >>= k)) (c : ∀ d x H1, o = .val d → M1 d x H1 → Same H H1 → OutE Ex0 H M Q (k d) → R x H1) : OutEs Ex0 H M1 R o := by
  cases o with
  | val d => exact fun v H' s m => c d v H' rfl m s h
  | exc c => exact h
  | bad => exact h
theorem sa_tup {k : Nat} {fs : Env → Out (List D)} (h : PAa G Ex X es fs) (hl : es.length ≤ 1000) (hlen : ∀ δ ds, fs δ = .val ds → ds.length = es.length) : SA G Ex X fr (.Tuple es k pos) (fTup fs) := fun δ A => by
  refine pImp (pe_tup (h δ A)) fun σ H Q ⟨ok, o⟩ => ⟨ok, OutEs.bnd o fun ds vs H1 e m s1 o1 => ⟨?_, fun p hp => o1 _ _ (s1.trans (same_upd hp)) ?_⟩⟩
  · rw [← m.length, hlen δ ds e]
    exact Nat.le_trans hl (by decide)
  · have := mk_tup (fr := fr) (ok.mono s1).prot hp m
    exact ⟨this.1, fun z1 z2 => by cases z2⟩
theorem sa_lst {fs : Env → Out (List D)} (h : PAa G Ex X es fs) (hl : es.length ≤ 1000) (hlen : ∀ δ ds, fs δ = .val ds → ds.length = es.length) : SA G Ex X fr (.List es pos) (fLst fs) := fun δ A => by
  refine pImp (pe_lst (h δ A)) fun σ H Q ⟨ok, o⟩ => ⟨ok, OutEs.bnd o fun ds vs H1 e m s1 o1 => ⟨?_, fun p hp => o1 _ _ (s1.trans (same_upd hp)) ?_⟩⟩
  · rw [← m.length, hlen δ ds e]
    exact Nat.le_trans hl (by decide)
  · have := mk_lst (fr := fr) (ok.mono s1).prot hp m
    exact ⟨this.1, fun z1 z2 => let ⟨a, h1, h2, h3⟩ := this.2 z1 z2; ⟨a, h1, s1.free h2, h3⟩⟩
/-- {} -/
theorem sa_dnil : SA G Ex X fr (.Dict [] [] pos) (fun _ => .val (.dct [])) := fun δ A => by
  refine ⟨fun pins s σ H Q I ⟨ok, o⟩ => ?_⟩
  have hp : H s.heap.objs.size = none := I.fresh
  have hb : (s.heap.objs.size == sysModules) = false := beq_eq_false_iff_ne.mpr (Ne.symm (Nat.ne_of_lt I.big))
  refine wpAny_Dict_empty ⟨.ref s.heap.objs.size, upd H s.heap.objs.size (dctO s.heap.objs.size [] 0), ?_, rfl, o _ _ (same_upd hp) (mk_dct ok.prot hp hb List.nodup_nil (Nat.zero_le _) .nil)⟩
  refine I.laid (t' := s.toks) (fun _ _ q => Heap.get?_push_of_some _ q) (Nat.le_refl _) ⟨⟨_, Heap.get?_push_size _ rfl, ⟨rfl, rfl, rfl⟩, rfl⟩, ⟨_, Heap.get?_push_size _ rfl⟩, fun g1 g2 ⟨o2, y1, y2, y3⟩ kp => ⟨o2, kp o2 y1, y2, y3⟩⟩

/-! ### subscripts, slices -/
def fIdx (fa fb : Env → Out D) : Env → Out D := fun δ => do let x ← fa δ; let y ← fb δ; dIdx x y
theorem pl_ix (n : Nat) (i : Int) : pl n i = ixN n i := rfl
theorem at_atI {α : Type} (xs : List α) (i : Int) : at_ xs i = atI xs i := by
  unfold at_ atI
  rw [pl_ix]
  cases ixN xs.length i <;> rfl
theorem orBad_val {α : Type} {o : Option α} {r : α} (h : orBad o = .val r) : o = some r := by
  cases o with
  | none => cases h
  | some a => rw [Out.val.inj h]
theorem RepAll.atI {Hf : Hp} {ds : List D} {vs : List V} {i : Int} {d : D} (r : RepAll G Hf ds vs) (h : at_ ds i = some d) : ∃ v, L2.atI vs i = some v ∧ RepV G Hf d v := by
  unfold at_ at h
  unfold L2.atI
  rw [pl_ix, r.length] at h
  cases e : ixN vs.length i with
  | none => rw [e] at h; cases h
  | some j =>
    rw [e] at h
    exact r.get h
theorem nox_idx (d e : D) : NoX (dIdx d e) := by
  unfold dIdx
  split <;> first
    | exact nox_orBad
    | exact nox_bad
    | (split <;> first | exact nox_val | exact nox_bad | exact nox_orBad)
theorem ix_all (gk : GOk G X) (hu : X.A.units + 70 < cLine) : IxR X (rB G X A false dIdx) := by
  intro value slice pins s σ H x y v u Q I rx ry ⟨d, e, r, p, hd, he, hg, q⟩ hs
  unfold dIdx at hg
  split at hg
  · obtain ⟨l, vs, rfl, s1, r1⟩ := hd.lst
    rw [← gk.K] at s1
    have s1 := s1.sq
    cases he.int
    obtain ⟨w', h1, h2⟩ := r1.atI (orBad_val hg)
    exact ix_list value slice pins s σ H _ _ v u Q I rx ry ⟨l, vs, _, w', rfl, rfl, s1, h1, q _ H (Same.refl H) (mk_item h2)⟩ hs
  · obtain ⟨l, vs, rfl, s1, r1⟩ := hd.tup
    cases he.int
    obtain ⟨w', h1, h2⟩ := r1.atI (orBad_val hg)
    rw [← gk.K] at s1
    exact ix_tup value slice pins s σ H _ _ v u Q I rx ry ⟨l, vs, _, w', rfl, rfl, s1, h1, q _ H (Same.refl H) (mk_item h2)⟩ hs
  · rename_i t i
    obtain ⟨rfl, k1⟩ := hd.str
    cases he.int
    cases ha : at_ t i with
    | none => rw [ha] at hg; cases hg
    | some c =>
      rw [ha] at hg
      cases hg
      rw [at_atI] at ha
      refine ix_str value slice pins s σ H _ _ v u Q I rx ry ⟨tx t, i, c, rfl, rfl, by rw [← LIM_eq]; simpa [Str.length] using k1.1, by simpa using ha, ?_⟩ hs
      refine q _ H (Same.refl H) (mk_str (s := [c]) ⟨by unfold LIM; simp, fun z hz => ?_⟩)
      have : z = c := by simpa using hz
      subst this
      unfold L2.atI at ha
      cases e : ixN t.length i with
      | none => rw [e] at ha; cases ha
      | some j => rw [e] at ha; exact k1.2 _ (List.mem_of_getElem? ha)
  · split at hg
    · rename_i hk
      obtain ⟨a, es, ep, rfl, h1, h2, h3, h4, h5⟩ := hd.dct
      cases rx
      refine PyProof.Rows.tail_any (dict_at I h1).typeIs F.slot_dict_getitem.lookup ?_ hs
      exact item_nk gk I (by omega) h1 h3 (h5.mono Hide.le) hk he.all ry (orBad_val hg) fun s' vv uv I' rv rr => ⟨vv, H, I', rv, q _ H (Same.refl H) (mk_item (rr _ h5))⟩
    · cases hg
  · cases hg
theorem sa_idx (gk : GOk G X) (hu : X.A.units + 70 < cLine) (ha : ST G Ex X a fa) (hb : ST G Ex X b fb) (hs : PlainIx b) : SA G Ex X false (.Subscript a b pos) (fIdx fa fb) := fun δ A => by
  refine pImp (pe_ix (ix_all (A := A) gk hu) (ha δ A) (hb δ A) hs) fun σ H Q ⟨ok, o⟩ => ⟨ok, o.bnd fun d x H1 _ m1 s1 o1 => ⟨ok.mono s1, (o1.after s1).bnd fun e y H2 _ m2 s2 o2 => ?_⟩⟩
  obtain ⟨r, h1, h2⟩ := o2.val (nox_idx d e)
  exact ⟨d, e, r, (ok.mono (s1.trans s2)).prot, m1.mono s2, m2, h1, Want.after h2 s2 (s1.trans s2)⟩

def fSl (fa fl fh : Env → Out D) : Env → Out D := fun δ => do
  let x ← fa δ
  let l ← fl δ
  let l ← bound l
  let h ← fh δ
  let h ← bound h
  dCut x l h
/-- a slice's part -/
def PO1 (G : Gx) (Ex : XS) (X : Cx) (e : Option Expr) (f : Env → Out D) : Prop := ∀ (δ : Env) (A : Addr → Bool), PO X e (fun σ H Q => EnvOk G A H δ σ ∧ (match f δ >>= bound with
  | .val o => ∀ H', Same H H' → Q o H'
  | .exc c => ∀ H', Same H H' → Ex σ c H'
  | .bad => False))
theorem oImp {e : Option Expr} {t t' : TO} (h : PO X e t) (k : ∀ σ H Q, t' σ H Q → t σ H Q) : PO X e t' := ⟨fun pins s σ H Q I q => h.run pins s σ H Q I (k σ H Q q)⟩
theorem po1_none : PO1 G Ex X none (fun _ => .val .non) := fun δ A => oImp po_none fun σ H Q ⟨ok, o⟩ => o H (Same.refl H)
theorem po1_some (h : ST G Ex X a fa) : PO1 G Ex X (some a) fa := fun δ A => by
  refine ⟨fun pins s σ H Q I ⟨ok, o⟩ => ?_⟩
  rw [evalPart_some]
  refine thn ((h δ A).run pins s σ H (fun v H' => ∃ o', (v = .non ∧ o' = none ∨ ∃ i, v = .int i ∧ o' = some i) ∧ Q o' H') I ⟨ok, ?_⟩) fun u s1 ⟨x, H1, I1, r1, o', h1, q1⟩ => ?_
  · cases e : fa δ with
    | exc c => rw [e] at o; exact o
    | bad => rw [e] at o; exact o.elim
    | val d =>
      rw [e] at o
      intro v H' s m
      cases d <;> first | exact o.elim | skip
      · exact ⟨none, .inl ⟨RepT.non m, rfl⟩, o H' s⟩
      · exact ⟨_, .inr ⟨_, RepT.int m, rfl⟩, o H' s⟩
  · rcases h1 with ⟨rfl, rfl⟩ | ⟨i, rfl, rfl⟩
    · cases r1
      exact ⟨none, H1, I1, .none, q1⟩
    · obtain ⟨t, rfl⟩ := r1
      exact ⟨some i, H1, I1, .int i t, q1⟩
theorem nox_cut (d : D) (l h : Option Int) : NoX (dCut d l h) := by
  unfold dCut
  split <;> first | exact nox_val | exact nox_bad
theorem cutIx_eq (n d : Nat) (o : Option Int) : cutIx n d o = HT.sIx n d o := by cases o <;> rfl
theorem RepAll.cut {Hf : Hp} {ds : List D} {vs : List V} {lo hi : Option Int} (r : RepAll G Hf ds vs) : RepAll G Hf (Py.cut ds lo hi) (cutV vs lo hi) := by
  unfold Py.cut cutV
  rw [cutIx_eq, cutIx_eq, r.length]
  exact (r.drop _).take _
theorem cut_whole {α : Type} {xs : List α} {lo hi : Option Int} (h : HT.sIx xs.length 0 lo = 0 ∧ HT.sIx xs.length xs.length hi = xs.length) : Py.cut xs lo hi = xs := by
  unfold Py.cut
  rw [cutIx_eq, cutIx_eq, h.1, h.2]
  simp
theorem cut_mem {α : Type} {xs : List α} {lo hi : Option Int} {c : α} (h : c ∈ Py.cut xs lo hi) : c ∈ xs := List.mem_of_mem_drop (List.mem_of_mem_take h)
theorem cut_len {α : Type} (xs : List α) (lo hi : Option Int) : (Py.cut xs lo hi).length ≤ xs.length := by
  unfold Py.cut
  rw [List.length_take, List.length_drop]
  omega
abbrev rS (G : Gx) (A : Addr → Bool) : V → Option Int → Option Int → Hp → VK → Prop := fun x lo hi H Q => ∃ d r, Prot A H ∧ RepT G A H d x ∧ dCut d lo hi = .val r ∧ Want G A H true r Q
theorem sl_all (gk : GOk G X) : SlR X (rS G A) := by
  intro pins s σ H x v vl vu lo hi sl Q I rx hs pl pu ⟨d, r, p, hd, hg, q⟩
  unfold dCut at hg
  split at hg
  · cases hg
    obtain ⟨l, vs, rfl, s1, r1⟩ := hd.lst
    rw [← gk.K] at s1
    have s1 := s1.sq
    exact sl_list pins s σ H _ v vl vu lo hi sl Q I rx hs pl pu ⟨l, vs, rfl, s1, fun p' hp => q _ _ (same_upd hp) (mk_lst p hp r1.cut)⟩
  · cases hg
    obtain ⟨l, vs, rfl, s1, r1⟩ := hd.tup
    rw [← gk.K] at s1
    refine sl_tupA pins s σ H _ v vl vu lo hi sl Q I rx hs pl pu ⟨l, vs, rfl, s1, fun hw => ?_, fun hw p' hp => q _ _ (same_upd hp) (mk_tup p hp r1.cut)⟩
    rw [← r1.length] at hw
    rw [cut_whole hw] at q
    exact q _ H (Same.refl H) (mk_flat rfl (hd.of_not rfl))
  · rename_i t
    cases hg
    obtain ⟨rfl, k1⟩ := hd.str
    refine sl_str pins s σ H _ v vl vu lo hi sl Q I rx hs pl pu ⟨tx t, rfl, by rw [← LIM_eq]; simpa [Str.length] using k1.1, ?_⟩
    have e : cutS (tx t) lo hi = tx (Py.cut t lo hi) := by
      unfold cutS Py.cut
      simp [Str.length, cutIx_eq]
    rw [e]
    exact q _ H (Same.refl H) (mk_str (k1.of_sub (cut_len _ _ _) fun c hc => cut_mem hc))
  · cases hg
theorem sa_sl (gk : GOk G X) {lo hi : Option Expr} {fl fh : Env → Out D} {p2 : Pos} (ha : ST G Ex X a fa) (hl : PO1 G Ex X lo fl) (hh : PO1 G Ex X hi fh) : SA G Ex X true (.Subscript a (.Slice lo hi none p2) pos) (fSl fa fl fh) := fun δ A => by
  refine pImp (pe_slice (sl_all (A := A) gk) (ha δ A) (hl δ A) (hh δ A)) fun σ H Q ⟨ok, o⟩ => ⟨ok, o.bnd fun d x H1 _ m1 s1 o1 => ⟨ok.mono s1, ?_⟩⟩
  have o1' : OutE (Ex σ) H (MA G A H true) Q ((fl δ >>= bound) >>= fun l => (fh δ >>= bound) >>= fun h => dCut d l h) := by simpa only [bind_assoc'] using o1
  cases e1 : fl δ >>= bound with
  | exc c => rw [e1] at o1'; exact fun H' s => o1' H' (s1.trans s)
  | bad => rw [e1] at o1'; exact o1'.elim
  | val l =>
    rw [e1] at o1'
    intro H2 s2
    refine ⟨ok.mono (s1.trans s2), ?_⟩
    cases e2 : fh δ >>= bound with
    | exc c => rw [e2] at o1'; exact fun H' s => o1' H' ((s1.trans s2).trans s)
    | bad => rw [e2] at o1'; exact o1'.elim
    | val h =>
      rw [e2] at o1'
      intro H3 s3
      obtain ⟨r, h1, h2⟩ := OutE.val (o := dCut d l h) o1' (nox_cut d l h)
      have s13 := (s1.trans s2).trans s3
      exact ⟨d, r, (ok.mono s13).prot, m1.mono (s2.trans s3), h1, Want.after h2 s13 s13⟩
end
end Py
end
section
set_option autoImplicit false
set_option linter.all false
set_option maxRecDepth 100000
set_option maxHeartbeats 2000000
/-! PyJ: calls of built-ins with one or two arguments. -/
namespace Py
open PySem PySem.Spec L2
open Sem (wp)

/-- a call of a known built-in with one value computes g -/
def C1 (G : Gx) (X : Cx) (fr : Bool) (f : Value) (g : D → Out D) : Prop := ∀ A : Addr → Bool, CallR X f (fun xs H Q => ∃ x d r, xs = [x] ∧ Prot A H ∧ RepT G A H d x ∧ g d = .val r ∧ Want G A H fr r Q)
def C2 (G : Gx) (X : Cx) (fr : Bool) (f : Value) (g : D → D → Out D) : Prop := ∀ A : Addr → Bool, CallR X f (fun xs H Q => ∃ x y d e r, xs = [x, y] ∧ Prot A H ∧ RepT G A H d x ∧ RepT G A H e y ∧ g d e = .val r ∧ Want G A H fr r Q)
section
variable {fr : Bool} {G : Gx} {Ex : XS} {Ex0 : Nm → Hp → Prop} {X : Cx} {A : Addr → Bool} {H : Hp} {M M1 : D → V → Hp → Prop} {Q : VK} {a b c : Expr} {pos p : Pos} {fa fb fc : Env → Out D} {es : List Expr} {x : Str}
theorem one_pa (ha : ST G Ex X a fa) (hs : starEach [a] X.env = (false, eval a X.env) :: starEach [] X.env) : PAt G Ex X [a] (fCons fa fun _ => .val []) := at_cons ha at_nil hs
def f1 (g : D → Out D) (fa : Env → Out D) : Env → Out D := fun δ => do let x ← fa δ; g x
def f2 (g : D → D → Out D) (fa fb : Env → Out D) : Env → Out D := fun δ => do let x ← fa δ; let y ← fb δ; g x y
theorem fr_up {H1 : Hp} {r : D} {v : V} {H' : Hp} (e : Same H H1) (m : MA G A H1 fr r v H') : MA G A H fr r v H' := ⟨m.1, fun z1 z2 => let ⟨a, h1, h2, h3⟩ := m.2 z1 z2; ⟨a, h1, e.free h2, h3⟩⟩
theorem call1_pre {g : D → Out D} (hn : ∀ d, NoX (g d)) (ha : ST G Ex X a fa) (hs : starEach [a] X.env = (false, eval a X.env) :: starEach [] X.env) (δ : Env) (A : Addr → Bool) :
    ∃ t : TA, PA X [a] t ∧ ∀ σ H Q, EnvOk G A H δ σ ∧ OutE (Ex σ) H (MA G A H fr) Q (f1 g fa δ) → t σ H (fun vs H1 => ∃ x d r, vs = [x] ∧ Prot A H1 ∧ RepT G A H1 d x ∧ g d = .val r ∧ Want G A H1 fr r Q) := by
  refine ⟨_, pa_cons (ha δ A) pa_nil hs, fun σ H Q ⟨ok, o⟩ => ⟨ok, OutE.bnd o fun d v H1 _ m1 s1 o1 => ?_⟩⟩
  obtain ⟨r, h1, h2⟩ := o1.val (hn d)
  exact ⟨v, d, r, rfl, (ok.mono s1).prot, m1, h1, Want.after h2 s1 s1⟩
theorem sa_callB {id : String} {g : D → Out D} (hc : C1 G X fr (.builtin id) g) (hn : ∀ d, NoX (g d)) (hg : Gl X x) (hm : X.mg x = none) (hv : bootBuiltins x = some (.builtin id)) (hx : x ≠ "__name__") (hdb : (x == ("__debug__" : Str)) = false)
    (ha : ST G Ex X a fa) (hs : starEach [a] X.env = (false, eval a X.env) :: starEach [] X.env) : SA G Ex X fr (.Call (.Name x p) [a] [] pos) (f1 g fa) := fun δ A => by
  obtain ⟨t, h1, h2⟩ := call1_pre (fr := fr) hn ha hs δ A
  exact pImp (pe_callB (hc A) hg hm hv h1 hx hdb hs rfl) fun σ H Q o => h2 σ H Q o
theorem sa_callT {T : String} {g : D → Out D} (hc : C1 G X fr (.type T) g) (hn : ∀ d, NoX (g d)) (hg : Gl X x) (hm : X.mg x = none) (hv : bootBuiltins x = some (.type T)) (hx : x ≠ "__name__") (hdb : (x == ("__debug__" : Str)) = false)
    (ha : ST G Ex X a fa) (hs : starEach [a] X.env = (false, eval a X.env) :: starEach [] X.env) : SA G Ex X fr (.Call (.Name x p) [a] [] pos) (f1 g fa) := fun δ A => by
  obtain ⟨t, h1, h2⟩ := call1_pre (fr := fr) hn ha hs δ A
  exact pImp (pe_callTy (hc A) hg hm hv h1 hx hdb hs rfl) fun σ H Q o => h2 σ H Q o
theorem sa_callB2 {id : String} {g : D → D → Out D} (hc : C2 G X fr (.builtin id) g) (hn : ∀ d e, NoX (g d e)) (hg : Gl X x) (hm : X.mg x = none) (hv : bootBuiltins x = some (.builtin id)) (hx : x ≠ "__name__") (hdb : (x == ("__debug__" : Str)) = false)
    (ha : ST G Ex X a fa) (hb : ST G Ex X b fb) (hs : starEach [a, b] X.env = (false, eval a X.env) :: starEach [b] X.env) (hs2 : starEach [b] X.env = (false, eval b X.env) :: starEach [] X.env) : SA G Ex X fr (.Call (.Name x p) [a, b] [] pos) (f2 g fa fb) := fun δ A => by
  refine pImp (pe_callB (hc A) hg hm hv (pa_cons (ha δ A) (pa_cons (hb δ A) pa_nil hs2) hs) hx hdb hs (by rw [hs2]; rfl)) fun σ H Q ⟨ok, o⟩ => ⟨ok, OutE.bnd o fun d v H1 _ m1 s1 o1 => ⟨ok.mono s1, OutE.bnd (o1.after s1) fun e w H2 _ m2 s2 o2 => ?_⟩⟩
  obtain ⟨r, h1, h2⟩ := o2.val (hn d e)
  exact ⟨v, w, d, e, r, rfl, (ok.mono (s1.trans s2)).prot, m1.mono s2, m2, h1, Want.after h2 s2 (s1.trans s2)⟩

/-! ### each of them -/
theorem nox_bi1 (k : Bi) (d : D) : NoX (bi1 k d) := by
  unfold bi1
  split <;> first
    | exact nox_val
    | exact nox_chk
    | exact nox_bad
    | (split <;> first | exact nox_val | exact nox_chk | exact nox_bad)
theorem nox_bi2 (k : Bi) (d e : D) : NoX (bi2 k d e) := by
  unfold bi2
  split <;> first
    | exact nox_val
    | exact nox_chk
    | exact nox_bad
    | (split <;> first | exact nox_val | exact nox_chk | exact nox_bad)
theorem c1_len (gk : GOk G X) : C1 G X fr (.builtin "len") (bi1 .len) := by
  intro A pins s σ H xs us Q I rs ⟨x, d, r, e, p, hd, hg, q⟩
  subst e
  cases d <;> simp only [bi1] at hg <;> first | cases hg | skip
  · rename_i t
    obtain ⟨rfl, k1⟩ := hd.str
    refine call_len pins s σ H _ us Q I rs ⟨_, t.length, rfl, ⟨by rw [← LIM_eq]; simpa [Str.length] using k1.1, by simp [Str.length]⟩, q _ H (Same.refl H) mk_int⟩
  · obtain ⟨l, vs, rfl, s1, r1⟩ := hd.tup
    rw [← gk.K] at s1
    exact call_len pins s σ H _ us Q I rs ⟨_, vs.length, rfl, .inr ⟨vs, s1, rfl⟩, by rw [← r1.length]; exact q _ H (Same.refl H) mk_int⟩
  · obtain ⟨l, vs, rfl, s1, r1⟩ := hd.lst
    rw [← gk.K] at s1
    have s1 := s1.sq
    exact call_len pins s σ H _ us Q I rs ⟨_, vs.length, rfl, .inl ⟨vs, s1, rfl⟩, by rw [← r1.length]; exact q _ H (Same.refl H) mk_int⟩
theorem c1_int : C1 G X fr (.type "int") (bi1 .int) := by
  intro A pins s σ H xs us Q I rs ⟨x, d, r, e, p, hd, hg, q⟩
  subst e
  cases d <;> simp only [bi1] at hg <;> first | cases hg | skip
  · cases hd.bl
    exact call_int1 pins s σ H _ us Q I rs (.inr ⟨_, rfl, q _ H (Same.refl H) mk_int⟩)
  · cases hd.int
    exact call_int1 pins s σ H _ us Q I rs (.inl ⟨_, rfl, q _ H (Same.refl H) mk_int⟩)
theorem c1_tuple (gk : GOk G X) : C1 G X fr (.type "tuple") (bi1 .tuple) := by
  intro A pins s σ H xs us Q I rs ⟨x, d, r, e, p, hd, hg, q⟩
  subst e
  cases d <;> simp only [bi1] at hg <;> first | cases hg | skip
  · obtain ⟨l, vs, rfl, s1, r1⟩ := hd.tup
    rw [← gk.K] at s1
    exact call_tuple_of pins s σ H _ us Q I rs ⟨l, vs, rfl, .inr ⟨s1, q _ H (Same.refl H) (mk_flat rfl (hd.of_not rfl))⟩⟩
  · obtain ⟨l, vs, rfl, s1, r1⟩ := hd.lst
    rw [← gk.K] at s1
    have s1 := s1.sq
    exact call_tuple_of pins s σ H _ us Q I rs ⟨l, vs, rfl, .inl ⟨s1, fun p' hp => q _ _ (same_upd hp) (mk_tup p hp r1)⟩⟩
theorem bools_rep {Hf : Hp} : ∀ {ds : List D} {vs : List V} {bs : List Bool}, RepAll G Hf ds vs → bools ds = some bs → vs = bs.map V.bl
  | [], _, _, r, h => by
    cases r
    simp only [bools, Option.some.injEq] at h
    subst h
    rfl
  | d :: ds, _, bs, r, h => by
    cases r with
    | cons r1 r2 =>
      cases d <;> simp only [bools] at h <;> first | cases h | skip
      cases e : bools ds with
      | none => rw [e] at h; cases h
      | some bs' =>
        rw [e] at h
        simp only [Option.map_some, Option.some.injEq] at h
        subst h
        cases r1
        rw [bools_rep r2 e]
        rfl
theorem ints_rep {Hf : Hp} : ∀ {ds : List D} {vs : List V} {bs : List Int}, RepAll G Hf ds vs → intsOf ds = some bs → vs = bs.map V.int
  | [], _, _, r, h => by
    cases r
    simp only [intsOf, Option.some.injEq] at h
    subst h
    rfl
  | d :: ds, _, bs, r, h => by
    cases r with
    | cons r1 r2 =>
      cases d <;> simp only [intsOf] at h <;> first | cases h | skip
      cases e : intsOf ds with
      | none => rw [e] at h; cases h
      | some bs' =>
        rw [e] at h
        simp only [Option.map_some, Option.some.injEq] at h
        subst h
        cases r1
        rw [ints_rep r2 e]
        rfl
theorem c1_all (gk : GOk G X) (hc : X.calm = true) : C1 G X fr (.builtin "all") (bi1 .all) := by
  intro A pins s σ H xs us Q I rs ⟨x, d, r, e, p, hd, hg, q⟩
  subst e
  cases d <;> simp only [bi1] at hg <;> first | cases hg | skip
  split at hg
  · rename_i bs hb
    cases hg
    obtain ⟨l, vs, rfl, s1, r1⟩ := hd.lst
    rw [← gk.K] at s1
    have s1 := s1.sq
    exact cr_all hc pins s σ H _ us Q I rs ⟨l, bs, rfl, by rw [← bools_rep r1 hb]; exact s1, q _ H (Same.refl H) mk_bl⟩
  · cases hg
theorem c1_any (gk : GOk G X) (hc : X.calm = true) : C1 G X fr (.builtin "any") (bi1 .any) := by
  intro A pins s σ H xs us Q I rs ⟨x, d, r, e, p, hd, hg, q⟩
  subst e
  cases d <;> simp only [bi1] at hg <;> first | cases hg | skip
  split at hg
  · rename_i bs hb
    cases hg
    obtain ⟨l, vs, rfl, s1, r1⟩ := hd.lst
    rw [← gk.K] at s1
    have s1 := s1.sq
    exact cr_any hc pins s σ H _ us Q I rs ⟨l, bs, rfl, by rw [← bools_rep r1 hb]; exact s1, q _ H (Same.refl H) mk_bl⟩
  · cases hg
theorem c1_sum (gk : GOk G X) (hc : X.calm = true) : C1 G X fr (.builtin "sum") (bi1 .sum) := by
  intro A pins s σ H xs us Q I rs ⟨x, d, r, e, p, hd, hg, q⟩
  subst e
  cases d <;> simp only [bi1] at hg <;> first | cases hg | skip
  split at hg
  · rename_i bs hb
    cases hg
    obtain ⟨l, vs, rfl, s1, r1⟩ := hd.lst
    rw [← gk.K] at s1
    have s1 := s1.sq
    exact cr_sum hc pins s σ H _ us Q I rs ⟨l, bs, rfl, by rw [← ints_rep r1 hb]; exact s1, q _ H (Same.refl H) mk_int⟩
  · cases hg
theorem c2_max (hc : X.calm = true) : C2 G X fr (.builtin "max") (bi2 .max2) := by
  intro A pins s σ H xs us Q I rs ⟨x, y, d, e', r, e, p, hd, he, hg, q⟩
  subst e
  cases d <;> cases e' <;> simp only [bi2] at hg <;> first | cases hg | skip
  · cases hd.int
    cases he.int
    exact call_max2 hc pins s σ H _ us Q I rs ⟨_, _, rfl, q _ H (Same.refl H) mk_int⟩
theorem c2_min (hc : X.calm = true) : C2 G X fr (.builtin "min") (bi2 .min2) := by
  intro A pins s σ H xs us Q I rs ⟨x, y, d, e', r, e, p, hd, he, hg, q⟩
  subst e
  cases d <;> cases e' <;> simp only [bi2] at hg <;> first | cases hg | skip
  · cases hd.int
    cases he.int
    exact call_min2 hc pins s σ H _ us Q I rs ⟨_, _, rfl, q _ H (Same.refl H) mk_int⟩
end
end Py
end
section
set_option autoImplicit false
set_option linter.all false
set_option maxRecDepth 100000
/-! PyL0: enumerate of a tuple. -/
namespace Py
open PySem PySem.Spec PyProof.Rows
open Sem (wp)

set_option maxHeartbeats 1000000 in
theorem meets_enum1 {v : Value} {o : Obj} {H : Heap → Prop} (B : Begins v o H) :
    Meets (Builtin.«enumerate.__new__» ⟨[.type "enumerate", v], []⟩) (fun _ R s => H s.heap ∧
      R (.ok (.ret (.ref (s.heap.push o).objs.size))) { s with heap := (s.heap.push o).push { cls := .type "enumerate", data := .fields #[.none, .bool false, .ref s.heap.objs.size, rawInt 0, .none, .none] } }) :=
  .of_wp fun prog w A R s h => by
    obtain ⟨hp, g, d, tk, os⟩ := s; obtain ⟨h1, h⟩ := h
    have hsub := sub_enumerate
    have q1 : ∀ {A' : Around} {E : Value → Shared → Prop} {Q : Value → Shared → Prop}, Q (.ref hp.objs.size) ⟨hp.push o, g, d, tk, os⟩ → wpAny (model prog w) A' (pyIter v) Q E ⟨hp, g, d, tk, os⟩ :=
      fun q => B.iter prog w _ _ ⟨hp, g, d, tk, os⟩ _ h1 q
    wp_walk using q1
    refine wpAny_stack_any fun st => wpAny_pure ?_
    split
    · rename_i c _ _ _ _ _
      cases (c == Value.type "enumerate")
      · wp_walk using q1
        exact ⟨_, rfl, h⟩
      · wp_walk using q1
        exact ⟨_, rfl, h⟩
    · wp_walk using q1
      exact ⟨_, rfl, h⟩
section
variable {prog : Program} {w : World} {A : Around} {E : Value → Shared → Prop} {s : Shared}
theorem call_enumB {v : Value} {o : Obj} {H : Heap → Prop} {Q : Value → Shared → Prop} (B : Begins v o H) (h1 : H s.heap)
    (h : ∀ h', IsEnum h' (s.heap.objs.size + 1) s.heap.objs.size 0 .none → h'.get? s.heap.objs.size = some o → h'.objs.size = s.heap.objs.size + 2 →
      (∀ b o, s.heap.get? b = some o → h'.get? b = some o) → Q (.ref (s.heap.objs.size + 1)) { s with heap := h' }) :
    wpAny (model prog w) A (call (.type "enumerate") [v]) Q E s := by
  refine callType_new F.called_enumerate (by decide) (F.typeCall_enumerate_1 _) (F.newCall_enumerate_1 _) (fun obj => F.args_object_init_2 obj _) F.entry_enumerate_new
    (meets_enum1 B) ⟨h1, ?_⟩
  have hz : (s.heap.push o).objs.size = s.heap.objs.size + 1 := Heap.size_push ..
  show _ ∧ _
  rw [hz]
  have he : IsEnum ((s.heap.push o).push { cls := .type "enumerate", data := .fields #[.none, .bool false, .ref s.heap.objs.size, rawInt 0, .none, .none] }) (s.heap.objs.size + 1) s.heap.objs.size 0 .none := by
    have := Heap.get?_push_size (s.heap.push o) (o := { cls := .type "enumerate", data := .fields #[.none, .bool false, .ref s.heap.objs.size, rawInt 0, .none, .none] }) rfl
    rw [hz] at this; exact this
  refine ⟨⟨_, he, rfl⟩, h _ he (Heap.get?_push_of_some _ (Heap.get?_push_size _ B.free)) (by rw [Heap.size_push, hz]) fun b o x => Heap.get?_push_of_some _ (Heap.get?_push_of_some _ x)⟩
end

open L2
/-- the tuple at a, each item in a new pair -/
def IteT (K : PySem.W.Frag) (a : Addr) : L2.It :=
  ⟨fun i H => ∃ (xs : List V) (x : V), SqT K H a xs ∧ xs[i]? = some x, fun i H v H' => ∃ T x, v = .ref T ∧ H T = none ∧ H' = upd H T (.tup [.int (i : Nat), x]) ∧ ∀ xs, SqT K H a xs → xs[i]? = some x, fun i H => ∃ xs : List V, SqT K H a xs ∧ xs.length ≤ i⟩
theorem turn_enumT {P : Program} {w : World} {K : PySem.W.Frag} {elts : List Expr} {kk : Nat} {tpos : Pos} (a e it : Addr) (hai : a ≠ it) (hae : a ≠ e) :
    Turn P w K (.Tuple elts kk tpos) (IteT K a) [e, it] e (fun i h => (∃ old, IsEnum h e it ((i : Nat) : Int) old) ∧ h.IsTupleIter it a i ∧ e ≠ it) where
  mem := by simp
  obj := fun i h st b hb => by
    obtain ⟨⟨old, he⟩, ⟨o, ho, hc, hd⟩, _⟩ := st
    have e' : b = e ∨ b = it := by simpa using hb
    rcases e' with z | z
    · rw [z]; exact ⟨_, he, fun v q => nomatch q⟩
    · rw [z]; exact ⟨o, ho, fun v q => by rw [hd] at q; cases q⟩
  keep := fun i h h' st k => let ⟨⟨old, he⟩, hi, hne⟩ := st; ⟨⟨old, k e (by simp) _ he⟩, hi.at fun o q => k it (by simp) o q, hne⟩
  item := by
    intro X hP hw hK hc i pins s σ H E I hf st hg
    subst hP hw hK
    obtain ⟨⟨old, he⟩, hit, hne⟩ := st
    obtain ⟨xs, x, hq, hx⟩ := hg
    obtain ⟨its, rv, p, hz⟩ := I.tuple hq
    obtain ⟨u, hu, ru⟩ := rv.get hx
    have hel : e < s.heap.objs.size := Heap.lt_size he
    have hil : it < s.heap.objs.size := by obtain ⟨_, q, _⟩ := hit; exact Heap.lt_size q
    have hlt : i < its.toArray.size := by
      have := (List.getElem?_eq_some_iff.mp hu).1
      simpa using this
    have Dr : Draws X.prog X.w X.A.in1 it [it, a] its.toArray.size (fun i v => its.toArray[i]? = some v) (fun i h => h.IsTupleIter it a i ∧ h.IsTuple a its.toArray) := Draws.tuple (A := X.A.in1) (show X.A.in1.handled = none from I.ok.hd hc) it a hai its.toArray
    refine wpAny_pyNext_enum_itemD (A := X.A) Dr he ⟨hit, p⟩ hlt hne (by simp [hne, Ne.symm hae]) fun x' h' tk hx' ho hit' hT hsz hk => ?_
    have : x' = u := by
      have e1 : its[i]? = some x' := by simpa using hx'
      rw [hu] at e1
      exact (Option.some.inj e1).symm
    subst this
    refine ⟨_, rfl, wpAny_letOwnedTupleGo_enum (s := { s with heap := h', toks := tk + 1 }) ho fun h'' he' sb => ?_⟩
    have hT2 : h''.get? s.heap.objs.size = some { cls := .type "tuple", data := .seq #[.int i tk, x'] } := (sb.2 _ (Nat.ne_of_gt hel)).trans hT
    have new : ObjOk X.prog X.w (upd H s.heap.objs.size (.tup [.int (i : Nat), x])) h'' s.heap.objs.size (.tup [.int (i : Nat), x]) :=
      ⟨by show 2 ≤ sizeLine; decide, [.int i tk, x'], .cons ⟨_, rfl⟩ (.cons ru .nil), ⟨_, hT2, rfl, _, rfl⟩⟩
    have I1 : Inv X pins σ (upd H s.heap.objs.size (.tup [.int (i : Nat), x])) { s with heap := h'', toks := tk + 1 } :=
      I.turnedNew (ch := [e, it]) (fun b ob hb q => (sb.2 b (fun z => hb (by simp [z]))).trans (hk b ob (fun z => hb (by simp [z])) (fun z => hb (by simp [z])) q)) hf (Nat.le_refl _) new
    refine ⟨.ref s.heap.objs.size, _, I1, rfl, ⟨_, x, rfl, I.hok.fresh (Nat.le_refl _), rfl, fun ys hy => by rw [I.tuple_inj hy hq]; exact hx⟩, ⟨⟨x', ?_⟩, hit'.1.at fun o q => (sb.2 it (Ne.symm hne)).trans q, hne⟩, fun b hb => ?_⟩
    · have e1 : ((i + 1 : Nat) : Int) = (i : Int) + 1 := by omega
      rw [e1]; exact he'
    · have hb' : b < s.heap.objs.size := by
        have e' : b = e ∨ b = it := by simpa using hb
        rcases e' with z | z
        · rw [z]; exact hel
        · rw [z]; exact hil
      rw [upd_ne (Nat.ne_of_lt hb')]
      exact (hf b hb).1
  done := by
    intro X hP hw hK hc i pins s σ H E I hf st hg
    subst hP hw hK
    obtain ⟨⟨old, he⟩, hit, hne⟩ := st
    obtain ⟨xs, hq, hx⟩ := hg
    obtain ⟨its, rv, p, hz⟩ := I.tuple hq
    obtain ⟨f0, f1, f2, f3, f4, f5⟩ := hf it (by simp)
    have hl := rv.length
    have hend : its.toArray[i]? = none := by
      simp
      omega
    have hT : s.TypeIs (.ref e) "enumerate" := ⟨_, he, rfl⟩
    unfold pyNext
    refine wpAny_bind (wpAny_attempt (wpAny_callSpecial?_slot (name := Str.ofString "__next__") hT F.slot_enumerate_next
      (wpAny_call_entry F.slot_enumerate_next hT F.entry_enumerate_next ?_ (F.args_enumerate_next_1 _))))
    show wpAny _ _ (field (.ref e) 2 >>= _) _ _ _
    refine wpAny_bind (wpAny_field he rfl (x := .ref it) rfl ?_)
    refine wpAny_bind (wpAny_nextOf_tuple_end (I.ok.hd hc) hit p hend fun h' x he' hx' => ?_)
    obtain ⟨o, ho, hcc⟩ := hx'
    refine wpAny_bind (wpAny_isInstance (T := "StopIteration") (b := true) ⟨o, ho, hcc⟩ isSubtype_stop ?_)
    exact wpAny_pure ⟨rfl, I.turned (t' := s.toks) (fun b o hb q => he' b o hb q) f0 f1 f3 f4 f5⟩
  self := fun A i s Q E st h => let ⟨⟨_, he⟩, _⟩ := st; wpAny_pyIter_enum he h
def iEnumT (K : PySem.W.Frag) (ta : TA) : TI := fun σ H R => ta σ H fun vs H1 => ∃ a xs, vs = [.ref a] ∧ SqT K H1 a xs ∧ R (IteT K a) H1
theorem pi_enumT {X : Cx} {e : Expr} {ta : TA} {p pos tpos : Pos} {elts : List Expr} {kk : Nat} (hg : Gl X "enumerate") (hm : X.mg "enumerate" = none) (ha : PA X [e] ta) (hs : starEach [e] X.env = [(false, eval e X.env)] := by rfl) :
    PI X (.Tuple elts kk tpos) (.Call (.Name "enumerate" p) [e] [] pos) (iEnumT X.K ta) := by
  refine ⟨fun pins s σ H R I h => ?_⟩
  refine Call_ (ld_blt I hg hm boot_enumerate (PyProof.Rows.callWith_type1 (thn (ha.run pos pins s σ H _ I h) fun us s1 ⟨vs, H1, I1, r1, q1⟩ => ?_) hs rfl))
  obtain ⟨a, xs, ex, hq, q⟩ := q1
  subst ex
  cases r1 with
  | cons r rr =>
    cases rr
    cases r
    obtain ⟨its, rv, p', hz⟩ := I1.tuple hq
    have hal : a < s1.heap.objs.size := p'.lt
    refine call_enumB (begins_tuple a its.toArray) p' fun h' he hit hsz hk => wpAny_pyIter_enum he ?_
    have I2 : Inv X pins σ H1 { s1 with heap := h' } := I1.kept (t' := s1.toks) hk
    refine ⟨s1.heap.objs.size + 1, [s1.heap.objs.size + 1, s1.heap.objs.size], _, _, H1, rfl, I2, turn_enumT a (s1.heap.objs.size + 1) s1.heap.objs.size (Nat.ne_of_lt hal) (Nat.ne_of_lt (Nat.lt_succ_of_lt hal)), ⟨⟨.none, he⟩, ⟨_, hit, rfl, rfl⟩, Nat.succ_ne_self _⟩, fun b hb => ?_, q⟩
    have e' : b = s1.heap.objs.size + 1 ∨ b = s1.heap.objs.size := by simpa using hb
    have hle : s1.heap.objs.size ≤ b := by
      rcases e' with z | z
      · rw [z]; exact Nat.le_add_right _ _
      · rw [z]; exact Nat.le_refl _
    exact I1.fpOk hle (I1.hok.fresh hle)
end Py
end
section
set_option autoImplicit false
set_option linter.all false
set_option maxRecDepth 100000
set_option maxHeartbeats 2000000
/-! PyL: what is walked. -/
namespace Py
open PySem PySem.Spec L2
open Sem (wp)

/-- J gives xs, while B stands; Bi: where the items stand -/
structure Gives (G : Gx) (B Bi : Hp) (J : L2.It) (xs : List D) : Prop where
  len : xs.length ≤ LIM
  walk : ∃ (Gd : Hp → Prop) (Y : Nat → Hp → V → Hp → Prop), Walk J xs.length Gd Y ∧ (∀ H, Same B H → Gd H) ∧
    ∀ (i : Nat) (A : Addr → Bool) (H : Hp) (x : V) (H2 : Hp), i < xs.length → Same B H → Same Bi (Hide H A) → Prot A H → Y i H x H2 → Same H H2 ∧ ∃ d, xs[i]? = some d ∧ RepV G (Hide H2 A) d x
def OutI (Ex0 : Nm → Hp → Prop) (G : Gx) (top : Bool) (A : Addr → Bool) (H : Hp) (R : L2.It → Hp → Prop) : Out (List D) → Prop
  | .val xs => ∀ J H', Same H H' → Gives G (if top = true then H' else Hide H' A) (Hide H' A) J xs → R J H'
  | .exc c => ∀ H', Same H H' → Ex0 c H'
  | .bad => False
/-- iter gives what f computes -/
def SI (top : Bool) (G : Gx) (Ex : XS) (X : Cx) (tg iter : Expr) (f : Env → Out (List D)) : Prop := ∀ (δ : Env) (A : Addr → Bool), PI X tg iter (fun σ H R => EnvOk G A H δ σ ∧ OutI (Ex σ) G top A H R (f δ))
def MJ (G : Gx) (A : Addr → Bool) (top : Bool) (d : D) (v : V) (H' : Hp) : Prop := if top = true then RepT G A H' d v else RepV G (Hide H' A) d v
def SJ (top : Bool) (G : Gx) (Ex : XS) (X : Cx) (e : Expr) (f : Env → Out D) : Prop := ∀ (δ : Env) (A : Addr → Bool), PE X e (fun σ H Q => EnvOk G A H δ σ ∧ OutE (Ex σ) H (MJ G A top) Q (f δ))

section
variable {top : Bool} {fr : Bool} {G : Gx} {Ex : XS} {Ex0 : Nm → Hp → Prop} {X : Cx} {A : Addr → Bool} {H H' : Hp} {a b e : Expr} {pos p tpos : Pos} {fa fb : Env → Out D} {tg : Expr}
theorem sj_top (h : ST G Ex X e fa) : SJ true G Ex X e fa := h
theorem sj_free (h : SA G Ex X false e fa) : SJ false G Ex X e fa := fun δ A =>
  pImp (h δ A) fun σ H Q ⟨ok, o⟩ => ⟨ok, o.imp fun d v H' _ m => m.1⟩
abbrev Bs (top : Bool) (H : Hp) (A : Addr → Bool) : Hp := if top = true then H else Hide H A
theorem Bs.le {H1 : Hp} (s : Same (Bs top H A) H1) : Same (Hide H A) H1 := by
  unfold Bs at s
  split at s
  · exact Hide.le.trans s
  · exact s
theorem MJ.lst {ds : List D} {v : V} (h : MJ G A top (.lst ds) v H) : ∃ a vs, v = .ref a ∧ LsT G.K (Bs top H A) a vs ∧ RepAll G (Hide H A) ds vs := by
  unfold MJ at h
  unfold Bs
  split at h
  · rename_i ht
    rw [if_pos ht]
    exact h.lst
  · rename_i ht
    rw [if_neg ht]
    cases h with
    | lst s r => exact ⟨_, _, rfl, s, r⟩
theorem MJ.tup {ds : List D} {v : V} (h : MJ G A top (.tup ds) v H) : ∃ a vs, v = .ref a ∧ SqT G.K (Hide H A) a vs ∧ RepAll G (Hide H A) ds vs := by
  have h' : RepV G (Hide H A) (.tup ds) v := by
    unfold MJ at h
    split at h
    · exact h.of_not rfl
    · exact h
  cases h' with
  | tup s r => exact ⟨_, _, rfl, s, r⟩
theorem MJ.flat {d : D} {v : V} (h : MJ G A top d v H) (n : D.isL d = false) : RepV G (Hide H A) d v := by
  unfold MJ at h
  split at h
  · exact h.of_not n
  · exact h
theorem MJ.str {s : List Nat} {v : V} (h : MJ G A top (.str s) v H) : v = sV s ∧ SOk s := by
  cases h.flat rfl with
  | str k => exact ⟨rfl, k⟩
theorem MJ.int {i : Int} {v : V} (h : MJ G A top (.int i) v H) : v = .int i := by
  cases h.flat rfl with
  | int => rfl
def LenOk (K : PySem.W.Frag) (H : Hp) (x : V) : Prop := ∀ a xs, x = .ref a → (SqL K H a xs ∨ SqT K H a xs) → xs.length ≤ LIM
theorem pe_len {t : TE} (h : PE X e t) : PE X e (fun σ H Q => t σ H fun x H1 => LenOk X.K H1 x → Q x H1) :=
  ⟨fun pins s σ H Q I hw => thn (h.run pins s σ H _ I hw) fun u s1 ⟨x, H1, I1, r1, q1⟩ => ⟨x, H1, I1, r1, q1 fun a xs _ hs => by
    rw [LIM_eq]
    rcases hs with hs | hs
    · obtain ⟨_, _, _, hz⟩ := I1.list hs; exact hz
    · obtain ⟨_, _, _, hz⟩ := I1.tuple hs; exact hz⟩⟩
theorem iImp {t t' : TI} {iter : Expr} (h : PI X tg iter t) (k : ∀ σ H R, t' σ H R → t σ H R) : PI X tg iter t' := ⟨fun pins s σ H R I q => h.run pins s σ H R I (k σ H R q)⟩
theorem rd_sq {K : PySem.W.Frag} {l : Addr} {vs : List V} {B H1 : Hp} (h : LsT K B l vs) (s : Same B H1) : SqL K H1 l vs := (LsT.same s h).sq

/-! ### what each iterator gives -/
variable {ds es : List D} {vs us : List V} {l m : Addr} {K : PySem.W.Frag}
theorem yat (r : RepAll G (Hide H A) ds vs) (i : Nat) (A' : Addr → Bool) (H1 : Hp) (x : V) (H2 : Hp) (s : Same (Hide H A) (Hide H1 A')) (y : YAt vs i H1 x H2) : Same H1 H2 ∧ ∃ d, ds[i]? = some d ∧ RepV G (Hide H2 A') d x := by
  obtain ⟨rfl, y⟩ := y
  obtain ⟨d, h1, h2⟩ := r.get' y
  exact ⟨Same.refl _, d, h1, h2.mono s⟩
theorem gives_lst (hr : LsT K (Bs top H A) l vs) (r : RepAll G (Hide H A) ds vs) (hl : vs.length ≤ LIM) : Gives G (Bs top H A) (Hide H A) (Itl K l) ds :=
  ⟨by rw [r.length]; exact hl, fun H => SqL K H l vs, YAt vs, by rw [r.length]; exact walk_list, fun H1 s => rd_sq hr s, fun i A' H1 x H2 _ _ s _ y => yat r i A' H1 x H2 s y⟩
theorem gives_tup (hr : SqT K (Hide H A) l vs) (r : RepAll G (Hide H A) ds vs) (hl : vs.length ≤ LIM) : Gives G (Bs top H A) (Hide H A) (Itt K l) ds :=
  ⟨by rw [r.length]; exact hl, fun H => SqT K H l vs, YAt vs, by rw [r.length]; exact walk_tup, fun H1 s => Same.sqT (Bs.le s) hr, fun i A' H1 x H2 _ _ s _ y => yat r i A' H1 x H2 s y⟩
theorem signs_get : ∀ {s : List Nat} {i c : Nat}, s[i]? = some c → (signs s)[i]? = some (.str [c])
  | _ :: _, 0, _, h => by
    simp at h
    subst h
    rfl
  | _ :: r, i + 1, c, h => by
    unfold signs
    simpa using signs_get (s := r) (i := i) (c := c) (by simpa using h)
theorem signs_len : ∀ s : List Nat, (signs s).length = s.length
  | [] => rfl
  | _ :: r => by simp [signs, signs_len r]
theorem gives_str {t : List Nat} (k : SOk t) : Gives G (Bs top H A) (Hide H A) (Its (tx t)) (signs t) := by
  have hsz : (tx t).cps.size = (signs t).length := by simp [signs_len]
  refine ⟨by rw [signs_len]; exact k.1, fun _ => True, _, by rw [← hsz]; exact walk_str, fun _ _ => trivial, fun i A' H1 x H2 _ _ _ _ y => ?_⟩
  obtain ⟨rfl, c, hc, rfl⟩ := y
  have hc' : t[i]? = some c := by simpa using hc
  refine ⟨Same.refl _, _, signs_get hc', ?_⟩
  show RepV G _ (.str [c]) (sV [c])
  exact .str ⟨by unfold LIM; simp, fun z hz => by
    have : z = c := by simpa using hz
    subst this
    exact k.2 _ (List.mem_of_getElem? hc')⟩
theorem upTo_len : ∀ (n : Nat) (lo : Int), (upTo lo n).length = n
  | 0, _ => rfl
  | n + 1, lo => by simp [upTo, upTo_len n]
theorem upTo_get : ∀ (n i : Nat) (lo : Int), i < n → (upTo lo n)[i]? = some (.int (lo + i))
  | 0, _, _, h => by omega
  | n + 1, 0, lo, _ => by simp [upTo]
  | n + 1, i + 1, lo, h => by
    unfold upTo
    rw [List.getElem?_cons_succ, upTo_get n i (lo + 1) (by omega)]
    congr 2
    omega
theorem gives_rng {lo : Int} {n : Nat} (h : n ≤ LIM) : Gives G (Bs top H A) (Hide H A) (Itr lo n) (upTo lo n) := by
  refine ⟨by rw [upTo_len]; exact h, fun _ => True, _, by rw [upTo_len]; exact walk_range, fun _ _ => trivial, fun i A' H1 x H2 hi _ _ _ y => ?_⟩
  obtain ⟨rfl, rfl⟩ := y
  rw [upTo_len] at hi
  exact ⟨Same.refl _, _, upTo_get n i lo hi, .int _⟩
/-- a new pair -/
theorem rep_pair {d1 d2 : D} {x y : V} {T : Addr} {A' : Addr → Bool} {H1 : Hp} (p : Prot A' H1) (h : H1 T = none) (r1 : RepV G (Hide H1 A') d1 x) (r2 : RepV G (Hide H1 A') d2 y) :
    Same H1 (upd H1 T (.tup [x, y])) ∧ RepV G (Hide (upd H1 T (.tup [x, y])) A') (.tup [d1, d2]) (.ref T) := ⟨same_upd h, (mk_tup (fr := false) p h (.cons r1 (.cons r2 .nil))).1⟩
theorem enum_len : ∀ (xs : List D) (i : Int), (enumFrom i xs).length = xs.length
  | [], _ => rfl
  | _ :: r, i => by simp [enumFrom, enum_len r]
theorem enum_get : ∀ (xs : List D) (k : Int) (i : Nat) (d : D), xs[i]? = some d → (enumFrom k xs)[i]? = some (.tup [.int (k + i), d])
  | x :: r, k, 0, d, h => by
    simp at h
    subst h
    simp [enumFrom]
  | x :: r, k, i + 1, d, h => by
    unfold enumFrom
    rw [List.getElem?_cons_succ, enum_get r (k + 1) i d (by simpa using h)]
    have : k + 1 + (i : Int) = k + ((i + 1 : Nat) : Int) := by omega
    rw [this]
theorem zip_len : ∀ (xs ys : List D), (zipD xs ys).length = min xs.length ys.length
  | [], ys => by simp [zipD]
  | x :: xs, [] => by simp [zipD]
  | x :: xs, y :: ys => by simp [zipD, zip_len xs ys]
theorem zip_get : ∀ (xs ys : List D) (i : Nat) (d e : D), xs[i]? = some d → ys[i]? = some e → (zipD xs ys)[i]? = some (.tup [d, e])
  | x :: r, y :: q, 0, d, e, h1, h2 => by
    simp at h1 h2
    subst h1 h2
    simp [zipD]
  | x :: r, y :: q, i + 1, d, e, h1, h2 => by
    unfold zipD
    rw [List.getElem?_cons_succ, zip_get r q i d e (by simpa using h1) (by simpa using h2)]
theorem gives_enumL (hr : LsT K (Bs top H A) l vs) (r : RepAll G (Hide H A) ds vs) (hl : vs.length ≤ LIM) : Gives G (Bs top H A) (Hide H A) (Ite K l) (enumFrom 0 ds) := by
  refine ⟨by rw [enum_len, r.length]; exact hl, fun H => SqL K H l vs, _, by rw [enum_len, r.length]; exact walk_enum, fun H1 s => rd_sq hr s, fun i A' H1 x H2 _ _ s pr y => ?_⟩
  obtain ⟨T, x1, x2, rfl, hT, rfl, h1, h2⟩ := y
  obtain ⟨d, g1, g2⟩ := r.get' h2
  cases h1
  obtain ⟨z1, z2⟩ := rep_pair pr hT (.int ((i : Nat) : Int)) (g2.mono s)
  exact ⟨z1, _, enum_get ds 0 i d g1, by simpa using z2⟩
theorem walk_enumT : Walk (IteT K l) vs.length (fun H => SqT K H l vs) (YPair (fun i => some (.int (i : Nat))) (fun i => vs[i]?)) := by
  refine ⟨fun i _ hi q => ⟨vs, vs[i], q, by simp [hi]⟩, fun _ q => ⟨vs, q, Nat.le_refl _⟩, fun i H v H' _ q y => ?_⟩
  obtain ⟨T, x, h1, h2, h3, h4⟩ := y
  exact ⟨T, .int (i : Nat), x, h1, h2, h3, rfl, h4 vs q⟩
theorem gives_enumT (hr : SqT K (Hide H A) l vs) (r : RepAll G (Hide H A) ds vs) (hl : vs.length ≤ LIM) : Gives G (Bs top H A) (Hide H A) (IteT K l) (enumFrom 0 ds) := by
  refine ⟨by rw [enum_len, r.length]; exact hl, fun H => SqT K H l vs, _, by rw [enum_len, r.length]; exact walk_enumT, fun H1 s => Same.sqT (Bs.le s) hr, fun i A' H1 x H2 _ _ s pr y => ?_⟩
  obtain ⟨T, x1, x2, rfl, hT, rfl, h1, h2⟩ := y
  obtain ⟨d, g1, g2⟩ := r.get' h2
  cases h1
  obtain ⟨z1, z2⟩ := rep_pair pr hT (.int ((i : Nat) : Int)) (g2.mono s)
  exact ⟨z1, _, enum_get ds 0 i d g1, by simpa using z2⟩
theorem walk_zipT {n : Nat} (hn : n = min vs.length us.length) : Walk (RZ.ItzT K l m) n (fun H => SqT K H l vs ∧ SqT K H m us) (YPair (fun i => vs[i]?) (fun i => us[i]?)) := by
  subst hn
  refine ⟨fun i _ hi q => ?_, fun _ q => ⟨vs, us, q.1, q.2, by omega⟩, fun i H v H' _ q y => ?_⟩
  · have h1 : i < vs.length := by omega
    have h2 : i < us.length := by omega
    exact ⟨vs, us, vs[i], us[i], q.1, q.2, by simp [h1], by simp [h2]⟩
  · obtain ⟨T, x, z, h1, h2, h3, h4, h5⟩ := y
    exact ⟨T, x, z, h1, h2, h3, h4 vs q.1, h5 us q.2⟩
theorem gives_zip {J : L2.It} {Gd : Hp → Prop} (w : Walk J (min vs.length us.length) Gd (YPair (fun i => vs[i]?) (fun i => us[i]?))) (hg : ∀ H1, Same (Bs top H A) H1 → Gd H1) (r : RepAll G (Hide H A) ds vs) (r2 : RepAll G (Hide H A) es us) (hl : vs.length ≤ LIM) :
    Gives G (Bs top H A) (Hide H A) J (zipD ds es) := by
  refine ⟨by rw [zip_len, r.length]; omega, Gd, _, by rw [zip_len, r.length, r2.length]; exact w, hg, fun i A' H1 x H2 _ _ s pr y => ?_⟩
  obtain ⟨T, x1, x2, rfl, hT, rfl, h1, h2⟩ := y
  obtain ⟨d, g1, g2⟩ := r.get' h1
  obtain ⟨e, k1, k2⟩ := r2.get' h2
  obtain ⟨z1, z2⟩ := rep_pair pr hT (g2.mono s) (k2.mono s)
  exact ⟨z1, _, zip_get ds es i d e g1 k1, z2⟩
theorem gives_rev {J : L2.It} {Gd : Hp → Prop} {Y : Nat → Hp → V → Hp → Prop} (w : Walk J vs.length Gd Y) (hy : ∀ i H x H', Y i H x H' → H' = H ∧ vs[vs.length - 1 - i]? = some x) (hg : ∀ H1, Same (Bs top H A) H1 → Gd H1) (r : RepAll G (Hide H A) ds vs) (hl : vs.length ≤ LIM) :
    Gives G (Bs top H A) (Hide H A) J ds.reverse := by
  refine ⟨by rw [List.length_reverse, r.length]; exact hl, Gd, Y, by rw [List.length_reverse, r.length]; exact w, hg, fun i A' H1 x H2 hi _ s pr y => ?_⟩
  obtain ⟨rfl, h1⟩ := hy _ _ _ _ y
  obtain ⟨d, g1, g2⟩ := r.get' h1
  rw [List.length_reverse] at hi
  refine ⟨Same.refl _, d, ?_, g2.mono s⟩
  rw [List.getElem?_reverse hi, r.length]
  exact g1

/-! ### a dict's keys -/
def Itkd (d : Addr) (es : List DictEntry) (ep : Nat) (ks : List V) : L2.It := ⟨fun i H => H d = some (dctO d es ep) ∧ i < ks.length, fun i H x H' => H' = H ∧ ks[i]? = some x, fun i H => H d = some (dctO d es ep) ∧ ks.length ≤ i⟩
theorem vals_get : ∀ {xs : List V} {us : List Value} {i : Nat} {u : Value}, Vals xs us → us[i]? = some u → ∃ x, xs[i]? = some x ∧ RelV x u
  | _, _, i, u, .nil, h => by simp at h
  | _, _, 0, u, .cons h1 h2, h => by
    simp at h
    subst h
    exact ⟨_, rfl, h1⟩
  | _, _, i + 1, u, .cons h1 h2, h => by
    obtain ⟨x, a, b⟩ := vals_get (i := i) (u := u) h2 (by simpa using h)
    exact ⟨x, by simpa using a, b⟩
theorem turn_kd {P : Program} {w : World} {d : Addr} {es0 : List DictEntry} {ep : Nat} {ks : List V} (it : Addr) (hv : Vals ks (es0.map fun e => e.key)) : Turn P w K tg (Itkd d es0 ep ks) [it] it (fun i h => h.IsKeyIter it d i ks.length ep) where
  mem := by simp
  obj := fun i h st b hb => by
    have e : b = it := by simpa using hb
    subst e
    obtain ⟨oi, e, c, dd⟩ := st
    exact ⟨oi, e, fun v z => by rw [dd] at z; cases z⟩
  keep := fun i h h' st k => st.at fun oi e => k it (by simp) oi e
  item := by
    intro X hP hw hK hc i pins s σ H E I hf st hg
    subst hP hw hK
    obtain ⟨hd, hi⟩ := hg
    obtain ⟨f0, f1, f2, f3, f4, f5⟩ := hf it (by simp)
    obtain ⟨od, g1, g2, g3⟩ := dict_ob I hd
    have hl : ks.length = es0.length := by rw [hv.length, List.length_map]
    have hj : es0.toArray[i]? = some (es0[i]'(by omega)) := by simp [show i < es0.length by omega]
    obtain ⟨x, hx, rx⟩ := vals_get (i := i) (u := (es0[i]'(by omega)).key) hv (by simp [show i < es0.length by omega])
    refine next_key_item st g1 g3 (by simpa using hl.symm) hj fun h' st' sb => ?_
    have I1 : Inv X pins σ H { s with heap := h' } := I.turned (t' := s.toks) (fun b ob hb e => (sb.2 b hb).trans e) f0 f1 f3 f4 f5
    obtain ⟨oi, e, c, dd⟩ := id st'
    exact ⟨_, rfl, go_of (s := { s with heap := h' }) e c dd (by decide) ⟨x, H, I1, rx, ⟨rfl, hx⟩, st', fun b hb => (hf b hb).1⟩⟩
  done := by
    intro X hP hw hK hc i pins s σ H E I hf st hg
    subst hP hw hK
    obtain ⟨hd, hi⟩ := hg
    obtain ⟨f0, f1, f2, f3, f4, f5⟩ := hf it (by simp)
    obtain ⟨od, g1, g2, g3⟩ := dict_ob I hd
    have hl : ks.length = es0.length := by rw [hv.length, List.length_map]
    exact next_key_end (I.ok.hd hc) st g1 g3 (by simpa using hl.symm) hi fun h' eb => ⟨rfl, I.turned (t' := s.toks) (fun b ob hb e => eb b ob hb e) f0 f1 f3 f4 f5⟩
  self := fun A i s Q E st h => wpAny_pyIter_keyiter st h
def iKd (te : TE) : TI := fun σ H R => te σ H fun v H1 => ∃ d es ep ks, v = .ref d ∧ (d == sysModules) = false ∧ H1 d = some (dctO d es ep) ∧ Vals ks (es.map fun e => e.key) ∧ R (Itkd d es ep ks) H1
theorem pi_kd {te : TE} (he : PE X e te) : PI X tg e (iKd te) := by
  refine ⟨fun pins s σ H R I h => ?_⟩
  refine thn (he.run pins s σ H _ I h) fun u s1 ⟨x, H1, I1, rx, d, es, ep, ks, ex, hs, hd, hv, q⟩ => ?_
  subst ex
  obtain rfl : u = Value.ref d := rx
  obtain ⟨od, g1, g2, g3⟩ := dict_ob I1 hd
  refine iter_keys hs g1 g2 g3 (pi_one (tk := s1.toks) I1 _ (turn_kd _ hv) ⟨_, Heap.get?_push_size _ rfl, rfl, ?_⟩ q)
  rw [hv.length, List.length_map, List.size_toArray]
  rfl
theorem keysOf_length : ∀ kvs : List (D × D), (keysOf kvs).length = kvs.length
  | [] => rfl
  | p :: r => by simp [keysOf, keysOf_length r]
/-- the keys as values -/
theorem RepEs.keys {Hf : Hp} : ∀ {es : List DictEntry} {kvs : List (D × D)}, RepEs G Hf es kvs → ∃ vs, RepAll G Hf (keysOf kvs) vs ∧ Vals vs (es.map fun e => e.key)
  | _, _, .nil => ⟨[], .nil, .nil⟩
  | _, _, .cons h1 h2 h3 h4 h5 h6 h7 => by
    obtain ⟨vs, a, b⟩ := RepEs.keys h7
    exact ⟨_ :: vs, .cons h4 a, .cons h2 b⟩
theorem MJ.dct {kvs : List (D × D)} {v : V} (h : MJ G A top (.dct kvs) v H) : ∃ a es ep, v = .ref a ∧ Bs top H A a = some (dctO a es ep) ∧ (a == sysModules) = false ∧ kvs.length ≤ LIM ∧ RepEs G (Hide H A) es kvs := by
  unfold MJ at h
  unfold Bs
  split at h
  · rename_i ht
    rw [if_pos ht]
    obtain ⟨a, es, ep, rfl, h1, h2, h3, h4, h5⟩ := h.dct
    exact ⟨a, es, ep, rfl, h1, h2, h4, h5⟩
  · rename_i ht
    rw [if_neg ht]
    cases h with
    | dct s y n l r => exact ⟨_, _, _, rfl, s, y, l, r⟩
theorem gives_kd {kvs : List (D × D)} {es0 : List DictEntry} {ep : Nat} {d : Addr} {ks : List V} (hd : Bs top H A d = some (dctO d es0 ep)) (r : RepAll G (Hide H A) (keysOf kvs) ks) (hl : kvs.length ≤ LIM) : Gives G (Bs top H A) (Hide H A) (Itkd d es0 ep ks) (keysOf kvs) := by
  refine ⟨by rw [keysOf_length]; exact hl, fun H1 => H1 d = some (dctO d es0 ep), YAt ks, ?_, fun H1 s => s _ _ hd, fun i A' H1 x H2 _ _ s _ y => yat r i A' H1 x H2 s y⟩
  rw [r.length]
  exact ⟨fun i H hi q => ⟨q, hi⟩, fun _ q => ⟨q, Nat.le_refl _⟩, fun _ _ _ _ _ _ y => y⟩

/-! ### the iterators -/
def fIt (fa : Env → Out D) : Env → Out (List D) := fun δ => do let x ← fa δ; items x
theorem OutI.bnd {R : L2.It → Hp → Prop} {M : D → V → Hp → Prop} {Q : VK} {o : Out D} {k : D → Out (List D)} (h : OutI Ex0 G top A H R (o >>= k)) (c : ∀ d x H1, o = .val d → M d x H1 → Same H H1 → OutI Ex0 G top A H R (k d) → Q x H1) : OutE Ex0 H M Q o := by
  cases o with
  | val d => exact fun v H' s m => c d v H' rfl m s h
  | exc c => exact h
  | bad => exact h
theorem si_e (gk : GOk G X) (ha : SJ top G Ex X e fa) : SI top G Ex X tg e (fIt fa) := fun δ A => by
  cases ef : fa δ with
  | exc c =>
    refine iImp (pi_list (ha δ A)) fun σ H R ⟨ok, o⟩ => ⟨ok, ?_⟩
    unfold fIt at o
    rw [ef] at o ⊢
    exact o
  | bad =>
    refine iImp (pi_list (ha δ A)) fun σ H R ⟨ok, o⟩ => ⟨ok, ?_⟩
    unfold fIt at o
    rw [ef] at o ⊢
    exact o
  | val d =>
    have bad : items d = .bad → PI X tg e (fun σ H R => EnvOk G A H δ σ ∧ OutI (Ex σ) G top A H R (fIt fa δ)) := fun hb =>
      iImp (pi_list (ha δ A)) fun σ H R ⟨ok, o⟩ => by
        unfold fIt at o
        rw [ef] at o
        have o' : OutI (Ex σ) G top A H R (items d) := o
        rw [hb] at o'
        exact o'.elim
    cases d <;> first | exact bad rfl | skip
    · refine iImp (pi_str (ha δ A)) fun σ H R ⟨ok, o⟩ => ⟨ok, ?_⟩
      unfold fIt at o
      rw [ef] at o ⊢
      intro v H' s m
      obtain ⟨rfl, k⟩ := m.str
      exact ⟨_, rfl, o _ H' s (gives_str k)⟩
    · refine iImp (pi_tup (pe_len (ha δ A))) fun σ H R ⟨ok, o⟩ => ⟨ok, ?_⟩
      unfold fIt at o
      rw [ef] at o ⊢
      intro v H' s m lok
      obtain ⟨l, vs, rfl, s1, r1⟩ := m.tup
      rw [← gk.K] at s1
      have s2 := Same.sqT Hide.le s1
      exact ⟨l, rfl, ⟨vs, s2⟩, o _ H' s (gives_tup s1 r1 (lok l vs rfl (.inr s2)))⟩
    · refine iImp (pi_list (pe_len (ha δ A))) fun σ H R ⟨ok, o⟩ => ⟨ok, ?_⟩
      unfold fIt at o
      rw [ef] at o ⊢
      intro v H' s m lok
      obtain ⟨l, vs, rfl, s1, r1⟩ := m.lst
      rw [← gk.K] at s1
      have s2 : SqL X.K H' l vs := rd_sq s1 (by unfold Bs; split; exact Same.refl _; exact Hide.le)
      exact ⟨l, rfl, ⟨vs, s2⟩, o _ H' s (gives_lst s1 r1 (lok l vs rfl (.inl s2)))⟩
    · refine iImp (pi_kd (ha δ A)) fun σ H R ⟨ok, o⟩ => ⟨ok, ?_⟩
      unfold fIt at o
      rw [ef] at o ⊢
      intro v H' s m
      obtain ⟨l, es, ep, rfl, s1, s2, s3, r1⟩ := m.dct
      obtain ⟨ks, k1, k2⟩ := r1.keys
      refine ⟨l, es, ep, ks, rfl, s2, ?_, k2, o _ H' s (gives_kd s1 k1 s3)⟩
      unfold Bs at s1
      split at s1
      · exact s1
      · exact Hide.le _ _ s1

/-! ### range, enumerate, zip, reversed -/
def fR1 (fa : Env → Out D) : Env → Out (List D) := fun δ => do let x ← fa δ; range2 (.int 0) x
def fR2 (fa fb : Env → Out D) : Env → Out (List D) := fun δ => do let x ← fa δ; let y ← fb δ; range2 x y
theorem nox_range2 (d e : D) : NoX (range2 d e) := by
  unfold range2
  split <;> first | exact nox_chk | exact nox_bad
theorem OutI.val {R : L2.It → Hp → Prop} {o : Out (List D)} (h : OutI Ex0 G top A H R o) (n : NoX o) : ∃ xs, o = .val xs ∧ ∀ J H', Same H H' → Gives G (Bs top H' A) (Hide H' A) J xs → R J H' := by
  cases o with
  | val d => exact ⟨d, rfl, h⟩
  | exc c => exact absurd rfl (n c)
  | bad => exact h.elim
theorem OutI.after {R : L2.It → Hp → Prop} {o : Out (List D)} {H1 : Hp} (h : OutI Ex0 G top A H R o) (s : Same H H1) : OutI Ex0 G top A H1 R o := by
  cases o with
  | val d => exact fun J H' e g => h J H' (s.trans e) g
  | exc c => exact fun H' e => h H' (s.trans e)
  | bad => exact h
theorem rng_ok {a b : Int} {xs : List D} (h : range2 (.int a) (.int b) = .val xs) : (-(2 ^ 62) ≤ a ∧ a < 2 ^ 62 ∧ -(2 ^ 62) ≤ b ∧ b < 2 ^ 62) ∧ (b - a).toNat ≤ LIM ∧ xs = upTo a (b - a).toNat := by
  obtain ⟨h1, h2⟩ := chk_val h
  simp only [Bool.and_eq_true, decide_eq_true_eq] at h1
  refine ⟨⟨by omega, by omega, by omega, by omega⟩, ?_, h2.symm⟩
  unfold LIM
  omega
theorem si_range1 (hg : Gl X "range") (hm : X.mg "range" = none) (ha : ST G Ex X a fa) (hs : starEach [a] X.env = [(false, eval a X.env)]) : SI top G Ex X tg (.Call (.Name "range" p) [a] [] pos) (fR1 fa) := fun δ A => by
  refine iImp (pi_range1 hg hm (pa_cons (ha δ A) pa_nil hs) hs) fun σ H R ⟨ok, o⟩ => ⟨ok, OutI.bnd o fun d v H1 _ m s o1 => ?_⟩
  obtain ⟨xs, h1, h2⟩ := o1.val (nox_range2 _ d)
  cases d <;> first | cases h1 | skip
  obtain ⟨⟨_, _, b1, b2⟩, hl, rfl⟩ := rng_ok h1
  refine ⟨_, by rw [RepT.int m], b1, b2, ?_⟩
  have := h2 (Itr 0 _) H1 s (gives_rng hl)
  rw [Int.sub_zero] at this
  exact this
theorem si_range2 (hg : Gl X "range") (hm : X.mg "range" = none) (ha : ST G Ex X a fa) (hb : ST G Ex X b fb) (hs : starEach [a, b] X.env = [(false, eval a X.env), (false, eval b X.env)]) (hs2 : starEach [b] X.env = [(false, eval b X.env)]) :
    SI top G Ex X tg (.Call (.Name "range" p) [a, b] [] pos) (fR2 fa fb) := fun δ A => by
  refine iImp (pi_range2 hg hm (pa_cons (ha δ A) (pa_cons (hb δ A) pa_nil hs2) (by rw [hs, hs2])) hs hs2) fun σ H R ⟨ok, o⟩ => ⟨ok, OutI.bnd o fun d v H1 _ m s o1 => ⟨ok.mono s, OutI.bnd (o1.after s) fun e w H2 _ m2 s2 o2 => ?_⟩⟩
  obtain ⟨xs, h1, h2⟩ := o2.val (nox_range2 d e)
  cases d <;> cases e <;> first | cases h1 | skip
  obtain ⟨hb4, hl, rfl⟩ := rng_ok h1
  exact ⟨_, _, by rw [RepT.int m, RepT.int m2], hb4, h2 (Itr _ _) H2 s2 (gives_rng hl)⟩
def fEn (fa : Env → Out D) : Env → Out (List D) := fun δ => do let x ← fa δ; let xs ← itemsQ x; return enumFrom 0 xs
variable {elts : List Expr} {kk : Nat}
theorem si_enum (gk : GOk G X) (hg : Gl X "enumerate") (hm : X.mg "enumerate" = none) (ha : SJ top G Ex X a fa) (hs : starEach [a] X.env = [(false, eval a X.env)]) : SI top G Ex X (.Tuple elts kk tpos) (.Call (.Name "enumerate" p) [a] [] pos) (fEn fa) := fun δ A => by
  cases ef : fa δ with
  | exc c =>
    refine iImp (pi_enum hg hm (pa_cons (ha δ A) pa_nil hs) hs) fun σ H R ⟨ok, o⟩ => ⟨ok, ?_⟩
    unfold fEn at o
    rw [ef] at o ⊢
    exact o
  | bad =>
    refine iImp (pi_enum hg hm (pa_cons (ha δ A) pa_nil hs) hs) fun σ H R ⟨ok, o⟩ => ⟨ok, ?_⟩
    unfold fEn at o
    rw [ef] at o ⊢
    exact o
  | val d =>
    have bad : ((∀ ds, d ≠ .lst ds) ∧ (∀ ds, d ≠ .tup ds)) → PI X (.Tuple elts kk tpos) (.Call (.Name "enumerate" p) [a] [] pos) (fun σ H R => EnvOk G A H δ σ ∧ OutI (Ex σ) G top A H R (fEn fa δ)) := fun hb =>
      iImp (pi_enum hg hm (pa_cons (ha δ A) pa_nil hs) hs) fun σ H R ⟨ok, o⟩ => by
        unfold fEn at o
        rw [ef] at o
        have o' : OutI (Ex σ) G top A H R (itemsQ d >>= fun xs => pure (enumFrom 0 xs)) := o
        cases d <;> first | exact o'.elim | exact absurd rfl (hb.1 _) | exact absurd rfl (hb.2 _)
    cases d with
    | tup ds =>
      refine iImp (pi_enumT hg hm (pa_cons (pe_len (ha δ A)) pa_nil hs) hs) fun σ H R ⟨ok, o⟩ => ⟨ok, ?_⟩
      unfold fEn at o
      rw [ef] at o ⊢
      intro v H' s m lok
      obtain ⟨l, vs, rfl, s1, r1⟩ := m.tup
      rw [← gk.K] at s1
      have s2 := Same.sqT Hide.le s1
      exact ⟨l, vs, rfl, s2, o _ H' s (gives_enumT s1 r1 (lok l vs rfl (.inr s2)))⟩
    | lst ds =>
      refine iImp (pi_enum hg hm (pa_cons (pe_len (ha δ A)) pa_nil hs) hs) fun σ H R ⟨ok, o⟩ => ⟨ok, ?_⟩
      unfold fEn at o
      rw [ef] at o ⊢
      intro v H' s m lok
      obtain ⟨l, vs, rfl, s1, r1⟩ := m.lst
      rw [← gk.K] at s1
      have s2 : SqL X.K H' l vs := rd_sq s1 (by unfold Bs; split; exact Same.refl _; exact Hide.le)
      exact ⟨l, vs, rfl, s2, o _ H' s (gives_enumL s1 r1 (lok l vs rfl (.inl s2)))⟩
    | _ => exact bad (And.intro (by intro _ z; cases z) (by intro _ z; cases z))
def fZp (fa fb : Env → Out D) : Env → Out (List D) := fun δ => do let x ← fa δ; let y ← fb δ; zipQ x y
theorem nox_zipQ (d e : D) : NoX (zipQ d e) := by
  unfold zipQ
  split <;> first | exact nox_val | exact nox_bad
theorem OutE.bndI {R : L2.It → Hp → Prop} {M : D → V → Hp → Prop} {Q : VK} {o : Out D} {k : D → Out (List D)} (h : OutI Ex0 G top A H R (o >>= k)) (c : ∀ d x H1, o = .val d → M d x H1 → Same H H1 → OutI Ex0 G top A H R (k d) → Q x H1) : OutE Ex0 H M Q o := OutI.bnd h c
theorem MJ.mono {d : D} {v : V} (h : MJ G A top d v H) (s : Same H H') : MJ G A top d v H' := by
  unfold MJ at h ⊢
  split
  · rename_i ht
    rw [if_pos ht] at h
    exact h.mono s
  · rename_i ht
    rw [if_neg ht] at h
    exact h.mono (Hide.mono s)
theorem si_zip (gk : GOk G X) (hg : Gl X "zip") (hm : X.mg "zip" = none) (ha : SJ top G Ex X a fa) (hb : SJ top G Ex X b fb) (hs : starEach [a, b] X.env = (false, eval a X.env) :: starEach [b] X.env) (hs2 : starEach [b] X.env = (false, eval b X.env) :: starEach [] X.env) :
    SI top G Ex X (.Tuple elts kk tpos) (.Call (.Name "zip" p) [a, b] [] pos) (fZp fa fb) := fun δ A => by
  refine iImp (RZ.pi_zipA hg hm (pa_cons (pe_len (ha δ A)) (pa_cons (pe_len (hb δ A)) pa_nil hs2) hs) hs (by rw [hs2]; rfl)) fun σ H R ⟨ok, o⟩ => ⟨ok, OutI.bnd o fun d v H1 _ m s o1 lok => ⟨ok.mono s, OutI.bnd (o1.after s) fun e w H2 _ m2 s2 o2 _ => ?_⟩⟩
  obtain ⟨xs, h1, h2⟩ := o2.val (nox_zipQ d e)
  have m' := m.mono s2
  cases d <;> cases e <;> first | cases h1 | skip
  · obtain ⟨l, vs, rfl, t1, r1⟩ := m'.tup
    obtain ⟨l2, us, rfl, t2, r2⟩ := m2.tup
    obtain ⟨l', vs', el, t1', r1'⟩ := m.tup
    cases el
    rw [← gk.K] at t1 t2 t1'
    have q1 := Same.sqT (Hide.le (H := H2)) t1
    have q2 := Same.sqT (Hide.le (H := H2)) t2
    have hl := lok l vs' rfl (.inr (Same.sqT Hide.le t1'))
    rw [← r1'.length, r1.length] at hl
    exact ⟨l, l2, vs, us, rfl, .inr ⟨q1, q2, h2 _ H2 s2 (gives_zip (walk_zipT rfl) (fun H3 s3 => ⟨Same.sqT (Bs.le s3) t1, Same.sqT (Bs.le s3) t2⟩) r1 r2 hl)⟩⟩
  · obtain ⟨l, vs, rfl, t1, r1⟩ := m'.lst
    obtain ⟨l2, us, rfl, t2, r2⟩ := m2.lst
    obtain ⟨l', vs', el, t1', r1'⟩ := m.lst
    cases el
    rw [← gk.K] at t1 t2 t1'
    have hB : ∀ H3 : Hp, Same (Bs top H3 A) H3 := fun H3 => by unfold Bs; split; exact Same.refl _; exact Hide.le
    have hl := lok l vs' rfl (.inl (rd_sq t1' (hB H1)))
    rw [← r1'.length, r1.length] at hl
    exact ⟨l, l2, vs, us, rfl, .inl ⟨rd_sq t1 (hB H2), rd_sq t2 (hB H2), h2 _ H2 s2 (gives_zip (walk_zip rfl) (fun H3 s3 => ⟨rd_sq t1 s3, rd_sq t2 s3⟩) r1 r2 hl)⟩⟩
def fRv (fa : Env → Out D) : Env → Out (List D) := fun δ => do let x ← fa δ; let xs ← itemsQ x; return xs.reverse
theorem si_rev (gk : GOk G X) (hg : Gl X "reversed") (hm : X.mg "reversed" = none) (ha : SJ top G Ex X a fa) (hs : starEach [a] X.env = (false, eval a X.env) :: starEach [] X.env) : SI top G Ex X tg (.Call (.Name "reversed" p) [a] [] pos) (fRv fa) := fun δ A => by
  refine iImp (RT.pi_revA hg hm (pe_len (ha δ A)) hs) fun σ H R ⟨ok, o⟩ => ⟨ok, OutI.bnd o fun d v H1 _ m s o1 lok => ?_⟩
  cases d <;> first | exact o1.elim | skip
  · obtain ⟨l, vs, rfl, t1, r1⟩ := m.tup
    rw [← gk.K] at t1
    have q1 := Same.sqT (Hide.le (H := H1)) t1
    have hl := lok l vs rfl (.inr q1)
    refine ⟨l, vs, rfl, .inr ⟨q1, o1 _ H1 s (gives_rev (Gd := fun H => SqT X.K H l vs) (Y := fun i H x H' => H' = H ∧ vs[vs.length - 1 - i]? = some x) ?_ (fun _ _ _ _ y => y) (fun H3 s3 => Same.sqT (Bs.le s3) t1) r1 hl)⟩⟩
    exact ⟨fun i H hi q => ⟨hi, vs, vs[vs.length - 1 - i]'(by omega), q, by simp [show vs.length - 1 - i < vs.length by omega]⟩, fun _ _ => Nat.le_refl _, fun _ _ _ _ _ q y => ⟨y.1, y.2 vs q⟩⟩
  · obtain ⟨l, vs, rfl, t1, r1⟩ := m.lst
    rw [← gk.K] at t1
    have hB : ∀ H3 : Hp, Same (Bs top H3 A) H3 := fun H3 => by unfold Bs; split; exact Same.refl _; exact Hide.le
    have q1 : SqL X.K H1 l vs := rd_sq t1 (hB H1)
    have hl := lok l vs rfl (.inl q1)
    exact ⟨l, vs, rfl, .inl ⟨q1, o1 _ H1 s (gives_rev walk_rev (fun _ _ _ _ y => y) (fun H3 s3 => rd_sq t1 s3) r1 hl)⟩⟩
end
end Py
end
section
set_option autoImplicit false
set_option linter.all false
set_option maxRecDepth 100000
set_option maxHeartbeats 2000000
/-! PyM: targets, comprehensions. -/
namespace Py
open PySem PySem.Spec L2
open Sem (wp)

/-! ### slots -/
section
variable {δ : Env} {i j : Nat} {e : Ent}
theorem get_out : ∀ {δ : Env} {i : Nat}, δ.length ≤ i → get δ i = .un
  | [], _, _ => rfl
  | _ :: _, 0, h => by simp at h
  | _ :: r, i + 1, h => get_out (δ := r) (by simpa using h)
theorem setE_len : ∀ {δ : Env} {i : Nat} {e : Ent}, (setE δ i e).length = δ.length
  | [], _, _ => rfl
  | _ :: _, 0, _ => rfl
  | _ :: r, i + 1, e => by simp [setE, setE_len (δ := r) (i := i) (e := e)]
theorem get_setE_self : ∀ {δ : Env} {i : Nat} {e : Ent}, i < δ.length → get (setE δ i e) i = e
  | [], _, _, h => by simp at h
  | _ :: _, 0, _, _ => rfl
  | _ :: r, i + 1, e, h => get_setE_self (δ := r) (by simpa using h)
theorem get_setE_ne : ∀ {δ : Env} {i j : Nat} {e : Ent}, j ≠ i → get (setE δ i e) j = get δ j
  | [], _, _, _, _ => rfl
  | _ :: _, 0, 0, _, h => absurd rfl h
  | _ :: _, 0, _ + 1, _, _ => rfl
  | _ :: _, _ + 1, 0, _, _ => rfl
  | _ :: r, i + 1, j + 1, e, h => get_setE_ne (δ := r) (by omega)
/-- what a slot holds behind a store -/
theorem get_setE {δ : Env} {i j : Nat} {e : Ent} : (j = i ∧ i < δ.length ∧ get (setE δ i e) j = e) ∨ (get (setE δ i e) j = .un ∧ j = i) ∨ (j ≠ i ∧ get (setE δ i e) j = get δ j) := by
  by_cases h : j = i
  · subst h
    by_cases hl : j < δ.length
    · exact .inl ⟨rfl, hl, get_setE_self hl⟩
    · exact .inr (.inl ⟨get_out (by rw [setE_len]; omega), rfl⟩)
  · exact .inr (.inr ⟨h, get_setE_ne h⟩)
end

section
variable {G : Gx} {A A' : Addr → Bool} {H H' : Hp} {δ δ' : Env} {σ : L2.St} {d : D} {v : V} {X : Cx} {Ex : XS}
theorem EnvOk.grow (ok : EnvOk G A H δ σ) (s : Same (Hide H A) (Hide H' A')) (s2 : ∀ a o, A a = true → H a = some o → H' a = some o) (p : Prot A' H') (ha : ∀ a, A a = true → A' a = true) : EnvOk G A' H' δ σ where
  prot := p
  len := ok.len
  sh := fun i d q => let ⟨v, h1, h2⟩ := ok.sh i d q; ⟨v, h1, h2.mono s⟩
  ow := fun i d q => by
    obtain ⟨a, h1, h2, h3⟩ := ok.ow i d q
    refine ⟨a, h1, ha a h2, ?_⟩
    rcases h3 with ⟨ds, vs, e1, e2, e3⟩ | ⟨kvs, es, ep, e1, e2, e3, e4, e5, e6⟩
    · exact .inl ⟨ds, vs, e1, s2 _ _ h2 e2, e3.mono s⟩
    · exact .inr ⟨kvs, es, ep, e1, s2 _ _ h2 e2, e3, e4, e5, e6.mono s⟩
theorem EnvOk.setSh (ok : EnvOk G A H δ σ) (r : RepV G (Hide H A) d v) (i : Nat) : EnvOk G A H (setE δ i (.sh d)) (σ.set i (some v)) where
  prot := ok.prot
  len := by rw [setE_len, List.length_set]; exact ok.len
  sh := fun j d' q => by
    rcases get_setE (δ := δ) (i := i) (j := j) (e := .sh d) with ⟨rfl, hl, e⟩ | ⟨e, _⟩ | ⟨hn, e⟩
    · rw [e] at q
      cases q
      exact ⟨v, by rw [List.getElem?_set_self (Nat.lt_of_lt_of_le hl ok.len)], r⟩
    · rw [e] at q; cases q
    · rw [e] at q
      obtain ⟨w', h1, h2⟩ := ok.sh j d' q
      exact ⟨w', by rw [List.getElem?_set_ne (Ne.symm hn)]; exact h1, h2⟩
  ow := fun j d' q => by
    rcases get_setE (δ := δ) (i := i) (j := j) (e := .sh d) with ⟨rfl, hl, e⟩ | ⟨e, _⟩ | ⟨hn, e⟩
    · rw [e] at q; cases q
    · rw [e] at q; cases q
    · rw [e] at q
      obtain ⟨a, h1, h2⟩ := ok.ow j d' q
      exact ⟨a, by rw [List.getElem?_set_ne (Ne.symm hn)]; exact h1, h2⟩
theorem EnvOk.wipe1 {σ' : L2.St} (ok : EnvOk G A H δ σ) (i : Nat) (hl : σ'.length = σ.length) (h : ∀ j, j ≠ i → σ'[j]? = σ[j]?) : EnvOk G A H (setE δ i .un) σ' where
  prot := ok.prot
  len := by rw [setE_len, hl]; exact ok.len
  sh := fun j d' q => by
    rcases get_setE (δ := δ) (i := i) (j := j) (e := .un) with ⟨rfl, _, e⟩ | ⟨e, _⟩ | ⟨hn, e⟩
    · rw [e] at q; cases q
    · rw [e] at q; cases q
    · rw [e] at q
      obtain ⟨w', h1, h2⟩ := ok.sh j d' q
      exact ⟨w', by rw [h j hn]; exact h1, h2⟩
  ow := fun j d' q => by
    rcases get_setE (δ := δ) (i := i) (j := j) (e := .un) with ⟨rfl, _, e⟩ | ⟨e, _⟩ | ⟨hn, e⟩
    · rw [e] at q; cases q
    · rw [e] at q; cases q
    · rw [e] at q
      obtain ⟨a, h1, h2⟩ := ok.ow j d' q
      exact ⟨a, by rw [h j hn]; exact h1, h2⟩
theorem EnvOk.wipe (ok : EnvOk G A H δ σ) : ∀ own : List Nat, EnvOk G A H (wipeE δ own) (wipe σ own)
  | [] => ok
  | i :: r => (EnvOk.wipe ok r).wipe1 i (by rw [show L2.wipe σ (i :: r) = (L2.wipe σ r).set i none from rfl, List.length_set]) fun j hj => by
    rw [show L2.wipe σ (i :: r) = (L2.wipe σ r).set i none from rfl, List.getElem?_set_ne (Ne.symm hj)]

/-! ### targets -/
def tgSl : Tg → List Nat
  | .one i => [i]
  | .many is => is
def BG (G : Gx) (X : Cx) (target : Expr) (tg : Tg) : Prop := ∀ (δ δ' : Env) (d : D) (A : Addr → Bool), bindT δ tg d = .val δ' →
  PG X target (fun v σ H Q => EnvOk G A H δ σ ∧ RepV G (Hide H A) d v ∧ ∀ σ', EnvOk G A H δ' σ' → (∀ j, j ∉ tgSl tg → σ'[j]? = σ[j]?) → σ'.length = σ.length → Q σ' H)
theorem gImp {target : Expr} {t t' : TG} (h : PG X target t) (k : ∀ v σ H Q, t' v σ H Q → t v σ H Q) : PG X target t' := ⟨fun pins s σ H v u Q I r q => h.run pins s σ H v u Q I r (k v σ H Q q)⟩
theorem bg_one {i : Nat} {x : Str} {pos : Pos} (hN : X.N.Nodup) (hi : X.N[i]? = some x) (hx : Loc X.env.scope x) (hf : X.fn x = true ∨ X.env.scope.names.lookup x = some .local) : BG G X (.Name x pos) (.one i) := fun δ δ' d A hb =>
  gImp (pg_name hN hi hx hf) fun v σ H Q ⟨ok, r, k⟩ => by
    cases hb
    refine k _ (ok.setSh r i) (fun j hj => ?_) (by rw [List.length_set])
    have : j ≠ i := by simpa [tgSl] using hj
    rw [List.getElem?_set_ne (Ne.symm this)]
def gsOf : List Nat → TGs
  | [] => gNil
  | i :: is => gCons (gName i) (gsOf is)
theorem gsOf_run : ∀ {is : List Nat} {δ δ' : Env} {ds : List D} {vs : List V} {σ : L2.St} {Q : L2.St → Hp → Prop}, setMany δ is ds = .val δ' → RepAll G (Hide H A) ds vs → EnvOk G A H δ σ →
    (∀ σ', EnvOk G A H δ' σ' → (∀ j, j ∉ is → σ'[j]? = σ[j]?) → σ'.length = σ.length → Q σ' H) → gsOf is vs σ H Q ∧ ds.length = is.length
  | [], δ, δ', [], _, σ, Q, h, r, ok, k => by
    cases r
    cases h
    exact ⟨⟨rfl, k σ ok (fun _ _ => rfl) rfl⟩, rfl⟩
  | [], _, _, _ :: _, _, _, _, h, _, _, _ => by cases h
  | _ :: _, _, _, [], _, _, _, h, _, _, _ => by cases h
  | i :: is, δ, δ', d :: ds, _, σ, Q, h, r, ok, k => by
    cases r with
    | cons r1 r2 =>
      obtain ⟨q1, q2⟩ := gsOf_run (Q := Q) (is := is) h r2 (ok.setSh r1 i) fun σ' ok' hs hl => k σ' ok' (fun j hj => by
        simp only [List.mem_cons, not_or] at hj
        rw [hs j hj.2, List.getElem?_set_ne (Ne.symm hj.1)]) (by rw [hl, List.length_set])
      exact ⟨⟨_, _, rfl, q1⟩, by simp [q2]⟩
theorem bg_many {is : List Nat} {es : List Expr} {k : Nat} {pos : Pos} (gk : GOk G X) (hc : X.calm = true) (h : PGs X es (gsOf is)) (hn : (assignEach es X.env).length = is.length) (hst : (assignEach es X.env).findIdx? (·.1) = none) : BG G X (.Tuple es k pos) (.many is) := fun δ δ' d A hb =>
  gImp (pg_tup hc h hn hst) fun v σ H Q ⟨ok, r, kk⟩ => by
    unfold bindT at hb
    cases d <;> first | cases hb | skip
    cases r with
    | tup s r1 =>
      rw [← gk.K] at s
      obtain ⟨q1, q2⟩ := gsOf_run (Q := Q) hb r1 ok kk
      exact ⟨_, _, rfl, Same.sqT Hide.le s, by rw [← r1.length, q2], q1⟩
end

/-! ### comprehensions -/
/-- a clause's tests -/
def PB (G : Gx) (Ex : XS) (X : Cx) (ifs : List Expr) (f : Env → Out Bool) : Prop := ∀ (δ : Env) (A : Addr → Bool), PTs X ifs (fun σ H Q => EnvOk G A H δ σ ∧ OutB (Ex σ) H Q (f δ))
abbrev ExF : XS := fun _ _ _ => False
def fComp (own : List Nat) (tg : Tg) (fi : Env → Out (List D)) (fc : Env → Out Bool) (fe : Env → Out D) : Env → Out D := fun δ => do
  let xs ← fi δ
  let ys ← noExc (mapIfD (stepOf own tg fc fe δ) xs)
  return .lst ys
section
variable {fr : Bool} {G : Gx} {Ex : XS} {Ex0 : Nm → Hp → Prop} {X : Cx} {A : Addr → Bool} {H : Hp} {Q : VK}
theorem pb_nil : PB G Ex X [] (fun _ => .val true) := fun δ A => ⟨fun pins s σ H Q I ⟨ok, o⟩ => pts_nil.run pins s σ H Q I (o H (Same.refl H))⟩
theorem pb_one {c : Expr} {fc : Env → Out D} (h : TX G Ex X c fc) : PB G Ex X [c] (fun δ => fc δ >>= asB) := fun δ A => pts_one (h δ A)
theorem noExc_get {xs : List D} {g : D → Out (Option D)} {M : D → V → Hp → Prop} (o : OutE Ex0 H M Q (noExc (mapIfD g xs) >>= fun ys => pure (.lst ys))) : ∃ ys, mapIfD g xs = .val ys ∧ ∀ v H', Same H H' → M (.lst ys) v H' → Q v H' := by
  cases e : mapIfD g xs with
  | val ys => rw [e] at o; exact ⟨ys, rfl, o⟩
  | exc c => rw [e] at o; exact o.elim
  | bad => rw [e] at o; exact o.elim
theorem same_addA {H1 H2 : Hp} {q : Addr} (h : H1 q = none) (s : Same H1 H2) : Same (Hide H1 A) (Hide H2 (addA A q)) := fun b x e => by
  have hb : b ≠ q := fun z => by
    subst z
    rw [Hide.le _ _ e] at h
    cases h
  unfold Hide at e ⊢
  split at e
  · cases e
  · rename_i hA
    have : ¬ (addA A q b = true) := by
      unfold addA
      simp only [Bool.or_eq_true, beq_iff_eq, not_or]
      exact ⟨hA, hb⟩
    rw [if_neg this]
    exact s _ _ e
theorem addA_self {q : Addr} : addA A q q = true := by unfold addA; simp
theorem addA_of {q a : Addr} (h : A a = true) : addA A q a = true := by unfold addA; simp [h]
theorem mapIf_cons {g : D → Out (Option D)} {x : D} {xs ys : List D} (h : mapIfD g (x :: xs) = .val ys) : (∃ y ys', g x = .val (some y) ∧ mapIfD g xs = .val ys' ∧ ys = y :: ys') ∨ (g x = .val none ∧ mapIfD g xs = .val ys) := by
  unfold mapIfD at h
  cases e : g x with
  | exc c => rw [e] at h; cases h
  | bad => rw [e] at h; cases h
  | val o =>
    rw [e] at h
    cases o with
    | none => exact .inr ⟨rfl, h⟩
    | some y =>
      cases e2 : mapIfD g xs with
      | exc c => simp [e2] at h
      | bad => simp [e2] at h
      | val ys' =>
        simp [e2] at h
        exact .inl ⟨y, ys', rfl, rfl, h.symm⟩
theorem wipe_same {σ σ' : L2.St} {vs : List Nat} (hl : σ'.length = σ.length) (h : ∀ j, j ∉ vs → σ'[j]? = σ[j]?) : wipe σ' vs = wipe σ vs := by
  have key : ∀ (τ : L2.St) (vs : List Nat) (j : Nat), (wipe τ vs)[j]? = if j ∈ vs then (if j < τ.length then some none else none) else τ[j]? := fun τ vs => by
    induction vs with
    | nil => intro j; simp [wipe]
    | cons i r ih =>
      intro j
      unfold wipe
      by_cases hj : i = j
      · subst hj
        rw [List.getElem?_set]
        simp [wipe_length]
      · rw [List.getElem?_set_ne hj, ih j]
        have : j ≠ i := Ne.symm hj
        simp [this]
  refine List.ext_getElem? fun j => ?_
  rw [key, key, hl]
  by_cases hj : j ∈ vs
  · simp [hj]
  · simp only [hj, if_false]
    exact h j hj
theorem peEx {ι : Type} {e : Expr} {t : ι → TE} (h : ∀ i, PE X e (t i)) : PE X e (fun σ H Q => ∃ i, t i σ H Q) := ⟨fun pins s σ H Q I ⟨i, q⟩ => (h i).run pins s σ H Q I q⟩
theorem ptsEx {ι : Type} {e : List Expr} {t : ι → TT} (h : ∀ i, PTs X e (t i)) : PTs X e (fun σ H Q => ∃ i, t i σ H Q) := ⟨fun pins s σ H Q I ⟨i, q⟩ => (h i).run pins s σ H Q I q⟩
theorem pgEx {ι : Type} {e : Expr} {t : ι → TG} (h : ∀ i, PG X e (t i)) : PG X e (fun v σ H Q => ∃ i, t i v σ H Q) := ⟨fun pins s σ H v u Q I r ⟨i, q⟩ => (h i).run pins s σ H v u Q I r q⟩
/-- reading of a target, whatever the slots -/
def rdG (G : Gx) (tgt : Tg) : TG := fun v σ H Q => ∃ i : (Env × Env) × D × (Addr → Bool), bindT i.1.1 tgt i.2.1 = .val i.1.2 ∧ EnvOk G i.2.2 H i.1.1 σ ∧ RepV G (Hide H i.2.2) i.2.1 v ∧ ∀ σ', EnvOk G i.2.2 H i.1.2 σ' → (∀ j, j ∉ tgSl tgt → σ'[j]? = σ[j]?) → σ'.length = σ.length → Q σ' H
theorem rdG_ok {tg : Expr} {tgt : Tg} (h : BG G X tg tgt) : PG X tg (rdG G tgt) := pgEx fun i => ⟨fun pins s σ H v u Q I r ⟨hb, q⟩ => (h _ _ _ _ hb).run pins s σ H v u Q I r q⟩
theorem comp_run {J : L2.It} {H1 : Hp} {xs ys : List D} {own : List Nat} {tgt : Tg} {fc : Env → Out Bool} {fe : Env → Out D} {δ : Env} {σ : L2.St} {Dd : Addr} (ok : EnvOk G A H1 δ σ) (gv : Gives G H1 (Hide H1 A) J xs) (hD : H1 Dd = none) (hm : mapIfD (stepOf own tgt fc fe δ) xs = .val ys)
    (hown : ∀ j ∈ tgSl tgt, j ∈ own) (hQ : ∀ H', Same H1 H' → MA G A H1 true (.lst ys) (.ref Dd) H' → Q (.ref Dd) H') :
    ∃ W : Nat → Nat → Hp → Prop, (∃ m, W 0 m (upd H1 Dd (.lst []))) ∧ ∀ i m H, W i m H →
      (J.stop i H ∧ Q (.ref Dd) H) ∨ (J.go i H ∧ ∃ Nx : Hp → Prop, (∀ H', Nx H' → ∃ m', m' < m ∧ W (i + 1) m' H') ∧ ∀ x H', J.yld i H x H' → rdG G tgt x (wipe σ own) H' fun σ2 H2 => wipe σ2 own = wipe σ own ∧
        (∃ i : Env × (Addr → Bool), EnvOk G i.2 H2 i.1 σ2 ∧ OutB (ExF σ2) H2 (fun b H3 => if b = true then (∃ i : Env × (Addr → Bool), EnvOk G i.2 H3 i.1 σ2 ∧ OutE (ExF σ2) H3 (MA G i.2 H3 false) (fun y H4 => ∃ acc, H4 Dd = some (.lst acc) ∧ acc.length < sizeLine ∧ Nx (upd H4 Dd (.lst (acc ++ [y])))) (fe i.1)) else Nx H3) (fc i.1))) := by
  obtain ⟨Gd, Y, wk, hg, hy⟩ := gv.walk
  have hAD : A Dd = false := ok.prot.new hD
  refine lc_it (g := rdG G tgt) (vs := own) (σ := σ) (Qd := fun H => Q (.ref Dd) H) (tt := fun σ2 H2 Q2 => ∃ i : Env × (Addr → Bool), EnvOk G i.2 H2 i.1 σ2 ∧ OutB (ExF σ2) H2 Q2 (fc i.1)) (te := fun σ2 H3 Q3 => ∃ i : Env × (Addr → Bool), EnvOk G i.2 H3 i.1 σ2 ∧ OutE (ExF σ2) H3 (MA G i.2 H3 false) Q3 (fe i.1)) wk
    (fun i H => ∃ done acc rest, Same H1 H ∧ H Dd = some (.lst acc) ∧ RepAll G (Hide H (addA A Dd)) done acc ∧ mapIfD (stepOf own tgt fc fe δ) (xs.drop i) = .val rest ∧ ys = done ++ rest ∧ acc.length ≤ i)
    ⟨[], [], ys, same_upd hD, upd_same, .nil, hm, rfl, Nat.le_refl _⟩ (fun i H _ ⟨_, _, _, s, _⟩ => hg H s) ?_ ?_
  · rintro i x H H' hi ⟨done, acc, rest, s, hDd, rr, hr, hys, hal⟩ yy
    have pr : Prot (addA A Dd) H := fun a ha => by
      by_cases e : a = Dd
      · subst e; exact .inl ⟨acc, hDd⟩
      · have : A a = true := by
          unfold addA at ha
          simpa [e] using ha
        exact ok.prot.mono s a this
    obtain ⟨s2, d, hd, rd⟩ := hy i (addA A Dd) H x H' hi s (same_addA hD s) pr yy
    have hdr : xs.drop i = d :: xs.drop (i + 1) := by
      obtain ⟨hl, e⟩ := List.getElem?_eq_some_iff.mp hd
      rw [List.drop_eq_getElem_cons hl, e]
    rw [hdr] at hr
    have ok' : EnvOk G (addA A Dd) H' (wipeE δ own) (wipe σ own) := (ok.grow (same_addA hD (s.trans s2)) (fun a o _ e => s2 _ _ (s _ _ e)) (pr.mono s2) fun a => addA_of).wipe own
    have g0 : ∀ {o}, stepOf own tgt fc fe δ d = .val o → ∃ δ', bindT (wipeE δ own) tgt d = .val δ' := fun {o} e => by
      unfold stepOf at e
      cases eb : bindT (wipeE δ own) tgt d with
      | val δ' => exact ⟨δ', rfl⟩
      | exc c => rw [eb] at e; cases e
      | bad => rw [eb] at e; cases e
    have hlen : i < LIM := Nat.lt_of_lt_of_le hi gv.len
    have e16 := LIM_eq
    rcases mapIf_cons hr with ⟨y, rest', gy, hr', rfl⟩ | ⟨gy, hr'⟩
    · obtain ⟨δ', hb⟩ := g0 gy
      unfold stepOf at gy
      rw [hb] at gy
      refine ⟨⟨⟨_, _⟩, d, _⟩, hb, ok', rd, fun σ2 ok2 hs2 hl2 => ⟨?_, ⟨δ', addA A Dd⟩, ok2, ?_⟩⟩
      · have hw : wipe σ2 own = wipe (wipe σ own) own := wipe_same hl2 fun j hj => hs2 j fun z => hj (hown j z)
        rw [hw]
        exact wipe_same (wipe_length _ _) fun j hj => by
          have key : ∀ vs : List Nat, j ∉ vs → (wipe σ vs)[j]? = σ[j]? := fun vs => by
            induction vs with
            | nil => intro _; rfl
            | cons a r ih =>
              intro hj
              simp only [List.mem_cons, not_or] at hj
              rw [wipe, List.getElem?_set_ne (Ne.symm hj.1), ih hj.2]
          exact key own hj
      · cases ec : fc δ' with
        | exc c => simp [ec] at gy
        | bad => simp [ec] at gy
        | val p =>
          cases p with
          | false => simp [ec] at gy
          | true =>
            cases ee : fe δ' with
            | exc c => simp [ec, ee] at gy
            | bad => simp [ec, ee] at gy
            | val y' =>
              simp [ec, ee] at gy
              subst gy
              intro H3 s3
              rw [if_pos rfl]
              refine ⟨⟨δ', addA A Dd⟩, ok2.mono s3, ?_⟩
              rw [ee]
              intro v H4 s4 m4
              have hD4 : H4 Dd = some (.lst acc) := s4 _ _ (s3 _ _ (s2 _ _ hDd))
              refine ⟨acc, hD4, by omega, done ++ [y'], acc ++ [v], rest', ?_, upd_same, ?_, hr', by simp [hys], by simp; omega⟩
              · intro b o e
                rw [upd_ne (ne_of_none e hD)]
                exact s4 _ _ (s3 _ _ (s2 _ _ (s _ _ e)))
              · rw [Hide.upd addA_self]
                exact (rr.mono (Hide.mono ((s2.trans s3).trans s4))).append (.cons m4.1 .nil)
    · obtain ⟨δ', hb⟩ := g0 gy
      unfold stepOf at gy
      rw [hb] at gy
      refine ⟨⟨⟨_, _⟩, d, _⟩, hb, ok', rd, fun σ2 ok2 hs2 hl2 => ⟨?_, ⟨δ', addA A Dd⟩, ok2, ?_⟩⟩
      · have hw : wipe σ2 own = wipe (wipe σ own) own := wipe_same hl2 fun j hj => hs2 j fun z => hj (hown j z)
        rw [hw]
        exact wipe_same (wipe_length _ _) fun j hj => by
          have key : ∀ vs : List Nat, j ∉ vs → (wipe σ vs)[j]? = σ[j]? := fun vs => by
            induction vs with
            | nil => intro _; rfl
            | cons a r ih =>
              intro hj
              simp only [List.mem_cons, not_or] at hj
              rw [wipe, List.getElem?_set_ne (Ne.symm hj.1), ih hj.2]
          exact key own hj
      · cases ec : fc δ' with
        | exc c => simp [ec] at gy
        | bad => simp [ec] at gy
        | val p =>
          cases p with
          | true =>
            cases ee : fe δ' with
            | exc c => simp [ec, ee] at gy
            | bad => simp [ec, ee] at gy
            | val y' => simp [ec, ee] at gy
          | false =>
            intro H3 s3
            rw [if_neg (by decide)]
            exact ⟨done, acc, rest, (s.trans s2).trans s3, s3 _ _ (s2 _ _ hDd), rr.mono (Hide.mono (s2.trans s3)), hr', hys, by omega⟩
  · rintro H ⟨done, acc, rest, s, hDd, rr, hr, hys, _⟩
    rw [List.drop_length] at hr
    cases hr
    rw [List.append_nil] at hys
    subst hys
    refine hQ H s ⟨.lst (.inl (.inl ?_)) (rr.mono (Hide.anti fun a => addA_of)), fun _ _ => ⟨Dd, rfl, hD, .inl ⟨ys, acc, rfl, hDd, rr⟩⟩⟩
    rw [Hide.at hAD]
    exact hDd
/-- the readings within -/
abbrev tyR (tt : Env → (Addr → Bool) → TT) : TT := fun σ H Q => ∃ i : Env × (Addr → Bool), tt i.1 i.2 σ H Q
theorem lc_imp {own : List (Str × Nat)} {tgt : Tg} {fi : Env → Out (List D)} {fc : Env → Out Bool} {fe : Env → Out D} {δ : Env} (hown : ∀ j ∈ tgSl tgt, j ∈ own.map (·.2)) {σ : L2.St} (ok : EnvOk G A H δ σ) (o : OutE (Ex σ) H (MA G A H true) Q (fComp (own.map (·.2)) tgt fi fc fe δ)) :
    OutI (Ex σ) G true A H (fun J H1 => ∀ Dd, H1 Dd = none → ∃ W : Nat → Nat → Hp → Prop, (∃ m, W 0 m (upd H1 Dd (.lst []))) ∧ ∀ i m H, W i m H →
      (J.stop i H ∧ Q (.ref Dd) H) ∨ (J.go i H ∧ ∃ Nx : Hp → Prop, (∀ H', Nx H' → ∃ m', m' < m ∧ W (i + 1) m' H') ∧ ∀ x H', J.yld i H x H' → rdG G tgt x (wipe σ (own.map (·.2))) H' fun σ2 H2 => wipe σ2 (own.map (·.2)) = wipe σ (own.map (·.2)) ∧
        (∃ i : Env × (Addr → Bool), EnvOk G i.2 H2 i.1 σ2 ∧ OutB (ExF σ2) H2 (fun b H3 => if b = true then (∃ i : Env × (Addr → Bool), EnvOk G i.2 H3 i.1 σ2 ∧ OutE (ExF σ2) H3 (MA G i.2 H3 false) (fun y H4 => ∃ acc, H4 Dd = some (.lst acc) ∧ acc.length < sizeLine ∧ Nx (upd H4 Dd (.lst (acc ++ [y])))) (fe i.1)) else Nx H3) (fc i.1)))) (fi δ) := by
  unfold fComp at o
  cases ei : fi δ with
  | exc c => rw [ei] at o; exact o
  | bad => rw [ei] at o; exact o.elim
  | val xs =>
    rw [ei] at o
    intro J H1 s1 gv Dd hD
    obtain ⟨ys, hm, hq⟩ := noExc_get (Q := Q) o
    exact comp_run (ok.mono s1) gv hD hm hown fun H' s m => hq _ H' (s1.trans s) ⟨m.1, fun z1 z2 => let ⟨a, h1, h2, h3⟩ := m.2 rfl z2; ⟨a, h1, s1.free h2, h3⟩⟩
theorem iEx {ι : Type} {tg e : Expr} {t : ι → TI} (h : ∀ i, PI X tg e (t i)) : PI X tg e (fun σ H R => ∃ i, t i σ H R) := ⟨fun pins s σ H R I ⟨i, q⟩ => (h i).run pins s σ H R I q⟩
/-- what a comprehension is made of -/
structure CompOk (G : Gx) (Ex : XS) (X : Cx) (own : List (Str × Nat)) (scope : Scope) (elt tg iter : Expr) (ifs : List Expr) (tgt : Tg) (fi : Env → Out (List D)) (fc : Env → Out Bool) (fe : Env → Out D) : Prop where
  calm : X.calm = true
  nd : X.N.Nodup
  it : SI true G Ex X tg iter fi
  bok : BlkOk X.N X.env.scope scope own
  tg : ∀ (s : Shared) (H : Hp) (C : Addr) (cl : List (Str × Addr)) (fp : List Addr), BG G (X.blk s H scope (compEnvC scope cl C X.env) fp) tg tgt
  ifs : ∀ (s : Shared) (H : Hp) (C : Addr) (cl : List (Str × Addr)) (fp : List Addr), PB G ExF (X.blk s H scope (compEnvC scope cl C X.env) fp) ifs fc
  elt : ∀ (s : Shared) (H : Hp) (C : Addr) (cl : List (Str × Addr)) (fp : List Addr), SA G ExF (X.blk s H scope (compEnvC scope cl C X.env) fp) false elt fe
  fold : ∀ x, foldedSetIterable iter X.env x = pure x
  own : ∀ j ∈ tgSl tgt, j ∈ own.map (·.2)
theorem sa_comp {own : List (Str × Nat)} {scope : Scope} {elt tg iter : Expr} {ifs : List Expr} {pos : Pos} {tgt : Tg} {fi : Env → Out (List D)} {fc : Env → Out Bool} {fe : Env → Out D} (h : CompOk G Ex X own scope elt tg iter ifs tgt fi fc fe) :
    SA G Ex X true (.ListComp elt [⟨tg, iter, ifs, 0⟩] scope pos) (fComp (own.map (·.2)) tgt fi fc fe) := fun δ A => by
  refine pImp (pe_lc h.calm h.nd (h.it δ A) h.bok (fun s H C cl fp => rdG_ok (h.tg s H C cl fp)) (fun s H C cl fp => ptsEx (t := fun i : Env × (Addr → Bool) => _) fun i => h.ifs s H C cl fp i.1 i.2)
    (fun s H C cl fp => peEx (t := fun i : Env × (Addr → Bool) => _) fun i => h.elt s H C cl fp i.1 i.2) h.fold) fun σ H Q ⟨ok, o⟩ => ⟨ok, lc_imp h.own ok o⟩
end
end Py
end
section
set_option autoImplicit false
set_option linter.all false
set_option maxRecDepth 100000
set_option maxHeartbeats 2000000
/-! PyN: statements. -/
namespace Py
open PySem PySem.Spec L2
open Sem (wp)

/-- a def's frame while its body runs; H0, A0: at its entry -/
structure FrOk (G : Gx) (H0 : Hp) (A0 A : Addr → Bool) (H : Hp) (δ : Env) (σ : L2.St) : Prop where
  env : EnvOk G A H δ σ
  p0 : Prot A0 H0
  same : Same H0 H
  sub : ∀ a, A0 a = true → A a = true
  new : ∀ (i : Nat) (d : D) (a : Addr), get δ i = .ow d → σ[i]? = some (some (.ref a)) → H0 a = none
  dist : ∀ (i j : Nat) (d e : D) (a : Addr), get δ i = .ow d → get δ j = .ow e → σ[i]? = some (some (.ref a)) → σ[j]? = some (some (.ref a)) → i = j
def OutS (Ex : XS) (G : Gx) (H0 : Hp) (A0 A : Addr → Bool) (H : Hp) (D : Ends) : Out (Ctl × Env) → Prop
  | .val (.nx, δ') => ∀ A' H' σ', Same (Hide H A) (Hide H' A') → FrOk G H0 A0 A' H' δ' σ' → D.nx σ' H'
  | .val (.rt d, _) => ∀ v H', Same H0 H' → RepV G (Hide H' A0) d v → D.rt v H'
  | .exc c => ∀ σ' H', Same H0 H' → Ex σ' c H'
  | .bad => False
def SS (G : Gx) (Ex : XS) (X : Cx) (st : Stmt) (f : Env → Out (Ctl × Env)) : Prop := ∀ (H0 : Hp) (A0 : Addr → Bool) (δ : Env) (A : Addr → Bool), PS X st (fun D σ H => FrOk G H0 A0 A H δ σ ∧ OutS Ex G H0 A0 A H D (f δ))
def SL (G : Gx) (Ex : XS) (X : Cx) (st : List Stmt) (f : Env → Out (Ctl × Env)) : Prop := ∀ (H0 : Hp) (A0 : Addr → Bool) (δ : Env) (A : Addr → Bool), PSs X st (fun D σ H => FrOk G H0 A0 A H δ σ ∧ OutS Ex G H0 A0 A H D (f δ))

section
variable {fr : Bool} {G : Gx} {Ex : XS} {X : Cx} {A A' A0 : Addr → Bool} {H H' H0 H1 : Hp} {δ δ' : Env} {σ : L2.St} {d : D} {v : V} {Dn : Ends} {pos : Pos}
theorem sImp {st : Stmt} {t t' : TS} (h : PS X st t) (k : ∀ D σ H, t' D σ H → t D σ H) : PS X st t' := ⟨fun pins s σ H D I q => h.run pins s σ H D I (k D σ H q)⟩
theorem lImp {st : List Stmt} {t t' : TS} (h : PSs X st t) (k : ∀ D σ H, t' D σ H → t D σ H) : PSs X st t' := ⟨fun pins s σ H D I q => h.run pins s σ H D I (k D σ H q)⟩
theorem lEx {ι : Type} {st : List Stmt} {t : ι → TS} (h : ∀ i, PSs X st (t i)) : PSs X st (fun D σ H => ∃ i, t i D σ H) := ⟨fun pins s σ H D I ⟨i, q⟩ => (h i).run pins s σ H D I q⟩
theorem sEx {ι : Type} {st : Stmt} {t : ι → TS} (h : ∀ i, PS X st (t i)) : PS X st (fun D σ H => ∃ i, t i D σ H) := ⟨fun pins s σ H D I ⟨i, q⟩ => (h i).run pins s σ H D I q⟩
theorem OutS.after {o : Out (Ctl × Env)} (h : OutS Ex G H0 A0 A H Dn o) (s : Same (Hide H A) (Hide H' A')) : OutS Ex G H0 A0 A' H' Dn o := by
  cases o with
  | val p =>
    obtain ⟨c, δ'⟩ := p
    cases c with
    | nx => exact fun A2 H2 σ2 s2 f2 => h A2 H2 σ2 (s.trans s2) f2
    | rt d => exact h
  | exc c => exact h
  | bad => exact h
theorem FrOk.mono (f : FrOk G H0 A0 A H δ σ) (s : Same H H') : FrOk G H0 A0 A H' δ σ := ⟨f.env.mono s, f.p0, f.same.trans s, f.sub, f.new, f.dist⟩

/-! ### stores -/
theorem FrOk.setS (f : FrOk G H0 A0 A H δ σ) (r : RepV G (Hide H A) d v) (i : Nat) : FrOk G H0 A0 A H (setE δ i (.sh d)) (σ.set i (some v)) where
  env := f.env.setSh r i
  p0 := f.p0
  same := f.same
  sub := f.sub
  new := fun j e a g q => by
    rcases get_setE (δ := δ) (i := i) (j := j) (e := .sh d) with ⟨rfl, _, z⟩ | ⟨z, _⟩ | ⟨hn, z⟩
    · rw [z] at g; cases g
    · rw [z] at g; cases g
    · rw [z] at g
      rw [List.getElem?_set_ne (Ne.symm hn)] at q
      exact f.new j e a g q
  dist := fun j k e e' a g g' q q' => by
    rcases get_setE (δ := δ) (i := i) (j := j) (e := .sh d) with ⟨rfl, _, z⟩ | ⟨z, _⟩ | ⟨hn, z⟩
    · rw [z] at g; cases g
    · rw [z] at g; cases g
    · rw [z] at g
      rcases get_setE (δ := δ) (i := i) (j := k) (e := .sh d) with ⟨rfl, _, z'⟩ | ⟨z', _⟩ | ⟨hn', z'⟩
      · rw [z'] at g'; cases g'
      · rw [z'] at g'; cases g'
      · rw [z'] at g'
        rw [List.getElem?_set_ne (Ne.symm hn)] at q
        rw [List.getElem?_set_ne (Ne.symm hn')] at q'
        exact f.dist j k e e' a g g' q q'
/-- slots that do not own change as they may -/
theorem FrOk.rebind {σ' : L2.St} {is : List Nat} (f : FrOk G H0 A0 A H δ σ) (e : EnvOk G A H δ' σ') (hs : ∀ j, j ∉ is → σ'[j]? = σ[j]?) (ho : ∀ j d, get δ' j = .ow d → j ∉ is ∧ get δ j = .ow d) : FrOk G H0 A0 A H δ' σ' where
  env := e
  p0 := f.p0
  same := f.same
  sub := f.sub
  new := fun j d a g q => by
    obtain ⟨h1, h2⟩ := ho j d g
    rw [hs j h1] at q
    exact f.new j d a h2 q
  dist := fun j k d d' a g g' q q' => by
    obtain ⟨h1, h2⟩ := ho j d g
    obtain ⟨h3, h4⟩ := ho k d' g'
    rw [hs j h1] at q
    rw [hs k h3] at q'
    exact f.dist j k d d' a h2 h4 q q'
theorem setE_noOw {i j : Nat} {d' : D} (h : get (setE δ i (.sh d)) j = .ow d') : j ≠ i ∧ get δ j = .ow d' := by
  rcases get_setE (δ := δ) (i := i) (j := j) (e := .sh d) with ⟨rfl, _, z⟩ | ⟨z, _⟩ | ⟨hn, z⟩
  · rw [z] at h; cases h
  · rw [z] at h; cases h
  · rw [z] at h; exact ⟨hn, h⟩
theorem setMany_noOw : ∀ {is : List Nat} {δ δ' : Env} {ds : List D} {j : Nat} {d' : D}, setMany δ is ds = .val δ' → get δ' j = .ow d' → j ∉ is ∧ get δ j = .ow d'
  | [], _, _, [], _, _, h, g => by cases h; exact ⟨by simp, g⟩
  | [], _, _, _ :: _, _, _, h, _ => by cases h
  | _ :: _, _, _, [], _, _, h, _ => by cases h
  | i :: is, δ, δ', d :: ds, j, d', h, g => by
    obtain ⟨h1, h2⟩ := setMany_noOw (is := is) h g
    obtain ⟨h3, h4⟩ := setE_noOw h2
    exact ⟨by simp [h1, h3], h4⟩
theorem bindT_noOw {tg : Tg} {j : Nat} {d' : D} (h : bindT δ tg d = .val δ') (g : get δ' j = .ow d') : j ∉ tgSl tg ∧ get δ j = .ow d' := by
  unfold bindT at h
  cases tg with
  | one i =>
    cases h
    obtain ⟨h3, h4⟩ := setE_noOw g
    exact ⟨by simpa [tgSl] using h3, h4⟩
  | many is =>
    cases d <;> first | cases h | exact setMany_noOw h g
theorem FrOk.setO {a : Addr} (f : FrOk G H0 A0 A H δ σ) (s : Same H H1) (ha : H a = none) (o : OwnAt G (Hide H1 (addA A a)) H1 d a) (i : Nat) : FrOk G H0 A0 (addA A a) H1 (setE δ i (.ow d)) (σ.set i (some (.ref a))) := by
  have hs : Same (Hide H A) (Hide H1 (addA A a)) := same_addA ha s
  have pr : Prot (addA A a) H1 := fun b hb => by
    by_cases e : b = a
    · subst e
      rcases o with ⟨ds, vs, _, h2, _⟩ | ⟨kvs, es, ep, _, h2, _⟩
      · exact .inl ⟨vs, h2⟩
      · exact .inr ⟨es, ep, h2⟩
    · have : A b = true := by
        unfold addA at hb
        simpa [e] using hb
      exact f.env.prot.mono s b this
  have e1 := f.env.grow hs (fun b o _ z => s _ _ z) pr fun a => addA_of
  have noA : ∀ (j : Nat) (d' : D), get δ j = .ow d' → σ[j]? ≠ some (some (.ref a)) := fun j d' g q => by
    obtain ⟨b, h1, h2, h3⟩ := f.env.ow j d' g
    rw [q] at h1
    cases h1
    rcases h3 with ⟨ds, vs, _, h4, _⟩ | ⟨kvs, es, ep, _, h4, _⟩
    · rw [ha] at h4; cases h4
    · rw [ha] at h4; cases h4
  refine ⟨⟨pr, by rw [setE_len, List.length_set]; exact e1.len, fun j d' g => ?_, fun j d' g => ?_⟩, f.p0, f.same.trans s, fun b hb => addA_of (f.sub b hb), fun j d' b g q => ?_, fun j k d' e' b g g' q q' => ?_⟩
  · rcases get_setE (δ := δ) (i := i) (j := j) (e := .ow d) with ⟨rfl, _, z⟩ | ⟨z, _⟩ | ⟨hn, z⟩
    · rw [z] at g; cases g
    · rw [z] at g; cases g
    · rw [z] at g
      obtain ⟨w', h1, h2⟩ := e1.sh j d' g
      exact ⟨w', by rw [List.getElem?_set_ne (Ne.symm hn)]; exact h1, h2⟩
  · rcases get_setE (δ := δ) (i := i) (j := j) (e := .ow d) with ⟨rfl, hl, z⟩ | ⟨z, _⟩ | ⟨hn, z⟩
    · rw [z] at g
      cases g
      exact ⟨a, by rw [List.getElem?_set_self (Nat.lt_of_lt_of_le hl e1.len)], addA_self, o⟩
    · rw [z] at g; cases g
    · rw [z] at g
      obtain ⟨w', h1, h2⟩ := e1.ow j d' g
      exact ⟨w', by rw [List.getElem?_set_ne (Ne.symm hn)]; exact h1, h2⟩
  · rcases get_setE (δ := δ) (i := i) (j := j) (e := .ow d) with ⟨rfl, hl, z⟩ | ⟨z, _⟩ | ⟨hn, z⟩
    · rw [List.getElem?_set_self (Nat.lt_of_lt_of_le hl e1.len)] at q
      cases q
      exact Same.free f.same ha
    · rw [z] at g; cases g
    · rw [z] at g
      rw [List.getElem?_set_ne (Ne.symm hn)] at q
      exact f.new j d' b g q
  · rcases get_setE (δ := δ) (i := i) (j := j) (e := .ow d) with ⟨rfl, hl, z⟩ | ⟨z, _⟩ | ⟨hn, z⟩
    · rcases get_setE (δ := δ) (i := j) (j := k) (e := .ow d) with ⟨rfl, hl', z'⟩ | ⟨z', _⟩ | ⟨hn', z'⟩
      · rfl
      · rw [z'] at g'; cases g'
      · rw [z'] at g'
        rw [List.getElem?_set_self (Nat.lt_of_lt_of_le hl e1.len)] at q
        cases q
        rw [List.getElem?_set_ne (Ne.symm hn')] at q'
        exact absurd q' (noA k e' g')
    · rw [z] at g; cases g
    · rw [z] at g
      rw [List.getElem?_set_ne (Ne.symm hn)] at q
      rcases get_setE (δ := δ) (i := i) (j := k) (e := .ow d) with ⟨rfl, hl', z'⟩ | ⟨z', _⟩ | ⟨hn', z'⟩
      · rw [List.getElem?_set_self (Nat.lt_of_lt_of_le hl' e1.len)] at q'
        cases q'
        exact absurd q (noA j d' g)
      · rw [z'] at g'; cases g'
      · rw [z'] at g'
        rw [List.getElem?_set_ne (Ne.symm hn')] at q'
        exact f.dist j k d' e' b g g' q q'
theorem FrOk.write {a : Addr} {o : HO} {x y : D} {i : Nat} (f : FrOk G H0 A0 A H δ σ) (g : get δ i = .ow x) (q : σ[i]? = some (some (.ref a))) (hA : A a = true) (w : OwnAt G (Hide H A) (upd H a o) y a) : FrOk G H0 A0 A (upd H a o) (setE δ i (.ow y)) σ := by
  have hi : i < δ.length := by
    by_cases h : i < δ.length
    · exact h
    · rw [get_out (by omega)] at g; cases g
  have hH : Hide (upd H a o) A = Hide H A := Hide.upd hA
  have gi : get (setE δ i (.ow y)) i = .ow y := get_setE_self hi
  have other : ∀ (j : Nat) (d' : D), j ≠ i → get δ j = .ow d' → σ[j]? ≠ some (some (.ref a)) := fun j d' hn g' q' => hn (f.dist j i d' x a g' g q' q)
  refine ⟨⟨fun b hb => ?_, by rw [setE_len]; exact f.env.len, fun j d' g' => ?_, fun j d' g' => ?_⟩, f.p0, fun b u e => ?_, f.sub, fun j d' b g' q' => ?_, fun j k d' e' b g1 g2 q1 q2 => ?_⟩
  · by_cases e : b = a
    · subst e
      rcases w with ⟨ds, vs, _, h2, _⟩ | ⟨kvs, es, ep, _, h2, _⟩
      · exact .inl ⟨vs, h2⟩
      · exact .inr ⟨es, ep, h2⟩
    · rw [upd_ne e]
      exact f.env.prot b hb
  · rcases get_setE (δ := δ) (i := i) (j := j) (e := .ow y) with ⟨rfl, _, z⟩ | ⟨z, _⟩ | ⟨hn, z⟩
    · rw [z] at g'; cases g'
    · rw [z] at g'; cases g'
    · rw [z] at g'
      rw [hH]
      exact f.env.sh j d' g'
  · rcases get_setE (δ := δ) (i := i) (j := j) (e := .ow y) with ⟨rfl, _, z⟩ | ⟨z, _⟩ | ⟨hn, z⟩
    · rw [z] at g'
      cases g'
      rw [hH]
      exact ⟨a, q, hA, w⟩
    · rw [z] at g'; cases g'
    · rw [z] at g'
      rw [hH]
      obtain ⟨b, h1, h2, h3⟩ := f.env.ow j d' g'
      have hb : b ≠ a := fun e => other j d' hn g' (by rw [← e]; exact h1)
      refine ⟨b, h1, h2, ?_⟩
      rcases h3 with ⟨ds, vs, e1, e2, e3⟩ | ⟨kvs, es, ep, e1, e2, e3⟩
      · exact .inl ⟨ds, vs, e1, by rw [upd_ne hb]; exact e2, e3⟩
      · exact .inr ⟨kvs, es, ep, e1, by rw [upd_ne hb]; exact e2, e3⟩
  · rw [upd_ne (ne_of_none e (f.new i x a g q))]
    exact f.same _ _ e
  · rcases get_setE (δ := δ) (i := i) (j := j) (e := .ow y) with ⟨rfl, _, z⟩ | ⟨z, _⟩ | ⟨hn, z⟩
    · exact f.new _ _ b g q'
    · rw [z] at g'; cases g'
    · rw [z] at g'
      exact f.new j d' b g' q'
  · have low : ∀ {j : Nat} {d' : D}, get (setE δ i (.ow y)) j = .ow d' → ∃ d2, get δ j = .ow d2 := fun {j d'} h => by
      rcases get_setE (δ := δ) (i := i) (j := j) (e := .ow y) with ⟨rfl, _, z⟩ | ⟨z, _⟩ | ⟨hn, z⟩
      · exact ⟨_, g⟩
      · rw [z] at h; cases h
      · rw [z] at h; exact ⟨_, h⟩
    obtain ⟨_, z1⟩ := low g1
    obtain ⟨_, z2⟩ := low g2
    exact f.dist j k _ _ b z1 z2 q1 q2
/-- an own list becomes one that others may hold -/
theorem FrOk.frz1 (f : FrOk G H0 A0 A H δ σ) (i : Nat) : ∃ A', FrOk G H0 A0 A' H (setE δ i (get δ i).frz) σ ∧ Same (Hide H A) (Hide H A') := by
  have triv : ∀ e, get δ i = e → e.frz = e → ∃ A', FrOk G H0 A0 A' H (setE δ i (get δ i).frz) σ ∧ Same (Hide H A) (Hide H A') := fun e h1 h2 => by
    have hs : setE δ i (get δ i).frz = δ := by
      rw [h1, h2, ← h1]
      have key : ∀ (δ : Env) (i : Nat), setE δ i (get δ i) = δ := fun δ => by
        induction δ with
        | nil => intro i; rfl
        | cons x r ih =>
          intro i
          cases i with
          | zero => rfl
          | succ i => simp [setE, get, ih]
      exact key δ i
    rw [hs]
    exact ⟨A, f, Same.refl _⟩
  cases e : get δ i with
  | un => rw [← e]; exact triv .un e rfl
  | sh d => rw [← e]; exact triv (.sh d) e rfl
  | ow d =>
    obtain ⟨a, h1, h2, h3⟩ := f.env.ow i d e
    have hA0 : A0 a = false := f.p0.new (f.new i d a e h1)
    have hsame : Same (Hide H A) (Hide H fun b => A b && !(b == a)) := Hide.anti fun b hb => by
      simp only [Bool.and_eq_true] at hb
      exact hb.1
    refine ⟨fun b => A b && !(b == a), ⟨⟨fun b hb => ?_, by rw [setE_len]; exact f.env.len, fun j d' g => ?_, fun j d' g => ?_⟩, f.p0, f.same, fun b hb => ?_, fun j d' b g q => ?_, fun j k d' e' b g1 g2 q1 q2 => ?_⟩, hsame⟩
    · simp only [Bool.and_eq_true] at hb
      exact f.env.prot b hb.1
    · rcases get_setE (δ := δ) (i := i) (j := j) (e := (Ent.ow d).frz) with ⟨rfl, _, z⟩ | ⟨z, _⟩ | ⟨hn, z⟩
      · rw [z] at g
        cases g
        refine ⟨_, h1, ?_⟩
        have ha : Hide H (fun b => A b && !(b == a)) a = H a := Hide.at (by simp)
        rcases h3 with ⟨ds, vs, rfl, e2, e3⟩ | ⟨kvs, es, ep, rfl, e2, e3, e4, e5, e6⟩
        · exact .lst (.inl (.inl (by rw [ha]; exact e2))) (e3.mono hsame)
        · exact .dct (by rw [ha]; exact e2) e3 e4 e5 (e6.mono hsame)
      · rw [z] at g; cases g
      · rw [z] at g
        obtain ⟨v, k1, k2⟩ := f.env.sh j d' g
        exact ⟨v, k1, k2.mono hsame⟩
    · rcases get_setE (δ := δ) (i := i) (j := j) (e := (Ent.ow d).frz) with ⟨rfl, _, z⟩ | ⟨z, _⟩ | ⟨hn, z⟩
      · rw [z] at g; cases g
      · rw [z] at g; cases g
      · rw [z] at g
        obtain ⟨b, k1, k2, k3⟩ := f.env.ow j d' g
        have hb : b ≠ a := fun z => hn (f.dist j i d' d a g e (by rw [← z]; exact k1) h1)
        exact ⟨b, k1, by simp [k2, hb], k3.mono hsame (Same.refl _)⟩
    · have : b ≠ a := fun z => by rw [z, hA0] at hb; cases hb
      simp [f.sub b hb, this]
    · have := setE_noOw (δ := δ) (i := i) (d := d) (j := j) (d' := d') g
      exact f.new j d' b this.2 q
    · have z1 := setE_noOw (δ := δ) (i := i) (d := d) (j := j) (d' := d') g1
      have z2 := setE_noOw (δ := δ) (i := i) (d := d) (j := k) (d' := e') g2
      exact f.dist j k d' e' b z1.2 z2.2 q1 q2
theorem FrOk.frz : ∀ {is : List Nat} {A : Addr → Bool} {δ : Env}, FrOk G H0 A0 A H δ σ → ∃ A', FrOk G H0 A0 A' H (frz δ is) σ ∧ Same (Hide H A) (Hide H A')
  | [], A, δ, f => ⟨A, f, Same.refl _⟩
  | i :: r, A, δ, f => by
    obtain ⟨A1, f1, s1⟩ := f.frz1 i
    obtain ⟨A2, f2, s2⟩ := FrOk.frz (is := r) f1
    exact ⟨A2, f2, s1.trans s2⟩

/-! ### statements one behind another -/
abbrev Fs := Env → Out (Ctl × Env)
def fNil : Fs := fun δ => .val (.nx, δ)
def fSeq (f g : Fs) : Fs := fun δ => do
  let r ← f δ
  nxt (fun δ' => g δ') r
theorem sl_nil : SL G Ex X [] fNil := fun H0 A0 δ A => lImp pss_nil fun D σ H ⟨f, o⟩ => o A H σ (Same.refl _) f
theorem sl_cons {st : Stmt} {rest : List Stmt} {f g : Fs} (h1 : SS G Ex X st f) (h2 : SL G Ex X rest g) : SL G Ex X (st :: rest) (fSeq f g) := fun H0 A0 δ A => by
  refine lImp (pss_cons (h1 H0 A0 δ A) (lEx (t := fun i : Env × (Addr → Bool) => _) fun i => h2 H0 A0 i.1 i.2)) fun D σ H ⟨fk, o⟩ => ⟨fk, ?_⟩
  unfold fSeq at o
  cases e : f δ with
  | exc c => rw [e] at o; exact o
  | bad => rw [e] at o; exact o
  | val p =>
    rw [e] at o
    obtain ⟨c, δ'⟩ := p
    cases c with
    | nx => exact fun A' H' σ' s f' => ⟨⟨δ', A'⟩, f', OutS.after o s⟩
    | rt d => exact o
theorem ss_pass : SS G Ex X (.Pass pos) fNil := fun H0 A0 δ A => sImp ps_pass fun D σ H ⟨f, o⟩ => o A H σ (Same.refl _) f
theorem ss_doc {x : Str} {j : Nat} {pos' : Pos} : SS G Ex X (.Expr (.Constant (.str x) j pos) pos') fNil := fun H0 A0 δ A => sImp ps_doc fun D σ H ⟨f, o⟩ => o A H σ (Same.refl _) f

/-- an expression's end within a statement -/
theorem OutS.ofE {M : D → V → Hp → Prop} {Q : VK} {o : Out D} {k : D → Out (Ctl × Env)} (f : FrOk G H0 A0 A H δ σ) (h : OutS Ex G H0 A0 A H Dn (o >>= k)) (c : ∀ d x H1, M d x H1 → Same H H1 → OutS Ex G H0 A0 A H Dn (k d) → Q x H1) : OutE (Ex σ) H M Q o := by
  cases o with
  | val d => exact fun v H' s m => c d v H' m s h
  | exc c' => exact fun H' s => h σ H' (f.same.trans s)
  | bad => exact h
theorem OutS.ofB {Q : Bool → Hp → Prop} {o : Out Bool} {k : Bool → Out (Ctl × Env)} (f : FrOk G H0 A0 A H δ σ) (h : OutS Ex G H0 A0 A H Dn (o >>= k)) (c : ∀ b H1, Same H H1 → OutS Ex G H0 A0 A H1 Dn (k b) → Q b H1) : OutB (Ex σ) H Q o := by
  cases o with
  | val d => exact fun H' s => c d H' s (OutS.after h (Hide.mono s))
  | exc c' => exact fun H' s => h σ H' (f.same.trans s)
  | bad => exact h
def fEx (fe : Env → Out D) : Fs := fun δ => do
  let _ ← fe δ
  return (.nx, δ)
theorem ss_expr {e : Expr} {fe : Env → Out D} (he : SA G Ex X fr e fe) (hs : swapsWith e none pos.line X.env = pure false) : SS G Ex X (.Expr e pos) (fEx fe) := fun H0 A0 δ A =>
  sImp (ps_expr (he δ A) hs) fun D σ H ⟨f, o⟩ => ⟨f.env, OutS.ofE f o fun d x H1 _ s o1 => o1 A H1 σ (Hide.mono s) (f.mono s)⟩
def fRet (fz : List Nat) (fe : Env → Out D) : Fs := fun δ => do
  let d ← fe (frz δ fz)
  return (.rt d, δ)
theorem ss_ret {e : Expr} {fe : Env → Out D} {fz : List Nat} (he : SA G Ex X fr e fe) : SS G Ex X (.Return (some e) pos) (fRet fz fe) := fun H0 A0 δ A =>
  sImp (ps_ret (peEx (t := fun i : Env × (Addr → Bool) => _) fun i => he i.1 i.2)) fun D σ H ⟨f, o⟩ => by
    obtain ⟨A', f', s'⟩ := FrOk.frz (is := fz) f
    exact ⟨⟨frz δ fz, A'⟩, f'.env, OutS.ofE f' (OutS.after o s') fun d x H1 m s o1 => o1 x H1 (f'.same.trans s) (m.1.mono (Hide.anti f'.sub))⟩
theorem ss_retN : SS G Ex X (.Return none pos) (fun δ => .val (.rt .non, δ)) := fun H0 A0 δ A =>
  sImp ps_retN fun D σ H ⟨f, o⟩ => o .non H f.same .non
def fIf (fc : Env → Out D) (fa fb : Fs) : Fs := fun δ => do
  let x ← fc δ
  let p ← asB x
  if p then fa δ else fb δ
theorem ss_if {c : Expr} {a b : List Stmt} {fc : Env → Out D} {fa fb : Fs} (hc : TX G Ex X c fc) (ha : SL G Ex X a fa) (hb : SL G Ex X b fb) : SS G Ex X (.If c a b pos) (fIf fc fa fb) := fun H0 A0 δ A =>
  sImp (ps_if (hc δ A) (ha H0 A0 δ A) (hb H0 A0 δ A)) fun D σ H ⟨f, o⟩ => by
    have o' : OutS Ex G H0 A0 A H D ((fc δ >>= asB) >>= fun p => if p = true then fa δ else fb δ) := by
      unfold fIf at o
      simpa only [bind_assoc'] using o
    refine ⟨f.env, OutS.ofB f o' fun p H1 s o1 => ?_⟩
    cases p with
    | true => rw [if_pos rfl]; exact ⟨f.mono s, o1⟩
    | false => rw [if_neg (by decide)]; exact ⟨f.mono s, o1⟩
def fSet (i : Nat) (ow fr : Bool) (fz : List Nat) (fe : Env → Out D) : Fs := fun δ => do
  let d ← fe (frz δ fz)
  return (.nx, setE (frz δ fz) i (entOf ow fr d))
theorem set_end {i : Nat} {ow : Bool} {H1 : Hp} (f : FrOk G H0 A0 A H δ σ) (m : MA G A H fr d v H1) (s : Same H H1) : ∃ A', FrOk G H0 A0 A' H1 (setE δ i (entOf ow fr d)) (σ.set i (some v)) ∧ Same (Hide H A) (Hide H1 A') := by
  unfold entOf
  split
  · rename_i h
    simp only [Bool.and_eq_true] at h
    obtain ⟨a, rfl, h1, h2⟩ := m.2 h.1.2 h.2
    exact ⟨addA A a, f.setO s h1 h2 i, same_addA h1 s⟩
  · exact ⟨A, (f.mono s).setS m.1 i, Hide.mono s⟩
end
end Py
end
section
set_option autoImplicit false
set_option linter.all false
set_option maxRecDepth 100000
set_option maxHeartbeats 2000000
/-! PyO: stores, appends, loops. -/
namespace Py
open PySem PySem.Spec L2
open Sem (wp)

section
variable {fr : Bool} {G : Gx} {Ex : XS} {Ex0 : Nm → Hp → Prop} {X : Cx} {A A' A0 : Addr → Bool} {H H' H0 H1 : Hp} {δ δ' : Env} {σ : L2.St} {d : D} {v : V} {Dn : Ends} {pos pos' : Pos} {e : Expr} {fe : Env → Out D} {x : Str} {i : Nat} {fz : List Nat} {ow : Bool}
theorem set_fin {D : Ends} {o : Env → Out _root_.Py.D} (f' : FrOk G H0 A0 A H δ σ) (o' : OutS Ex G H0 A0 A H D (.val (.nx, setE δ i (entOf ow fr d)))) (m : MA G A H fr d v H1) (s : Same H H1) : D.nx (σ.set i (some v)) H1 := by
  obtain ⟨A2, f2, s2⟩ := set_end (i := i) (ow := ow) f' m s
  exact o' A2 H1 _ s2 f2
theorem ss_set (hN : X.N.Nodup) (hi : X.N[i]? = some x) (hx : Loc X.env.scope x) (he : SA G Ex X fr e fe) (hs : swapsWith e (some (.Name x pos')) pos.line X.env = pure false) (hf : X.fn x = true ∨ X.env.scope.names.lookup x = some .local) :
    SS G Ex X (.Assign [.Name x pos'] e pos) (fSet i ow fr fz fe) := fun H0 A0 δ A =>
  sImp (ps_set hN hi hx (peEx (t := fun i : Env × (Addr → Bool) => _) fun i => he i.1 i.2) hs hf) fun D σ H ⟨f, o⟩ => by
    obtain ⟨A', f', s'⟩ := FrOk.frz (is := fz) f
    exact ⟨⟨frz δ fz, A'⟩, f'.env, OutS.ofE f' (OutS.after o s') fun d x H1 m s o1 => set_fin (o := fun _ => .bad) f' o1 m s⟩
theorem ss_setLc {own : List (Str × Nat)} {scope : Scope} {elt tg iter : Expr} {ifs : List Expr} {lpos : Pos} {tgt : Tg} {fi : Env → Out (List D)} {fc : Env → Out Bool} {fe : Env → Out D} (h : CompOk G Ex X own scope elt tg iter ifs tgt fi fc fe) (hi : X.N[i]? = some x) (hx : X.env.scope.names.lookup x = some .local)
    (hs : swapsWith (.ListComp elt [⟨tg, iter, ifs, 0⟩] scope lpos) (some (.Name x pos')) pos.line X.env = pure true) :
    SS G Ex X (.Assign [.Name x pos'] (.ListComp elt [⟨tg, iter, ifs, 0⟩] scope lpos) pos) (fSet i ow true fz (fComp (own.map (·.2)) tgt fi fc fe)) := fun H0 A0 δ A => by
  refine sImp (ps_setLc h.calm h.nd hi hx hs (iEx (t := fun i : Env × (Addr → Bool) => _) fun i => h.it i.1 i.2) h.bok (fun s H C cl fp => rdG_ok (h.tg s H C cl fp)) (fun s H C cl fp => ptsEx (t := fun i : Env × (Addr → Bool) => _) fun i => h.ifs s H C cl fp i.1 i.2)
    (fun s H C cl fp => peEx (t := fun i : Env × (Addr → Bool) => _) fun i => h.elt s H C cl fp i.1 i.2) h.fold) fun D σ H ⟨f, o⟩ => ?_
  obtain ⟨A', f', s'⟩ := FrOk.frz (is := fz) f
  refine ⟨⟨frz δ fz, A'⟩, f'.env, lc_imp (Ex := Ex) (Q := fun x H1 => D.nx (σ.set i (some x)) H1) (fc := fc) (fe := fe) h.own f'.env ?_⟩
  exact OutS.ofE f' (OutS.after o s') fun d x H1 m s o1 => set_fin (o := fun _ => .bad) f' o1 m s

/-! ### several names -/
def fUnp (tg : Tg) (fe : Env → Out D) : Fs := fun δ => do
  let d ← fe δ
  let δ' ← bindT δ tg d
  return (.nx, δ')
theorem tup_fin {D : Ends} {tgt : Tg} (f : FrOk G H0 A0 A H δ σ) (o : OutS Ex G H0 A0 A H D (bindT δ tgt d >>= fun δ' => .val (.nx, δ'))) (r : RepV G (Hide H A) d v) : rdG G tgt v σ H D.nx := by
  cases eb : bindT δ tgt d with
  | exc c =>
    exfalso
    unfold bindT at eb
    have no : ∀ (is : List Nat) (δ : Env) (ds : List _root_.Py.D), setMany δ is ds ≠ .exc c := fun is => by
      induction is with
      | nil => intro δ ds h; cases ds <;> cases h
      | cons i is ih => intro δ ds h; cases ds with
        | nil => cases h
        | cons d ds => exact ih _ _ h
    cases tgt with
    | one i => cases eb
    | many is => cases d <;> first | cases eb | exact no _ _ _ eb
  | bad => rw [eb] at o; exact o.elim
  | val δ' =>
    rw [eb] at o
    exact ⟨⟨⟨δ, δ'⟩, d, A⟩, eb, f.env, r, fun σ' ok hs hl => o A H σ' (Same.refl _) (f.rebind ok hs fun j d' g => bindT_noOw eb g)⟩
theorem ss_unp {tg : Expr} {tgt : Tg} (hg : BG G X tg tgt) (he : SA G Ex X fr e fe) (hs : swapsWithSole [tg] e pos.line X.env = pure false) (hw : swappedStores [tg] e X.env = pure none) (h1 : (assignEach [tg] X.env).map (·.2) = [assign tg X.env]) :
    SS G Ex X (.Assign [tg] e pos) (fUnp tgt fe) := fun H0 A0 δ A =>
  sImp (ps_asg (he δ A) (rdG_ok hg) hs hw h1) fun D σ H ⟨f, o⟩ => ⟨f.env, OutS.ofE f o fun d x H1 m s o1 => tup_fin (f.mono s) (OutS.after o1 (Hide.mono s)) m.1⟩

/-! ### own lists and dicts change -/
def fApp (i : Nat) (fe : Env → Out D) : Fs := fun δ => do
  let x ← owned (get δ i)
  let xs ← lstOf x
  let d ← fe δ
  let y ← dApp (.lst xs) d
  return (.nx, setE δ i (.ow y))
theorem owned_val {o : Ent} {α : Type} {k : D → Out α} {P : Out α → Prop} (h : P (owned o >>= k)) (hb : ¬ P .bad) : ∃ d, o = .ow d ∧ P (k d) := by
  cases o with
  | ow d => exact ⟨d, rfl, h⟩
  | un => exact absurd h hb
  | sh d => exact absurd h hb
theorem nox_app (d e : D) : NoX (dApp d e) := by
  unfold dApp
  split <;> first | exact nox_chk | exact nox_bad
theorem OutS.valE {o : Out D} {k : D → Out (Ctl × Env)} (h : OutS Ex G H0 A0 A H Dn (o >>= k)) (n : NoX o) : ∃ r, o = .val r ∧ OutS Ex G H0 A0 A H Dn (k r) := by
  cases o with
  | val d => exact ⟨d, rfl, h⟩
  | exc c => exact absurd rfl (n c)
  | bad => exact h.elim
theorem ss_app {apos npos : Pos} (hi : X.N[i]? = some x) (hv : Vis X.env.scope x) (hd : (x == ("__debug__" : Str)) = false) (hcd : (x == ("__classdict__" : Str)) = false) (he : SA G Ex X false e fe)
    (hbase : attributeBase (.Name x npos) "append" X.env (eval (.Name x npos) X.env) = eval (.Name x npos) X.env)
    (hfew : ((backTo pos (starEach [e] X.env)).all (fun x => !x.1) && (backToKw pos (keywordEach [] X.env)).all (fun x => x.1.isSome)
      && decide ([e].length + ([] : List Keyword).length + (if ([] : List Keyword).isEmpty then 0 else 1) < 30)) = true)
    (hline : (apos.endLine == pos.line) = true) (hst : starEach [e] X.env = (false, eval e X.env) :: starEach [] X.env) :
    SS G Ex X (.Expr (.Call (.Attribute (.Name x npos) "append" apos) [e] [] pos) pos') (fApp i fe) := fun H0 A0 δ A => by
  refine sImp (ps_expr (pe_bm PySem.F.plainAttrs_list PySem.F.slot_list_append PySem.F.type_list_append mt_append (pe_var hi hv hd hcd) (pa_cons (he δ A) pa_nil hst) hbase hfew hline hst rfl) rfl) fun D σ H ⟨f, o⟩ => ?_
  unfold fApp at o
  obtain ⟨x, gx, o⟩ := owned_val (P := OutS Ex G H0 A0 A H D) o id
  obtain ⟨a, h1, h2, h3⟩ := f.env.ow i x gx
  cases x with
  | lst ds =>
    rcases h3 with ⟨ds', vs, e1, e2, e3⟩ | ⟨kvs, es, ep, e1, _⟩
    · cases e1
      refine ⟨_, h1, .inl ⟨rfl, vs, .inl (.inl e2)⟩, f.env, OutS.ofE f o fun d y H1 m s o1 => ?_⟩
      obtain ⟨r, g1, o2⟩ := o1.valE (nox_app _ d)
      obtain ⟨g2, rfl⟩ := chk_val g1
      have hl : ds.length < LIM := by simpa using g2
      have e2' := s _ _ e2
      refine ⟨a, vs, y, rfl, rfl, e2', by rw [← LIM_eq, ← e3.length]; exact hl, ?_⟩
      have w : OwnAt G (Hide H1 A) (upd H1 a (.lst (vs ++ [y]))) (.lst (ds ++ [d])) a := .inl ⟨_, _, rfl, upd_same, (e3.mono (Hide.mono s)).append (.cons m.1 .nil)⟩
      refine o2 A _ σ ?_ ((f.mono s).write gx h1 h2 w)
      rw [Hide.upd h2]
      exact Hide.mono s
    · cases e1
  | _ => exact o.elim

/-- o[k] = v of an own list or dict -/
abbrev rSetAll (G : Gx) : TSet := fun o i v H Q => ∃ (A : Addr → Bool) (x k d y : D) (a : Addr), o = .ref a ∧ A a = true ∧ Prot A H ∧ OwnAt G (Hide H A) H x a ∧ RepT G A H k i ∧ RepV G (Hide H A) d v ∧ dSet x k d = .val y ∧ ∀ ho, OwnAt G (Hide H A) (upd H a ho) y a → Q (upd H a ho)
theorem repT_hk {k : D} {kv : V} (hk : D.hkey k = true) (r : RepT G A H k kv) : RepV G (Hide H A) k kv := r.of_not (by cases k <;> first | rfl | cases hk)
theorem set_all (gk : GOk G X) (hu : X.A.units + 70 < cLine) : PSet X (rSetAll G) := by
  intro pins s σ H o i v ov iv u Q I ro ri rv ⟨A, x, k, d, y, a, ho, hA, pr, w, rk, rd, hs, q⟩
  subst ho
  unfold dSet at hs
  rcases w with ⟨ds, vs, rfl, e2, e3⟩ | ⟨kvs, es, ep, rfl, e2, e3, e4, e5, e6⟩
  · cases k <;> first | cases hs | skip
    rename_i j
    cases hp : pl ds.length j with
    | none => simp [hp] at hs
    | some m =>
      simp [hp] at hs
      subst hs
      rw [e3.length, pl_ix] at hp
      exact set_list pins s σ H _ i v ov iv u Q I ro ri rv ⟨a, vs, j, m, rfl, RepT.int rk, e2, hp, q _ (.inl ⟨_, _, rfl, upd_same, e3.set rd m⟩)⟩
  · obtain ⟨h1, rfl⟩ := chk_val hs
    simp only [Bool.and_eq_true, decide_eq_true_eq] at h1
    cases ro
    have rk' := repT_hk h1.1 rk
    have hkeys : ∀ p ∈ kvs, D.key p.1 = true := by
      have key : ∀ {es : List DictEntry} {kvs : List (D × D)}, RepEs G (Hide H A) es kvs → ∀ p ∈ kvs, D.key p.1 = true := fun {es kvs} r => by
        induction kvs generalizing es with
        | nil => intro p hp; cases hp
        | cons p0 r0 ih =>
          cases r with
          | cons _ _ _ _ _ hk rr =>
            intro p hp
            rcases List.mem_cons.mp hp with rfl | hp
            · exact hkey_key hk
            · exact ih rr p hp
      exact key e6
    refine set_nk (Hv := H) gk I (by omega) e2 e4 e5 (e6.mono Hide.le) h1.1 (rk'.mono Hide.le) ri rv fun s' es' ep' I' hr => ⟨_, I', q _ (.inr ⟨_, es', ep', rfl, upd_same, e3, put_keys (hkey_key h1.1) hkeys e4, ?_, hr _ e6 rk' rd⟩)⟩
    have := put_length kvs k d
    omega
def fSetIdx (i : Nat) (fk fe : Env → Out D) : Fs := fun δ => do
  let d ← fe δ
  let x ← owned (get δ i)
  let kd ← fk δ
  let y ← dSet x kd d
  return (.nx, setE δ i (.ow y))
theorem nox_set (x k d : D) : NoX (dSet x k d) := by
  unfold dSet
  split <;> first | exact nox_chk | exact nox_bad | (split <;> first | exact nox_bad | (split <;> first | exact nox_val | exact nox_bad))
theorem ss_setIdx {k : Expr} {fk : Env → Out D} {npos spos : Pos} (gk : GOk G X) (hu : X.A.units + 70 < cLine) (hi : X.N[i]? = some x) (hv : Vis X.env.scope x) (hd : (x == ("__debug__" : Str)) = false) (hcd : (x == ("__classdict__" : Str)) = false) (he : SA G Ex X false e fe) (hk : ST G Ex X k fk)
    (ha : ∀ v, assign (.Subscript (.Name x npos) k spos) X.env v = (do
      let ov ← holding [v] (eval (.Name x npos) X.env)
      let iv ← holding [v, ov] (eval k X.env)
      standAt spos
      holding [v, ov, iv] (setItem ov iv v)
      release [v, ov, iv] []))
    (hs : swapsWithSole [.Subscript (.Name x npos) k spos] e pos.line X.env = pure false) (hw : swappedStores [.Subscript (.Name x npos) k spos] e X.env = pure none) :
    SS G Ex X (.Assign [.Subscript (.Name x npos) k spos] e pos) (fSetIdx i fk fe) := fun H0 A0 δ A => by
  refine sImp (ps_asg (he δ A) (pg_sub (pe_var hi hv hd hcd) (hk δ A) (set_all (G := G) gk hu) ha) hs hw rfl) fun D σ H ⟨f, o⟩ => ⟨f.env, OutS.ofE f o fun d v H1 m s o1 => ?_⟩
  obtain ⟨x0, gx, o2⟩ := owned_val (P := OutS Ex G H0 A0 A H D) o1 id
  have f1 := f.mono s
  obtain ⟨a, h1, h2, h3⟩ := f1.env.ow i x0 gx
  refine ⟨_, h1, f1.env, OutS.ofE f1 (OutS.after o2 (Hide.mono s)) fun kd kv H2 mk s2 o3 => ?_⟩
  obtain ⟨y, gy, o4⟩ := o3.valE (nox_set x0 kd d)
  have f2 := f1.mono s2
  refine ⟨A, x0, kd, d, y, a, rfl, h2, f2.env.prot, h3.mono (Hide.mono s2) s2, mk, m.1.mono (Hide.mono s2), gy, fun ho w => ?_⟩
  refine o4 A _ σ ?_ (f2.write gx h1 h2 w)
  rw [Hide.upd h2]
  exact Hide.mono s2

/-! ### loops -/
def fFor (tg : Tg) (fz : List Nat) (fi : Env → Out (List D)) (fb : Fs) : Fs := fun δ => do
  let xs ← fi (frz δ fz)
  forD (fun x δ => do
    let δ' ← bindT δ tg x
    fb δ') xs (frz δ fz)
theorem OutS.ofI {o : Out (List _root_.Py.D)} {k : List _root_.Py.D → Out (Ctl × Env)} {R : L2.It → Hp → Prop} (f : FrOk G H0 A0 A H δ σ) (h : OutS Ex G H0 A0 A H Dn (o >>= k)) (c : ∀ xs J H1, Same H H1 → Gives G (Hide H1 A) (Hide H1 A) J xs → OutS Ex G H0 A0 A H1 Dn (k xs) → R J H1) : OutI (Ex σ) G false A H R o := by
  cases o with
  | val xs => exact fun J H1 s g => c xs J H1 s g (OutS.after h (Hide.mono s))
  | exc c' => exact fun H' s => h σ H' (f.same.trans s)
  | bad => exact h
theorem ss_for {tg iter : Expr} {tgt : Tg} {fi : Env → Out (List D)} {fb : Fs} {body : List Stmt} (hp : PassesOwn (model X.prog X.w) X.A X.env X.xe) (hc : X.calm = true) (hi : SI false G Ex X tg iter fi) (hg : BG G X tg tgt) (hb : SL G Ex X body fb)
    (hs : ∀ x, foldedSetIterable iter X.env x = pure x) : SS G Ex X (.For tg iter body [] pos) (fFor tgt fz fi fb) := fun H0 A0 δ A => by
  refine sImp (ps_for hp hc (iEx (t := fun i : Env × (Addr → Bool) => _) fun i => hi i.1 i.2) (rdG_ok hg) (lEx (t := fun i : Env × (Addr → Bool) => _) fun i => hb H0 A0 i.1 i.2) hs) fun D σ H ⟨f0, o⟩ => ?_
  obtain ⟨A', f, s'⟩ := FrOk.frz (is := fz) f0
  refine ⟨⟨frz δ fz, A'⟩, f.env, OutS.ofI f (OutS.after o s') fun xs J H1 s1 gv o1 => ?_⟩
  obtain ⟨Gd, Y, wk, hgd, hy⟩ := gv.walk
  refine for_it (g := rdG G tgt) (tb := fun D σ H => ∃ i : Env × (Addr → Bool), FrOk G H0 A0 i.2 H i.1 σ ∧ OutS Ex G H0 A0 i.2 H D (fb i.1)) (D := D) (σ := σ) (H := H1) wk
    (fun i σ H => ∃ δc Ac, FrOk G H0 A0 Ac H δc σ ∧ Same (Hide H1 A') (Hide H Ac) ∧ OutS Ex G H0 A0 Ac H D (forD (fun x δ => do
      let δ' ← bindT δ tgt x
      fb δ') (xs.drop i) δc)) ⟨frz δ fz, A', f.mono s1, Same.refl _, o1⟩ (fun i σ H _ ⟨_, _, _, s, _⟩ => hgd H (s.trans Hide.le)) ?_ ?_
  · rintro i x σ H H' hi ⟨δc, Ac, fc, sc, oc⟩ yy
    obtain ⟨s2, d, hd, rd⟩ := hy i Ac H x H' hi (sc.trans Hide.le) sc fc.env.prot yy
    have hdr : xs.drop i = d :: xs.drop (i + 1) := by
      obtain ⟨hl, e⟩ := List.getElem?_eq_some_iff.mp hd
      rw [List.drop_eq_getElem_cons hl, e]
    rw [hdr] at oc
    have f2 := fc.mono s2
    have oc2 : OutS Ex G H0 A0 Ac H' D (bindT δc tgt d >>= fun δ' => fb δ' >>= nxt fun δ2 => forD (fun x δ => do
          let δ' ← bindT δ tgt x
          fb δ') (xs.drop (i + 1)) δ2) := by
      have := OutS.after (A' := Ac) (H' := H') oc (Hide.mono s2)
      simpa only [forD, bind_assoc'] using this
    cases eb : bindT δc tgt d with
    | exc c =>
      exfalso
      unfold bindT at eb
      have no : ∀ (is : List Nat) (δ : Env) (ds : List _root_.Py.D), setMany δ is ds ≠ .exc c := fun is => by
        induction is with
        | nil => intro δ ds h; cases ds <;> cases h
        | cons i is ih => intro δ ds h; cases ds with
          | nil => cases h
          | cons d ds => exact ih _ _ h
      cases tgt with
      | one i => cases eb
      | many is => cases d <;> first | cases eb | exact no _ _ _ eb
    | bad => rw [eb] at oc2; exact oc2.elim
    | val δ' =>
      rw [eb] at oc2
      refine ⟨⟨⟨δc, δ'⟩, d, Ac⟩, eb, f2.env, rd, fun σ' ok hs hl => ⟨⟨δ', Ac⟩, f2.rebind ok hs fun j d' g => bindT_noOw eb g, ?_⟩⟩
      cases ef : fb δ' with
      | exc c => rw [Out.bind_val, ef] at oc2; exact oc2
      | bad => rw [Out.bind_val, ef] at oc2; exact oc2
      | val p =>
        rw [Out.bind_val, ef] at oc2
        obtain ⟨c, δ2⟩ := p
        cases c with
        | nx => exact fun A2 H2 σ2 s3 f3 => ⟨δ2, A2, f3, (sc.trans (Hide.mono s2)).trans s3, OutS.after oc2 s3⟩
        | rt d => exact oc2
  · rintro σ H ⟨δc, Ac, fc, sc, oc⟩
    rw [List.drop_length] at oc
    exact oc Ac H σ (Same.refl _) fc
def fWhile (fc : Env → Out D) (fb : Fs) : Fs := fun δ => whileD fc fb wFuel δ
theorem ss_while {c : Expr} {fc : Env → Out D} {fb : Fs} {body : List Stmt} (hp : PassesOwn (model X.prog X.w) X.A X.env X.xe) (hc : TX G Ex X c fc) (hb : SL G Ex X body fb) : SS G Ex X (.While c body [] pos) (fWhile fc fb) := fun H0 A0 δ A => by
  refine sImp (ps_while hp (tc := fun σ H Q => ∃ i : Env × (Addr → Bool), EnvOk G i.2 H i.1 σ ∧ OutB (Ex σ) H Q (fc i.1 >>= asB)) ⟨fun pins s σ H Q I ⟨i, q⟩ => (hc i.1 i.2).run pins s σ H Q I q⟩ (lEx (t := fun i : Env × (Addr → Bool) => _) fun i => hb H0 A0 i.1 i.2)) fun D σ H ⟨f, o⟩ => ?_
  refine ⟨fun m σ H => ∃ δc Ac, FrOk G H0 A0 Ac H δc σ ∧ OutS Ex G H0 A0 Ac H D (whileD fc fb m δc), ⟨wFuel, δ, A, f, o⟩, ?_⟩
  rintro m σ H' ⟨δc, Ac, f1, o1⟩
  cases m with
  | zero => exact o1.elim
  | succ m =>
    have o2 : OutS Ex G H0 A0 Ac H' D ((fc δc >>= asB) >>= fun p => if p = true then (fb δc >>= nxt fun δ' => whileD fc fb m δ') else .val (.nx, δc)) := by
      unfold whileD at o1
      simpa only [bind_assoc'] using o1
    refine ⟨⟨δc, Ac⟩, f1.env, OutS.ofB f1 o2 fun p H2 s2 o3 => ?_⟩
    cases p with
    | false => rw [if_neg (by decide)]; exact o3 Ac H2 σ (Same.refl _) (f1.mono s2)
    | true =>
      rw [if_pos rfl]
      rw [if_pos rfl] at o3
      refine ⟨fun σ' H3 => ∃ δ3 A3, FrOk G H0 A0 A3 H3 δ3 σ' ∧ OutS Ex G H0 A0 A3 H3 D (whileD fc fb m δ3), fun σ' H3 ⟨δ3, A3, f3, o4⟩ => ⟨m, Nat.lt_succ_self m, δ3, A3, f3, o4⟩, ⟨δc, Ac⟩, f1.mono s2, ?_⟩
      cases ef : fb δc with
      | exc c => rw [ef] at o3; exact o3
      | bad => rw [ef] at o3; exact o3
      | val p =>
        rw [ef] at o3
        obtain ⟨c, δ2⟩ := p
        cases c with
        | nx => exact fun A2 H3 σ2 s3 f3 => ⟨δ2, A2, f3, OutS.after o3 s3⟩
        | rt d => exact o3
end
end Py
end
section
set_option autoImplicit false
set_option linter.all false
set_option maxRecDepth 100000
set_option maxHeartbeats 2000000
/-! PyP: more built-ins: max, list, join, index. -/
namespace Py
open PySem PySem.Spec L2
open Sem (wp)

/-! ### the first place of a sign -/
section
open PySem.Builtin PySem.Builtin.Str PySem.StrLaws
theorem occ_stop (s sub : Str) (hi : Nat) : ∀ (l : List Nat) (st : Array Nat × Nat), st.fst.size = 1 → (forIn l st (occBody s sub hi 1)).run.fst = st.fst
  | [], st, h => rfl
  | a :: l, st, h => by
    rw [List.forIn_cons]
    unfold occBody
    have c2 : ¬ (((st.fst.size < 1 ∧ st.snd ≤ a) ∧ a + sub.length ≤ hi) ∧ subAt s sub a = true) := fun z => by omega
    rw [if_neg c2]
    exact occ_stop s sub hi l _ h
theorem occ_first (s sub : Str) (hi i0 : Nat) (l2 : List Nat) (h0 : i0 + sub.length ≤ hi ∧ subAt s sub i0 = true) : ∀ (l1 : List Nat) (free : Nat), (∀ i ∈ l1, free ≤ i ∧ ¬ (i + sub.length ≤ hi ∧ subAt s sub i = true)) → free ≤ i0 →
    (forIn (l1 ++ i0 :: l2) ((#[] : Array Nat), free) (occBody s sub hi 1)).run.fst = #[i0]
  | [], free, _, hf => by
    rw [List.nil_append, List.forIn_cons]
    unfold occBody
    rw [if_pos ⟨⟨⟨by simp, hf⟩, h0.1⟩, h0.2⟩]
    have := occ_stop s sub hi l2 ((#[] : Array Nat).push i0, i0 + sub.length) (by simp)
    exact this
  | a :: l1, free, h, hf => by
    rw [List.cons_append, List.forIn_cons]
    unfold occBody
    have ha := h a (List.mem_cons_self ..)
    have c2 : ¬ (((((#[] : Array Nat), free).fst.size < 1 ∧ ((#[] : Array Nat), free).snd ≤ a) ∧ a + sub.length ≤ hi) ∧ subAt s sub a = true) := fun z => ha.2 ⟨z.1.2, z.2⟩
    rw [if_neg c2]
    exact occ_first s sub hi i0 l2 h0 l1 free (fun i hi' => h i (List.mem_cons_of_mem _ hi')) hf
theorem placeS_spec {c : Nat} : ∀ {s : List Nat} {i : Nat}, placeS c s = some i → s[i]? = some c ∧ ∀ j, j < i → s[j]? ≠ some c
  | [], i, h => by cases h
  | y :: ys, i, h => by
    unfold placeS at h
    split at h
    · rename_i e
      cases h
      exact ⟨by simp [e], fun j hj => by omega⟩
    · rename_i e
      cases hp : placeS c ys with
      | none => rw [hp] at h; cases h
      | some k =>
        rw [hp] at h
        simp only [Option.map_some, Option.some.injEq] at h
        subst h
        obtain ⟨h1, h2⟩ := placeS_spec hp
        refine ⟨by simpa using h1, fun j hj => ?_⟩
        cases j with
        | zero => simpa using e
        | succ j => simpa using h2 j (by omega)
theorem occ_place {c i : Nat} {s : List Nat} (h : placeS c s = some i) : occurrences (tx s) (tx [c]) 0 (tx s).length 1 = [i] := by
  obtain ⟨h1, h2⟩ := placeS_spec h
  have hlt : i < s.length := (List.getElem?_eq_some_iff.mp h1).1
  rw [occ_eq]
  have hsz : (tx s).length = s.length := by simp [Str.length]
  have e : List.range' 0 ((tx s).length + 1 - 0) = List.range' 0 i ++ i :: List.range' (i + 1) (s.length - i) := by
    have a1 : (tx s).length + 1 - 0 = i + (s.length - i + 1) := by omega
    rw [a1, ← List.range'_append_1, Nat.zero_add, List.range'_succ]
  rw [e]
  have := occ_first (tx s) (tx [c]) (tx s).length i (List.range' (i + 1) (s.length - i)) ((subAt_one (tx s) c i).mpr (by simpa using h1)) (List.range' 0 i) 0 (fun j hj => ⟨Nat.zero_le _, fun z => by
    have := (subAt_one (tx s) c j).mp z
    exact h2 j (by simp [List.mem_range'] at hj; omega) (by simpa using this)⟩) (Nat.zero_le _)
  rw [this]
end

section
variable {fr : Bool} {G : Gx} {Ex : XS} {Ex0 : Nm → Hp → Prop} {X : Cx} {A : Addr → Bool} {H : Hp} {M M1 : D → V → Hp → Prop} {Q : VK} {a b c : Expr} {pos p apos kpos : Pos} {fa fb fc : Env → Out D} {x : Str}
theorem maxI_spec : ∀ (is : List Int) (i : Int), maxI i is ∈ i :: is ∧ ∀ y ∈ i :: is, y ≤ maxI i is
  | [], i => ⟨by simp [maxI], by simp [maxI]⟩
  | x :: xs, i => by
    obtain ⟨h1, h2⟩ := maxI_spec xs (max i x)
    unfold maxI
    refine ⟨?_, fun y hy => ?_⟩
    · rcases List.mem_cons.mp h1 with e | e
      · rw [e]
        rcases Int.le_total i x with h | h
        · rw [Int.max_eq_right h]; simp
        · rw [Int.max_eq_left h]; simp
      · simp [e]
    · have hm := h2 (max i x) List.mem_cons_self
      simp only [List.mem_cons] at hy
      rcases hy with rfl | rfl | hy
      · omega
      · omega
      · exact h2 y (List.mem_cons_of_mem _ hy)
theorem c1_max1 (gk : GOk G X) (hc : X.calm = true) : C1 G X fr (.builtin "max") (bi1 .max1) := by
  intro A pins s σ H xs us Q I rs ⟨x, d, r, e, p, hd, hg, q⟩
  subst e
  cases d <;> simp only [bi1] at hg <;> first | cases hg | skip
  rename_i ds
  split at hg
  · rename_i i is hi
    cases hg
    obtain ⟨l, vs, rfl, s1, r1⟩ := hd.lst
    rw [← gk.K] at s1
    have s1 := s1.sq
    refine cr_max hc pins s σ H _ us Q I rs ⟨l, i :: is, rfl, by rw [← ints_rep r1 hi]; exact s1, by simp, fun m h1 h2 => ?_⟩
    obtain ⟨k1, k2⟩ := maxI_spec is i
    have : m = maxI i is := Int.le_antisymm (k2 m h1) (h2 _ k1)
    rw [this]
    exact q _ H (Same.refl H) mk_int
  · cases hg
theorem c1_list (gk : GOk G X) : C1 G X fr (.type "list") (bi1 .list) := by
  intro A pins s σ H xs us Q I rs ⟨x, d, r, e, p, hd, hg, q⟩
  subst e
  cases d <;> simp only [bi1] at hg <;> first | cases hg | skip
  · obtain ⟨l, vs, rfl, s1, r1⟩ := hd.tup
    rw [← gk.K] at s1
    exact call_list_of pins s σ H _ us Q I rs ⟨l, vs, rfl, .inr s1, fun p' hp => q _ _ (same_upd hp) (mk_lst p hp r1)⟩
  · obtain ⟨l, vs, rfl, s1, r1⟩ := hd.lst
    rw [← gk.K] at s1
    have s1 := s1.sq
    exact call_list_of pins s σ H _ us Q I rs ⟨l, vs, rfl, .inl s1, fun p' hp => q _ _ (same_upd hp) (mk_lst p hp r1)⟩

/-! ### max(list, default=d) -/
abbrev rMaxDf (G : Gx) (A : Addr → Bool) (fr : Bool) : List V → List V → Hp → VK → Prop := fun xs zs H Q => ∃ (x y : V) (d e r : D), xs = [x] ∧ zs = [y] ∧ Prot A H ∧ RepT G A H d x ∧ RepT G A H e y ∧ bi2 .maxd d e = .val r ∧ Want G A H fr r Q
theorem ints_eq : ∀ {ds : List D} {ns : List Int}, intsOf ds = some ns → ds = ns.map D.int
  | [], ns, h => by
    simp only [intsOf, Option.some.injEq] at h
    subst h
    rfl
  | d :: ds, ns, h => by
    cases d <;> simp only [intsOf] at h <;> first | cases h | skip
    cases e : intsOf ds with
    | none => rw [e] at h; cases h
    | some bs' =>
      rw [e] at h
      simp only [Option.map_some, Option.some.injEq] at h
      subst h
      rw [ints_eq e]
      rfl
theorem ints_plain : ∀ ns : List Int, D.plainAll (ns.map D.int) = true
  | [] => rfl
  | _ :: r => by simp [D.plainAll, D.plain, ints_plain r]
theorem ints_toPs : ∀ ns : List Int, toPs (ns.map D.int) = ns.map PyData.int
  | [] => rfl
  | _ :: r => by simp [toPs, toP, ints_toPs r]
theorem ints_dep : ∀ ns : List Int, PyData.depthAll (ns.map PyData.int) = 0
  | [] => rfl
  | _ :: r => by simp [PyData.depthAll, PyData.depth, ints_dep r]
theorem maxI_fold : ∀ (is : List Int) (i : Int), maxI i is = is.foldl max i
  | [], _ => rfl
  | x :: xs, i => maxI_fold xs (max i x)
theorem cr_maxdf (gk : GOk G X) (hc : X.calm = true) (hu : X.A.units + 70 < cLine) : CallRK X (.builtin "max") ["default"] (rMaxDf G A false) := by
  intro pins s σ H xs zs us ws Q I rs rz ⟨x, y, d, e, r, e1, e2, p, hd, he, hg, q⟩
  subst e1 e2
  cases d <;> cases e <;> simp only [bi2] at hg <;> first | cases hg | skip
  rename_i ds j
  cases he.int
  obtain ⟨l, vs, rfl, s1, r1⟩ := hd.lst
  rw [← gk.K] at s1
  have s1 := s1.sq
  obtain ⟨its, rv, pl, _⟩ := I.list s1
  obtain ⟨u, rfl, ru⟩ := vals1 rs
  cases ru
  obtain ⟨w', rfl, rw'⟩ := vals1 rz
  have main : ∀ ns, intsOf ds = some ns → (ns = [] → .int j = r) → (∀ i is, ns = i :: is → r = .int (maxI i is)) → wpAny (model X.prog X.w) X.A (call (.builtin "max") [.ref l] [(Str.ofString "default", w')]) (EP X pins σ Q) X.xe s := fun ns hn h0 h1 => by
    obtain rfl := ints_eq hn
    obtain ⟨as, ra⟩ := reads_all gk I _ _ _ (r1.mono Hide.le) (ints_plain ns) rv
    rw [ints_toPs] at ra
    have hal : PySem.W.AlikeAll (ns.map PyData.int) := ⟨fun x hx y hy => by
      obtain ⟨i, _, rfl⟩ := List.mem_map.mp hx
      obtain ⟨j, _, rfl⟩ := List.mem_map.mp hy
      rfl, fun x hx => by
      obtain ⟨i, _, rfl⟩ := List.mem_map.mp hx
      exact fun z => nomatch z⟩
    refine PySem.W.max_list_default (I.ok.hd hc) pl.isList ra hal (by rw [ints_dep]; omega) (fun hx h' tk hk => ?_) fun y ys i v h' tk bs hxy hv hr hk => ?_
    · have : ns = [] := by simpa using hx
      have er := h0 this
      subst er
      exact ⟨_, H, I.kept (t' := tk) hk, rw', q _ H (Same.refl H) mk_int⟩
    · cases ns with
      | nil => cases hxy
      | cons i0 is =>
        simp only [List.map_cons, List.cons.injEq] at hxy
        obtain ⟨rfl, rfl⟩ := hxy
        rw [PySem.W.maxD_ints, ← maxI_fold] at hr
        cases hr
        have er := h1 i0 is rfl
        subst er
        exact ⟨.int (maxI i0 is), H, I.kept (t' := tk) hk, ⟨_, rfl⟩, q _ H (Same.refl H) mk_int⟩
  split at hg
  · rename_i i is hi
    cases hg
    exact main _ hi (fun z => nomatch z) fun i' is' z => by cases z; rfl
  · rename_i hi
    cases hg
    exact main _ hi (fun _ => rfl) fun i' is' z => nomatch z
  · cases hg
theorem sa_maxdf {kpos : Pos} (gk : GOk G X) (hc : X.calm = true) (hu : X.A.units + 70 < cLine) (hg : Gl X "max") (hm : X.mg "max" = none) (ha : ST G Ex X a fa) (hb : ST G Ex X b fb) (hs : starEach [a] X.env = (false, eval a X.env) :: starEach [] X.env) :
    SA G Ex X false (.Call (.Name "max" p) [a] [⟨some "default", b, kpos⟩] pos) (f2 (bi2 .maxd) fa fb) := fun δ A => by
  refine pImp (pe_callBK (cr_maxdf (A := A) gk hc hu) hg hm PyProof.Rows.boot_max (pa_cons (ha δ A) pa_nil hs) (pk_cons (hb δ A) pk_nil) (by decide) (by decide) (by rw [hs]; rfl) (by rw [hs]; rfl) rfl rfl rfl) fun σ H Q ⟨ok, o⟩ => ⟨ok, OutE.bnd o fun d v H1 _ m1 s1 o1 => ⟨ok.mono s1, OutE.bnd (o1.after s1) fun e w H2 _ m2 s2 o2 => ?_⟩⟩
  obtain ⟨r, h1, h2⟩ := o2.val (nox_bi2 .maxd d e)
  exact ⟨v, w, d, e, r, rfl, rfl, (ok.mono (s1.trans s2)).prot, m1.mono s2, m2, h1, Want.after h2 s2 (s1.trans s2)⟩

/-! ### methods with one argument -/
def tyD (T : String) (d : D) : Bool := match d with
  | .str _ => T == "str"
  | .lst _ => T == "list"
  | .dct _ => T == "dict"
  | _ => false
def Mt1 (G : Gx) (X : Cx) (fr : Bool) (T id : String) (m : Me) : Prop := ∀ A : Addr → Bool, MtR X id (fun x xs H Q => ∃ y d e r, xs = [y] ∧ Prot A H ∧ RepT G A H d x ∧ tyD T d = true ∧ RepT G A H e y ∧ me1 m d e = .val r ∧ Want G A H fr r Q)
def fMe1 (m : Me) (fa fb : Env → Out D) : Env → Out D := fun δ => do
  let x ← fa δ
  let x ← chk (meTy m x) x
  let y ← fb δ
  me1 m x y
theorem nox_me1 (m : Me) (d e : D) : NoX (me1 m d e) := by
  unfold me1
  split <;> first
    | exact nox_val
    | exact nox_chk
    | exact nox_bad
    | (split <;> first | exact nox_val | exact nox_chk | exact nox_bad | (split <;> first | exact nox_val | exact nox_bad))
theorem ty_is (gk : GOk G X) {pins : List (Addr × Obj)} {σ : L2.St} {s : Shared} {T : String} {d : D} {v : V} {u : Value} (I : Inv X pins σ H s) (r : RepT G A H d v) (t : tyD T d = true) (rv : RelV v u) : s.TypeIs u T ∧ ∀ a, u = .ref a → ∃ ob, s.heap.get? a = some ob ∧ ob.dict = none := by
  cases d <;> first | cases t | skip
  · obtain ⟨rfl, k⟩ := r.str
    obtain rfl : T = "str" := by simpa [tyD] using t
    exact tyV_is I (x := sV _) rv (show tyV X.K "str" (sV _) H from rfl)
  · obtain ⟨l, vs, rfl, s1, _⟩ := r.lst
    rw [← gk.K] at s1
    obtain rfl : T = "list" := by simpa [tyD] using t
    exact tyV_is I rv (.inl ⟨rfl, vs, s1.sq⟩)
  · obtain ⟨a, es, ep, rfl, h1, h2, _⟩ := r.dct
    obtain rfl : T = "dict" := by simpa [tyD] using t
    cases rv
    obtain ⟨o, ep, e1, e2, e3⟩ := dict_at I h1
    exact ⟨⟨o, e1, e2.1⟩, fun b eb => by cases eb; exact ⟨o, e1, e2.2.1⟩⟩
theorem sa_me1 (gk : GOk G X) {T id : String} {name : Str} {m : Me} {fr : Bool} (pa : PlainAttrs T) (slot : PySem.Slot T name id) (hty : typeOf (.builtin id) = pure (.type "method_descriptor")) (hm : Mt1 G X fr T id m) (ha : ST G Ex X a fa) (hb : ST G Ex X b fb)
    (hbase : attributeBase a name X.env (eval a X.env) = eval a X.env)
    (hfew : ((backTo pos (starEach [b] X.env)).all (fun x => !x.1) && (backToKw pos (keywordEach [] X.env)).all (fun x => x.1.isSome)
      && decide ([b].length + ([] : List Keyword).length + (if ([] : List Keyword).isEmpty then 0 else 1) < 30)) = true)
    (hline : (apos.endLine == pos.line) = true) (hs : starEach [b] X.env = (false, eval b X.env) :: starEach [] X.env) (δ : Env) (hT : ∀ d, fa δ = .val d → meTy m d = true → tyD T d = true) (A : Addr → Bool) :
    PE X (.Call (.Attribute a name apos) [b] [] pos) (fun σ H Q => EnvOk G A H δ σ ∧ OutE (Ex σ) H (MA G A H fr) Q (fMe1 m fa fb δ)) := by
  refine ⟨fun pins s σ H Q I ⟨ok, o⟩ => ?_⟩
  refine wpAny_Call_method_late hbase hfew hline rfl (thn ((ha δ A).run pins s σ H (fun x H1 => ∃ d, Same H H1 ∧ RepT G A H1 d x ∧ tyD T d = true ∧ OutE (Ex σ) H (MA G A H fr) Q (do let y ← fb δ; me1 m d y)) I ⟨ok, OutE.bnd o fun d x H1 e m1 s1 o1 => ?_⟩) fun v s1 ⟨x, H1, I1, r1, d, s1', m1, t1, o1⟩ => ?_)
  · have hb : meTy m d = true := by
      cases h : meTy m d with
      | true => rfl
      | false => rw [h] at o1; exact o1.elim
    rw [hb] at o1
    exact ⟨d, s1, m1, hT d e hb, o1⟩
  · obtain ⟨h1, h2⟩ := ty_is gk I1 m1 t1 r1
    refine ⟨T, id, pa, slot, hty, h1, h2, ?_⟩
    have hA := (pa_cons (hb δ A) pa_nil hs).run pos pins s1 σ H1 (fun xs H2 => ∃ y d e r, xs = [y] ∧ Prot A H2 ∧ RepT G A H2 d x ∧ tyD T d = true ∧ RepT G A H2 e y ∧ me1 m d e = .val r ∧ Want G A H2 fr r Q) I1 ⟨ok.mono s1', OutE.bnd (o1.after s1') fun e w H2 _ m2 s2 o2 => ?_⟩
    · rw [hs] at hA ⊢
      refine Calls.callWith_builtin rfl (Calls.evalArgs_plain ?_)
      exact thn hA fun us s2 ⟨vs, H2, I2, r2, q2⟩ => hm A pins s2 σ H2 x vs v us Q I2 r1 r2 q2
    · obtain ⟨r, g1, g2⟩ := o2.val (nox_me1 m d e)
      exact ⟨w, d, e, r, rfl, (ok.mono (s1'.trans s2)).prot, m1.mono s2, t1, m2, g1, Want.after g2 s2 (s1'.trans s2)⟩
theorem strs_rep {Hf : Hp} : ∀ {ds : List D} {vs : List V} {ss : List (List Nat)}, RepAll G Hf ds vs → strsOf ds = some ss → vs = (ss.map tx).map V.str ∧ ∀ s ∈ ss, SOk s
  | [], _, _, r, h => by
    cases r
    simp only [strsOf, Option.some.injEq] at h
    subst h
    exact ⟨rfl, fun s hs => by cases hs⟩
  | d :: ds, _, bs, r, h => by
    cases r with
    | cons r1 r2 =>
      cases d <;> simp only [strsOf] at h <;> first | cases h | skip
      cases e : strsOf ds with
      | none => rw [e] at h; cases h
      | some bs' =>
        rw [e] at h
        simp only [Option.map_some, Option.some.injEq] at h
        subst h
        cases r1 with
        | str k =>
          obtain ⟨h1, h2⟩ := strs_rep r2 e
          refine ⟨by rw [h1]; rfl, fun s hs => ?_⟩
          rcases List.mem_cons.mp hs with rfl | hs
          · exact k
          · exact h2 s hs
theorem sizes_eq (n : Nat) : ∀ ss : List (List Nat), sizes n ss = ((ss.map tx).map (·.length)).sum + (ss.map tx).length * n
  | [] => by simp [sizes]
  | x :: r => by
    simp only [sizes, List.map_cons, List.sum_cons, List.length_cons, sizes_eq n r, Str.length]
    have : (tx x).cps.size = x.length := by simp
    rw [this, Nat.add_mul]
    omega
theorem joinL_len (sep : List Nat) : ∀ ss : List (List Nat), (joinL sep ss).length ≤ sizes sep.length ss
  | [] => Nat.zero_le _
  | [x] => by simp [joinL, sizes]
  | x :: y :: r => by
    have := joinL_len sep (y :: r)
    simp only [joinL, sizes, List.length_append] at this ⊢
    omega
theorem joinL_mem (sep : List Nat) {c : Nat} : ∀ ss : List (List Nat), c ∈ joinL sep ss → c ∈ sep ∨ ∃ s ∈ ss, c ∈ s
  | [], h => by cases h
  | [x], h => .inr ⟨x, by simp, h⟩
  | x :: y :: r, h => by
    simp only [joinL, List.mem_append] at h
    rcases h with (h | h) | h
    · exact .inr ⟨x, by simp, h⟩
    · exact .inl h
    · rcases joinL_mem sep (y :: r) h with z | ⟨s, z1, z2⟩
      · exact .inl z
      · exact .inr ⟨s, by simp at z1 ⊢; right; exact z1, z2⟩
theorem joinL_eq (sep : List Nat) : ∀ ss : List (List Nat), Str.join (tx sep) (ss.map tx) = tx (joinL sep ss)
  | [] => rfl
  | [_] => rfl
  | x :: y :: r => by
    show tx x ++ tx sep ++ Str.join (tx sep) ((y :: r).map tx) = _
    rw [joinL_eq sep (y :: r)]
    have : ∀ a b : List Nat, tx a ++ tx b = tx (a ++ b) := fun a b => by
      show Str.mk _ = _
      simp
    rw [this, this]
    rfl
theorem m1_join (gk : GOk G X) : Mt1 G X fr "str" "str.join" .join := by
  intro A pins s σ H x xs v us Q I rx rs ⟨y, d, e, r, hx, p, hd, ht, he, hg, q⟩
  subst hx
  clear ht
  cases d <;> cases e <;> simp only [me1] at hg <;> first | cases hg | skip
  rename_i sep ds
  split at hg
  · rename_i ss hss
    obtain ⟨g1, rfl⟩ := chk_val hg
    obtain ⟨rfl, k⟩ := hd.str
    obtain ⟨l, vs, rfl, s1, r1⟩ := he.lst
    rw [← gk.K] at s1
    have s1 := s1.sq
    obtain ⟨e1, e2⟩ := strs_rep r1 hss
    have hl : sizes sep.length ss ≤ LIM := by simpa using g1
    have hsz := sizes_eq sep.length ss
    refine mt_join pins s σ H _ _ v us Q I rx rs ⟨tx sep, l, ss.map tx, rfl, rfl, .inl (by rw [← e1]; exact s1), ?_, ?_⟩
    · have : (tx sep).length = sep.length := by simp [Str.length]
      rw [this, ← hsz]
      exact hl
    · rw [TL.join_eq, joinL_eq]
      refine q _ H (Same.refl H) (mk_str ⟨Nat.le_trans (joinL_len sep ss) hl, fun c hc => ?_⟩)
      rcases joinL_mem sep ss hc with z | ⟨t, z1, z2⟩
      · exact k.2 c z
      · exact (e2 t z1).2 c z2
  · cases hg
theorem m1_sindex : Mt1 G X fr "str" "str.index" .index := by
  intro A pins s σ H x xs v us Q I rx rs ⟨y, d, e, r, hx, p, hd, ht, he, hg, q⟩
  subst hx
  cases d <;> first | cases ht | skip
  cases e <;> simp only [me1] at hg <;> first | cases hg | skip
  rename_i sep t
  match t, hg with
  | [c], hg =>
    simp only at hg
    cases hp : placeS c sep with
    | none => rw [hp] at hg; cases hg
    | some n =>
      rw [hp] at hg
      cases hg
      obtain ⟨rfl, k⟩ := hd.str
      obtain ⟨rfl, k2⟩ := he.str
      exact mt_sindex pins s σ H _ _ v us Q I rx rs ⟨tx sep, tx [c], n, [], rfl, rfl, occ_place hp, q _ H (Same.refl H) mk_int⟩
end
end Py
end
section
set_option autoImplicit false
set_option linter.all false
set_option maxRecDepth 100000
set_option maxHeartbeats 2000000
/-! PyQ: what a def promises, own calls, contexts. -/
namespace Py
open PySem PySem.Spec PyProof.Rows L2
open Sem (wp)

/-! ### a def called while an error is handled -/
/-- such a def keeps its promise, where the handled error is as Gd says -/
structure FnE (P : Program) (w : World) (K : PySem.W.Frag) (mg : Str → Option Value) (base : Heap) (C : CXT) (k : Nat) (f : Addr) (fd : FuncData) (ps : List Str) (sp : Sp) (Gd : Addr × Obj → Prop) : Prop where
  len : ∀ vs H Q E, sp vs H Q E → vs.length = ps.length
  go : ∀ (A : Around) (outer : List PySem.Env) (s : Shared) (H : Hp) (args : Args) (us : List Value) (vs : List V) (Q : VK) (E : XK) (p : Addr × Obj), Gd p → L2H.RoomH k A → L2H.Hot1 A p → L2H.PinOk outer H s p → Env0 P w K mg base A outer s H → BindsTo s fd args (ps.zip us) → Vals vs us → sp vs H Q E → codeAny (model P w) A (.call (.ref f) args) (CR C outer P w H s Q E) s
theorem fnE_of {C : CXT} {P : Program} {w : World} {K : PySem.W.Frag} {mg : Str → Option Value} {base : Heap} {k : Nat} {f : Addr} {x q : Str} {pa : Arguments} {body : List Stmt} {sc : Scope} {fd : FuncData} {N ps : List Str} {sp : Sp} {Gd : Addr × Obj → Prop}
    (F : FunD K x q pa body sc [] [] f fd) (S : FnScope N ps sc) (len : ∀ vs H Q E, sp vs H Q E → vs.length = ps.length)
    (hb : ∀ (cdv : Value) (A : Around) (outer : List PySem.Env) (s : Shared) (H : Hp) (vs : List V) (Q : VK) (E : XK) (p : Addr × Obj), Gd p → L2H.RoomH k (A.deeper (envOfC q sc s.heap.objs.size f cdv)) → sp vs H Q E →
      ∃ t, PSs (L2H.cxH C P w K mg base N q sc f cdv A outer s H E p) body t ∧ t { nx := fun _ H' => Q .non H', rt := Q } (L2.start N vs) H) : FnE P w K mg base C (k + 1) f fd ps sp Gd := by
  obtain ⟨oc, od, dV, kV, doc, pm, an, cdv, ct, osl, rfl, look, code, _, _⟩ := F.ex
  refine ⟨len, fun A outer s H args us vs Q E p gd room hot stands e0 bnd rel want => ?_⟩
  have n := len _ _ _ _ want
  have inK : K.In s.heap := e0.mod.kin.keeps fun b o z => (e0.bs b o z).1
  have free : s.heap.NoLimit := e0.mod.nolimit.keeps fun b o z => (e0.bs b o z).1
  have kinds : ∀ y ∈ ps.zip us, sc.names.lookup y.1 = some .local ∨ (sc.names.lookup y.1 = some .cell ∧ ((cellsFrom (s.heap.objs.size + 1) sc.names []).lookup y.1).isSome = true) := fun ⟨m, v⟩ hy => (S.par m (List.of_mem_zip hy).1).imp id fun z => ⟨z, PySem.W.cellsFrom_some _ _ _ (.inl z)⟩
  refine codeAny_call_function room.depth (inK _ _ look) rfl S.co S.gen rfl (PySem.W.codeRec_of inK code) (bnd _ _ _ _ (wpAny_newFunctionEnv_cells S.kind kinds fun env he s1 y => ?_))
  subst he
  obtain ⟨t, ht, ask⟩ := hb cdv A outer s H vs Q E p gd (room.deeper _) want
  have I : Inv (L2H.cxH C P w K mg base N q sc f cdv A outer s H E p) [] (L2.start N vs) H s1 := L2H.inv_startH S stands e0 n rel y
  refine ⟨free.keeps y.toInCall.keep, codeAny_func (wpAny_mono (ht.run [] s1 (L2.start N vs) H _ I ask) (fun fl s' hs => ?_) fun e s' hs => hs)⟩
  cases fl with
  | ret u => exact let ⟨v, σ', H', J, rv, z⟩ := hs; ⟨v, H', J.os, J.bare, J.base, J.hok, rv, z⟩
  | next => exact let ⟨σ', H', J, z⟩ := hs; ⟨.non, H', J.os, J.bare, J.base, J.hok, rfl, z⟩
  | brk => exact let ⟨_, _, _, z⟩ := hs; z.elim
  | cont => exact let ⟨_, _, _, z⟩ := hs; z.elim
theorem pe_callE {X : Cx} {C : CXT} {k : Nat} {f : Addr} {fd : FuncData} {ps : List Str} {sp : Sp} {Ee : L2.St → XK} {x : Str} {q pos : Pos} {e : Expr} {es : List Expr} {t : TA} {Gd : Addr × Obj → Prop} {p : Addr × Obj} (F : FnE X.prog X.w X.K X.mg X.base C k f fd ps sp Gd) (hr : L2H.RoomH k X.A) (gd : Gd p) (hot : L2H.Hot1 X.A p) (hp : p ∈ X.pn)
    (hg : Gl X x) (hm : X.mg x = some (.ref f)) (hk : PySem.W.keepIn X.K (.ref f) = true) (hb : Binds X.K fd ps []) (hx : ∀ σ, PassesAt C X σ (Ee σ)) (ha : PA X (e :: es) t) (hdb : (x == ("__debug__" : Str)) = false) (he : starEach (e :: es) X.env = (false, eval e X.env) :: starEach es X.env) (hpl : (backTo pos (starEach es X.env)).any (·.1) = false) :
    PE X (.Call (.Name x q) (e :: es) [] pos) (tCallS sp Ee t) := ⟨fun pins s σ H Q I h => wpAny_Call_Name_kw (ld_glob I hg hm (PySem.W.callWith_K (h₀ := X.base) I.ok.mod.kin hk (thn (ha.run pos pins s σ H _ I h) fun us s1 ⟨vs, H1, I1, r, z⟩ => And.intro I1.kIn (by
  have n : us.length = ps.length := by rw [← r.length]; exact F.len _ _ _ _ z
  have b := hb s1 us I1.kIn (by simpa using n)
  rw [List.append_nil] at b
  have pi := I1.pin p (List.mem_append_left _ hp)
  refine wpAny_call (codeAny_mono (F.go X.A X.stack s1 H1 ⟨us, []⟩ us vs Q (Ee σ) p gd hr hot ⟨pi.1, pi.2.1, fun hm => (List.mem_cons.mp (I1.stkSub p.1 hm)).elim pi.2.2.1 pi.2.2.2.1, pi.2.2.2.2⟩ I1.env0 b r z) fun rr s2 hq => ?_)
  cases rr with
  | error er => exact hx σ pins H1 s1 er s2 I1 hq
  | ok fl =>
    cases fl with
    | ret u => exact I1.after hq
    | _ => exact False.elim hq)) he hpl) hdb)⟩
/-- what a def promises: it computes F's value -/
def spF (G : Gx) (F : Nm → List D → Out D) (nm : Nm) : Sp := fun vs H Q E => ∃ (A : Addr → Bool) (ds : List D), Prot A H ∧ RepAll G (Hide H A) ds vs ∧ OutE (fun c H' => ∀ a : Addr, G.ca c = some a → E (.ref a) none H') H (MA G A H false) Q (F nm ds)
def exOf (G : Gx) (W : WX) : XS := fun σ c H' => ∀ a : Addr, G.ca c = some a → W (.ref a) none σ H'
theorem OutE.ex {Ex1 Ex2 : Nm → Hp → Prop} {H : Hp} {M : D → V → Hp → Prop} {Q : VK} {o : Out D} (h : OutE Ex1 H M Q o) (k : ∀ c H', Ex1 c H' → Ex2 c H') : OutE Ex2 H M Q o := by
  cases o with
  | val d => exact h
  | exc c => exact fun H' s => k c H' (h H' s)
  | bad => exact h
theorem OutB.ex {Ex1 Ex2 : Nm → Hp → Prop} {H : Hp} {Q : Bool → Hp → Prop} {o : Out Bool} (h : OutB Ex1 H Q o) (k : ∀ c H', Ex1 c H' → Ex2 c H') : OutB Ex2 H Q o := by
  cases o with
  | val d => exact h
  | exc c => exact fun H' s => k c H' (h H' s)
  | bad => exact h
section
variable {fr : Bool} {G : Gx} {Ex Ex' : XS} {Ex0 : Nm → Hp → Prop} {X : Cx} {A : Addr → Bool} {H : Hp} {Q : VK} {e a : Expr} {es : List Expr} {pos p : Pos} {fa : Env → Out D} {fs : Env → Out (List D)} {fb : Env → Bool} {x : Str} {i : Nat}
theorem SA.ex (h : SA G Ex' X fr e fa) (k : ∀ σ c H', Ex σ c H' → Ex' σ c H') : SA G Ex X fr e fa := fun δ A => pImp (h δ A) fun σ H Q ⟨ok, o⟩ => ⟨ok, o.ex (k σ)⟩
theorem TX.ex (h : TX G Ex' X e fa) (k : ∀ σ c H', Ex σ c H' → Ex' σ c H') : TX G Ex X e fa := fun δ A => tImp (h δ A) fun σ H Q ⟨ok, o⟩ => ⟨ok, OutB.ex o (k σ)⟩

/-! ### arguments of own calls -/
def MB (G : Gx) (A : Addr → Bool) (H : Hp) (ds : List D) (vs : List V) : Bool → Prop
  | true => RepTs G A H ds vs
  | false => RepAll G (Hide H A) ds vs
def PAb (G : Gx) (Ex : XS) (X : Cx) (es : List Expr) (fs : Env → Out (List D)) (fb : Env → Bool) : Prop := ∀ (δ : Env) (A : Addr → Bool), PA X es (fun σ H Q => EnvOk G A H δ σ ∧ OutEs (Ex σ) H (fun ds vs H' => MB G A H' ds vs (fb δ)) Q (fs δ))
theorem repTs_of : ∀ {ds : List D} {vs : List V}, RepAll G (Hide H A) ds vs → RepTs G A H ds vs
  | _, _, .nil => .nil
  | _, _, .cons r rs => .cons (.inl r) (repTs_of rs)
theorem ab_nil : PAb G Ex X [] (fun _ => .val []) (fun _ => false) := fun δ A => aImp pa_nil fun σ H Q ⟨ok, o⟩ => o [] H (Same.refl H) (show RepAll G (Hide H A) [] [] from .nil)
theorem ab_cons (ha : SA G Ex X false a fa) (hr : PAb G Ex X es fs fb) (hs : starEach (a :: es) X.env = (false, eval a X.env) :: starEach es X.env) : PAb G Ex X (a :: es) (fCons fa fs) fb := fun δ A => by
  refine aImp (pa_cons (ha δ A) (hr δ A) hs) fun σ H Q ⟨ok, o⟩ => ⟨ok, ?_⟩
  unfold fCons at o
  cases e : fa δ with
  | exc c => rw [e] at o; exact o
  | bad => rw [e] at o; exact o.elim
  | val d =>
    rw [e] at o
    intro v H1 s1 m1
    refine ⟨ok.mono s1, ?_⟩
    cases e2 : fs δ with
    | exc c => rw [e2] at o; exact fun H' s => o H' (s1.trans s)
    | bad => rw [e2] at o; exact o.elim
    | val ds =>
      rw [e2] at o
      refine fun vs H2 s2 m2 => o (v :: vs) H2 (s1.trans s2) ?_
      have m3 := m1.1.mono (Hide.mono s2)
      dsimp only at m2 ⊢
      cases hb : fb δ with
      | true => rw [hb] at m2; exact .cons (.inl m3) m2
      | false => rw [hb] at m2; exact .cons m3 m2
theorem ab_name (hN : X.N[i]? = some x) (hv : Vis X.env.scope x) (hd : (x == ("__debug__" : Str)) = false) (hcd : (x == ("__classdict__" : Str)) = false) (hr : PAb G Ex X es fs fb) : PAb G Ex X (.Name x pos :: es) (fCons (fun δ => (get δ i).d) fs) (fun δ => (get δ i).isOw || fb δ) := fun δ A => by
  refine aImp (pa_cons (pe_var hN hv hd hcd) (hr δ A) rfl) fun σ H Q ⟨ok, o⟩ => ?_
  unfold fCons at o
  dsimp only at o
  cases e : get δ i with
  | un => rw [e] at o; exact o.elim
  | sh d =>
    rw [e] at o
    obtain ⟨v, h1, h2⟩ := ok.sh i d e
    refine ⟨v, h1, ok, ?_⟩
    cases e2 : fs δ with
    | exc c => rw [e2] at o; exact o
    | bad => rw [e2] at o; exact o
    | val ds =>
      rw [e2] at o
      refine fun vs H2 s2 m2 => o (v :: vs) H2 s2 ?_
      have m3 := h2.mono (Hide.mono s2)
      have hb : ((Ent.sh d).isOw || fb δ) = fb δ := rfl
      dsimp only at m2 ⊢
      rw [hb]
      cases hb2 : fb δ with
      | true => rw [hb2] at m2; exact .cons (.inl m3) m2
      | false => rw [hb2] at m2; exact .cons m3 m2
  | ow d =>
    rw [e] at o
    obtain ⟨b, h1, h2, h3⟩ := ok.ow i d e
    refine ⟨_, h1, ok, ?_⟩
    cases e2 : fs δ with
    | exc c => rw [e2] at o; exact o
    | bad => rw [e2] at o; exact o
    | val ds =>
      rw [e2] at o
      refine fun vs H2 s2 m2 => o (.ref b :: vs) H2 s2 ?_
      refine RepTs.cons (.inr ⟨b, rfl, h2, h3.mono (Hide.mono s2) s2⟩) ?_
      dsimp only at m2
      cases hb2 : fb δ with
      | true => rw [hb2] at m2; exact m2
      | false => rw [hb2] at m2; exact repTs_of m2

/-- an own call -/
def fCall (F : Nm → List D → Out D) (nm : Nm) (fs : Env → Out (List D)) (fb : Env → Bool) : Env → Out D := fun δ => do
  let xs ← fs δ
  let r ← F nm xs
  immIf (fb δ) r
/-- behind a call's arguments -/
theorem call_go {F : Nm → List D → Out D} {nm : Nm} {W : WX} {δ : Env} {σ : L2.St} {H1 : Hp} {ds : List D} {vs : List V} (ok1 : EnvOk G A H1 δ σ) (m : MB G A H1 ds vs (fb δ)) (s1 : Same H H1)
    (o1 : OutE (exOf G W σ) H (MA G A H false) Q (do let r ← F nm ds; immIf (fb δ) r)) : spF G F nm vs H1 Q (WE W σ) := by
  cases hbv : fb δ with
  | false =>
    rw [hbv] at m o1
    have m : RepAll G (Hide H1 A) ds vs := m
    refine ⟨A, ds, ok1.prot, m, ?_⟩
    cases hf : F nm ds with
    | bad => rw [hf] at o1; exact o1.elim
    | exc c => rw [hf] at o1; exact fun H' s => o1 H' (s1.trans s)
    | val r => rw [hf] at o1; exact fun v H' s m' => o1 v H' (s1.trans s) ⟨m'.1, fun z => nomatch z⟩
  | true =>
    rw [hbv] at m o1
    have m : RepTs G A H1 ds vs := m
    have hH : ∀ H2 : Hp, Hide H2 (fun _ => false) = H2 := fun H2 => by
      funext b
      exact Hide.at rfl
    refine Exists.intro (fun _ => false) (Exists.intro ds (And.intro (fun a h => absurd h Bool.false_ne_true) (And.intro (by rw [hH]; exact m.all) ?_)))
    cases hf : F nm ds with
    | bad => rw [hf] at o1; exact o1.elim
    | exc c => rw [hf] at o1; exact fun H' s => o1 H' (s1.trans s)
    | val r =>
      rw [hf] at o1
      intro v H' s m'
      have hi : D.imm r = true := by
        cases h : D.imm r with
        | true => rfl
        | false => simp [immIf, h] at o1; exact o1.elim
      have o2 : OutE (exOf G W σ) H (MA G A H false) Q (.val r) := by simpa [immIf, hi] using o1
      have m2 := m'.1
      rw [hH] at m2
      exact o2 v H' (s1.trans s) (mk_item (m2.imm (ok1.prot.mono s) hi))
theorem sa_call {F : Nm → List D → Out D} {nm : Nm} {W : WX} {CX : CXT} {k : Nat} {f : Addr} {fd : FuncData} {ps : List Str} (hF : FnOk X.prog X.w X.K X.mg X.base CX k f fd ps (spF G F nm)) (hr : Room k X.A) (hg : Gl X x) (hm : X.mg x = some (.ref f)) (hk : PySem.W.keepIn X.K (.ref f) = true)
    (hb : Binds X.K fd ps []) (hx : ∀ σ, PassesAt CX X σ (WE W σ)) (ha : PAb G (exOf G W) X (e :: es) fs fb) (hdb : (x == ("__debug__" : Str)) = false) (he : starEach (e :: es) X.env = (false, eval e X.env) :: starEach es X.env) (hpl : (backTo pos (starEach es X.env)).any (·.1) = false) :
    SA G (exOf G W) X false (.Call (.Name x p) (e :: es) [] pos) (fCall F nm fs fb) := fun δ A => by
  refine pImp (pe_callS hF hr hg hm hk hb hx (ha δ A) hdb he hpl) fun σ H Q ⟨ok, o⟩ => ⟨ok, OutEs.bnd o fun ds vs H1 _ m s1 o1 => call_go (ok.mono s1) m s1 o1⟩
/-- an own call while an error is handled -/
theorem sa_callH {F : Nm → List D → Out D} {nm : Nm} {W : WX} {CX : CXT} {k : Nat} {f : Addr} {fd : FuncData} {ps : List Str} {Gd : Addr × Obj → Prop} {pn : Addr × Obj} (hF : FnE X.prog X.w X.K X.mg X.base CX k f fd ps (spF G F nm) Gd) (hr : L2H.RoomH k X.A) (gd : Gd pn) (hot : L2H.Hot1 X.A pn) (hp : pn ∈ X.pn) (hg : Gl X x) (hm : X.mg x = some (.ref f)) (hk : PySem.W.keepIn X.K (.ref f) = true)
    (hb : Binds X.K fd ps []) (hx : ∀ σ, PassesAt CX X σ (WE W σ)) (ha : PAb G (exOf G W) X (e :: es) fs fb) (hdb : (x == ("__debug__" : Str)) = false) (he : starEach (e :: es) X.env = (false, eval e X.env) :: starEach es X.env) (hpl : (backTo pos (starEach es X.env)).any (·.1) = false) :
    SA G (exOf G W) X false (.Call (.Name x p) (e :: es) [] pos) (fCall F nm fs fb) := fun δ A => by
  refine pImp (pe_callE hF hr gd hot hp hg hm hk hb hx (ha δ A) hdb he hpl) fun σ H Q ⟨ok, o⟩ => ⟨ok, OutEs.bnd o fun ds vs H1 _ m s1 o1 => call_go (ok.mono s1) m s1 o1⟩
theorem sa_glob {u : Value} {d : D} {v : V} (hg : Gl X x) (hm : X.mg x = some u) (hv : RelV v u) (hd : ∀ H : Hp, RepV G H d v) (hn : D.isL d = false) (hdb : (x == ("__debug__" : Str)) = false) : SA G Ex X fr (.Name x pos) (fun _ => .val d) :=
  sa_tC (v := v) ⟨fun pins s σ H Q I h => ld_glob I hg hm ⟨v, H, I, hv, h⟩ hdb⟩ hd (.inr hn)
end
end Py
end
section
set_option autoImplicit false
set_option linter.all false
set_option maxRecDepth 100000
set_option maxHeartbeats 2000000
/-! PyQ1: errors: raise, try. -/
namespace Py
open PySem PySem.Spec L2
open Sem (wp)

/-- the error e, at a, is handled -/
abbrev Gx.hotx (G : Gx) (a : Addr) (e : Nm) : Gx := { G with hx := some (a, e) }
section
variable {G : Gx} {H Hf : Hp} {a : Addr} {e : Nm}
mutual
theorem RepV.hot (n : G.hx = none) : ∀ {d : D} {v : V}, RepV G H d v → RepV (G.hotx a e) H d v
  | _, _, .non => .non
  | _, _, .bl b => .bl b
  | _, _, .int i => .int i
  | _, _, .str h => .str h
  | _, _, .tup s r => .tup s (RepAll.hot n r)
  | _, _, .lst s r => .lst s (RepAll.hot n r)
  | _, _, .dct h y k l r => .dct h y k l (RepEs.hot n r)
  | _, _, .fn h => .fn h
  | _, _, .exc h => by rw [n] at h; cases h
theorem RepAll.hot (n : G.hx = none) : ∀ {ds : List D} {vs : List V}, RepAll G H ds vs → RepAll (G.hotx a e) H ds vs
  | _, _, .nil => .nil
  | _, _, .cons r rs => .cons (RepV.hot n r) (RepAll.hot n rs)
theorem RepEs.hot (n : G.hx = none) : ∀ {es : List DictEntry} {kvs : List (D × D)}, RepEs G H es kvs → RepEs (G.hotx a e) H es kvs
  | _, _, .nil => .nil
  | _, _, .cons h1 h2 h3 h4 h5 h6 h7 => .cons h1 h2 h3 (RepV.hot n h4) (RepV.hot n h5) h6 (RepEs.hot n h7)
end
mutual
theorem RepV.cold : ∀ {d : D} {v : V}, D.imm d = true → RepV (G.hotx a e) H d v → RepV G H d v
  | _, _, _, .non => .non
  | _, _, _, .bl b => .bl b
  | _, _, _, .int i => .int i
  | _, _, _, .str h => .str h
  | _, _, h, .tup s r => .tup s (RepAll.cold (by simpa [D.imm] using h) r)
  | _, _, h, .lst s r => by simp [D.imm] at h
  | _, _, h, .dct .. => by simp [D.imm] at h
  | _, _, _, .fn h => .fn h
  | _, _, h, .exc _ => by simp [D.imm] at h
theorem RepAll.cold : ∀ {ds : List D} {vs : List V}, D.immAll ds = true → RepAll (G.hotx a e) H ds vs → RepAll G H ds vs
  | _, _, _, .nil => .nil
  | _, _, h, .cons r rs => by
    simp only [D.immAll, Bool.and_eq_true] at h
    exact .cons (RepV.cold h.1 r) (RepAll.cold h.2 rs)
end
theorem OwnAt.hot (n : G.hx = none) {d : D} {b : Addr} (h : OwnAt G Hf H d b) : OwnAt (G.hotx a e) Hf H d b := by
  rcases h with ⟨ds, vs, h1, h2, h3⟩ | ⟨kvs, es, ep, h1, h2, h3, h4, h5, h6⟩
  · exact .inl ⟨ds, vs, h1, h2, h3.hot n⟩
  · exact .inr ⟨kvs, es, ep, h1, h2, h3, h4, h5, h6.hot n⟩
theorem EnvOk.hot {A : Addr → Bool} {δ : Env} {σ : L2.St} (n : G.hx = none) (h : EnvOk G A H δ σ) : EnvOk (G.hotx a e) A H δ σ where
  prot := h.prot
  len := h.len
  sh := fun i d q => let ⟨v, h1, h2⟩ := h.sh i d q; ⟨v, h1, h2.hot n⟩
  ow := fun i d q => let ⟨b, h1, h2, h3⟩ := h.ow i d q; ⟨b, h1, h2, h3.hot n⟩
theorem FrOk.hot {H0 : Hp} {A A0 : Addr → Bool} {δ : Env} {σ : L2.St} (n : G.hx = none) (h : FrOk G H0 A0 A H δ σ) : FrOk (G.hotx a e) H0 A0 A H δ σ := ⟨h.env.hot n, h.p0, h.same, h.sub, h.new, h.dist⟩
end

/-! ### raise -/
/-- what is known of an own error's class -/
structure ErrC (G : Gx) (mg : Str → Option Value) (x : Str) (C : Addr) : Prop where
  m : mg x = some (.ref C)
  c : G.ca x.cps.toList = some C
  i : PySem.W.excIn G.K C He.veBase "ValueError.__new__" = true
  k : PySem.W.keepIn G.K (.ref C) = true
  s : PySem.W.subIn G.K (.ref C) (.type "BaseException") = some true
  t : PySem.W.typeIn G.K (.ref C) = some (.type "type")
/-- the error c is one of class y -/
def isErr (c y : Nm) : Bool := c == y || y == marks
section
variable {G : Gx} {W : WX} {X : Cx} {pos pos2 p p2 : Pos} {x m : Str} {j : Nat} {C : Addr} {A A0 : Addr → Bool} {H H0 : Hp} {Dn : Ends} {δ : Env} {σ : L2.St}
theorem ss_raise (gk : GOk G X) (hc : X.calm = true) (tk : L2N.Takes X W) (k : ErrC G X.mg x C) (hg : Gl X x) (hdb : (x == ("__debug__" : Str)) = false) :
    SS G (exOf G W) X (.Raise (some (.Call (.Name x p) [.Constant (.str m) j p2] [] pos)) none pos2) (fun _ => .exc x.cps.toList) := fun H0 A0 δ A => by
  have ki := k.i
  have kk := k.k
  have ks := k.s
  have kt := k.t
  rw [← gk.K] at ki kk ks kt
  refine sImp (L2N.ps_raise hc tk (L2N.pmk_own PySem.F.excBase_ValueError ki k.m kk (raises_own ks kt) hg hdb)) fun D σ H ⟨f, o⟩ => ?_
  exact o σ H f.same C k.c

/-! ### blocks that leave the frame as it is -/
def OutR (Ex : XS) (G : Gx) (A0 : Addr → Bool) (H : Hp) (σ : L2.St) (Dn : Ends) : Out (Ctl × Env) → Prop
  | .val (.nx, _) => ∀ H', Same H H' → Dn.nx σ H'
  | .val (.rt d, _) => ∀ v H', Same H H' → RepV G (Hide H' A0) d v → Dn.rt v H'
  | .exc c => ∀ H', Same H H' → Ex σ c H'
  | .bad => False
theorem OutR.after {Ex : XS} {H1 : Hp} {o : Out (Ctl × Env)} (h : OutR Ex G A0 H σ Dn o) (s : Same H H1) : OutR Ex G A0 H1 σ Dn o := by
  cases o with
  | val p =>
    obtain ⟨c, δ'⟩ := p
    cases c with
    | nx => exact fun H2 s2 => h H2 (s.trans s2)
    | rt d => exact fun v H2 s2 => h v H2 (s.trans s2)
  | exc c => exact fun H2 s2 => h H2 (s.trans s2)
  | bad => exact h
/-- a statement, a block that leaves the frame as it is -/
def RS (G : Gx) (Ex : XS) (X : Cx) (st : Stmt) (f : Fs) : Prop := (∀ δ c δ', f δ = .val (c, δ') → δ' = δ) ∧ ∀ (H0 : Hp) (A0 : Addr → Bool) (δ : Env) (A : Addr → Bool), PS X st (fun Dn σ H => FrOk G H0 A0 A H δ σ ∧ OutR Ex G A0 H σ Dn (f δ))
def RL (G : Gx) (Ex : XS) (X : Cx) (st : List Stmt) (f : Fs) : Prop := (∀ δ c δ', f δ = .val (c, δ') → δ' = δ) ∧ ∀ (H0 : Hp) (A0 : Addr → Bool) (δ : Env) (A : Addr → Bool), PSs X st (fun Dn σ H => FrOk G H0 A0 A H δ σ ∧ OutR Ex G A0 H σ Dn (f δ))
section
variable {Ex : XS} {fr : Bool} {e c : Expr} {fe fc : Env → Out D} {a b : List Stmt} {f g fa fb : Fs} {st : Stmt}
theorem OutR.ofE {M : D → V → Hp → Prop} {Q : VK} {o : Out D} {k : D → Out (Ctl × Env)} (h : OutR Ex G A0 H σ Dn (o >>= k)) (cc : ∀ d x H1, M d x H1 → Same H H1 → OutR Ex G A0 H1 σ Dn (k d) → Q x H1) : OutE (Ex σ) H M Q o := by
  cases o with
  | val d => exact fun v H' s m => cc d v H' m s (OutR.after (o := k d) h s)
  | exc c' => exact fun H' s => h H' s
  | bad => exact h
theorem OutR.ofB {Q : Bool → Hp → Prop} {o : Out Bool} {k : Bool → Out (Ctl × Env)} (h : OutR Ex G A0 H σ Dn (o >>= k)) (cc : ∀ b H1, Same H H1 → OutR Ex G A0 H1 σ Dn (k b) → Q b H1) : OutB (Ex σ) H Q o := by
  cases o with
  | val d => exact fun H' s => cc d H' s (OutR.after (o := k d) h s)
  | exc c' => exact fun H' s => h H' s
  | bad => exact h
theorem rl_nil : RL G Ex X [] fNil := And.intro (fun δ c δ' h => by cases h; rfl) fun H0 A0 δ A => lImp pss_nil fun D σ H ⟨f, o⟩ => o H (Same.refl _)
theorem rl_cons {rest : List Stmt} (h1 : RS G Ex X st f) (h2 : RL G Ex X rest g) : RL G Ex X (st :: rest) (fSeq f g) := by
  refine And.intro (fun δ c δ' h => ?_) fun H0 A0 δ A => ?_
  · unfold fSeq at h
    cases e : f δ with
    | exc c => rw [e] at h; cases h
    | bad => rw [e] at h; cases h
    | val p =>
      obtain ⟨c1, δ1⟩ := p
      have := h1.1 δ c1 δ1 e
      subst this
      rw [e] at h
      cases c1 with
      | nx => exact h2.1 _ _ _ h
      | rt d => cases h; rfl
  · refine lImp (pss_cons (h1.2 H0 A0 δ A) (h2.2 H0 A0 δ A)) fun D σ H ⟨fk, o⟩ => ⟨fk, ?_⟩
    unfold fSeq at o
    cases e : f δ with
    | exc c => rw [e] at o; exact o
    | bad => rw [e] at o; exact o
    | val p =>
      obtain ⟨c1, δ1⟩ := p
      have := h1.1 δ c1 δ1 e
      subst this
      rw [e] at o
      cases c1 with
      | nx => exact fun H1 s => ⟨fk.mono s, OutR.after o s⟩
      | rt d => exact o
theorem rs_ret (he : SA G Ex X fr e fe) : RS G Ex X (.Return (some e) pos) (fRet [] fe) := by
  refine And.intro (fun δ c δ' h => ?_) fun H0 A0 δ A => sImp (ps_ret (he δ A)) fun D σ H ⟨f, o⟩ => ⟨f.env, OutR.ofE (k := fun d => .val (.rt d, δ)) o fun d x H1 m s o1 => o1 x H1 (Same.refl _) (m.1.mono (Hide.anti f.sub))⟩
  unfold fRet at h
  cases e : fe (frz δ []) with
  | exc c => rw [e] at h; cases h
  | bad => rw [e] at h; cases h
  | val d => rw [e] at h; cases h; rfl
theorem rs_expr (he : SA G Ex X fr e fe) (hs : swapsWith e none pos.line X.env = pure false) : RS G Ex X (.Expr e pos) (fEx fe) := by
  refine And.intro (fun δ c δ' h => ?_) fun H0 A0 δ A => sImp (ps_expr (he δ A) hs) fun D σ H ⟨f, o⟩ => ⟨f.env, OutR.ofE (k := fun d => .val (.nx, δ)) o fun d x H1 m s o1 => o1 H1 (Same.refl _)⟩
  unfold fEx at h
  cases e : fe δ with
  | exc c => rw [e] at h; cases h
  | bad => rw [e] at h; cases h
  | val d => rw [e] at h; cases h; rfl
theorem rs_if (hc : TX G Ex X c fc) (ha : RL G Ex X a fa) (hb : RL G Ex X b fb) : RS G Ex X (.If c a b pos) (fIf fc fa fb) := by
  have he : ∀ δ, fIf fc fa fb δ = ((fc δ >>= asB) >>= fun p => if p = true then fa δ else fb δ) := fun δ => by
    unfold fIf
    simp only [bind_assoc']
  refine And.intro (fun δ c δ' h => ?_) fun H0 A0 δ A => sImp (ps_if (hc δ A) (ha.2 H0 A0 δ A) (hb.2 H0 A0 δ A)) fun D σ H ⟨f, o⟩ => ?_
  · rw [he] at h
    cases e : fc δ >>= asB with
    | exc c => rw [e] at h; cases h
    | bad => rw [e] at h; cases h
    | val p =>
      rw [e] at h
      cases p with
      | true => exact ha.1 _ _ _ h
      | false => exact hb.1 _ _ _ h
  · rw [he] at o
    refine ⟨f.env, OutR.ofB o fun p H1 s o1 => ?_⟩
    cases p with
    | true => rw [if_pos rfl]; exact ⟨f.mono s, o1⟩
    | false => rw [if_neg (by decide)]; exact ⟨f.mono s, o1⟩
end

/-! ### try -/
def fTry (c : Nm) (n : Option Nat) (fb fh : Fs) : Fs := fun δ => match fb δ with
  | .val r => .val r
  | .bad => .bad
  | .exc e => if e == c || c == marks then hdl δ (fh (slotH δ e n)) else .exc e
theorem hdl_ok {o : Out (Ctl × Env)} {G : Gx} (h : OutS (exOf G W) G H0 A0 A H Dn (hdl δ o)) : ∃ d δ', o = .val (.rt d, δ') ∧ D.imm d = true ∧ ∀ v H', Same H0 H' → RepV G (Hide H' A0) d v → Dn.rt v H' := by
  unfold hdl at h
  split at h
  · rename_i d δ'
    split at h
    · rename_i hi
      exact ⟨d, δ', rfl, hi, h⟩
    · exact h.elim
  · exact h.elim
/-- what a clause's suite is asked -/
def tsH (G : Gx) (H0 : Hp) (A0 : Addr → Bool) (F : Env → Out (Ctl × Env)) (a : Addr) (cls : Value) (d : Option Addr) : TS := fun Dn σ H => ∃ (e : Nm) (C : Addr) (δ : Env) (A : Addr → Bool), cls = .ref C ∧ d = none ∧ G.ca e = some C ∧ FrOk (G.hotx a e) H0 A0 A H δ σ ∧ OutS ExF (G.hotx a e) H0 A0 A H Dn (F δ)
/-- the suite does as its reading says -/
def HdlOk (G : Gx) (X : Cx) (st : List Stmt) (F : Env → Out (Ctl × Env)) : Prop := ∀ (e : Nm) (C : Addr) (a : Addr) (oe : Obj) (pn : List (Addr × Obj)), G.ca e = some C → L2N.Zn (.ref C) none oe → (∃ vs, oe.data = .fields vs) → SL (G.hotx a e) ExF (X.suite a ((a, oe) :: pn)) st F
theorem hdl_run {st : List Stmt} {F : Env → Out (Ctl × Env)} (h : HdlOk G X st F) (a : Addr) (oe : Obj) (cls : Value) (d : Option Addr) (pn : List (Addr × Obj)) (hz : L2N.Zn cls d oe) (hf : ∃ vs, oe.data = .fields vs) : PSs (X.suite a ((a, oe) :: pn)) st (tsH G H0 A0 F a cls d) :=
  ⟨fun pins s σ H D I ⟨e, C, δ, A, h1, h2, h3, h4, h5⟩ => by
    subst h1 h2
    exact (h e C a oe pn h3 hz hf H0 A0 δ A).run pins s σ H D I ⟨h4, h5⟩⟩
/-- the clause's test -/
def ExmOk (G : Gx) (Cc : Addr) (y : Nm) : Prop := ∀ c a, G.ca c = some a → PySem.W.exmOne G.K (.ref a) (.ref Cc) = some (isErr c y)
theorem hot_go {fb fh : Fs} {e y : Nm} {a : Addr} {C : Addr} {σ' : L2.St} {n : Option Nat} {H1 : Hp} {Dn' : Ends} (hn : G.hx = none) (f : FrOk G H0 A0 A H δ σ) (s : Same H H1) (hb : fb δ = .exc e) (hy : isErr e y = true) (o : OutS (exOf G W) G H0 A0 A H Dn (fTry y n fb fh δ)) (hC : G.ca e = some C)
    (hD : Dn'.rt = Dn.rt) (hσ : FrOk (G.hotx a e) H0 A0 A H1 (slotH δ e n) σ') : tsH G H0 A0 fh a (.ref C) none Dn' σ' H1 := by
  refine ⟨e, C, _, A, rfl, rfl, hC, hσ, ?_⟩
  unfold fTry at o
  rw [hb] at o
  dsimp only at o
  rw [if_pos (show (e == y || y == marks) = true from hy)] at o
  obtain ⟨d, δ', h1, h2, h3⟩ := hdl_ok o
  rw [h1]
  intro v H' s' r
  rw [hD]
  exact h3 v H' s' (r.cold h2)
theorem try_body {fb fh : Fs} {y : Nm} {n : Option Nat} {W' : WX} (hp : ∀ δ c δ', fb δ = .val (c, δ') → δ' = δ) (f : FrOk G H0 A0 A H δ σ) (o : OutS (exOf G W) G H0 A0 A H Dn (fTry y n fb fh δ))
    (hw : ∀ e a H1, fb δ = .exc e → G.ca e = some a → Same H H1 → W' (.ref a) none σ H1) : OutR (exOf G W') G A0 H σ Dn (fb δ) := by
  cases hb : fb δ with
  | bad => unfold fTry at o; rw [hb] at o; exact o.elim
  | val p =>
    obtain ⟨c, δ'⟩ := p
    have := hp δ c δ' hb
    subst this
    unfold fTry at o
    rw [hb] at o
    cases c with
    | nx => exact fun H1 s => o A H1 σ (Hide.mono s) (f.mono s)
    | rt d => exact fun v H1 s r => o v H1 (f.same.trans s) r
  | exc e => exact fun H1 s a ha => hw e a H1 hb ha s
theorem ss_tryAs {i : Nat} {nm y : Str} {Cc : Addr} {body suite : List Stmt} {b₀ : Stmt} {np pos' : Pos} {fb fh : Fs} (gk : GOk G X) (hn : G.hx = none) (hs : X.stack = X.env :: X.outer) (hf : X.env.frame = some X.env.locals) (hN : X.N.Nodup) (hi : X.N[i]? = some nm) (hln : X.env.kindOf nm = some .local)
    (hc : Gl X y) (hdb : (y == ("__debug__" : Str)) = false) (hm : X.mg y = some (.ref Cc)) (hx : ExmOk G Cc y.cps.toList) (tk : L2N.Takes X W) (hpure : ∀ δ c δ', fb δ = .val (c, δ') → δ' = δ)
    (hb : ∀ (W : WX) (pn : List (Addr × Obj)) (xe : Value → Shared → Prop), L2N.Takes (X.tr pn xe) W → PassesOwn (model X.prog X.w) X.A X.env xe → RL G (exOf G W) (X.tr pn xe) body fb) (hh : HdlOk G X (b₀ :: suite) fh) :
    SS G (exOf G W) X (.Try body [.ExceptHandler (some (.Name y np)) (some nm) (b₀ :: suite) pos'] [] [] pos) (fTry y.cps.toList (some i) fb fh) := fun H0 A0 δ A => by
  have hbp : ∀ (W : WX) (pn : List (Addr × Obj)) (xe : Value → Shared → Prop), L2N.Takes (X.tr pn xe) W → PassesOwn (model X.prog X.w) X.A X.env xe → PSs (X.tr pn xe) body (fun Dn σ H => FrOk G H0 A0 A H δ σ ∧ OutR (exOf G W) G A0 H σ Dn (fb δ)) := fun W pn xe t p => (hb W pn xe t p).2 H0 A0 δ A
  refine sImp (L2N.ps_try_as hs hf hN hi hln ⟨hc, hdb, .inl hm⟩ tk hbp (hdl_run (H0 := H0) (A0 := A0) hh)) fun D σ H ⟨f, o⟩ => ?_
  refine ⟨f, try_body hpure f o fun e a H1 he ha s => ?_⟩
  have e1 := hx e a ha
  rw [← gk.K] at e1
  refine ⟨isErr e y.cps.toList, e1, fun hy b hb0 => ?_, fun hy => ?_⟩
  · refine hot_go (n := some i) hn f s he hy o ha rfl ?_
    exact ((f.mono s).hot hn).setS (.exc rfl) i
  · unfold fTry at o
    rw [he] at o
    dsimp only at o
    rw [if_neg (by unfold isErr at hy; rw [hy]; decide)] at o
    exact o σ H1 (f.same.trans s) a ha
theorem ss_try1 {y : Str} {Cc : Addr} {body suite : List Stmt} {b₀ : Stmt} {np pos' : Pos} {fb fh : Fs} (gk : GOk G X) (hn : G.hx = none) (hs : X.stack = X.env :: X.outer) (hf : X.env.frame = some X.env.locals)
    (hc : Gl X y) (hdb : (y == ("__debug__" : Str)) = false) (hm : X.mg y = some (.ref Cc)) (hx : ExmOk G Cc y.cps.toList) (tk : L2N.Takes X W) (hpure : ∀ δ c δ', fb δ = .val (c, δ') → δ' = δ)
    (hb : ∀ (W : WX) (pn : List (Addr × Obj)) (xe : Value → Shared → Prop), L2N.Takes (X.tr pn xe) W → PassesOwn (model X.prog X.w) X.A X.env xe → RL G (exOf G W) (X.tr pn xe) body fb) (hh : HdlOk G X (b₀ :: suite) fh) :
    SS G (exOf G W) X (.Try body [.ExceptHandler (some (.Name y np)) none (b₀ :: suite) pos'] [] [] pos) (fTry y.cps.toList none fb fh) := fun H0 A0 δ A => by
  have hbp : ∀ (W : WX) (pn : List (Addr × Obj)) (xe : Value → Shared → Prop), L2N.Takes (X.tr pn xe) W → PassesOwn (model X.prog X.w) X.A X.env xe → PSs (X.tr pn xe) body (fun Dn σ H => FrOk G H0 A0 A H δ σ ∧ OutR (exOf G W) G A0 H σ Dn (fb δ)) := fun W pn xe t p => (hb W pn xe t p).2 H0 A0 δ A
  refine sImp (L2N.ps_try_many hs hf tk hbp (.cons ⟨hc, hdb, .inl hm⟩ (hdl_run (H0 := H0) (A0 := A0) hh) .nil)) fun D σ H ⟨f, o⟩ => ?_
  refine ⟨f, try_body hpure f o fun e a H1 he ha s => ?_⟩
  have e1 := hx e a ha
  rw [← gk.K] at e1
  refine ⟨isErr e y.cps.toList, e1, fun hy b hb0 => ?_, fun hy => ?_⟩
  · exact hot_go (n := none) hn f s he hy o ha rfl ((f.mono s).hot hn)
  · unfold fTry at o
    rw [he] at o
    dsimp only at o
    rw [if_neg (by unfold isErr at hy; rw [hy]; decide)] at o
    exact o σ H1 (f.same.trans s) a ha
end
end Py
end
section
set_option autoImplicit false
set_option linter.all false
set_option maxRecDepth 100000
set_option maxHeartbeats 2000000
/-! PyQ2: isinstance. -/
namespace Py
open PySem PySem.Spec L2
open Sem (wp)

/-- what isinstance asks of own errors' classes -/
structure IsiOk (G : Gx) : Prop where
  exc : ∀ c C, G.ca c = some C → ExcC G.K C
  ve : ∀ c C, G.ca c = some C → PySem.W.kitOne G.K (.ref C) (.type "ValueError") = some true
  own : ∀ c C y D, G.ca c = some C → G.ca y = some D → PySem.W.kitOne G.K (.ref C) (.ref D) = some (isErr c y)
/-- the handled error stands -/
def PinE (G : Gx) (X : Cx) : Prop := ∀ a c, G.hx = some (a, c) → ∃ oe C, (a, oe) ∈ X.pn ∧ L2N.Zn (.ref C) none oe ∧ (∃ vs, oe.data = .fields vs) ∧ G.ca c = some C
/-- the handled error's object -/
def GdE (G : Gx) (a : Addr) (e : Nm) (p : Addr × Obj) : Prop := p.1 = a ∧ ∃ C, L2N.Zn (.ref C) none p.2 ∧ (∃ vs, p.2.data = .fields vs) ∧ G.ca e = some C
def tyStr : Ty → String
  | .int => "int"
  | .bool => "bool"
  | .str => "str"
  | .tuple => "tuple"
  | .list => "list"
  | .valueError => "ValueError"
  | .own _ => ""
/-- the class that stands for a type -/
def TyIs (G : Gx) (t : Ty) (c : V) : Prop := match t with
  | .own y => ∃ D, G.ca y = some D ∧ c = .ref D
  | t => c = .ty (tyStr t)
def tyN : D → Option String
  | .non => some "NoneType"
  | .bl _ => some "bool"
  | .int _ => some "int"
  | .str _ => some "str"
  | .tup _ => some "tuple"
  | .lst _ => some "list"
  | _ => none
section
variable {fr : Bool} {G : Gx} {Ex : XS} {X : Cx} {A : Addr → Bool} {H : Hp} {a : Expr} {pos p p2 : Pos} {fa : Env → Out D} {x : Str}
theorem tyx_of (gk : GOk G X) {d : D} {v : V} {T : String} (h : RepT G A H d v) (n : tyN d = some T) : TyX X.K H v (.type T) := by
  cases d <;> simp only [tyN, Option.some.injEq, reduceCtorEq] at n <;> first | (subst n) | (cases n; done)
  · rw [h.non]; exact .base .non
  · rw [h.bl]; exact .base (.bl _)
  · rw [h.int]; exact .base (.int _)
  · rw [h.str.1]; exact .base (.str _)
  · obtain ⟨b, vs, rfl, s, _⟩ := h.tup
    rw [← gk.K] at s
    rcases s with (s | ⟨o, s⟩) | ⟨o, its, n, s, s2, _⟩
    · exact .base (.tup s)
    · exact .fTuple s
    · exact .kTuple s s2
  · obtain ⟨b, vs, rfl, s, _⟩ := h.lst
    rw [← gk.K] at s
    rcases s with (s | ⟨o, s⟩) | ⟨its, n, s, _⟩
    · exact .base (.lst s)
    · exact .base (.frz s)
    · exact .kList s rfl
abbrev rIsD (G : Gx) (A : Addr → Bool) : List V → Hp → VK → Prop := fun xs H Q => ∃ x c d t b, xs = [x, c] ∧ Prot A H ∧ RepT G A H d x ∧ TyIs G t c ∧ isTy marks d t = .val b ∧ Q (.bl b) H
theorem cr_isi (gk : GOk G X) (k : IsiOk G) (pe : PinE G X) : CallR X (.builtin "isinstance") (rIsD G A) := by
  intro pins s σ H xs us Q I rs ⟨x, c, d, t, b, hx, pr, hd, ht, hb, q⟩
  subst hx
  have base : ∀ T U, tyN d = some T → c = .ty U → kitB T U = some b → wpAny (model X.prog X.w) X.A (call (.builtin "isinstance") us) (EP X pins σ Q) X.xe s := fun T U h1 h2 h3 => by
    subst h2
    exact call_isi pins s σ H _ us Q I rs ⟨x, _, .type T, .type U, b, rfl, .ty U, tyx_of gk hd h1, kit_ty h3, q⟩
  cases d with
  | exc e =>
    obtain ⟨u1, u2, rfl, r1, r2⟩ := vals2 rs
    cases hd.of_not rfl with
    | exc hx =>
      rename_i ad
      obtain ⟨oe, C, h1, h2, ⟨vs, h3⟩, h4⟩ := pe _ _ hx
      obtain ⟨hget, _⟩ := I.pin (ad, oe) (List.mem_append_left _ h1)
      have J : PySem.W.InstAt s.heap ad oe C none := by
        obtain ⟨oc, od, oda, osl⟩ := oe
        obtain ⟨g1, g2, g3⟩ := h2
        dsimp only at g1 g2 h3
        subst g1 g2 h3
        exact ⟨hget, rfl, rfl, trivial⟩
      have ke := k.exc e C h4
      rw [← gk.K] at ke
      have go : ∀ cv : Value, u2 = cv → PySem.W.kitOne X.K (.ref C) cv = some b → wpAny (model X.prog X.w) X.A (call (.builtin "isinstance") [u1, u2]) (EP X pins σ Q) X.xe s := fun cv e1 e2 => by
        subst e1
        cases r1
        exact PySem.W.kia_one (PySem.W.handS_kitx_exc ke.hg ke.hk ke.hs ke.hd ke.ha ke.hn ke.ht ke.hm) I.kIn J e2 (fun z => nomatch z) fun tk => ⟨.bl b, H, I.kept (t' := tk) fun _ _ z => z, rfl, q⟩
      cases t <;> simp only [isTy, Out.val.injEq, reduceCtorEq] at hb
      · subst hb
        have e1 : c = .ty "ValueError" := ht
        subst e1
        refine go (.type "ValueError") r2 ?_
        rw [gk.K]
        exact k.ve e C h4
      · rename_i y
        obtain ⟨D', g1, rfl⟩ := ht
        refine go (.ref D') r2 ?_
        rw [gk.K, k.own e C y D' h4 g1, ← hb]
        unfold isErr
        rw [Bool.beq_comm]
  | non => cases t <;> simp only [isTy, Out.val.injEq, reduceCtorEq] at hb <;> (subst hb; exact base _ _ rfl ht (by decide +kernel))
  | bl z => cases t <;> simp only [isTy, Out.val.injEq, reduceCtorEq] at hb <;> (subst hb; exact base _ _ rfl ht (by decide +kernel))
  | int z => cases t <;> simp only [isTy, Out.val.injEq, reduceCtorEq] at hb <;> (subst hb; exact base _ _ rfl ht (by decide +kernel))
  | str z => cases t <;> simp only [isTy, Out.val.injEq, reduceCtorEq] at hb <;> (subst hb; exact base _ _ rfl ht (by decide +kernel))
  | tup z => cases t <;> simp only [isTy, Out.val.injEq, reduceCtorEq] at hb <;> (subst hb; exact base _ _ rfl ht (by decide +kernel))
  | lst z => cases t <;> simp only [isTy, Out.val.injEq, reduceCtorEq] at hb <;> (subst hb; exact base _ _ rfl ht (by decide +kernel))
  | dct z => cases t <;> simp only [isTy, reduceCtorEq] at hb
  | fn z => cases t <;> simp only [isTy, reduceCtorEq] at hb
def fIsi (t : Ty) (fa : Env → Out D) : Env → Out D := fun δ => do
  let x ← fa δ
  let r ← isTy marks x t
  return .bl r
theorem nox_isTy (d : D) (t : Ty) : NoX (isTy marks d t) := by
  unfold isTy
  split <;> first | exact nox_val | exact nox_bad
/-- a class's name -/
def PTy (G : Gx) (X : Cx) (e : Expr) (t : Ty) : Prop := ∃ c : V, TyIs G t c ∧ PE X e (tC c)
theorem pty_blt {U : String} {t : Ty} (hU : tyStr t = U) (ho : ∀ y, t ≠ .own y) (hg : Gl X x) (hm : X.mg x = none) (hv : bootBuiltins x = some (.type U)) (hn : x ≠ "__name__") (hdb : (x == ("__debug__" : Str)) = false) : PTy G X (.Name x p) t := by
  refine ⟨.ty U, ?_, ⟨fun pins s σ H Q I h => ld_blt I hg hm hv ⟨.ty U, H, I, rfl, h⟩ hn hdb⟩⟩
  cases t <;> first | exact absurd rfl (ho _) | (subst hU; rfl)
theorem pty_own {C : Addr} (hg : Gl X x) (hm : X.mg x = some (.ref C)) (hc : G.ca x.cps.toList = some C) (hdb : (x == ("__debug__" : Str)) = false) : PTy G X (.Name x p) (.own x.cps.toList) :=
  ⟨.ref C, ⟨C, hc, rfl⟩, ⟨fun pins s σ H Q I h => ld_glob I hg hm ⟨.ref C, H, I, rfl, h⟩ hdb⟩⟩
theorem sa_isi (gk : GOk G X) (k : IsiOk G) (pe : PinE G X) {e2 : Expr} {t : Ty} (hg : Gl X "isinstance") (hm : X.mg "isinstance" = none) (ha : ST G Ex X a fa) (ht : PTy G X e2 t) (hs : starEach [a, e2] X.env = (false, eval a X.env) :: starEach [e2] X.env) (hs2 : starEach [e2] X.env = (false, eval e2 X.env) :: starEach [] X.env) :
    SA G Ex X fr (.Call (.Name "isinstance" p) [a, e2] [] pos) (fIsi t fa) := fun δ A => by
  obtain ⟨c, h1, h2⟩ := ht
  refine pImp (pe_callB (cr_isi (A := A) gk k pe) hg hm (by decide +kernel) (pa_cons (ha δ A) (pa_cons h2 pa_nil hs2) hs) (by decide) (by decide) hs (by rw [hs2]; rfl)) fun σ H Q ⟨ok, o⟩ => ⟨ok, ?_⟩
  unfold fIsi at o
  refine OutE.bnd o fun d v H1 e m s o1 => ?_
  cases hb : isTy marks d t with
  | exc c' => exact absurd hb (nox_isTy d t c')
  | bad => rw [hb] at o1; exact o1.elim
  | val b =>
    rw [hb] at o1
    exact ⟨v, c, d, t, b, rfl, (ok.mono s).prot, m, h1, hb, o1 _ _ s mk_bl⟩
end
end Py
end
section
set_option autoImplicit false
set_option linter.all false
set_option maxRecDepth 100000
set_option maxHeartbeats 2000000
/-! PyQ3: dict of a list of pairs. -/
namespace Py
open PySem PySem.Spec L2
open Sem (wp)

/-- the keys' objects stay -/
theorem keyed_up {w : World} {h h' : Heap} (k : ∀ b o, h.get? b = some o → h'.get? b = some o) : ∀ {es : List DictEntry} {ks : List NestedKey}, Keyed w h es ks → Keyed w h' es ks
  | _, _, .nil => .nil
  | _, _, .cons r t => .cons ⟨r.1, r.2.1.at (fun a o _ _ e _ => k a o e) _ _, r.2.2⟩ (keyed_up k t)
section
variable {P : Program} {w : World} {A : Around} {E : Value → Shared → Prop} {s : Shared} {d : Addr} {es : List DictEntry} {ks : List NestedKey} {k : NestedKey} {u uv : Value}
/-- an entry written, at the heap's level -/
theorem dset_raw {Q : Unit → Shared → Prop} (hd : DictAt s.heap d es) (hk : Keyed w s.heap es ks) (hn : ks.Nodup) (hu : A.units + 9 < cLine) (hv : NestedIs s.heap k u) (hdp : k.depth ≤ 8) (big : es.length ≤ sizeLine)
    (q : ∀ h' tk es', Heap.SameBut d s.heap h' → DictAt h' d es' → ((k ∉ ks ∧ es' = es ++ [⟨k.hash w, u, uv⟩]) ∨ ∃ j, ks[j]? = some k ∧ es' = es.modify j fun e => { e with val := uv }) → Q () { s with heap := h', toks := tk }) : wpAny (model P w) A (dictSet d u uv) Q E s := by
  obtain ⟨o, ep, h1, h2, h3⟩ := hd
  have big' : es.toArray.size ≤ sizeLine := by rw [List.size_toArray]; exact big
  unfold dictSet
  refine wpAny_holding (wpAny_bind (pyHash_key k u A s _ hv (by omega) ?_))
  unfold dictSetHashed
  refine wpAny_holding (wpAny_bind (find_nk (A := A) (s := { s with toks := s.toks + k.draws }) (o := o) (ep := ep) (by omega) hv hdp h1 h3 hk hn ⟨fun hm => ?_, fun j hj => ?_⟩))
  · refine wpAny_bind (wpAny_rule (wpAny_updateDictKeys (hz := big') (s := { s with toks := s.toks + k.draws }) h1 h3 (q _ _ (es ++ [⟨k.hash w, u, uv⟩]) (Heap.SameBut.update ..) ⟨_, ep + 1, Heap.get?_update_self _ h1 (Obj.isFreed_of_dict (Obj.data_mapDictKeys h3 _)), h2.mapDictKeys _, ?_⟩ (.inl ⟨hm, rfl⟩))))
    rw [Obj.data_mapDictKeys h3]
    simp
  · refine wpAny_bind (wpAny_rule (wpAny_bind (wpAny_updateDict (s := { s with toks := s.toks + k.draws }) h1 h3 (wpAny_point (q _ _ (es.modify j fun e => { e with val := uv }) (Heap.SameBut.update ..) ⟨_, ep, Heap.get?_update_self _ h1 (Obj.isFreed_of_dict (Obj.data_mapDict h3 _)), h2.mapDict _, ?_⟩ (.inr ⟨j, hj, rfl⟩))))))
    rw [Obj.data_mapDict h3]
    congr 1
    apply Array.toList_inj.mp
    simp
end
section
variable {G : Gx} {H Hf : Hp}
/-- the entries, one written -/
theorem rep_put {es es' : List DictEntry} {kvs : List (D × D)} {k d : D} {kv vv : V} {u uv : Value} (r : RepEs G Hf es kvs) (hk : D.hkey k = true) (rk : RepV G Hf k kv) (rd : RepV G Hf d vv) (r1 : RelV kv u) (r2 : RelV vv uv) (hn : (kvs.map fun p => nk p.1).Nodup)
    (h : ((nk k ∉ kvs.map (fun p => nk p.1)) ∧ es' = es ++ [⟨(nk k).hash G.w, u, uv⟩]) ∨ ∃ j, (kvs.map fun p => nk p.1)[j]? = some (nk k) ∧ es' = es.modify j fun e => { e with val := uv }) : RepEs G Hf es' (put kvs k d) := by
  rcases h with ⟨hm, rfl⟩ | ⟨j, hj, rfl⟩
  · rw [put_new (hkey_key hk) r.key hm]
    exact r.snoc hk rk rd r1 r2
  · obtain ⟨p, hp, hpk⟩ : ∃ p, kvs[j]? = some p ∧ nk p.1 = nk k := by
      rw [List.getElem?_map] at hj
      cases z : kvs[j]? with
      | none => rw [z] at hj; cases hj
      | some p => rw [z] at hj; exact ⟨p, rfl, Option.some.inj hj⟩
    rw [put_at (hkey_key hk) r.key hn hp hpk]
    exact r.set rd r2 hp
theorem putAll_keys : ∀ (ps kvs : List (D × D)), (∀ p ∈ kvs, D.key p.1 = true) → (∀ p ∈ ps, D.key p.1 = true) → (kvs.map fun p => nk p.1).Nodup → ((putAll kvs ps).map fun p => nk p.1).Nodup ∧ (putAll kvs ps).length ≤ kvs.length + ps.length
  | [], kvs, _, _, n => ⟨n, by simp [putAll]⟩
  | p :: r, kvs, h1, h2, n => by
    have hp := h2 p List.mem_cons_self
    have h3 : ∀ q ∈ put kvs p.1 p.2, D.key q.1 = true := fun q hq => by
      have key : ∀ (l : List (D × D)), (∀ p ∈ l, D.key p.1 = true) → ∀ q ∈ put l p.1 p.2, D.key q.1 = true := fun l => by
        induction l with
        | nil => intro _ q hq; unfold put at hq; simp at hq; rw [hq]; exact hp
        | cons x l ih =>
          intro hl q hq
          unfold put at hq
          split at hq
          · rcases List.mem_cons.mp hq with e | e
            · rw [e]; exact hl x List.mem_cons_self
            · exact hl q (List.mem_cons_of_mem _ e)
          · rcases List.mem_cons.mp hq with e | e
            · rw [e]; exact hl x List.mem_cons_self
            · exact ih (fun y hy => hl y (List.mem_cons_of_mem _ hy)) q e
      exact key kvs h1 q hq
    obtain ⟨a1, a2⟩ := putAll_keys r (put kvs p.1 p.2) h3 (fun q hq => h2 q (List.mem_cons_of_mem _ hq)) (put_keys hp h1 n)
    have := put_length kvs p.1 p.2
    refine ⟨a1, ?_⟩
    show (putAll (put kvs p.1 p.2) r).length ≤ _
    simp only [List.length_cons]
    omega
theorem putAll_snoc : ∀ (ps kvs : List (D × D)) (p : D × D), putAll kvs (ps ++ [p]) = put (putAll kvs ps) p.1 p.2
  | [], kvs, p => rfl
  | q :: r, kvs, p => putAll_snoc r (put kvs q.1 q.2) p
theorem take_snoc {α : Type} {xs : List α} {i : Nat} {a : α} (h : xs[i]? = some a) : xs.take (i + 1) = xs.take i ++ [a] := by
  rw [List.take_succ, h]
  rfl
theorem hkeys_at : ∀ {ps : List (D × D)}, hkeys ps = true → ∀ p ∈ ps, D.hkey p.1 = true
  | [], _, p, h => by cases h
  | q :: r, k, p, h => by
    simp only [hkeys, Bool.and_eq_true] at k
    rcases List.mem_cons.mp h with e | e
    · rw [e]; exact k.1
    · exact hkeys_at k.2 p e
end
section
variable {G : Gx} {X : Cx} {pins : List (Addr × Obj)} {σ : L2.St} {H Hf : Hp} {s : Shared}
/-- the items are pairs -/
theorem pairs_at (gk : GOk G X) (I : Inv X pins σ H s) (hs : Same Hf H) : ∀ {ds : List D} {vs : List V} {its : List Value} {ps : List (D × D)}, RepAll G Hf ds vs → Vals vs its → pairsOf ds = some ps →
    ∃ (Ts : List Addr) (prs : List (Value × Value)), its = Ts.map Value.ref ∧ Ts.length = ps.length ∧ prs.length = ps.length ∧ ∀ (j : Nat) (k v : Value), prs[j]? = some (k, v) →
      ∃ (T : Addr) (kd vd : D) (kv vv : V), Ts[j]? = some T ∧ ps[j]? = some (kd, vd) ∧ s.heap.IsTuple T #[k, v] ∧ RepV G Hf kd kv ∧ RelV kv k ∧ RepV G Hf vd vv ∧ RelV vv v
  | [], _, _, ps, r, rv, h => by
    cases r
    cases rv
    simp only [pairsOf, Option.some.injEq] at h
    subst h
    exact ⟨[], [], rfl, rfl, rfl, fun j k v e => by simp at e⟩
  | x :: ds, _, _, ps, r, rv, h => by
    cases r with
    | cons r1 r2 =>
      cases rv with
      | cons v1 v2 =>
        cases x <;> first | (cases h; done) | skip
        rename_i ys
        match ys, r1, h with
        | [], _, h => cases h
        | [_], _, h => cases h
        | _ :: _ :: _ :: _, _, h => cases h
        | [kd, vd], r1, h =>
          try simp only [pairsOf] at h
          cases e : pairsOf ds with
          | none => rw [e] at h; cases h
          | some ps' =>
            rw [e] at h
            simp only [Option.map_some, Option.some.injEq] at h
            subst h
            obtain ⟨Ts, prs, g1, g2, g3, g4⟩ := pairs_at gk I hs r2 v2 e
            cases r1 with
            | tup q ra =>
              rename_i T vs2
              cases v1
              cases ra with
              | cons ra1 ra =>
                cases ra with
                | cons ra2 ra =>
                  cases ra
                  have q' := Same.sqT hs q
                  rw [← gk.K] at q'
                  obtain ⟨its2, rv2, ⟨o, h1, h2, n, h3⟩, _⟩ := I.tuple q'
                  obtain ⟨k, v, ei, rk, rr⟩ := vals2 rv2
                  subst ei
                  refine ⟨T :: Ts, (k, v) :: prs, by rw [g1]; rfl, by simp [g2], by simp [g3], fun j k' v' ej => ?_⟩
                  cases j with
                  | zero =>
                    simp at ej
                    obtain ⟨rfl, rfl⟩ := ej
                    exact ⟨T, kd, vd, _, _, rfl, rfl, ⟨o, h1, h2, n, h3⟩, ra1, rk, ra2, rr⟩
                  | succ j =>
                    obtain ⟨T', kd', vd', kv', vv', f1, f2, f3⟩ := g4 j k' v' (by simpa using ej)
                    exact ⟨T', kd', vd', kv', vv', by simpa using f1, by simpa using f2, f3⟩
theorem c1_dict {fr : Bool} (gk : GOk G X) (hc : X.calm = true) (hu : X.A.units + 70 < cLine) : C1 G X fr (.type "dict") (bi1 .dict) := by
  intro A pins s σ H xs us Q I rs ⟨x, d, r, e, p, hd, hg, q⟩
  subst e
  cases d <;> simp only [bi1] at hg <;> first | cases hg | skip
  rename_i ds
  split at hg
  rotate_left
  · cases hg
  rename_i ps hps
  obtain ⟨hkk, rfl⟩ := chk_val hg
  obtain ⟨l, vs, rfl, s1, r1⟩ := hd.lst
  rw [← gk.K] at s1
  obtain ⟨u, rfl, ru⟩ := vals1 rs
  cases ru
  obtain ⟨z, its, n, rv, hlen, ho⟩ := lst_obj I s1
  obtain ⟨Ts, prs, g1, g2, g3, g4⟩ := pairs_at gk I Hide.le r1 rv hps
  subst g1
  have P := PairArg.list (prog := X.prog) (w := X.w) l (Ts.map Value.ref).toArray (fun j => Ts.getD j 0) prs
  have keys := hkeys_at hkk
  have hpl : ps.length ≤ LIM := by
    rw [LIM_eq, ← g2]
    rw [hlen, List.length_map] at z
    exact z
  have ok : PlainSeq "list" s.heap l (Ts.map Value.ref).toArray ∧ PairItems s.heap (Ts.map Value.ref).toArray (fun j => Ts.getD j 0) prs := by
    refine ⟨⟨_, n, ho, rfl, rfl, rfl⟩, by simp [g2, g3], fun j k v e => ?_⟩
    obtain ⟨T, kd, vd, kv, vv, f1, f2, f3, _⟩ := g4 j k v e
    have : Ts.getD j 0 = T := by simp [List.getD, f1]
    dsimp only
    rw [this]
    exact ⟨by simp [f1], .inl f3⟩
  have hsz : (s.heap.objs.size == sysModules) = false := beq_eq_false_iff_ne.mpr (Ne.symm (Nat.ne_of_lt I.big))
  refine call_dict_arg P ok fun s₁ hs₁ hdf ok₁ => ?_
  subst hs₁
  have old : ∀ b o, s.heap.get? b = some o → (s.heap.push { cls := .type "dict", data := .dict #[] }).get? b = some o := fun b o e => Heap.get?_push_of_some _ e
  refine updateFrom_arg (A := X.A.in1) (Tab := fun i h => (∀ b o, s.heap.get? b = some o → h.get? b = some o) ∧ ∃ es, DictAt h s.heap.objs.size es ∧ RepEs G (Hide H A) es (putAll [] (ps.take i))) P .none (I.ok.hd hc) ok₁ hdf ?_ ?_ ?_ ?_ ?_
  · exact ⟨old, [], ⟨_, 0, Heap.get?_push_size _ rfl, ⟨rfl, rfl, rfl⟩, rfl⟩, .nil⟩
  · rintro i h ⟨_, es, ⟨o, ep, e1, _⟩, _⟩
    exact Heap.lt_size e1
  · rintro i h h' wr' hd' hwr ⟨k1, es, ⟨o, ep, e1, e2, e3⟩, k3⟩ k4
    refine ⟨fun b o eb => k4 b o (fun hm => ?_) (k1 b o eb), es, ⟨o, ep, k4 _ _ hd' e1, e2, e3⟩, k3⟩
    rcases hwr b hm with hm | hm
    · cases hm
    · have := old b o eb
      rw [show (s.heap.push { cls := .type "dict", data := .dict #[] }).get? b = none from hm] at this
      cases this
  · rintro i k v s2 Q2 E2 hi hrel ⟨k1, es, k2, k3⟩ _ hq
    obtain ⟨T, kd, vd, kv, vv, f1, f2, f3, f4, f5, f6, f7⟩ := g4 i k v hrel
    have hkd := keys _ (List.mem_of_getElem? f2)
    have hkd : D.hkey kd = true := hkd
    have kt : ∀ p ∈ ps.take i, D.key p.1 = true := fun p hp => hkey_key (keys p (List.mem_of_mem_take hp))
    obtain ⟨nd, nl⟩ := putAll_keys (ps.take i) [] (fun _ h => by cases h) kt List.nodup_nil
    have kd0 := keyed_of gk I (k3.mono Hide.le)
    have ni := nested_of gk I kd kv k (f4.mono Hide.le) (hkey_key hkd) f5
    refine dset_raw (A := X.A.in1.in1) k2 (keyed_up k1 kd0) nd (by show X.A.units + 2 + 9 < cLine; omega) (ni.at (fun a o _ _ e _ => k1 a o e) _ _) (by rw [nk_depth _ (hkey_key hkd)]; exact hkey_dep hkd) ?_ fun h' tk es' sb da hes => hq h' tk ⟨fun b o e => ?_, es', da, ?_⟩ sb
    · rw [k3.length, ← LIM_eq]
      have := List.length_take_le i ps
      simp only [List.length_nil, Nat.zero_add] at nl
      exact Nat.le_trans nl (Nat.le_trans (List.length_take_le' i ps) hpl)
    · exact sb.extBut b o (Nat.ne_of_lt (Heap.lt_size e)) (k1 b o e)
    · rw [take_snoc f2, putAll_snoc]
      rw [gk.w] at hes
      exact rep_put k3 hkd f4 f6 f5 f7 nd hes
  · rintro h' tk ⟨k1, es, k2, k3⟩ _
    rw [g3, List.take_length] at k3
    obtain ⟨nd, nl⟩ := putAll_keys ps [] (fun _ h => by cases h) (fun p hp => hkey_key (keys p hp)) List.nodup_nil
    have hp : H s.heap.objs.size = none := I.fresh
    obtain ⟨o2, ep2, e1, e2, e3⟩ := k2
    refine ⟨rfl, .ref s.heap.objs.size, upd H s.heap.objs.size (dctO s.heap.objs.size es ep2), ?_, rfl, q _ _ (same_upd hp) (mk_dct p hp hsz nd (Nat.le_trans nl (by simpa using hpl)) k3)⟩
    exact I.laid (t' := tk) k1 (Nat.le_refl _) ⟨⟨o2, e1, e2, e3⟩, ⟨o2, e1⟩, fun g1 g2 ⟨o2, y1, y2, y3⟩ kp => ⟨o2, kp o2 y1, y2, y3⟩⟩
end
end Py
end
section
set_option autoImplicit false
set_option linter.all false
set_option maxRecDepth 100000
set_option maxHeartbeats 2000000
/-! PyQ4: more methods: index and count of a list, get of a dict. -/
namespace Py
open PySem PySem.Spec L2
open Sem (wp)

theorem place_data : ∀ (d : D) (xs : List D), D.plain d = true → D.plainAll xs = true → SeqAt.dataPlace (toPs xs) (toP d) = place d xs
  | d, [], _, _ => rfl
  | d, x :: xs, h1, h2 => by
    simp only [D.plainAll, Bool.and_eq_true] at h2
    have ih := place_data d xs h1 h2.2
    unfold SeqAt.dataPlace at ih ⊢
    simp only [toPs, List.findIdx?_cons, toP_eqv x d h2.1 h1, place, ih]
theorem count_data : ∀ (d : D) (xs : List D), D.plain d = true → D.plainAll xs = true → ((toPs xs).countP fun y => PyData.eqv y (toP d)) = countD d xs
  | d, [], _, _ => rfl
  | d, x :: xs, h1, h2 => by
    simp only [D.plainAll, Bool.and_eq_true] at h2
    simp only [toPs, List.countP_cons, toP_eqv x d h2.1 h1, countD, count_data d xs h1 h2.2]
    cases D.eqv x d <;> simp <;> omega
section
variable {fr : Bool} {G : Gx} {Ex : XS} {Ex0 : Nm → Hp → Prop} {X : Cx} {A : Addr → Bool} {H : Hp} {M M1 : D → V → Hp → Prop} {Q : VK} {a b c : Expr} {pos p apos kpos : Pos} {fa fb fc : Env → Out D} {x : Str}
theorem m1_lindex (gk : GOk G X) (hu : X.A.units + 70 < cLine) : Mt1 G X fr "list" "list.index" .index := by
  intro A pins s σ H x xs v us Q I rx rs ⟨y, d, e, r, hx, p, hd, ht, he, hg, q⟩
  subst hx
  cases d <;> first | cases ht | skip
  rename_i ds
  simp only [me1] at hg
  split at hg
  · rename_i hok
    simp only [Bool.and_eq_true] at hok
    cases hp : place e ds with
    | none => rw [hp] at hg; cases hg
    | some j =>
      rw [hp] at hg
      cases hg
      obtain ⟨l, vs, rfl, s1, r1⟩ := hd.lst
      rw [← gk.K] at s1
      obtain ⟨z, its, n, rv, hlen, ho⟩ := lst_obj I s1
      obtain ⟨u2, rfl, ru⟩ := vals1 rs
      cases rx
      obtain ⟨as, h1⟩ := reads_all gk I ds _ its (r1.mono Hide.le) (okAll_plain hok.2) rv
      obtain ⟨bs, h2⟩ := reads_of gk I e _ u2 he.all (ok_plain hok.1) ru
      have hpl : PyData.plainAll (toPs ds) = true := toPs_plain ds
      have h1' : ReadsAll s.heap its.toArray.toList (toPs ds) as := h1
      have hdp : SeqAt.dataPlace (toPs ds) (toP e) = some j := by rw [place_data e ds (ok_plain hok.1) (okAll_plain hok.2)]; exact hp
      obtain ⟨hj, hh, hno⟩ := SeqAt.hit_at h1' hpl hdp
      have hsl := sizeLine_eq
      have hjz : j < its.length := by simpa using hj
      have hroom : X.A.units + 1 + min (PyData.depthAll (toPs ds)) (toP e).depth < cLine := by
        have : (toP e).depth ≤ 60 := by rw [toP_depth]; exact ok_dep hok.1
        omega
      refine call_meets PySem.F.slot_list_index ⟨_, ho, rfl⟩ PySem.F.entry_list_index (PySem.F.args_list_index_2 _ _)
        (SeqAt.list_indexAt l its.toArray n none #[] u2 (fun u => PyData.eqv (SeqAt.readOf s.heap u) (toP e)) j hj (by omega) hh hno) ⟨ho, SeqAt.items_plain (vs := its.toArray) h1' h2 hpl (toP_plain e) hroom, ?_⟩
      exact ⟨.int j, H, I.tok _, ⟨_, rfl⟩, q _ H (Same.refl H) mk_int⟩
  · cases hg
theorem m1_lcount (gk : GOk G X) (hu : X.A.units + 70 < cLine) : Mt1 G X fr "list" "list.count" .count := by
  intro A pins s σ H x xs v us Q I rx rs ⟨y, d, e, r, hx, p, hd, ht, he, hg, q⟩
  subst hx
  cases d <;> first | cases ht | skip
  rename_i ds
  simp only [me1] at hg
  split at hg
  · rename_i hok
    simp only [Bool.and_eq_true] at hok
    cases hg
    obtain ⟨l, vs, rfl, s1, r1⟩ := hd.lst
    rw [← gk.K] at s1
    obtain ⟨z, its, n, rv, hlen, ho⟩ := lst_obj I s1
    obtain ⟨u2, rfl, ru⟩ := vals1 rs
    cases rx
    obtain ⟨as, h1⟩ := reads_all gk I ds _ its (r1.mono Hide.le) (okAll_plain hok.2) rv
    obtain ⟨bs, h2⟩ := reads_of gk I e _ u2 he.all (ok_plain hok.1) ru
    have h1' : ReadsAll s.heap its.toArray.toList (toPs ds) as := h1
    have hroom : X.A.units + 1 + min (PyData.depthAll (toPs ds)) (toP e).depth < cLine := by
      have : (toP e).depth ≤ 60 := by rw [toP_depth]; exact ok_dep hok.1
      omega
    refine SeqAt.count_list_data (vs := its.toArray) ⟨_, ho, rfl, n, rfl⟩ h1' h2 (toPs_plain ds) (toP_plain e) hroom ?_
    rw [count_data e ds (ok_plain hok.1) (okAll_plain hok.2)]
    exact ⟨.int _, H, I.tok _, ⟨_, rfl⟩, q _ H (Same.refl H) mk_int⟩
  · cases hg
theorem m1_get1 (gk : GOk G X) (hu : X.A.units + 70 < cLine) : Mt1 G X false "dict" "dict.get" .get1 := by
  intro A pins s σ H x xs v us Q I rx rs ⟨y, d, e, r, hx, p, hd, ht, he, hg, q⟩
  subst hx
  cases d <;> first | cases ht | skip
  rename_i kvs
  simp only [me1] at hg
  split at hg
  · rename_i hok
    cases hg
    obtain ⟨l, es, ep, rfl, s1, s2, s3, s4, r1⟩ := hd.dct
    obtain ⟨u2, rfl, ru⟩ := vals1 rs
    cases rx
    refine get1_nk gk I (by omega) s1 s2 s3 (r1.mono Hide.le) hok (repT_hk hok he |>.mono Hide.le) ru (fun hl s' I' => ?_) fun dd hl s' vv uv I' rv rr => ?_
    · rw [hl] at q
      exact ⟨.non, H, I', rfl, q _ H (Same.refl H) mk_non⟩
    · rw [hl] at q
      exact ⟨vv, H, I', rv, q _ H (Same.refl H) (mk_item (rr _ r1))⟩
  · cases hg

/-! ### methods with two arguments -/
def Mt2 (G : Gx) (X : Cx) (fr : Bool) (T id : String) (m : Me) : Prop := ∀ A : Addr → Bool, MtR X id (fun x xs H Q => ∃ y z d e g r, xs = [y, z] ∧ Prot A H ∧ RepT G A H d x ∧ tyD T d = true ∧ RepT G A H e y ∧ RepV G (Hide H A) g z ∧ me2 m d e g = .val r ∧ Want G A H fr r Q)
def fMe2 (m : Me) (fa fb fc : Env → Out D) : Env → Out D := fun δ => do
  let x ← fa δ
  let x ← chk (meTy m x) x
  let y ← fb δ
  let z ← fc δ
  me2 m x y z
theorem nox_me2 (m : Me) (d e g : D) : NoX (me2 m d e g) := by
  unfold me2
  split <;> first
    | exact nox_val
    | exact nox_chk
    | exact nox_bad
    | (split <;> first | exact nox_val | exact nox_chk | exact nox_bad)
theorem sa_me2 (gk : GOk G X) {T id : String} {name : Str} {m : Me} {fr : Bool} (pa : PlainAttrs T) (slot : PySem.Slot T name id) (hty : typeOf (.builtin id) = pure (.type "method_descriptor")) (hm : Mt2 G X fr T id m) (ha : ST G Ex X a fa) (hb : ST G Ex X b fb) (hc : SA G Ex X false c fc)
    (hbase : attributeBase a name X.env (eval a X.env) = eval a X.env)
    (hfew : ((backTo pos (starEach [b, c] X.env)).all (fun x => !x.1) && (backToKw pos (keywordEach [] X.env)).all (fun x => x.1.isSome)
      && decide ([b, c].length + ([] : List Keyword).length + (if ([] : List Keyword).isEmpty then 0 else 1) < 30)) = true)
    (hline : (apos.endLine == pos.line) = true) (hs : starEach [b, c] X.env = (false, eval b X.env) :: starEach [c] X.env) (hs2 : starEach [c] X.env = (false, eval c X.env) :: starEach [] X.env) (δ : Env) (hT : ∀ d, fa δ = .val d → meTy m d = true → tyD T d = true) (A : Addr → Bool) :
    PE X (.Call (.Attribute a name apos) [b, c] [] pos) (fun σ H Q => EnvOk G A H δ σ ∧ OutE (Ex σ) H (MA G A H fr) Q (fMe2 m fa fb fc δ)) := by
  refine ⟨fun pins s σ H Q I ⟨ok, o⟩ => ?_⟩
  refine wpAny_Call_method_late hbase hfew hline rfl (thn ((ha δ A).run pins s σ H (fun x H1 => ∃ d, Same H H1 ∧ RepT G A H1 d x ∧ tyD T d = true ∧ OutE (Ex σ) H (MA G A H fr) Q (do let y ← fb δ; let z ← fc δ; me2 m d y z)) I ⟨ok, OutE.bnd o fun d x H1 e m1 s1 o1 => ?_⟩) fun v s1 ⟨x, H1, I1, r1, d, s1', m1, t1, o1⟩ => ?_)
  · have hb : meTy m d = true := by
      cases h : meTy m d with
      | true => rfl
      | false => rw [h] at o1; exact o1.elim
    rw [hb] at o1
    exact ⟨d, s1, m1, hT d e hb, o1⟩
  · obtain ⟨h1, h2⟩ := ty_is gk I1 m1 t1 r1
    refine ⟨T, id, pa, slot, hty, h1, h2, ?_⟩
    have hA := (pa_cons (hb δ A) (pa_cons (hc δ A) pa_nil hs2) hs).run pos pins s1 σ H1 (fun xs H2 => ∃ y z d e g r, xs = [y, z] ∧ Prot A H2 ∧ RepT G A H2 d x ∧ tyD T d = true ∧ RepT G A H2 e y ∧ RepV G (Hide H2 A) g z ∧ me2 m d e g = .val r ∧ Want G A H2 fr r Q) I1 ⟨ok.mono s1', OutE.bnd (o1.after s1') fun e w H2 _ m2 s2 o2 => ⟨ok.mono (s1'.trans s2), OutE.bnd (o2.after s2) fun g z H3 _ m3 s3 o3 => ?_⟩⟩
    · rw [hs, hs2] at hA ⊢
      refine Calls.callWith_builtin rfl (Calls.evalArgs_plain ?_)
      exact thn hA fun us s2 ⟨vs, H2, I2, r2, q2⟩ => hm A pins s2 σ H2 x vs v us Q I2 r1 r2 q2
    · obtain ⟨r, g1, g2⟩ := o3.val (nox_me2 m d e g)
      exact ⟨w, z, d, e, g, r, rfl, (ok.mono ((s1'.trans s2).trans s3)).prot, m1.mono (s2.trans s3), t1, m2.mono s3, m3.1, g1, Want.after g2 s3 ((s1'.trans s2).trans s3)⟩
theorem m2_get2 (gk : GOk G X) (hu : X.A.units + 70 < cLine) : Mt2 G X false "dict" "dict.get" .get2 := by
  intro A pins s σ H x xs v us Q I rx rs ⟨y, z, d, e, g, r, hx, p, hd, ht, he, hz, hg, q⟩
  subst hx
  cases d <;> first | cases ht | skip
  rename_i kvs
  simp only [me2] at hg
  split at hg
  · rename_i hok
    cases hg
    obtain ⟨l, es, ep, rfl, s1, s2, s3, s4, r1⟩ := hd.dct
    obtain ⟨u2, u3, rfl, ru, ru3⟩ := vals2 rs
    cases rx
    refine get2_nk gk I (by omega) s1 s2 s3 (r1.mono Hide.le) hok (repT_hk hok he |>.mono Hide.le) ru (fun hl s' I' => ?_) fun dd hl s' vv uv I' rv rr => ?_
    · rw [hl] at q
      exact ⟨z, H, I', ru3, q _ H (Same.refl H) (mk_item hz)⟩
    · rw [hl] at q
      exact ⟨vv, H, I', rv, q _ H (Same.refl H) (mk_item (rr _ r1))⟩
  · cases hg
end
end Py
end
section
set_option autoImplicit false
set_option linter.all false
set_option maxRecDepth 100000
set_option maxHeartbeats 2000000
/-! PyQ5: sorted of lists, tuples and dicts; the list of a dict. -/
namespace Py
open PySem PySem.Spec L2
open Sem (wp)

/-! ### the order of data -/
theorem toPs_map : ∀ ds : List D, toPs ds = ds.map toP
  | [] => rfl
  | d :: ds => by rw [toPs, toPs_map ds]; rfl
theorem alikes_at {ds : List D} (h : alikes ds = true) {x y : D} (hx : x ∈ ds) (hy : y ∈ ds) : D.ok x = true ∧ D.alike x y = true := by
  unfold alikes at h
  have h1 := List.all_eq_true.mp h x hx
  simp only [Bool.and_eq_true] at h1
  exact ⟨h1.1, List.all_eq_true.mp h1.2 y hy⟩
theorem alikes_plain {ds : List D} (h : alikes ds = true) : D.plainAll ds = true := by
  have key : ∀ l : List D, (∀ x ∈ l, D.ok x = true) → D.plainAll l = true := fun l => by
    induction l with
    | nil => intro _; rfl
    | cons x l ih =>
      intro k
      simp only [D.plainAll, Bool.and_eq_true]
      exact ⟨ok_plain (k x List.mem_cons_self), ih fun y hy => k y (List.mem_cons_of_mem _ hy)⟩
  exact key ds fun x hx => (alikes_at h hx hx).1
theorem allAlike_of {ds : List D} (h : alikes ds = true) : PySem.W.AllAlike (ds.map toP) := by
  intro a ha b hb
  obtain ⟨x, hx, rfl⟩ := List.mem_map.mp ha
  obtain ⟨y, hy, rfl⟩ := List.mem_map.mp hb
  exact toP_alike x y (alikes_at h hx hy).2
theorem sortable_of {ds : List D} (ha : alikes ds = true) (h : (ds.all isTup1 || ds.all noTup) = true) : PySem.W.Sortable (ds.map toP) := by
  rcases Bool.or_eq_true _ _ |>.mp h with k | k
  · refine .inl fun d hd => ?_
    obtain ⟨x, hx, rfl⟩ := List.mem_map.mp hd
    have hx' := List.all_eq_true.mp k x hx
    cases x <;> first | (cases hx'; done) | skip
    rename_i xs
    cases xs with
    | nil => cases hx'
    | cons y ys => exact ⟨toP y, toPs ys, by simp [toP, toPs]⟩
  · refine .inr fun d hd => ?_
    obtain ⟨x, hx, rfl⟩ := List.mem_map.mp hd
    have hx' := List.all_eq_true.mp k x hx
    have hp := ok_plain (alikes_at ha hx hx).1
    cases x <;> first | (cases hx'; done) | (cases hp; done) | exact ⟨by simp [toP], fun xs => by simp [toP]⟩
theorem le_data {ds : List D} (h : alikes ds = true) : ds.mergeSort (PySem.W.dataLe false toP) = sortD ds := by
  unfold sortD
  refine PySem.W.sort_congr fun a ha b hb => ?_
  rw [PySem.W.dataLe_eq]
  show (!PySem.W.dataLt (toP b) (toP a)) = le a b
  obtain ⟨k1, k2⟩ := alikes_at h hb ha
  rw [toP_lt b a (ok_plain k1) (ok_plain (alikes_at h ha ha).1) k2]
  rfl
theorem each_rep {G : Gx} {Hf : Hp} : ∀ {ds : List D} {vs : List V} {us : List Value}, RepAll G Hf ds vs → Vals vs us → PySem.W.EachIs (fun u d => ∃ x, RelV x u ∧ RepV G Hf d x) us ds
  | [], _, _, r, h => by
    cases r
    cases h
    exact .nil
  | d :: ds, _, _, r, h => by
    cases r with
    | cons r1 r2 =>
      cases h with
      | cons h1 h2 => exact .cons ⟨_, h1, r1⟩ (each_rep r2 h2)
theorem rep_each {G : Gx} {Hf : Hp} : ∀ {ds : List D} {us : List Value}, PySem.W.EachIs (fun u d => ∃ x, RelV x u ∧ RepV G Hf d x) us ds → ∃ vs, RepAll G Hf ds vs ∧ Vals vs us
  | _, _, .nil => ⟨[], .nil, .nil⟩
  | _, _, .cons ⟨x, h1, h2⟩ t => by
    obtain ⟨vs, a, b⟩ := rep_each t
    exact ⟨x :: vs, .cons h2 a, .cons h1 b⟩
mutual
theorem reads_there {h : Heap} : ∀ (d : PyData) (v : Value) (as : List Addr), Reads h v d as → d.plain = true → ∀ a ∈ as, ∃ o, h.get? a = some o
  | .none, _, _, r, _, a, m => by cases r; cases m
  | .bool _, _, _, r, _, a, m => by cases r; cases m
  | .int _, _, _, r, _, a, m => by cases r; cases m
  | .str _, _, _, r, _, a, m => by cases r; cases m
  | .list xs, _, _, r, p, a, m => by
    cases r with
    | list h1 h2 h3 h4 =>
      rcases List.mem_cons.mp m with e | m
      · rw [e]; exact ⟨_, h1⟩
      · exact reads_there_all xs _ _ h4 (by simpa [PyData.plain] using p) a m
  | .tuple xs, _, _, r, p, a, m => by
    cases r with
    | tuple h1 h2 h3 h4 => exact reads_there_all xs _ _ h4 (by simpa [PyData.plain] using p) a m
  | .dict _, _, _, _, p, _, _ => by simp [PyData.plain] at p
theorem reads_there_all {h : Heap} : ∀ (ds : List PyData) (vs : List Value) (as : List Addr), ReadsAll h vs ds as → PyData.plainAll ds = true → ∀ a ∈ as, ∃ o, h.get? a = some o
  | [], _, _, r, _, a, m => by cases r; cases m
  | d :: ds, _, _, r, p, a, m => by
    cases r with
    | cons h1 h2 =>
      simp only [PyData.plainAll, Bool.and_eq_true] at p
      rcases List.mem_append.mp m with m | m
      · exact reads_there d _ _ h1 p.1 a m
      · exact reads_there_all ds _ _ h2 p.2 a m
end

section
variable {G : Gx} {X : Cx} {pins : List (Addr × Obj)} {σ : L2.St} {H : Hp} {s : Shared} {A : Addr → Bool}
/-- the items, read -/
theorem each_reads (gk : GOk G X) (I : Inv X pins σ H s) {Hf : Hp} (hs : Same Hf H) {ds : List D} {vs : List V} {us : List Value} (r : RepAll G Hf ds vs) (rv : Vals vs us) (hp : D.plainAll ds = true) : PySem.W.EachIs (fun v b => ∃ as, Reads s.heap v (toP b) as) us ds := by
  obtain ⟨as, h⟩ := reads_all gk I ds vs us (r.mono hs) hp rv
  rw [toPs_map] at h
  exact PySem.W.readsAll_each toP h
theorem alikes_dep {ds : List D} (h : alikes ds = true) {x : D} (hx : x ∈ ds) : (toP x).depth ≤ 60 := by
  rw [toP_depth]
  exact ok_dep (alikes_at h hx hx).1
/-- sorted(..) of what gives some items one by one -/
theorem sorted_items (gk : GOk G X) (hu : X.A.units + 70 < cLine) {out : List D} {r : Addr} {Q : VK}
    (hcol : ∀ R : List Value → Shared → Prop, (∀ s1 acc vs ds, Inv X pins σ H s1 → sortable ds = true → ds.length ≤ LIM → sortD ds = out → RepAll G (Hide H A) ds vs → Vals vs acc → R acc s1) → wpAny (model X.prog X.w) X.A.in1 (collect (.ref r)) R X.xe s)
    (q : ∀ p us, H p = none → RepAll G (Hide H A) out us → Q (.ref p) (upd H p (.lst us))) :
    wpAny (model X.prog X.w) X.A (call (.builtin "sorted") [.ref r]) (EP X pins σ Q) X.xe s := by
  refine Calls.call_function_entry PyProof.Rows.kind_sorted PyProof.Rows.plain_sorted PyProof.Rows.entry_sorted (PyProof.Rows.args_sorted1 _) ?_
  unfold Builtin.«sorted»
  refine wpAny_bind (m := checkCount "sorted" 1 1 _) (wpAny_pure ?_)
  refine wpAny_bind (hcol _ fun s1 acc vs ds I1 hk hn hout rep rv => ?_)
  unfold sortable at hk
  simp only [Bool.and_eq_true] at hk
  obtain ⟨hal, hso⟩ := hk
  have hlen : acc.length = ds.length := by rw [← rv.length, ← rep.length]
  refine wpAny_bind (wpAny_newList ?_ (by rw [hlen, ← LIM_eq]; exact hn))
  have hoL : (s1.heap.push (PyProof.Rows.seqObj "list" acc.toArray 0)).get? s1.heap.objs.size = some (PyProof.Rows.seqObj "list" acc.toArray 0) := Heap.get?_push_size _ rfl
  show wpAny _ _ _ _ _ { s1 with heap := s1.heap.push (PyProof.Rows.seqObj "list" acc.toArray 0) }
  have er : PySem.W.EachIs (fun v b => ∃ as, Reads (s1.heap.push (PyProof.Rows.seqObj "list" acc.toArray 0)) v (toP b) as ∧ s1.heap.objs.size ∉ as) acc ds := (each_reads gk I1 Hide.le rep rv (alikes_plain hal)).mono fun v b ⟨as, hr⟩ =>
    ⟨as, PyProof.Rows.Reads.keeps (fun _ _ e => Heap.get?_push_of_some _ e) hr, fun hm => by
      obtain ⟨o, ho⟩ := reads_there _ _ _ hr (toP_plain b) _ hm
      exact absurd (Heap.lt_size ho) (Nat.lt_irrefl _)⟩
  refine wpAny_bind (wpAny_holding (PySem.W.list_sort_data (A := X.A.in1) (s := { s1 with heap := s1.heap.push (PyProof.Rows.seqObj "list" acc.toArray 0) }) (enc := toP) hoL (each_rep rep rv) er (allAlike_of hal) (sortable_of hal hso) (by rw [← LIM_eq]; exact hn) (fun b hb => ?_) fun ov hol heach => ?_))
  · have := alikes_dep hal hb
    show X.A.units + 1 + 1 + _ < _
    omega
  · rw [le_data hal, hout] at heach
    obtain ⟨us, g1, g2⟩ := rep_each heach
    obtain ⟨e', he'⟩ := PyProof.Rows.sortedHeap_at (vs := acc) (out := ov.toArray) hoL
    have hz : us.length ≤ sizeLine := by
      rw [g2.length, hol, ← LIM_eq]
      exact hn
    have hp : H s1.heap.objs.size = none := I1.hok.fresh (Nat.le_refl _)
    refine wpAny_pure ⟨_, rfl, .ref s1.heap.objs.size, upd H s1.heap.objs.size (.lst us), I1.laid (t' := s1.toks) (fun b u e => ?_) (Nat.le_refl _)
      (show ObjOk X.prog X.w _ _ _ (.lst us) from ⟨hz, ov, e', g2, he'⟩), rfl, q _ us hp g1⟩
    have hb : b < s1.heap.objs.size := Heap.lt_size e
    rw [PyProof.Rows.sortedHeap_old (Nat.ne_of_lt hb) (by show b < (s1.heap.push _).objs.size; rw [PyProof.Rows.size_push']; exact Nat.lt_succ_of_lt hb)]
    exact Heap.get?_push_of_some _ e
/-- a list or tuple, collected -/
theorem collect_seq {a : Addr} {vs : List V} {R : List Value → Shared → Prop} {B : Around} (I : Inv X pins σ H s) (h : LsT X.K H a vs ∨ SqT X.K H a vs)
    (q : ∀ h' tk acc, Inv X pins σ H { s with heap := h', toks := tk } → (∀ b o, s.heap.get? b = some o → h'.get? b = some o) → Vals vs acc → R acc { s with heap := h', toks := tk }) : wpAny (model X.prog X.w) B (collect (.ref a)) R X.xe s := by
  rcases h with h | h
  · obtain ⟨z, its, n, rv, hlen, ho⟩ := lst_obj I h
    exact wpAny_collect_seq a (.inl rfl) ho rfl rfl (fun h' hk => q h' s.toks its (I.kept hk) hk rv) (by rw [List.size_toArray, ← hlen]; exact z)
  · obtain ⟨its, rv, ⟨o, h1, h2, n, h3⟩, z⟩ := I.tuple h
    exact wpAny_collect_seq a (.inr rfl) h1 h2 h3 (fun h' hk => q h' s.toks _ (I.kept hk) hk (by simpa using rv)) (by have := rv.length; simp at this ⊢; omega)
/-- a dict, collected: its keys -/
theorem collect_dct {a : Addr} {es : List DictEntry} {ep : Nat} {kvs : List (D × D)} {R : List Value → Shared → Prop} (I : Inv X pins σ H s) (hc : X.calm = true) (h : H a = some (dctO a es ep)) (hm : (a == sysModules) = false) (hl : kvs.length ≤ LIM) (r : RepEs G (Hide H A) es kvs)
    (q : ∀ h' tk acc vs, Inv X pins σ H { s with heap := h', toks := tk } → (∀ b o, s.heap.get? b = some o → h'.get? b = some o) → RepAll G (Hide H A) (keysOf kvs) vs → Vals vs acc → R acc { s with heap := h', toks := tk }) : wpAny (model X.prog X.w) X.A.in1 (collect (.ref a)) R X.xe s := by
  obtain ⟨⟨o, h1, h2, h3⟩, _⟩ := (show ObjOk X.prog X.w H s.heap a (dctO a es ep) from I.hok a _ h)
  obtain ⟨vs, k1, k2⟩ := r.keys
  refine PySem.W.kdu_collect (A := X.A.in1) (kdl_raw hm h2 h3) (I.ok.hd hc) h1 (by rw [List.size_toArray, r.length, ← LIM_eq]; exact hl) fun h' tk acc hk hacc => ?_
  refine q h' tk acc.toList vs (I.kept hk) hk k1 ?_
  have e : acc.toList = es.map fun e => e.key := by
    have hz : acc.toList.length = es.length := by rw [Array.length_toList, hacc.1]; simp
    apply List.ext_getElem?
    intro j
    rw [List.getElem?_map]
    cases hj : acc.toList[j]? with
    | none =>
      have := List.getElem?_eq_none_iff.mp hj
      rw [List.getElem?_eq_none (by omega)]
      rfl
    | some v =>
      obtain ⟨en, g1, g2⟩ := hacc.2 j v (by rw [← Array.getElem?_toList]; exact hj)
      have : es[j]? = some en := by simpa using g1
      rw [this, g2]
      rfl
  rw [e]
  exact k2
theorem c1_sorted (gk : GOk G X) (hc : X.calm = true) (hu : X.A.units + 70 < cLine) : C1 G X true (.builtin "sorted") (bi1 .sorted) := by
  intro A pins s σ H xs us Q I rs ⟨x, d, r, e, p, hd, hg, q⟩
  subst e
  have fin : ∀ {ds : List D} {p' : Addr} {us : List V}, H p' = none → RepAll G (Hide H A) ds us → r = .lst ds → Q (.ref p') (upd H p' (.lst us)) := fun {ds p' us} hp hr er => by
    subst er
    exact q _ _ (same_upd hp) (mk_lst p hp hr)
  cases d <;> simp only [bi1] at hg <;> first | cases hg | skip
  · obtain ⟨hk, rfl⟩ := chk_val hg
    obtain ⟨l, vs, rfl, s1, r1⟩ := hd.tup
    rw [← gk.K] at s1
    obtain ⟨u, rfl, ru⟩ := vals1 rs
    cases ru
    obtain ⟨its, rv, _, z⟩ := I.tuple s1
    exact sorted_items gk hu (fun R h => collect_seq I (.inr s1) fun h' tk acc I1 k rv => h _ acc vs _ I1 hk (by rw [r1.length, LIM_eq]; exact z) rfl r1 rv) fun p' us hp hr => fin hp hr rfl
  · obtain ⟨hk, rfl⟩ := chk_val hg
    obtain ⟨l, vs, rfl, s1, r1⟩ := hd.lst
    rw [← gk.K] at s1
    obtain ⟨u, rfl, ru⟩ := vals1 rs
    cases ru
    obtain ⟨z, _⟩ := lst_obj I s1
    exact sorted_items gk hu (fun R h => collect_seq I (.inl s1) fun h' tk acc I1 k rv => h _ acc vs _ I1 hk (by rw [r1.length, LIM_eq]; exact z) rfl r1 rv) fun p' us hp hr => fin hp hr rfl
  · obtain ⟨hk, rfl⟩ := chk_val hg
    obtain ⟨l, es, ep, rfl, s1, s2, s3, s4, r1⟩ := hd.dct
    obtain ⟨u, rfl, ru⟩ := vals1 rs
    cases ru
    exact sorted_items gk hu (fun R h => collect_dct I hc s1 s2 s4 r1 fun h' tk acc vs I1 k rr rv => h _ acc vs _ I1 hk (by rw [keysOf_length]; exact s4) rfl rr rv) fun p' us hp hr => fin hp hr rfl
end
end Py
end
section
set_option autoImplicit false
set_option linter.all false
set_option maxRecDepth 100000
set_option maxHeartbeats 2000000
/-! PySe: sets of tuples of any nested keys, at the model's level. -/
namespace Py
open PySem PySem.Spec L2
open Sem (wp)

/-- a stored item: where its tuple stands, its key -/
abbrev Rw := Addr × NestedKey
abbrev Kz (h : Heap) (p : Rw) : Prop := NestedIs h p.2 (.ref p.1) ∧ p.2.depth ≤ 8
abbrev hsOf (w : World) (L : List Rw) : List Int := L.map fun p => p.2.hash w
abbrev rwOf (w : World) (L : List Rw) : List (Int × Value) := L.map fun p => (p.2.hash w, Value.ref p.1)
section
variable {P : Program} {w : World} {A : Around} {E : Value → Shared → Prop} {s : Shared}
mutual
/-- no class of the program is met -/
theorem noClass : ∀ (n : Nat) (k : NestedKey) (v : Value) (Q : Bool → Shared → Prop), NestedIs s.heap k v → k.depth ≤ n → Q false s → wpAny (model P w) A (ofAClassStatement n v) Q E s
  | n, .none, v, Q, hv, _, q => by
    cases v <;> first | (cases hv; done) | skip
    all_goals (cases n <;> exact wpAny_pure q)
  | n, .num i, v, Q, hv, _, q => by
    cases v <;> first | (cases hv; done) | skip
    all_goals (cases n <;> exact wpAny_pure q)
  | n, .text x, v, Q, hv, _, q => by
    cases v <;> first | (cases hv; done) | skip
    all_goals (cases n <;> exact wpAny_pure q)
  | 0, .tup ks, v, Q, hv, hd, q => by
    have : NestedKey.depthAll ks + 1 ≤ 0 := hd
    omega
  | n + 1, .tup ks, v, Q, hv, hd, q => by
    have hd' : NestedKey.depthAll ks ≤ n := by
      have : NestedKey.depthAll ks + 1 ≤ n + 1 := hd
      omega
    cases hv with
    | @tup a o vs m _ h1 h2 h3 h4 =>
      have hT : s.TypeIs (.ref a) "tuple" := ⟨o, h1, h2⟩
      unfold ofAClassStatement
      refine wpAny_bind (wpAny_typeOf hT ?_)
      dsimp only
      rw [if_pos (by decide)]
      refine wpAny_bind (wpAny_pure ?_)
      rw [if_neg (by decide)]
      show wpAny _ _ (seqItems? (.ref a) >>= _) _ _ s
      refine wpAny_bind (wpAny_seqItems h1 h3 ?_)
      dsimp only
      refine wpAny_bind ?_
      rw [← Array.forIn_toList]
      refine noClassAll n ks vs.toList _ h4 hd' ?_
      exact wpAny_pure q
theorem noClassAll : ∀ (n : Nat) (ks : List NestedKey) (vs : List Value) (Q : Option Bool × Unit → Shared → Prop), NestedAll s.heap ks vs → NestedKey.depthAll ks ≤ n → Q (none, ()) s →
    wpAny (model P w) A (forIn vs ((none, ()) : Option Bool × Unit) fun y r => do
      let b ← ofAClassStatement n y
      if b = true then pure (ForInStep.done (some true, ())) else pure (ForInStep.yield (none, ()))) Q E s
  | n, _, _, Q, .nil, _, q => wpAny_pure q
  | n, k :: ks, v :: vs, Q, .cons h1 h2, hd, q => by
    have hd' : max (NestedKey.depth k) (NestedKey.depthAll ks) ≤ n := hd
    rw [List.forIn_cons]
    refine wpAny_bind (wpAny_bind (noClass n k v _ h1 (by omega) ?_))
    rw [if_neg (by decide)]
    exact wpAny_pure (noClassAll n ks vs Q h2 (by omega) q)
end

mutual
/-- whether a key is hashed by its value alone: told either way -/
theorem byVal : ∀ (n : Nat) (k : NestedKey) (v : Value) (Q : Bool → Shared → Prop), NestedIs s.heap k v → (∀ b, Q b s) → wpAny (model P w) A (hashByValue n v) Q E s
  | n, .none, v, Q, hv, q => by
    cases hv
    cases n <;> exact wpAny_pure (q _)
  | n, .num i, v, Q, hv, q => by
    cases v <;> first | (cases hv; done) | skip
    all_goals (cases n <;> exact wpAny_pure (q _))
  | n, .text x, v, Q, hv, q => by
    cases hv
    cases n <;> exact wpAny_pure (q _)
  | 0, .tup ks, v, Q, hv, q => by
    cases hv
    exact wpAny_pure (q _)
  | n + 1, .tup ks, v, Q, hv, q => by
    cases hv with
    | @tup a o vs m _ h1 h2 h3 h4 =>
      have hT : s.TypeIs (.ref a) "tuple" := ⟨o, h1, h2⟩
      unfold hashByValue
      refine wpAny_bind (wpAny_specialOf hT F.slot_tuple_hash.lookup ?_)
      show wpAny _ _ (seqItems? (.ref a) >>= _) _ _ s
      refine wpAny_bind (wpAny_seqItems h1 h3 ?_)
      refine wpAny_bind ?_
      show wpAny _ _ (forIn vs _ _) _ _ s
      rw [← Array.forIn_toList]
      exact byValAll n ks vs.toList _ h4 (wpAny_pure (q _)) (wpAny_pure (q _))
theorem byValAll : ∀ (n : Nat) (ks : List NestedKey) (vs : List Value) (Q : Option Bool × Unit → Shared → Prop), NestedAll s.heap ks vs → Q (none, ()) s → Q (some false, ()) s →
    wpAny (model P w) A (forIn vs ((none, ()) : Option Bool × Unit) fun y r => do
      let b ← hashByValue n y
      if (!b) = true then pure (ForInStep.done (some false, ())) else pure (ForInStep.yield (none, ()))) Q E s
  | n, _, _, Q, .nil, q, _ => wpAny_pure q
  | n, k :: ks, v :: vs, Q, .cons h1 h2, q, q2 => by
    rw [List.forIn_cons]
    refine wpAny_bind (wpAny_bind (byVal n k v _ h1 fun b => ?_))
    cases b
    · rw [if_pos (by decide)]
      exact wpAny_pure (wpAny_pure q2)
    · rw [if_neg (by decide)]
      exact wpAny_pure (byValAll n ks vs Q h2 q q2)
end
/-- a search among such keys shows nothing -/
theorem unseen {x : Rw} {Q : Bool → Shared → Prop} (hx : Kz s.heap x) (q : Q false s) : ∀ (ys : List Value), (∀ y ∈ ys, ∃ p : Rw, y = .ref p.1 ∧ Kz s.heap p) → wpAny (model P w) A (searchCouldBeSeen (.ref x.1) ys) Q E s := fun ys hy => by
  unfold searchCouldBeSeen
  refine wpAny_bind (wpAny_forIn_list _ (fun left r s' => s' = s ∧ r = (none, ()) ∧ ∀ u ∈ left, ∃ p : Rw, u = .ref p.1 ∧ Kz s.heap p) _ ?_ ?_ _ _ ⟨rfl, rfl, hy⟩)
  · rintro u left r s' ⟨e1, e2, hl⟩
    subst e1 e2
    obtain ⟨p, rfl, hp⟩ := hl u List.mem_cons_self
    have more : ∀ z ∈ left, ∃ p : Rw, z = .ref p.1 ∧ Kz s'.heap p := fun z hz => hl z (List.mem_cons_of_mem _ hz)
    dsimp only
    split
    · exact wpAny_pure ⟨rfl, rfl, more⟩
    · refine wpAny_bind (quiet_v hx.1 hx.2 ?_)
      rw [if_neg (by decide)]
      refine wpAny_bind (quiet_v hp.1 hp.2 ?_)
      rw [if_neg (by decide)]
      refine wpAny_bind (noClass 8 _ _ _ hx.1 hx.2 ?_)
      rw [if_neg (by decide)]
      refine wpAny_bind (noClass 8 _ _ _ hp.1 hp.2 ?_)
      rw [if_neg (by decide)]
      exact wpAny_pure ⟨rfl, rfl, more⟩
  · rintro r s' ⟨e1, e2, _⟩
    subst e1 e2
    exact wpAny_pure q

/-! ### the set -/
structure KSet (w : World) (h : Heap) (a : Addr) (L : List Rw) (es : Array (Int × Value)) (ep : Nat) (t : SetTable) : Prop where
  ob : ∃ o, h.get? a = some o ∧ o.ExactSet ∧ o.data = .set es ep t
  rows : es.toList = rwOf w L
  tab : TabOk t (hsOf w L)
  nd : (L.map (·.2)).Nodup
  is : ∀ p ∈ L, Kz h p
  led : w.params.followText "set-order" = true ∨ t.led = true
  room : L.length * 5 < t.mask * 3
  few : L.length < 64
variable {a : Addr} {L : List Rw} {es : Array (Int × Value)} {ep : Nat} {t : SetTable} {x : Rw}
theorem rows_size {es : Array (Int × Value)} {L : List Rw} (h : es.toList = rwOf w L) : es.size = L.length := by
  have e := congrArg List.length h
  simpa using e
theorem KSet.fits (R : KSet w s.heap a L es ep t) : t.fits es.size = true := by
  have h1 := R.tab.sz
  have h2 := rows_size R.rows
  have h3 := R.room
  simp only [List.length_map] at h1
  unfold SetTable.fits SetTable.fill
  rw [R.tab.dm, Bool.and_eq_true, beq_iff_eq, decide_eq_true_eq]
  show t.place.size = es.size ∧ t.place.size + 0 ≤ t.mask
  omega
theorem row_at {es : Array (Int × Value)} {L : List Rw} (h : es.toList = rwOf w L) {i : Nat} {p : Rw} (hp : L[i]? = some p) : es[i]? = some (p.2.hash w, Value.ref p.1) := by
  rw [← Array.getElem?_toList, h, List.getElem?_map, hp]
  rfl
theorem KSet.odd (R : KSet w s.heap a L es ep t) : ¬ t.gaveWay = true := by
  unfold SetTable.gaveWay
  rw [mask_odd R.tab.mok]
  decide

/-- the c-th step of the way of the hash z -/
def pr (t : SetTable) (z : Int) (c : Nat) : SetTable.Probe := nth t.mask (t.probeStart z) c
theorem pr_j (t : SetTable) (z : Int) (c : Nat) : (pr t z c).j = way t.mask z c := by
  unfold pr
  rw [start_run]
  first | done | rfl
theorem pr_on (t : SetTable) (z : Int) (c q : Nat) : nth t.mask (pr t z c) q = pr t z (c + q) := (nth_add t.mask c _ q).symm
theorem pr_clean (t : SetTable) (z : Int) : ∀ c, (pr t z c).dummy = none
  | 0 => rfl
  | c + 1 => by
    have h := pr_clean t z c
    have e : pr t z (c + 1) = adv t.mask (pr t z c) := nth_succ t.mask _ c
    rw [e]
    unfold adv
    split <;> exact h
/-- all items of the key stand on the way, from the c-th step on, ahead of the K-th -/
def OnWay (t : SetTable) (L : List Rw) (k : NestedKey) (z : Int) (K c : Nat) : Prop := ∀ (i : Nat) (p : Rw), L[i]? = some p → p.2 = k → ∃ b, c ≤ b ∧ b < K ∧ t.place.toList[i]? = some (way t.mask z b)
theorem seek {Q : SetFound → Shared → Prop} {K : Nat} (R : KSet w s.heap a L es ep t) (hx : Kz s.heap x) (hu : A.units + 8 < cLine) (f1 : K < 10 * SetTable.turns t.mask) (f2 : way t.mask (x.2.hash w) K ∉ t.place.toList)
    (f3 : ∀ c, c < K → way t.mask (x.2.hash w) c ∈ t.place.toList) (q1 : x.2 ∈ L.map (·.2) → Q (.there none) s) (q2 : x.2 ∉ L.map (·.2) → Q (.free (way t.mask (x.2.hash w) K) false) s) :
    ∀ (n c : Nat) (from_ : Option SetTable.Probe), from_.getD (t.probeStart (x.2.hash w)) = pr t (x.2.hash w) c → c ≤ K → K - c < n → OnWay t L x.2 (x.2.hash w) K c → wpAny (model P w) A (setSearchFrom a (.ref x.1) (x.2.hash w) true n from_) Q E s := by
  obtain ⟨o, ho, hex, hd⟩ := R.ob
  intro n
  induction n with
  | zero => intro c _ _ _ h; omega
  | succ n ih =>
    intro c from_ hfrom hc hn hw
    have hashed : ∀ (i : Nat) (p : Rw), L[i]? = some p → ((es[i]?.map (·.1)).getD 0) = p.2.hash w := fun i p hp => by rw [row_at R.rows hp]; rfl
    have go := go_spec t R.tab.ris R.tab.dm (fun i => (es[i]?.map (·.1)).getD 0) (x.2.hash w) (10 * SetTable.turns t.mask) (K - c) (pr t (x.2.hash w) c) (pr_clean t _ c) (by omega)
      (fun q hq => by rw [pr_on, pr_j]; exact f3 _ (by omega)) (by rw [pr_on, pr_j, show c + (K - c) = K by omega]; exact f2)
    simp only [pr_on, pr_j] at go
    rw [setSearchFrom_succ]
    refine wpAny_bind (wpAny_setState_of ho hd R.fits ?_)
    dsimp only
    refine wp_if_neg R.odd ?_
    try refine wpAny_bind (wpAny_pure ?_)
    rcases go with ⟨q, i, hq, hi, hh, hno, hgo⟩ | ⟨hno, hgo⟩
    · have e : t.probe (fun i => (es[i]?.map (·.1)).getD 0) (x.2.hash w) (from_.getD (t.probeStart (x.2.hash w))) = some (.candidate (way t.mask (x.2.hash w) (c + q)) i (pr t (x.2.hash w) (c + (q + 1)))) := by
        rw [hfrom]
        exact hgo
      rw [e]
      dsimp only
      obtain ⟨p, hp⟩ : ∃ p, L[i]? = some p := by
        have h1 : i < t.place.toList.length := (List.getElem?_eq_some_iff.mp hi).1
        have h2 := R.tab.sz
        simp only [List.length_map] at h2
        rw [Array.length_toList] at h1
        exact ⟨L[i]'(by omega), List.getElem?_eq_getElem _⟩
      have hpz := R.is p (List.mem_of_getElem? hp)
      have main : wpAny (model P w) A (searchRest a (.ref x.1) (x.2.hash w) true n es t (way t.mask (x.2.hash w) (c + q)) i (pr t (x.2.hash w) (c + (q + 1)))) Q E s := by
        unfold searchRest
        rw [row_at R.rows hp]
        dsimp only
        have hdep : A.units + min p.2.depth x.2.depth < cLine := by
          have := hpz.2
          omega
        refine wpAny_bind (wpAny_holding (eqAt_key p.2 x.2 A s _ _ hpz.1 hx.1 hdep P w E _ ?_))
        refine wpAny_bind (wpAny_setState_of ho hd R.fits ?_)
        dsimp only
        by_cases hk : p.2 = x.2
        · refine wp_if_pos (by rw [hk, NestedKey.beq_self]; rfl) (wpAny_pure (q1 ?_))
          rw [← hk]
          exact List.mem_map_of_mem (List.mem_of_getElem? hp)
        · have hb : NestedKey.beq p.2 x.2 = false := by
            rw [← NestedKey.decide_eq]
            exact decide_eq_false hk
          rw [hb]
          refine wp_if_neg (by decide) ?_
          try refine wpAny_bind (wpAny_pure ?_)
          rw [sameMem]
          dsimp only
          have live := slot_live R.tab.ris hi
          simp only [if_true, live, row_at R.rows hp]
          refine wpAny_bind (wpAny_isSame_ref_self (wpAny_bind (wpAny_pure ?_)))
          simp only [if_true]
          refine wp_if_neg (by decide) (ih (c + (q + 1)) _ rfl (by omega) (by omega) fun i0 p0 h0 hk0 => ?_)
          obtain ⟨b, b1, b2, b3⟩ := hw i0 p0 h0 hk0
          have hz : ((es[i0]?.map (·.1)).getD 0) = x.2.hash w := (hashed i0 p0 h0).trans (congrArg _ hk0)
          refine ⟨b, ?_, b2, b3⟩
          have n1 : ¬ b < c + q := fun z => hno (b - c) i0 (by omega) (by rw [show c + (b - c) = b by omega]; exact b3) hz
          have n2 : b ≠ c + q := fun z => by
            rw [z] at b3
            have l2 := slot_live R.tab.ris b3
            rw [live] at l2
            injection l2 with l2
            rw [← l2, hp] at h0
            exact hk ((congrArg Prod.snd (Option.some.inj h0)).trans hk0)
          omega
      cases hl : t.led with
      | true =>
        refine wp_if_neg (by decide) ?_
        try refine wpAny_bind (wpAny_pure ?_)
        exact main
      | false =>
        refine wp_if_pos (by decide) (wpAny_bind (unseen hx ?_ _ fun y hy => ?_))
        · refine wp_if_neg (by decide) ?_
          try refine wpAny_bind (wpAny_pure ?_)
          exact main
        · obtain ⟨e0, g1, g2⟩ := List.mem_map.mp hy
          have g3 : e0 ∈ es.toList := by
            have : e0 ∈ es ∧ e0.1 = x.2.hash w := by simpa using g1
            simpa using this.1
          rw [R.rows] at g3
          obtain ⟨p2, g4, g5⟩ := List.mem_map.mp g3
          exact ⟨p2, by rw [← g2, ← g5], R.is p2 g4⟩
    · have e : t.probe (fun i => (es[i]?.map (·.1)).getD 0) (x.2.hash w) (from_.getD (t.probeStart (x.2.hash w))) = some (.empty (way t.mask (x.2.hash w) K) none) := by
        rw [hfrom]
        have := hgo
        rw [show c + (K - c) = K by omega] at this
        exact this
      rw [e]
      refine wpAny_pure (q2 fun hm => ?_)
      obtain ⟨p0, h0, hk0⟩ := List.mem_map.mp hm
      obtain ⟨i0, hi0, e0⟩ := List.getElem_of_mem h0
      have h00 : L[i0]? = some p0 := by rw [List.getElem?_eq_getElem hi0, e0]
      obtain ⟨b, b1, b2, b3⟩ := hw i0 p0 h00 hk0
      exact hno (b - c) i0 (by omega) (by rw [show c + (b - c) = b by omega]; exact b3) ((hashed i0 p0 h00).trans (congrArg _ hk0))
/-- as adding asks -/
theorem seek_at {Q : SetFound → Shared → Prop} (R : KSet w s.heap a L es ep t) (hx : Kz s.heap x) (hu : A.units + 8 < cLine) (q1 : x.2 ∈ L.map (·.2) → Q (.there none) s)
    (q2 : ∀ K, x.2 ∉ L.map (·.2) → way t.mask (x.2.hash w) K ∉ t.place.toList → (∀ c, c < K → way t.mask (x.2.hash w) c ∈ t.place.toList) → Q (.free (way t.mask (x.2.hash w) K) false) s) :
    wpAny (model P w) A (setSearch a (.ref x.1) (x.2.hash w) true) Q E s := by
  have hroom := R.room
  obtain ⟨K, g1, g2, g3⟩ := R.tab.first (by simp only [List.length_map]; omega) (x.2.hash w)
  have hlim : 10 * SetTable.turns t.mask ≤ 1420 := by
    unfold SetTable.turns
    rcases R.tab.mok with e | e | e <;> omega
  refine seek R hx hu g1 g2 g3 q1 (fun z => q2 K z g2 g3) 100000 0 none rfl (Nat.zero_le _) (by omega) fun i p hp hk => ?_
  have hl : i < t.place.toList.length := by
    have h1 : i < L.length := (List.getElem?_eq_some_iff.mp hp).1
    have h2 := R.tab.sz
    simp only [List.length_map] at h2
    rw [Array.length_toList]
    omega
  have hj := List.getElem?_eq_getElem hl
  obtain ⟨b, hb, e⟩ := R.tab.before g2 (show (hsOf w L)[i]? = some (x.2.hash w) by rw [List.getElem?_map, hp, ← hk]; rfl) hj
  exact ⟨b, Nat.zero_le _, hb, by rw [hj, e]⟩

/-! ### adding -/
theorem Kz.same {h h' : Heap} {p : Rw} {a : Addr} {o : Obj} {es : Array (Int × Value)} {ep : Nat} {t : SetTable} (hp : Kz h p) (ho : h.get? a = some o) (hd : o.data = .set es ep t) (sb : Heap.SameBut a h h') : Kz h' p :=
  ⟨hp.1.at (fun b u vs n e ed => (sb.2 b fun z => by
    rw [z, ho] at e
    cases e
    rw [hd] at ed
    cases ed).trans e) _ _, hp.2⟩
theorem Kz.keep {h h' : Heap} {p : Rw} (hp : Kz h p) (k : ∀ b o, h.get? b = some o → h'.get? b = some o) : Kz h' p := ⟨hp.1.at (fun b u _ _ e _ => k b u e) _ _, hp.2⟩
/-- rows by an order -/
theorem by_order {es : Array (Int × Value)} {L : List Rw} (hr : es.toList = rwOf w L) {order : Array Nat} (hp : order.toList.Perm (List.range L.length)) :
    ∃ L2, (order.filterMap (es[·]?)).toList = rwOf w L2 ∧ L2.Perm L ∧ hsOf w L2 = order.toList.map fun i => (es.map (·.1)).getD i 0 := by
  have some_of : ∀ is : List Nat, (∀ i ∈ is, i < L.length) → is.filterMap (fun i => es[i]?) = rwOf w (is.filterMap fun i => L[i]?) ∧ hsOf w (is.filterMap fun i => L[i]?) = is.map fun i => (es.map (·.1)).getD i 0 := fun is => by
    induction is with
    | nil => intro _; exact ⟨rfl, rfl⟩
    | cons i is ih =>
      intro hl
      obtain ⟨e1, e2⟩ := ih fun j hj => hl j (List.mem_cons_of_mem _ hj)
      have hi := hl i List.mem_cons_self
      have hL : L[i]? = some (L[i]'hi) := List.getElem?_eq_getElem hi
      have hE := row_at hr hL
      constructor
      · rw [List.filterMap_cons_some hE, List.filterMap_cons_some hL, e1]
        rfl
      · rw [List.filterMap_cons_some hL, List.map_cons]
        show NestedKey.hash w (L[i]'hi).2 :: hsOf w (is.filterMap fun i => L[i]?) = _
        rw [e2]
        congr 1
        simp [Array.getD_eq_getD_getElem?, Array.getElem?_map, hE]
  have inr : ∀ i ∈ order.toList, i < L.length := fun i hi => List.mem_range.mp (hp.mem_iff.mp hi)
  obtain ⟨e1, e2⟩ := some_of order.toList inr
  refine ⟨_, by rw [Array.toList_filterMap]; exact e1, ?_, e2⟩
  refine (hp.filterMap _).trans ?_
  have all : (List.range L.length).filterMap (fun i => L[i]?) = L := by
    apply List.ext_getElem?
    intro j
    have key : ∀ n, n ≤ L.length → (List.range n).filterMap (fun i => L[i]?) = L.take n := fun n => by
      induction n with
      | zero => intro _; rfl
      | succ n ih =>
        intro hn
        rw [List.range_succ, List.filterMap_append, ih (by omega), List.take_succ]
        congr 1
        all_goals simp [show n < L.length by omega]
    rw [key _ (Nat.le_refl _), List.take_length]
  rw [all]
/-- the table laid anew -/
theorem relay {o : Obj} {wanted M : Nat} {Q : Unit → Shared → Prop} (ho : s.heap.get? a = some o) (hex : o.ExactSet) (hd : o.data = .set es ep t) (hr : es.toList = rwOf w L) (z1 : t.place.size = es.size) (z2 : t.dummies = #[]) (z3 : es.size ≤ t.mask)
    (nd : (L.map (·.2)).Nodup) (is : ∀ p ∈ L, Kz s.heap p) (ld : w.params.followText "set-order" = true ∨ t.led = true) (few : L.length < 64) (hw : SetTable.sizeAbove wanted - 1 = M) (hM : MaskOk M) (hw2 : SetTable.sizeAbove wanted ≤ 128) (hn : L.length * 5 < M * 3)
    (q : ∀ h' L' es' ep' t', Heap.SameBut a s.heap h' → KSet w h' a L' es' ep' t' → L'.Perm L → Q () { s with heap := h' }) : wpAny (model P w) A (setRelay a wanted) Q E s := by
  have hz := rows_size hr
  have fit : t.fits es.size = true := by
    unfold SetTable.fits SetTable.fill
    rw [z2, Bool.and_eq_true, beq_iff_eq, decide_eq_true_eq]
    show t.place.size = es.size ∧ t.place.size + 0 ≤ t.mask
    omega
  obtain ⟨t', order, e, hp, T, em, el, _, ed⟩ := relaid_ok t (hs := es.map (·.1)) (wanted := wanted) hw hM (by rw [Array.size_map, hz]; omega)
  rw [Array.size_map, hz] at hp
  obtain ⟨L2, r1, r2, r3⟩ := by_order hr hp
  rw [← r3] at T
  have hs2 : (order.filterMap (es[·]?)).size = es.size := by rw [rows_size r1, r2.length_eq, hz]
  have sb : Heap.SameBut a s.heap (s.heap.update a (Obj.putSet (order.filterMap (es[·]?)) t')) := Heap.SameBut.update ..
  rw [setRelay_eq]
  refine wpAny_bind (wpAny_setState_of ho hd fit ?_)
  dsimp only
  refine wp_if_neg (by rw [sizeLine_eq]; omega) ?_
  try refine wpAny_bind (wpAny_pure ?_)
  rw [e]
  dsimp only
  refine wpAny_bind (wp_if_neg (by rw [hs2]; simp) ?_)
  try refine wpAny_bind (wpAny_pure ?_)
  refine wpAny_pure (wpAny_storeSet_of ho hd (q _ L2 _ (ep + 1) t' sb ⟨⟨_, store_at ho hd, ⟨hex.1, hex.2.1, hex.2.2⟩, rfl⟩, r1, T, (r2.map (·.2)).nodup_iff.mpr nd, fun p hpm => (is p (r2.mem_iff.mp hpm)).same ho hd sb, by rw [el]; exact ld, by rw [r2.length_eq, em]; exact hn, by rw [r2.length_eq]; exact few⟩ r2) (by rw [hs2, hz, sizeLine_eq]; omega))

theorem put_mix {α : Type} (L : List α) (p : Nat) (x : α) : (L.take p ++ x :: L.drop p).Perm (x :: L) := by
  have e : L = L.take p ++ L.drop p := (List.take_append_drop p L).symm
  exact List.perm_middle.trans (.cons x (by rw [← e]))
/-- set.add of a tuple -/
theorem add1 {Q : Bool → Shared → Prop} (R : KSet w s.heap a L es ep t) (hx : Kz s.heap x) (hu : A.units + 8 < cLine) (hfew : x.2 ∉ L.map (·.2) → L.length + 1 < 64)
    (q : ∀ b h' L' es' ep' t', Heap.SameBut a s.heap h' → KSet w h' a L' es' ep' t' → (x.2 ∈ L.map (·.2) → L' = L) → (x.2 ∉ L.map (·.2) → L'.Perm (x :: L)) → Q b { s with heap := h' }) :
    wpAny (model P w) A (setAddHashed a (.ref x.1) (x.2.hash w)) Q E s := by
  obtain ⟨o, ho, hex, hd⟩ := R.ob
  have hz := rows_size R.rows
  unfold setAddHashed
  refine wpAny_holding ?_
  rw [show (100000 : Nat) = 99999 + 1 from rfl, setAddHashedIn_succ]
  refine wpAny_bind (wpAny_setState_of ho hd R.fits ?_)
  dsimp only
  refine wp_if_neg (by simp [byScan, Value.scannable]) ?_
  try refine wpAny_bind (wpAny_pure ?_)
  refine wpAny_bind (seek_at R hx hu (fun hm => wpAny_pure (q false s.heap L es ep t (Heap.SameBut.refl a s.heap) R (fun _ => rfl) fun z => absurd hm z)) fun K hm hK hb => ?_)
  have few := hfew hm
  dsimp only
  refine wpAny_bind (wpAny_setState_of ho hd R.fits ?_)
  dsimp only
  have pf := R.tab.put hK hb
  have hroom := R.room
  generalize hj : way t.mask (x.2.hash w) K = j at pf
  obtain ⟨p1, p2, p3, p4, p5, p6, p7, p8, p9⟩ := pf
  generalize hpt : t.put j = pt at p1 p3 p4 p5 p6 p7 p8 p9
  obtain ⟨t1, n⟩ := pt
  dsimp only at p1 p3 p4 p5 p6 p7 p8 p9 ⊢
  subst p1
  have hin : (SetTable.insertAt es (SetTable.below t.place j) (x.2.hash w, Value.ref x.1)).toList = rwOf w (L.take (SetTable.below t.place j) ++ x :: L.drop (SetTable.below t.place j)) := by
    rw [SetTable.toList_insertAt, R.rows]
    simp only [List.map_append, List.map_cons, List.map_take, List.map_drop]
  have hhs : hsOf w (L.take (SetTable.below t.place j) ++ x :: L.drop (SetTable.below t.place j)) = (hsOf w L).take (SetTable.below t.place j) ++ x.2.hash w :: (hsOf w L).drop (SetTable.below t.place j) := by
    simp only [List.map_append, List.map_cons, List.map_take, List.map_drop]
  rw [← hhs] at p3
  have pm := put_mix L (SetTable.below t.place j) x
  generalize L.take (SetTable.below t.place j) ++ x :: L.drop (SetTable.below t.place j) = L1 at pm hin p3 hhs
  have hlen : L1.length = L.length + 1 := pm.length_eq
  have nd1 : (L1.map (·.2)).Nodup := (pm.map (·.2)).nodup_iff.mpr (by rw [List.map_cons]; exact List.nodup_cons.mpr ⟨hm, R.nd⟩)
  have hz1 := rows_size hin
  generalize SetTable.insertAt es (SetTable.below t.place j) (x.2.hash w, Value.ref x.1) = es1 at hin hz1
  -- whichever mark the table gets
  have go : ∀ tt : SetTable, TabOk tt (hsOf w L1) → tt.mask = t.mask → tt.led = t.led → tt.fill = L.length + 1 → wpAny (model P w) A (do
      storeSet a es1 tt
      if (!false && tt.tooFull) = true then setRelay a (SetTable.grown (es.size + 1))
      return true) Q E s := fun tt T em el ef => by
    refine wpAny_bind (wpAny_storeSet_of ho hd ?_ (by rw [hz1, hlen, sizeLine_eq]; omega))
    have sb : Heap.SameBut a s.heap (s.heap.update a (Obj.putSet es1 tt)) := Heap.SameBut.update ..
    have ho1 := store_at (es' := es1) (t' := tt) ho hd
    generalize s.heap.update a (Obj.putSet es1 tt) = h1 at sb ho1 ⊢
    have is1 : ∀ p ∈ L1, Kz h1 p := fun p hp => by
      rcases List.mem_cons.mp (pm.mem_iff.mp hp) with e | hp
      · rw [e]; exact hx.same ho hd sb
      · exact (R.is p hp).same ho hd sb
    have ld1 : w.params.followText "set-order" = true ∨ tt.led = true := by rw [el]; exact R.led
    have full : tt.tooFull = decide ((L.length + 1) * 5 ≥ tt.mask * 3) := by
      unfold SetTable.tooFull
      rw [ef]
    have sz1 : tt.place.size = es1.size := by
      have := T.sz
      simp only [List.length_map] at this
      rw [this, hz1]
    cases hf : tt.tooFull with
    | true =>
      rw [hf, eq_comm, decide_eq_true_eq, em] at full
      have two : (t.mask = 7 ∧ L.length = 4) ∨ (t.mask = 31 ∧ L.length = 18) := by
        rcases R.tab.mok with e | e | e
        · exact .inl ⟨e, by omega⟩
        · exact .inr ⟨e, by omega⟩
        · omega
      have lay : ∀ M, SetTable.sizeAbove (SetTable.grown (L.length + 1)) - 1 = M → MaskOk M → SetTable.sizeAbove (SetTable.grown (L.length + 1)) ≤ 128 → (L.length + 1) * 5 < M * 3 → wpAny (model P w) A (setRelay a (SetTable.grown (es.size + 1))) (fun _ s' => wpAny (model P w) A (pure true) Q E s') E { s with heap := h1 } := fun M m1 m2 m3 m4 => by
        rw [hz]
        refine relay (s := { s with heap := h1 }) ho1 ⟨hex.1, hex.2.1, hex.2.2⟩ rfl hin sz1 T.dm (by rw [hz1, hlen, em]; omega) nd1 is1 ld1 (by rw [hlen]; exact few) m1 m2 m3 (by rw [hlen]; exact m4) fun h2 L2 es2 ep2 t2 sb2 R2 pm2 => ?_
        exact wpAny_pure (q true h2 L2 es2 ep2 t2 (sb.trans sb2) R2 (fun z => absurd z hm) fun _ => pm2.trans pm)
      first
        | refine wpAny_bind (wp_if_pos (by decide) ?_)
        | refine wp_if_pos (by decide) (wpAny_bind ?_)
      rcases two with ⟨e1, e2⟩ | ⟨e1, e2⟩
      · exact lay 31 (by rw [e2, size_20]) (.inr (.inl rfl)) (by rw [e2, size_20]; decide) (by omega)
      · exact lay 127 (by rw [e2, size_76]) (.inr (.inr rfl)) (by rw [e2, size_76]; decide) (by omega)
    | false =>
      rw [hf, eq_comm, decide_eq_false_iff_not, em] at full
      first
        | refine wpAny_bind (wp_if_neg (by decide) (wpAny_pure ?_))
        | refine wp_if_neg (by decide) ?_
      exact wpAny_pure (q true h1 L1 es1 (ep + 1) tt sb ⟨⟨_, ho1, ⟨hex.1, hex.2.1, hex.2.2⟩, rfl⟩, hin, T, nd1, is1, ld1, by rw [hlen, em]; omega, by rw [hlen]; exact few⟩ (fun z => absurd z hm) fun _ => pm)
  have fill1 : t1.fill = L.length + 1 := by rw [p9, List.length_map]
  have unmark : TabOk { t1 with plain := false } (hsOf w L1) := ⟨p3.ris, p3.dm, p3.sz, p3.mok, p3.bd, p3.reach⟩
  cases hpl : t1.plain with
  | false =>
    simp only [Bool.false_eq_true, if_false]
    first
      | refine wpAny_bind (wpAny_pure ?_)
      | skip
    simp only [if_true]
    exact go t1 p3 p4 p5 fill1
  | true =>
    simp only [if_true]
    refine wpAny_bind (byVal 8 _ _ _ hx.1 fun b => ?_)
    cases b with
    | true =>
      simp only [if_true]
      exact go t1 p3 p4 p5 fill1
    | false =>
      simp only [Bool.false_eq_true, if_false]
      exact go { t1 with plain := false } unmark p4 p5 fill1
end
end Py
end
section
set_option autoImplicit false
set_option linter.all false
set_option maxRecDepth 100000
set_option maxHeartbeats 4000000
/-! PySf: set(list of tuples), sorted of it. -/
namespace Py
open PySem PySem.Spec L2
open Sem (wp)

/-- what has come of the first n items -/
structure Has (ks : List Rw) (n : Nat) (L : List Rw) : Prop where
  sub : ∀ p ∈ L, p ∈ ks.take n
  all : ∀ p ∈ ks.take n, p.2 ∈ L.map (·.2)
theorem Has.sub' {ks L : List Rw} {n : Nat} (g : Has ks n L) : ∀ p ∈ L, p ∈ ks := fun p h => List.mem_of_mem_take (g.sub p h)
theorem Has.next {ks L L' : List Rw} {n : Nat} {x : Rw} (g : Has ks n L) (h : ks[n]? = some x) (h1 : x.2 ∈ L.map (·.2) → L' = L) (h2 : x.2 ∉ L.map (·.2) → L'.Perm (x :: L)) : Has ks (n + 1) L' := by
  have e := take_snoc h
  by_cases c : x.2 ∈ L.map (·.2)
  · obtain rfl := h1 c
    refine ⟨fun p hp => by rw [e]; exact List.mem_append_left _ (g.sub p hp), fun p hp => ?_⟩
    rw [e] at hp
    rcases List.mem_append.mp hp with z | z
    · exact g.all p z
    · rw [List.mem_singleton.mp z]; exact c
  · have pm := h2 c
    refine ⟨fun p hp => ?_, fun p hp => (pm.map (·.2)).mem_iff.mpr ?_⟩
    · rw [e]
      rcases List.mem_cons.mp (pm.mem_iff.mp hp) with z | z
      · rw [z]; exact List.mem_append_right _ (List.mem_singleton.mpr rfl)
      · exact List.mem_append_left _ (g.sub p z)
    · rw [e] at hp
      rw [List.map_cons]
      rcases List.mem_append.mp hp with z | z
      · exact List.mem_cons_of_mem _ (g.all p z)
      · rw [List.mem_singleton.mp z]; exact List.mem_cons_self
section
variable {P : Program} {w : World} {A : Around} {E : Value → Shared → Prop} {s : Shared}
theorem KSet.stay {h h' : Heap} {a : Addr} {L : List Rw} {es : Array (Int × Value)} {ep : Nat} {t : SetTable} (R : KSet w h a L es ep t) (ha : ∀ o, h.get? a = some o → h'.get? a = some o) (hi : ∀ p ∈ L, Kz h' p) : KSet w h' a L es ep t :=
  let ⟨o, h1, h2⟩ := R.ob
  ⟨⟨o, ha o h1, h2⟩, R.rows, R.tab, R.nd, hi, R.led, R.room, R.few⟩
abbrev newT (w : World) : SetTable := .fresh 0 0 (!w.params.followText "set-order")
theorem kset_new {h : Heap} {a : Addr} (ho : h.get? a = some { cls := .type "set", dict := none, data := .set #[] 0 (newT w) }) : KSet w h a [] #[] 0 (newT w) :=
  ⟨⟨_, ho, ⟨rfl, rfl, rfl⟩, rfl⟩, rfl, ⟨List.Pairwise.nil, rfl, rfl, .inl rfl, fun x hx => (nomatch hx), fun i h j hi => by simp at hi⟩, List.nodup_nil, fun p hp => (nomatch hp), by
    show _ ∨ (!w.params.followText "set-order") = true
    cases w.params.followText "set-order" <;> simp, by show 0 * 5 < 7 * 3; decide, by show 0 < 64; decide⟩
/-- fewer than 64 unlike keys -/
def Few (ks : List Rw) : Prop := ∀ L : List Rw, (L.map (·.2)).Nodup → (∀ p ∈ L, p ∈ ks) → L.length < 64
/-- the loop of set(xs) -/
theorem fill_loop {I S : Addr} {fp wr : List Addr} {GG : Array GenState → Array GenState → Prop} {n : Nat} {Pv : Nat → Value → Prop} {St : Nat → Shared → Prop} {R : Result → Shared → Prop} {ks : List Rw} {h0 : Heap}
    (W : WalksS P w A.in1 I fp wr GG n Pv St) (hSf : S ∉ fp) (hn : n = ks.length) (few : Few ks) (hval : ∀ i v, Pv i v → ∃ p, ks[i]? = some p ∧ v = .ref p.1) (hk : ∀ p ∈ ks, Kz h0 p) (hS0 : h0.get? S = none) (hw0 : ∀ b ∈ wr, h0.get? b = none)
    (hu : A.in1.units + 9 < cLine) : ∀ (m i : Nat) (s : Shared), n - i = m → i ≤ n → St i s → (∀ b o, h0.get? b = some o → s.heap.get? b = some o) → (∃ L es ep t, KSet w s.heap S L es ep t ∧ Has ks i L) →
      (∀ s' L es ep t, Moved (S :: wr) GG s s' → KSet w s'.heap S L es ep t → Has ks n L → (∀ b o, h0.get? b = some o → s'.heap.get? b = some o) → R (.ok (.ret .none)) s') → codeAny (model P w) A (.builtin "set.update.loop" ⟨[.ref S, .ref I], []⟩) R s := by
  have hSw : S ∉ wr := fun h => hSf (W.sub _ h)
  have sub : ∀ b ∈ wr, b ∈ S :: wr := fun b hb => List.mem_cons_of_mem _ hb
  have old : ∀ {s s' : Shared}, Moved wr GG s s' → (∀ b o, h0.get? b = some o → s.heap.get? b = some o) → ∀ b o, h0.get? b = some o → s'.heap.get? b = some o := fun hm k b o e => hm.heap b o (fun hb => by rw [hw0 b hb] at e; cases e) (k b o e)
  intro m
  induction m with
  | zero =>
    intro i s hm hi hst hkp ⟨L, es, ep, t, hS, g⟩ q
    obtain rfl : i = n := by omega
    refine codeAny_builtin PyProof.Rows.F.entry_set_update_loop ?_
    rw [Around.under_plainId PyProof.Rows.F.plain_set_update_loop _]
    show wpAny _ A.in1 (pyNext (.ref I) >>= _) _ _ s
    refine wpAny_bind (W.done s _ _ hst fun s' hv => ?_)
    have hkp' := old hv hkp
    show wpAny _ A.in1 (ret Value.none) _ _ s'
    exact wpAny_pure (q s' L es ep t (hv.mono sub) (hS.stay (fun o e => hv.heap S o hSw e) fun p hp => (hk p (g.sub' p hp)).keep hkp') g hkp')
  | succ m ih =>
    intro i s hm hi hst hkp ⟨L, es, ep, t, hS, g⟩ q
    have hlt : i < n := by omega
    refine codeAny_builtin PyProof.Rows.F.entry_set_update_loop ?_
    rw [Around.under_plainId PyProof.Rows.F.plain_set_update_loop _]
    show wpAny _ A.in1 (pyNext (.ref I) >>= _) _ _ s
    refine wpAny_bind (W.item i s _ _ hlt hst fun v s' hP hst' hv => ?_)
    obtain ⟨p, hp, rfl⟩ := hval i v hP
    have hkp' := old hv hkp
    have hS' : KSet w s'.heap S L es ep t := hS.stay (fun o e => hv.heap S o hSw e) fun r hr => (hk r (g.sub' r hr)).keep hkp'
    have hx : Kz s'.heap p := (hk p (List.mem_of_getElem? hp)).keep hkp'
    show wpAny _ A.in1 (holding [Value.ref p.1] (setAdd S (.ref p.1)) >>= _) _ _ s'
    refine wpAny_bind (wpAny_holding ?_)
    unfold setAdd
    have hdp := hx.2
    refine wpAny_holding (wpAny_bind (pyHash_key p.2 _ A.in1 s' _ hx.1 (by omega) ?_))
    refine add1 (s := { s' with toks := s'.toks + p.2.draws }) hS' hx (by omega) (fun c => ?_) fun b h' L' es' ep' t' sb hS2 c1 c2 => ?_
    · have := few (p :: L) (by rw [List.map_cons]; exact List.nodup_cons.mpr ⟨c, hS.nd⟩) fun r hr => by
        rcases List.mem_cons.mp hr with e | hr
        · rw [e]; exact List.mem_of_getElem? hp
        · exact g.sub' r hr
      simpa using this
    · have hkp2 : ∀ b o, h0.get? b = some o → h'.get? b = some o := fun b o e => (sb.2 b fun z => by rw [z, hS0] at e; cases e).trans (hkp' b o e)
      refine wpAny_pure ⟨plainId_quiet PyProof.Rows.F.plain_set_update_loop _, ih (i + 1) _ (by omega) hlt (W.frame _ s' _ _ hst' (Nat.le_add_right _ _) fun b hb o e => ?_) hkp2 ⟨L', es', ep', t', hS2, g.next hp c1 c2⟩ fun s2 L2 es2 ep2 t2 hm2 hS3 g3 hkp3 => ?_⟩
      · rw [sb.2 b fun z => hSf (by rw [← z]; exact hb)]
        exact e
      · refine q s2 L2 es2 ep2 t2 (Moved.trans W.gtrans ((hv.mono sub).then_heap (Nat.le_add_right _ _) fun b o hb e => ?_) hm2) hS3 g3 hkp3
        rw [sb.2 b fun z => hb (by rw [z]; exact List.mem_cons_self)]
        exact e

abbrev oSet (w : World) : Obj := { cls := .type "set", dict := none, data := .set #[] 0 (newT w) }
/-- set(xs) of a list or tuple of such tuples -/
theorem set_call {l : Addr} {items : Array Value} {ks : List Rw} {Q : Value → Shared → Prop} (hh : A.handled = none) (hl : s.heap.IsList l items) (hit : items.toList = ks.map fun p => Value.ref p.1) (hk : ∀ p ∈ ks, Kz s.heap p) (few : Few ks) (hu : A.units + 12 < cLine)
    (q : ∀ (h' : Heap) (tk : Nat) L es ep t, KSet w h' s.heap.objs.size L es ep t → Has ks ks.length L → (∀ b o, s.heap.get? b = some o → h'.get? b = some o) → Q (.ref s.heap.objs.size) { s with heap := h', toks := tk }) : wpAny (model P w) A (call (.type "set") [.ref l]) Q E s := by
  have hz : items.size = ks.length := by
    have e := congrArg List.length hit
    simpa using e
  obtain ⟨c, tl, hmro⟩ := PySem.F.called_set.mro
  have c1 := PySem.F.called_set.made
  have c2 := PySem.F.called_set.sub
  have c3 := PySem.F.called_set.notType
  have c4 := PySem.F.called_set.canCreate
  have c5 := PySem.F.typeCall_set_1 (.ref l)
  have fresh0 : ∀ b, s.heap.objs.size ≤ b → s.heap.get? b = none := fun b hb => by
    cases e : s.heap.get? b with
    | none => rfl
    | some o => exact absurd (Heap.lt_size e) (Nat.not_lt.mpr hb)
  refine wpAny_call (codeAny_of_tree ?_)
  show wpAny _ _ (callAny (.type "set") _) _ _ _
  refine wpAny_pure ⟨Code.quiet_builtin _ (by decide +kernel), codeAny_builtin PySem.F.entry_type_call ?_⟩
  rw [Around.under_plain (weight_type_call_type "set" [.ref l] []) rfl]
  repeat (any_goals (first | assumption | wp_step))
  refine codeAny_mono (code_set_led1 (.ref l) (E := E) (Q₁ := fun obj s1 => obj = .ref s.heap.objs.size ∧ s1 = { s with heap := s.heap.push (oSet w) }) ⟨rfl, rfl⟩) fun r s1 hr => ?_
  cases r with
  | error e => exact hr
  | ok fl =>
    cases fl with
    | ret obj =>
      obtain ⟨rfl, rfl⟩ := hr
      have at0 : (s.heap.push (oSet w)).get? s.heap.objs.size = some (oSet w) := Heap.get?_push_size _ rfl
      have ty0 : Shared.TypeIs { s with heap := s.heap.push (oSet w) } (.ref s.heap.objs.size) "set" := ⟨_, at0, rfl⟩
      have d1 := PySem.F.called_set.init.lookup
      have d2 := PySem.F.called_set.init.bind (.ref s.heap.objs.size)
      repeat (any_goals (first | assumption | wp_step))
      refine codeAny_mono (codeAny_call_builtin (R := wants (fun r s2 => r = .none ∧ ∃ h' tk L es ep t, s2 = { s with heap := h', toks := tk } ∧ KSet w h' s.heap.objs.size L es ep t ∧ Has ks ks.length L ∧ ∀ b o, s.heap.get? b = some o → h'.get? b = some o) E) PySem.F.called_set.init.plain PySem.F.entry_set_init (check_set_init_1 ty0 ?_)) fun r2 s2 hr2 => ?_
      · obtain ⟨⟨oc, od, oda, osl⟩, hol, hcl, nl, hdl⟩ := hl
        simp only at hcl hdl
        subst hcl hdl
        have hol1 : (s.heap.push (oSet w)).get? l = some { cls := .type "list", dict := od, data := .seq items nl, slots := osl } := Heap.get?_push_of_some _ hol
        have hl1 : (s.heap.push (oSet w)).IsList l items := ⟨_, hol1, rfl, nl, rfl⟩
        have e1 := PySem.F.sub_list_set
        have e2 := PySem.F.sub_list_frozenset
        have e3 : (Value.type "list" == Value.type "dict") = false := by decide
        unfold Builtin.«set.__init__» noKeywords Builtin.Frozenset.updateFrom
        generalize hPI : pyIter = PI
        wp_walk
        subst hPI
        have hlS : l < s.heap.objs.size := Heap.lt_size hol
        have z1 : (s.heap.push (oSet w)).objs.size = s.heap.objs.size + 1 := Heap.size_push ..
        have hne : l ≠ (s.heap.push (oSet w)).objs.size := by rw [z1]; exact Nat.ne_of_lt (Nat.lt_succ_of_lt hlS)
        have hout : s.heap.objs.size ∉ [(s.heap.push (oSet w)).objs.size, l] := fun z => by
          rw [z1] at z
          rcases List.mem_cons.mp z with z | z
          · exact absurd z (Nat.ne_of_lt (Nat.lt_succ_self _))
          · exact absurd (List.mem_singleton.mp z) (Nat.ne_of_gt hlS)
        have hh3 : A.in1.in1.in1.handled = none := by simp [hh]
        refine wpAny_pyIter_list hl1 (wpAny_bind (wpAny_runValue ?_))
        refine fill_loop (ks := ks) (h0 := s.heap) ((Walks.list hh3 _ l hne items).toS) hout hz few (fun i v hv => ?_) hk (fresh0 _ (Nat.le_refl _)) (fun b hb => fresh0 b ?_) ?_ (items.size - 0) 0 _ (by omega) (Nat.zero_le _) ⟨⟨_, Heap.get?_push_size _ rfl, rfl, rfl⟩, hl1.push _⟩
          (fun b o e => Heap.get?_push_of_some _ (Heap.get?_push_of_some _ e)) ⟨[], #[], 0, _, kset_new (Heap.get?_push_of_some _ at0), ⟨fun p hp => (nomatch hp), fun p hp => by simp at hp⟩⟩ fun s' L es ep t hm hS g hkp => ?_
        · have e : items.toList[i]? = some v := by rw [Array.getElem?_toList]; exact hv
          rw [hit, List.getElem?_map] at e
          cases hq : ks[i]? with
          | none => rw [hq] at e; cases e
          | some p => rw [hq] at e; exact ⟨p, rfl, (Option.some.inj e).symm⟩
        · rw [List.mem_singleton.mp hb, z1]
          exact Nat.le_succ _
        · show A.units + 1 + 1 + 1 + 9 < cLine
          omega
        · obtain ⟨h', g2, d', tk', os'⟩ := s'
          obtain rfl : g2 = s.gens := hm.gens
          obtain rfl : d' = s.drawn := hm.drawn
          obtain rfl : os' = s.os := hm.os
          show wpAny _ _ _ _ _ _
          refine wpAny_pure ?_
          show wpAny _ _ (ret Value.none) _ _ _
          rw [hz] at g
          exact wpAny_pure ⟨rfl, h', tk', L, es, ep, t, rfl, hS, g, hkp⟩
      · cases r2 with
        | error e => exact hr2
        | ok fl2 =>
          cases fl2 with
          | ret r =>
            obtain ⟨rfl, h', tk, L, es, ep, t, rfl, hS, g, hkp⟩ := hr2
            repeat (any_goals (first | assumption | wp_step))
            exact q _ _ _ _ _ _ hS g hkp
          | _ => exact hr2.elim
    | _ => exact hr.elim
end
end Py
end
section
set_option autoImplicit false
set_option linter.all false
set_option maxRecDepth 100000
set_option maxHeartbeats 2000000
/-! PySg: sorted(set(list of tuples)). -/
namespace Py
open PySem PySem.Spec L2
open Sem (wp)

/-! ### the order of alike data is strict -/
mutual
theorem alike_eq : ∀ x y : D, D.alike x y = true → D.eqv x y = true → x = y
  | .bl a, y, h, e => by
    cases y <;> first | (cases h; done) | skip
    simp only [D.eqv, beq_iff_eq] at e
    rw [e]
  | .int a, y, h, e => by
    cases y <;> first | (cases h; done) | skip
    simp only [D.eqv, beq_iff_eq] at e
    rw [e]
  | .str a, y, h, e => by
    cases y <;> first | (cases h; done) | skip
    simp only [D.eqv, beq_iff_eq] at e
    rw [e]
  | .tup xs, y, h, e => by
    cases y <;> first | (cases h; done) | skip
    simp only [D.eqv] at e
    rw [alike_eqs xs _ (by simpa [D.alike] using h) e]
  | .lst xs, y, h, e => by
    cases y <;> first | (cases h; done) | skip
    simp only [D.eqv] at e
    rw [alike_eqs xs _ (by simpa [D.alike] using h) e]
  | .non, y, h, e => by cases y <;> cases h
  | .dct _, y, h, e => by cases y <;> cases h
  | .fn _, y, h, e => by cases y <;> cases h
  | .exc _, y, h, e => by cases y <;> cases h
theorem alike_eqs : ∀ xs ys : List D, D.alikeAll xs ys = true → D.eqvAll xs ys = true → xs = ys
  | [], [], _, _ => rfl
  | [], _ :: _, _, e => by simp [D.eqvAll] at e
  | _ :: _, [], _, e => by simp [D.eqvAll] at e
  | x :: xs, y :: ys, h, e => by
    simp only [D.alikeAll, D.eqvAll, Bool.and_eq_true] at h e
    rw [alike_eq x y h.1 e.1, alike_eqs xs ys h.2 e.2]
end
mutual
theorem alike_refl : ∀ x : D, D.alike x x = true → D.eqv x x = true
  | .bl _, _ => by simp [D.eqv]
  | .int _, _ => by simp [D.eqv]
  | .str _, _ => by simp [D.eqv]
  | .tup xs, h => by
    simp only [D.eqv]
    exact alike_refls xs (by simpa [D.alike] using h)
  | .lst xs, h => by
    simp only [D.eqv]
    exact alike_refls xs (by simpa [D.alike] using h)
  | .non, h => by cases h
  | .dct _, h => by cases h
  | .fn _, h => by cases h
  | .exc _, h => by cases h
theorem alike_refls : ∀ xs : List D, D.alikeAll xs xs = true → D.eqvAll xs xs = true
  | [], _ => rfl
  | x :: xs, h => by
    simp only [D.alikeAll, Bool.and_eq_true] at h
    simp only [D.eqvAll, alike_refl x h.1, alike_refls xs h.2, Bool.and_self]
end
theorem ltS_tri : ∀ x y : List Nat, D.ltS x y = false → D.ltS y x = false → x = y
  | [], [], _, _ => rfl
  | [], _ :: _, h, _ => by simp [D.ltS] at h
  | _ :: _, [], _, h => by simp [D.ltS] at h
  | a :: x, b :: y, h1, h2 => by
    unfold D.ltS at h1 h2
    by_cases e : a = b
    · subst e
      rw [if_pos rfl] at h1 h2
      rw [ltS_tri x y h1 h2]
    · rw [if_neg e] at h1
      rw [if_neg fun z => e z.symm] at h2
      simp only [decide_eq_false_iff_not] at h1 h2
      omega
mutual
theorem tri : ∀ x y : D, D.alike x y = true → D.lt x y = false → D.lt y x = false → x = y
  | .bl a, y, h, e1, e2 => by
    cases y <;> first | (cases h; done) | skip
    rename_i b
    cases a <;> cases b <;> first | rfl | (simp [D.lt] at e1 e2)
  | .int a, y, h, e1, e2 => by
    cases y <;> first | (cases h; done) | skip
    simp only [D.lt, decide_eq_false_iff_not] at e1 e2
    congr 1
    omega
  | .str a, y, h, e1, e2 => by
    cases y <;> first | (cases h; done) | skip
    simp only [D.lt] at e1 e2
    rw [ltS_tri _ _ e1 e2]
  | .tup xs, y, h, e1, e2 => by
    cases y <;> first | (cases h; done) | skip
    simp only [D.lt] at e1 e2
    rw [tris xs _ (by simpa [D.alike] using h) e1 e2]
  | .lst xs, y, h, e1, e2 => by
    cases y <;> first | (cases h; done) | skip
    simp only [D.lt] at e1 e2
    rw [tris xs _ (by simpa [D.alike] using h) e1 e2]
  | .non, y, h, _, _ => by cases y <;> cases h
  | .dct _, y, h, _, _ => by cases y <;> cases h
  | .fn _, y, h, _, _ => by cases y <;> cases h
  | .exc _, y, h, _, _ => by cases y <;> cases h
theorem tris : ∀ xs ys : List D, D.alikeAll xs ys = true → D.ltAll xs ys = false → D.ltAll ys xs = false → xs = ys
  | [], [], _, _, _ => rfl
  | [], _ :: _, _, e, _ => by simp [D.ltAll] at e
  | _ :: _, [], _, _, e => by simp [D.ltAll] at e
  | x :: xs, y :: ys, h, e1, e2 => by
    simp only [D.alikeAll, Bool.and_eq_true] at h
    have h2 : D.alike y x = true := by rw [alike_symm]; exact h.1
    unfold D.ltAll at e1 e2
    by_cases c : D.eqv x y = true
    · have exy := alike_eq x y h.1 c
      subst exy
      rw [if_pos c] at e1 e2
      rw [tris xs ys h.2 e1 e2]
    · rw [if_neg c] at e1
      have out : x = y → False := fun e => by
        subst e
        exact c (alike_refl x h.1)
      by_cases c2 : D.eqv y x = true
      · exact absurd (alike_eq y x h2 c2).symm out
      · rw [if_neg c2] at e2
        exact absurd (tri x y h.1 e1 e2) out
end
/-- sorted, whatever the order ahead -/
theorem sortD_perm {xs ys : List D} (h : alikes xs = true) (p : xs.Perm ys) : sortD xs = sortD ys := by
  have h' : alikes ys = true := by
    unfold alikes at h ⊢
    rw [List.all_eq_true] at h ⊢
    intro y hy
    have := h y (p.mem_iff.mpr hy)
    simp only [Bool.and_eq_true, List.all_eq_true] at this ⊢
    exact ⟨this.1, fun z hz => this.2 z (p.mem_iff.mpr hz)⟩
  rw [← le_data h, ← le_data h']
  have T := PySem.W.sortLe_total (PyProof.Rows.listOrd PyProof.Rows.itemOrd) false fun b => PySem.W.keyToks (toP b)
  refine List.Perm.eq_of_pairwise (le := fun a b => PySem.W.dataLe false toP a b = true) (fun a b ha hb h1 h2 => ?_) (PySem.W.sort_pairwise T xs) (PySem.W.sort_pairwise T ys) (((List.mergeSort_perm _ _).trans p).trans (List.mergeSort_perm _ _).symm)
  have ha' : a ∈ xs := (List.mergeSort_perm _ _).mem_iff.mp ha
  have hb' : b ∈ xs := p.mem_iff.mpr ((List.mergeSort_perm _ _).mem_iff.mp hb)
  obtain ⟨k1, k2⟩ := alikes_at h ha' hb'
  obtain ⟨k3, k4⟩ := alikes_at h hb' ha'
  rw [PySem.W.dataLe_eq] at h1 h2
  have h1' : PySem.W.dataLt (toP b) (toP a) = false := by simpa using h1
  have h2' : PySem.W.dataLt (toP a) (toP b) = false := by simpa using h2
  rw [toP_lt b a (ok_plain k3) (ok_plain k1) k4] at h1'
  rw [toP_lt a b (ok_plain k1) (ok_plain k3) k2] at h2'
  exact tri a b k2 h2' h1'
theorem memb_iff {xs : List D} {x : D} (h : ∀ y ∈ xs, D.alike y x = true) : memb x xs = true ↔ x ∈ xs := by
  induction xs with
  | nil => simp [memb]
  | cons y r ih =>
    have h1 := h y List.mem_cons_self
    simp only [memb, Bool.or_eq_true, List.mem_cons, ih fun z hz => h z (List.mem_cons_of_mem _ hz)]
    refine or_congr ⟨fun e => (alike_eq y x h1 e).symm, fun e => ?_⟩ Iff.rfl
    subst e
    exact alike_refl _ h1
theorem dedup_spec : ∀ (xs seen : List D), (∀ x ∈ seen ++ xs, ∀ y ∈ seen ++ xs, D.alike x y = true) → seen.Nodup → (dedup seen xs).Nodup ∧ ∀ x, x ∈ dedup seen xs ↔ x ∈ seen ∨ x ∈ xs
  | [], seen, _, n => ⟨n, fun x => by simp [dedup]⟩
  | x :: xs, seen, h, n => by
    have hm : memb x seen = true ↔ x ∈ seen := memb_iff fun y hy => h y (by simp [hy]) x (by simp)
    unfold dedup
    by_cases c : memb x seen = true
    · rw [if_pos c]
      obtain ⟨a, b⟩ := dedup_spec xs seen (fun y hy z hz => h y (by simp at hy ⊢; rcases hy with e | e <;> simp [e]) z (by simp at hz ⊢; rcases hz with e | e <;> simp [e])) n
      refine ⟨a, fun y => ?_⟩
      rw [b y, List.mem_cons]
      have hx := hm.mp c
      constructor
      · rintro (e | e)
        · exact .inl e
        · exact .inr (.inr e)
      · rintro (e | e | e)
        · exact .inl e
        · rw [e]; exact .inl hx
        · exact .inr e
    · rw [if_neg c]
      have hx : x ∉ seen := fun z => c (hm.mpr z)
      obtain ⟨a, b⟩ := dedup_spec xs (seen ++ [x]) (fun y hy z hz => h y (by simpa using hy) z (by simpa using hz)) (List.nodup_append.mpr ⟨n, by simp, fun y hy z hz => by
        rw [List.mem_singleton.mp hz]
        exact fun e => hx (e ▸ hy)⟩)
      refine ⟨a, fun y => ?_⟩
      simp only [b y, List.mem_append, List.mem_cons, List.not_mem_nil, or_false, or_assoc]

/-! ### the set in the layer -/
def SetHere (w : World) (h : Heap) (a : Addr) (L : List Rw) : Prop := ∃ es ep t, (∃ o, h.get? a = some o ∧ o.ExactSet ∧ o.data = .set es ep t) ∧ es.toList = rwOf w L ∧ TabOk t (hsOf w L) ∧ (L.map (·.2)).Nodup ∧ (w.params.followText "set-order" = true ∨ t.led = true) ∧ L.length * 5 < t.mask * 3 ∧ L.length < 64
def setO (w : World) (a : Addr) (L : List Rw) : HO := .ext fun h => SetHere w h a L
section
variable {G : Gx} {X : Cx} {pins : List (Addr × Obj)} {σ : L2.St} {H Hf : Hp} {s : Shared} {A : Addr → Bool} {fr : Bool}
/-- the row is this datum -/
def IsD (G : Gx) (Hf : Hp) (ds : List D) (p : Rw) (d : D) : Prop := d ∈ ds ∧ nk d = p.2 ∧ RepV G Hf d (.ref p.1)
/-- the rows of a list of tuples -/
theorem rows_of (gk : GOk G X) (I : Inv X pins σ H s) (hs : Same Hf H) : ∀ {ds : List D} {vs : List V} {its : List Value}, RepAll G Hf ds vs → Vals vs its → ds.all isTup1 = true → ds.all D.hkey = true → ∃ ks : List Rw, its = ks.map (fun p => Value.ref p.1) ∧ PySem.W.EachIs (fun p d => nk d = p.2 ∧ RepV G Hf d (.ref p.1)) ks ds ∧ ∀ p ∈ ks, Kz s.heap p
  | [], _, _, r, rv, _, _ => by
    cases r
    cases rv
    exact ⟨[], rfl, .nil, fun p hp => nomatch hp⟩
  | d :: ds, _, _, r, rv, h1, h2 => by
    cases r with
    | cons r1 r2 =>
      cases rv with
      | cons v1 v2 =>
        simp only [List.all_cons, Bool.and_eq_true] at h1 h2
        obtain ⟨ks, e1, e2, e3⟩ := rows_of gk I hs r2 v2 h1.2 h2.2
        have ni := nested_of gk I d _ _ (r1.mono hs) (hkey_key h2.1) v1
        cases d <;> first | (cases h1.1; done) | skip
        rename_i xs
        cases r1 with
        | tup q ra =>
          rename_i a vs2
          cases v1
          refine ⟨(a, nk (.tup xs)) :: ks, by rw [e1]; rfl, .cons ⟨rfl, .tup q ra⟩ e2, fun p hp => ?_⟩
          rcases List.mem_cons.mp hp with e | hp
          · rw [e]
            exact ⟨ni, by rw [nk_depth _ (hkey_key h2.1)]; exact hkey_dep h2.1⟩
          · exact e3 p hp
/-- what set(xs) leaves -/
structure SetRes (G : Gx) (Hf : Hp) (ds : List D) (L : List Rw) : Prop where
  sub : ∀ p ∈ L, ∃ d, IsD G Hf ds p d
  all : ∀ d ∈ ds, nk d ∈ L.map (·.2)
  nd : (L.map (·.2)).Nodup
theorem each_find {α β : Type} {R : α → β → Prop} : ∀ {as : List α} {bs : List β}, PySem.W.EachIs R as bs → (∀ a ∈ as, ∃ b ∈ bs, R a b) ∧ ∀ b ∈ bs, ∃ a ∈ as, R a b
  | _, _, .nil => ⟨fun _ h => (nomatch h), fun _ h => (nomatch h)⟩
  | _, _, .cons h t => by
    obtain ⟨g1, g2⟩ := each_find t
    refine ⟨fun x hx => ?_, fun x hx => ?_⟩
    · rcases List.mem_cons.mp hx with e | hx
      · rw [e]; exact ⟨_, List.mem_cons_self, h⟩
      · obtain ⟨b, h1, h2⟩ := g1 x hx
        exact ⟨b, List.mem_cons_of_mem _ h1, h2⟩
    · rcases List.mem_cons.mp hx with e | hx
      · rw [e]; exact ⟨_, List.mem_cons_self, h⟩
      · obtain ⟨b, h1, h2⟩ := g2 x hx
        exact ⟨b, List.mem_cons_of_mem _ h1, h2⟩
theorem alikes_of_sortable {ds : List D} (h : sortable ds = true) : alikes ds = true := by
  unfold sortable at h
  exact (Bool.and_eq_true_iff.mp h).1
theorem nk_alike {x y : D} (hx : D.key x = true) (hy : D.key y = true) (h : D.alike x y = true) (e : nk x = nk y) : x = y := alike_eq x y h ((eqv_iff hx hy).mpr e)
theorem nodup_len {α : Type} : ∀ (l m : List α), l.Nodup → (∀ x ∈ l, x ∈ m) → l.length ≤ m.length
  | [], _, _, _ => Nat.zero_le _
  | x :: l, m, n, h => by
    obtain ⟨a, b, rfl⟩ := List.append_of_mem (h x List.mem_cons_self)
    rw [List.nodup_cons] at n
    have := nodup_len l (a ++ b) n.2 fun y hy => by
      have hy' := h y (List.mem_cons_of_mem _ hy)
      simp only [List.mem_append, List.mem_cons] at hy' ⊢
      rcases hy' with e | e | e
      · exact .inl e
      · exact absurd (e ▸ hy) n.1
      · exact .inr e
    simp only [List.length_append, List.length_cons] at this ⊢
    omega
theorem cr_setof (gk : GOk G X) (hc : X.calm = true) (hu : X.A.units + 70 < cLine) : CallR X (.type "set") (fun xs H Q => ∃ x ds, xs = [x] ∧ RepT G A H (.lst ds) x ∧ sortable ds = true ∧ ds.all D.hkey = true ∧ ds.all isTup1 = true ∧ (dedup [] ds).length < 64 ∧ ∀ a L, H a = none → SetRes G (Hide H A) ds L → Q (.ref a) (upd H a (setO X.w a L))) := by
  intro pins s σ H xs us Q I rs ⟨x, ds, e, hd, c1, c2, c3, c4, q⟩
  subst e
  obtain ⟨l, vs, rfl, s1, r1⟩ := hd.lst
  rw [← gk.K] at s1
  obtain ⟨u, rfl, ru⟩ := vals1 rs
  cases ru
  obtain ⟨z, its, n, rv, hlen, ho⟩ := lst_obj I s1
  obtain ⟨ks, e1, e2, e3⟩ := rows_of gk I Hide.le r1 rv c3 c2
  have hal := alikes_of_sortable c1
  have hkey : ∀ d ∈ ds, D.key d = true := fun d hd => hkey_key (List.all_eq_true.mp c2 d hd)
  obtain ⟨f1, f2⟩ := each_find e2
  have few : Few ks := fun L hn hs => by
    -- the data of the rows
    have key : ∀ L : List Rw, (L.map (·.2)).Nodup → (∀ p ∈ L, p ∈ ks) → ∃ es : List D, es.length = L.length ∧ es.map nk = L.map (·.2) ∧ ∀ d ∈ es, d ∈ ds := fun L => by
      induction L with
      | nil => intro _ _; exact ⟨[], rfl, rfl, fun _ h => nomatch h⟩
      | cons p L ih =>
        intro hn hs
        rw [List.map_cons, List.nodup_cons] at hn
        obtain ⟨es, g1, g2, g3⟩ := ih hn.2 fun r hr => hs r (List.mem_cons_of_mem _ hr)
        obtain ⟨d, k1, k2, _⟩ := f1 p (hs p List.mem_cons_self)
        exact ⟨d :: es, by simp [g1], by simp [g2, k2], fun y hy => by
          rcases List.mem_cons.mp hy with e | hy
          · rw [e]; exact k1
          · exact g3 y hy⟩
    obtain ⟨es, g1, g2, g3⟩ := key L hn hs
    have hne : es.Nodup := by
      rw [← g2] at hn
      exact List.Pairwise.of_map nk (fun _ _ h e => h (congrArg nk e)) hn
    obtain ⟨_, b⟩ := dedup_spec ds [] (fun x hx y hy => (alikes_at hal (by simpa using hx) (by simpa using hy)).2) List.nodup_nil
    have := nodup_len es (dedup [] ds) hne fun y hy => (b y).mpr (.inr (g3 y hy))
    omega
  refine set_call (A := X.A) (ks := ks) (I.ok.hd hc) ⟨_, ho, rfl, n, rfl⟩ (by simpa using e1) e3 few (by omega) fun h' tk L es ep t K g k => ?_
  have hf : H s.heap.objs.size = none := I.fresh
  have g' : Has ks ks.length L := g
  have new : SetHere X.w h' s.heap.objs.size L := ⟨es, ep, t, K.ob, K.rows, K.tab, K.nd, K.led, K.room, K.few⟩
  refine ⟨.ref s.heap.objs.size, upd H s.heap.objs.size (setO X.w s.heap.objs.size L), I.laid (t' := tk) k (Nat.le_refl _) ⟨new, ?_, fun g1 g2 ⟨es2, ep2, t2, ⟨o2, y1, y2⟩, y3⟩ kp => ⟨es2, ep2, t2, ⟨o2, kp o2 y1, y2⟩, y3⟩⟩, rfl, q _ L hf ⟨fun p hp => ?_, fun d hd => ?_, K.nd⟩⟩
  · obtain ⟨o2, y1, _⟩ := K.ob
    exact ⟨o2, y1⟩
  · obtain ⟨d, k1, k2, k3⟩ := f1 p (g'.sub' p hp)
    exact ⟨d, k1, k2, k3⟩
  · obtain ⟨p, k1, k2, _⟩ := f2 d hd
    rw [k2]
    exact g'.all p (by rw [List.take_length]; exact k1)

theorem perm_map_inv {α β : Type} (f : α → β) : ∀ {ys xs : List β}, xs.Perm ys → ∀ L : List α, ys = L.map f → ∃ L' : List α, xs = L'.map f ∧ L'.Perm L := fun {ys xs} p => by
  induction p with
  | nil => intro L e; exact ⟨L, e, .refl _⟩
  | cons x _ ih =>
    intro L e
    cases L with
    | nil => cases e
    | cons y L =>
      rw [List.map_cons, List.cons.injEq] at e
      obtain ⟨L', g1, g2⟩ := ih L e.2
      exact ⟨y :: L', by rw [List.map_cons, e.1, g1], g2.cons y⟩
  | swap x y l =>
    intro L e
    match L, e with
    | a :: b :: L, e =>
      simp only [List.map_cons, List.cons.injEq] at e
      exact ⟨b :: a :: L, by simp [e.1, e.2.1, e.2.2], .swap a b L⟩
  | trans _ _ ih1 ih2 =>
    intro L e
    obtain ⟨L1, g1, g2⟩ := ih2 L e
    obtain ⟨L2, k1, k2⟩ := ih1 L1 g1
    exact ⟨L2, k1, k2.trans g2⟩
theorem cr_sortset (gk : GOk G X) (hc : X.calm = true) (hu : X.A.units + 70 < cLine) : CallR X (.builtin "sorted") (fun xs H Q => ∃ a L ds, xs = [.ref a] ∧ H a = some (setO X.w a L) ∧ Prot A H ∧ sortable ds = true ∧ ds.all D.hkey = true ∧ (dedup [] ds).length < 64 ∧ SetRes G (Hide H A) ds L ∧ Want G A H true (.lst (sortD (dedup [] ds))) Q) := by
  intro pins s σ H xs us Q I rs ⟨a, L, ds, e, hs, pr, c1, c2, c4, SR, q⟩
  subst e
  obtain ⟨u, rfl, ru⟩ := vals1 rs
  cases ru
  obtain ⟨⟨es, ep, t, ⟨o, h1, h2, h3⟩, r1, r2, r3, r4, r5, r6⟩, _⟩ := (show ObjOk X.prog X.w H s.heap a (setO X.w a L) from I.hok a _ hs)
  have hz := rows_size r1
  have hal := alikes_of_sortable c1
  have hkey : ∀ d ∈ ds, D.key d = true := fun d hd => hkey_key (List.all_eq_true.mp c2 d hd)
  obtain ⟨dn, dm⟩ := dedup_spec ds [] (fun x hx y hy => (alikes_at hal (by simpa using hx) (by simpa using hy)).2) List.nodup_nil
  have fit : t.fits es.size = true := by
    have k1 := r2.sz
    simp only [List.length_map] at k1
    unfold SetTable.fits SetTable.fill
    rw [r2.dm, Bool.and_eq_true, beq_iff_eq, decide_eq_true_eq]
    show t.place.size = es.size ∧ t.place.size + 0 ≤ t.mask
    omega
  refine sorted_items (out := sortD (dedup [] ds)) gk hu (fun R hR => collect_set (A := X.A.in1) (I.ok.hd hc) ⟨o, h1, h2.1, h3⟩ fit (by unfold scanBound; omega) r2.ris r4 fun s1 acc k1 _ g1 o1 pm => ?_) fun p' us hp hr => q _ _ (same_upd hp) (mk_lst pr hp hr)
  have I1 : Inv X pins σ H s1 := I.call' (ch := []) o1 (Un.kept k1) (I.hok.kept k1) (by rw [g1]; exact I.bare) (fun _ z => (nomatch z))
  have e2 : es.toList.map (·.2) = L.map fun p => Value.ref p.1 := by
    rw [r1, List.map_map]
    rfl
  rw [e2] at pm
  obtain ⟨L', f1, f2⟩ := perm_map_inv (fun p : Rw => Value.ref p.1) pm L rfl
  -- the data, row by row
  have key : ∀ M : List Rw, (∀ p ∈ M, p ∈ L) → ∃ (xs : List D) (vs : List V), xs.map nk = M.map (·.2) ∧ (∀ d ∈ xs, d ∈ ds) ∧ RepAll G (Hide H A) xs vs ∧ Vals vs (M.map fun p => Value.ref p.1) := fun M => by
    induction M with
    | nil => intro _; exact ⟨[], [], rfl, fun _ h => (nomatch h), .nil, .nil⟩
    | cons p M ih =>
      intro hM
      obtain ⟨xs, vs, k1, k2, k3, k4⟩ := ih fun r hr => hM r (List.mem_cons_of_mem _ hr)
      obtain ⟨d, m1, m2, m3⟩ := SR.sub p (hM p List.mem_cons_self)
      refine ⟨d :: xs, .ref p.1 :: vs, by simp [k1, m2], fun y hy => ?_, .cons m3 k3, .cons rfl k4⟩
      rcases List.mem_cons.mp hy with e | hy
      · rw [e]; exact m1
      · exact k2 y hy
  obtain ⟨xs, vs, k1, k2, k3, k4⟩ := key L' fun p hp => f2.mem_iff.mp hp
  have nx : xs.Nodup := by
    have : (xs.map nk).Nodup := by
      rw [k1]
      exact (f2.map (·.2)).nodup_iff.mpr SR.nd
    exact List.Pairwise.of_map nk (fun _ _ h e => h (congrArg nk e)) this
  have pd : xs.Perm (dedup [] ds) := (List.perm_ext_iff_of_nodup nx dn).mpr fun y => by
    rw [dm y]
    simp only [List.not_mem_nil, false_or]
    refine ⟨k2 y, fun hy => ?_⟩
    have h1 := (f2.map (·.2)).mem_iff.mpr (SR.all y hy)
    rw [← k1] at h1
    obtain ⟨z, g1, g2⟩ := List.mem_map.mp h1
    have := nk_alike (hkey z (k2 z g1)) (hkey y hy) (alikes_at hal (k2 z g1) hy).2 g2
    rw [← this]
    exact g1
  have sx : ∀ z ∈ xs, z ∈ ds := k2
  have sortx : sortable xs = true := by
    unfold sortable alikes at c1 ⊢
    simp only [Bool.and_eq_true, Bool.or_eq_true, List.all_eq_true] at c1 ⊢
    exact ⟨fun x hx => ⟨(c1.1 x (sx x hx)).1, fun y hy => (c1.1 x (sx x hx)).2 y (sx y hy)⟩, c1.2.imp (fun h x hx => h x (sx x hx)) fun h x hx => h x (sx x hx)⟩
  refine hR s1 acc vs xs I1 sortx ?_ (sortD_perm (alikes_of_sortable sortx) pd) k3 (by rw [f1]; exact k4)
  rw [pd.length_eq]
  exact Nat.le_trans (Nat.le_of_lt c4) (by decide +kernel)
/-- sorted(set(xs)) -/
theorem sa_sortset {Ex : XS} {a : Expr} {fa : Env → Out D} {p1 p2 pos pos2 : Pos} (gk : GOk G X) (hc : X.calm = true) (hu : X.A.units + 70 < cLine) (hg : Gl X "sorted") (hm : X.mg "sorted" = none) (hg2 : Gl X "set") (hm2 : X.mg "set" = none) (ha : ST G Ex X a fa) (hs : starEach [a] X.env = (false, eval a X.env) :: starEach [] X.env) :
    SA G Ex X true (.Call (.Name "sorted" p1) [.Call (.Name "set" p2) [a] [] pos2] [] pos) (f1 (bi1 .sortset) fa) := fun δ A => by
  refine pImp (pe_callB (cr_sortset (A := A) gk hc hu) hg hm PyProof.Rows.boot_sorted (pa_cons (pe_callTy (cr_setof (A := A) gk hc hu) hg2 hm2 (by decide +kernel) (pa_cons (ha δ A) pa_nil hs) (by decide) (by decide) hs rfl) pa_nil rfl) (by decide) (by decide) rfl rfl) fun σ H Q ⟨ok, o⟩ => ⟨ok, OutE.bnd o fun d v H1 _ m1 s1 o1 => ?_⟩
  obtain ⟨r, h1, h2⟩ := o1.val (nox_bi1 .sortset d)
  cases d <;> simp only [bi1] at h1 <;> first | cases h1 | skip
  rename_i ds _
  obtain ⟨c, rfl⟩ := chk_val h1
  simp only [Bool.and_eq_true, decide_eq_true_eq] at c
  refine ⟨v, ds, rfl, m1, c.1.1.1, c.1.1.2, c.1.2, c.2, fun a' L hn SR => ?_⟩
  have s2 : Same H1 (upd H1 a' (setO X.w a' L)) := same_upd hn
  exact ⟨a', L, ds, rfl, upd_same, ((ok.mono s1).mono s2).prot, c.1.1.1, c.1.1.2, c.2, ⟨fun p hp => let ⟨d, k1, k2, k3⟩ := SR.sub p hp; ⟨d, k1, k2, k3.mono (Hide.mono s2)⟩, SR.all, SR.nd⟩, Want.after h2 (s1.trans s2) (s1.trans s2)⟩
end
end Py
end
section
set_option autoImplicit false
set_option linter.all false
set_option maxRecDepth 100000
set_option maxHeartbeats 2000000
/-! PyQ6: a call of one of several defs; list.extend and list.pop. -/
namespace Py
open PySem PySem.Spec L2
open Sem (wp)

section
variable {fr : Bool} {G : Gx} {Ex : XS} {X : Cx} {A : Addr → Bool} {H : Hp} {Q : VK} {e a b : Expr} {es : List Expr} {pos pos' p apos npos : Pos} {fe : Env → Out D} {fs : Env → Out (List D)} {fb : Env → Bool} {x : Str} {i : Nat}
/-- [f, g][..](..) -/
def fCallv (F : Nm → List D → Out D) (fe : Env → Out D) (fs : Env → Out (List D)) (fb : Env → Bool) : Env → Out D := fun δ => do
  let g ← fe δ
  let f ← fnName g
  let xs ← fs δ
  let r ← F f xs
  immIf (fb δ) r
theorem sa_callv {F : Nm → List D → Out D} {W : WX} {CX : CXT} (hF : ∀ nm f, G.fa nm = some f → ∃ k fd ps, FnOk X.prog X.w X.K X.mg X.base CX k f fd ps (spF G F nm) ∧ Room k X.A ∧ PySem.W.keepIn X.K (.ref f) = true ∧ Binds X.K fd ps []) (hx : ∀ σ, PassesAt CX X σ (WE W σ))
    (he : ST G (exOf G W) X (.Subscript a b p) fe) (ha : PAb G (exOf G W) X (e :: es) fs fb) (hs : starEach (e :: es) X.env = (false, eval e X.env) :: starEach es X.env) (hpl : (backTo pos (starEach es X.env)).any (·.1) = false) :
    SA G (exOf G W) X false (.Call (.Subscript a b p) (e :: es) [] pos) (fCallv F fe fs fb) := fun δ A => by
  refine ⟨fun pins s σ H Q I ⟨ok, o⟩ => ?_⟩
  show wpAny _ _ (eval (.Subscript a b p) X.env >>= fun v => callWith pos v [] (backTo pos (starEach (e :: es) X.env)) (backToKw pos (keywordEach [] X.env))) _ _ s
  refine wpAny_bind (thn ((he δ A).run pins s σ H (fun x H1 => ∃ d, Same H H1 ∧ RepT G A H1 d x ∧ OutE (exOf G W σ) H (MA G A H false) Q (do let f ← fnName d; let xs ← fs δ; let r ← F f xs; immIf (fb δ) r)) I ⟨ok, OutE.bnd o fun d v H1 _ m1 s1 o1 => ⟨d, s1, m1, o1⟩⟩) fun v s1 ⟨y, H1, I1, r1, d, s1', m1, o1⟩ => ?_)
  cases d <;> first | exact o1.elim | skip
  rename_i f
  have r := m1.of_not rfl
  cases r with
  | fn hf =>
    rename_i ad
    obtain rfl : v = Value.ref ad := r1
    obtain ⟨k, fd, ps, c1, c2, c3, c4⟩ := hF f ad hf
    have o3 : OutE (exOf G W σ) H1 (MA G A H1 false) Q (do let xs ← fs δ; let r ← F f xs; immIf (fb δ) r) := OutE.imp (OutE.after o1 s1') fun d v H' _ m => ⟨m.1, fun z => nomatch z⟩
    exact PySem.W.callWith_K (h₀ := X.base) I1.ok.mod.kin c3 (thn ((ha δ A).run pos pins s1 σ H1 (fun vs H2 => spF G F f vs H2 Q (WE W σ)) I1 ⟨ok.mono s1', OutEs.bnd o3 fun ds vs H2 _ m2 s2 o2 => call_go ((ok.mono s1').mono s2) m2 s2 o2⟩) fun us s2 ⟨vs, H2, I2, rr, q⟩ => ⟨I2.kIn, run_fnS c1 c2 c4 (hx σ) I2 rr q⟩) hs hpl
end
end Py
end
section
set_option autoImplicit false
set_option linter.all false
set_option maxRecDepth 100000
set_option maxHeartbeats 4000000
/-! PyR: from the model's syntax to the small language; expressions. -/
namespace Py
open PySem PySem.Spec L2
open Sem (wp)

/-- what the globals are -/
structure Gs where
  defs : List Str
  cons : List (Str × D)
  bl : List Str
  errs : List Str
  hot : List Str
/-- a block: its slots, its scope, whose cells are its own; md: 0 nothing is handled, 1 an except suite, 2 a def called there -/
structure Ct where
  N : List Str
  sc : Scope
  fn : Str → Bool
  md : Nat
structure GsOk (gs : Gs) (G : Gx) (mg : Str → Option Value) : Prop where
  d : ∀ x ∈ gs.defs, ∃ a, mg x = some (.ref a) ∧ G.fa x.cps.toList = some a
  c : ∀ p ∈ gs.cons, ∃ u v, mg p.1 = some u ∧ RelV v u ∧ (∀ H : Hp, RepV G H p.2 v) ∧ D.isL p.2 = false
  b : ∀ x ∈ gs.bl, mg x = none
  e : ∀ x ∈ gs.errs, ∃ C, ErrC G mg x C
  m : ∀ y ∈ gs.errs, ∀ C, G.ca y.cps.toList = some C → ExmOk G C y.cps.toList
  i : IsiOk G
theorem GsOk.hotx {gs : Gs} {G : Gx} {mg : Str → Option Value} (n : G.hx = none) (k : GsOk gs G mg) (a : Addr) (e : Nm) : GsOk gs (G.hotx a e) mg where
  d := k.d
  c := fun p hp => let ⟨u, v, h1, h2, h3, h4⟩ := k.c p hp; ⟨u, v, h1, h2, fun H => (h3 H).hot n, h4⟩
  b := k.b
  e := fun x hx => let ⟨C, h⟩ := k.e x hx; ⟨C, ⟨h.m, h.c, h.i, h.k, h.s, h.t⟩⟩
  m := k.m
  i := ⟨k.i.exc, k.i.ve, k.i.own⟩
structure Cok (gs : Gs) (G : Gx) (F : Nm → List D → Out D) (W : WX) (ct : Ct) (X : Cx) : Prop where
  N : X.N = ct.N
  nd : X.N.Nodup
  sc : X.env.scope = ct.sc
  kind : ct.sc.kind = .function
  fn : X.fn = ct.fn
  calm : ct.md = 0 → X.calm = true
  hx0 : ct.md = 0 → G.hx = none
  pin : PinE G X
  hot : ct.md = 1 → ∃ p a e, L2H.Hot1 X.A p ∧ p ∈ X.pn ∧ G.hx = some (a, e) ∧ GdE G a e p
  gk : GOk G X
  hu : X.A.units + 70 < cLine
  calls : ct.md = 0 → ∀ nm a, G.fa nm = some a → ∃ (k : Nat) (fd : FuncData) (ps : List Str), FnOk X.prog X.w X.K X.mg X.base (L2N.CX X.prog X.w) k a fd ps (spF G F nm) ∧ Room k X.A ∧ PySem.W.keepIn X.K (.ref a) = true ∧ Binds X.K fd ps []
  hcalls : ct.md ≠ 2 → ∀ (a : Addr) (e : Nm) (x : Str), x ∈ gs.hot → ∀ f, G.fa x.cps.toList = some f → ∃ (k : Nat) (fd : FuncData) (ps : List Str), FnE X.prog X.w X.K X.mg X.base (L2N.CX X.prog X.w) k f fd ps (spF (G.hotx a e) F x.cps.toList) (GdE G a e) ∧ L2H.RoomH k X.A ∧ PySem.W.keepIn X.K (.ref f) = true ∧ Binds X.K fd ps []
  tk : L2N.Takes X W
  px : PassesOwn (model X.prog X.w) X.A X.env X.xe
  gs : GsOk gs G X.mg

def visB (sc : Scope) (x : Str) : Bool := match sc.names.lookup x with
  | some .local => true
  | some .cell => true
  | some .free => true
  | _ => false
def glB (sc : Scope) (x : Str) : Bool := match sc.names.lookup x with
  | some .globalImplicit => true
  | _ => false
def okN (x : Str) : Bool := !(x == ("__debug__" : Str)) && !(x == ("__classdict__" : Str))
def slot (ct : Ct) (x : Str) : Option Nat := match ct.N.findIdx? (fun y => decide (y = x)) with
  | some i => if decide (ct.N[i]? = some x) && visB ct.sc x && okN x then some i else none
  | none => none
section
variable {gs : Gs} {G : Gx} {F : Nm → List D → Out D} {W : WX} {ct : Ct} {X : Cx} {x : Str} {i : Nat}
theorem visB_ok {sc : Scope} (h : visB sc x = true) : Vis sc x := by
  unfold visB at h
  unfold Vis
  split at h <;> first | exact .inl ‹_› | exact .inr (.inl ‹_›) | exact .inr (.inr ‹_›) | cases h
theorem glB_ok (k : Cok gs G F W ct X) (h : glB ct.sc x = true) : Gl X x := by
  unfold glB at h
  unfold Gl Env.kindOf
  rw [k.sc]
  split at h <;> first | assumption | cases h
theorem slot_ok (k : Cok gs G F W ct X) (h : slot ct x = some i) : X.N[i]? = some x ∧ Vis X.env.scope x ∧ (x == ("__debug__" : Str)) = false ∧ (x == ("__classdict__" : Str)) = false := by
  unfold slot at h
  split at h
  · split at h
    · rename_i h1
      cases h
      simp only [okN, Bool.and_eq_true, decide_eq_true_eq, Bool.not_eq_true'] at h1
      rw [k.N, k.sc]
      exact ⟨h1.1.1, visB_ok h1.1.2, h1.2.1, h1.2.2⟩
    · cases h
  · cases h
end

inductive Md where
  | A | T | X
  deriving DecidableEq
def Snd (G : Gx) (F : Nm → List D → Out D) (W : WX) (m : Md) (X : Cx) (e : Expr) (E : E) : Prop := match m with
  | .A => SA G (exOf G W) X (fresh E) e (ev F E)
  | .T => ST G (exOf G W) X e (ev F E)
  | .X => TX G (exOf G W) X e (ev F E)
abbrev Rc := Ct → Md → Expr → Option E
def RcOk (gs : Gs) (G : Gx) (F : Nm → List D → Out D) (rc : Rc) : Prop := ∀ (W : WX) (ct : Ct) (X : Cx) (m : Md) (e : Expr) (E : E), Cok gs G F W ct X → rc ct m e = some E → Snd G F W m X e E

/-! ### forms that are no matter of the mode -/
def notStar : Expr → Bool
  | .Starred _ _ => false
  | _ => true
theorem star_of {e : Expr} {es : List Expr} {env : PySem.Env} (h : notStar e = true) : starEach (e :: es) env = (false, eval e env) :: starEach es env := by
  cases e <;> first | rfl | cases h
def notCall : Expr → Bool
  | .Call _ _ _ _ => false
  | _ => true
theorem base_of {e : Expr} {x : Str} {env : PySem.Env} {w : Sem Value} (h : notCall e = true) : attributeBase e x env w = w := by
  cases e <;> first | rfl | cases h
def notSet : Expr → Bool
  | .Set _ _ _ => false
  | _ => true
theorem marks_of {e : Expr} {op : CmpOp} (h : notSet e = true) : behindInMarks op e = false := by
  cases e <;> first | rfl | cases h
def notSlice : Expr → Bool
  | .Slice _ _ _ _ => false
  | _ => true
theorem plain_of {e : Expr} (h : notSlice e = true) : PlainIx e := by
  intro o i
  cases e <;> first | rfl | cases h
def cConst : Const → Option E
  | .none => some (.c .non)
  | .bool b => some (.c (.bl b))
  | .int i => some (.c (.int i))
  | .str x => if decide (x.cps.toList.length ≤ 1000) && x.cps.toList.all (fun c => decide (c < 0x110000)) then some (.c (.str x.cps.toList)) else none
  | _ => none
def cBin (op : Operator) (a b : E) : Option E := match op with
  | .Add => some (.add a b)
  | .Sub => some (.sub a b)
  | .Mult => some (.mul a b)
  | .FloorDiv => some (.dv a b)
  | .Mod => some (.md a b)
  | _ => none
def cOp : CmpOp → Option Cp
  | .Eq => some .eq
  | .NotEq => some .ne
  | .Lt => some .lt
  | .LtE => some .le
  | .Gt => some .gt
  | .GtE => some .ge
  | .In => some .mem
  | .NotIn => some .nmem
  | .Is => some .isN
  | .IsNot => some .notN
theorem cOp_ok {o : CmpOp} {k : Cp} (h : cOp o = some k) : o = cpOp k := by
  cases o <;> simp [cOp] at h <;> subst h <;> rfl
/-- items one by one -/
def cL (rc : Expr → Option E) : List Expr → Option Es
  | [] => some .nil
  | e :: es => if notStar e then (do
      let x ← rc e
      let xs ← cL rc es
      return .cons x xs) else none
section
variable {gs : Gs} {G : Gx} {F : Nm → List D → Out D} {W : WX} {ct : Ct} {X : Cx} {x : Str} {i : Nat} {rc : Rc} {pos : Pos}
theorem ev_add (a b : E) : ev F (.add a b) = f2 dAdd (ev F a) (ev F b) := by funext δ; simp only [ev, f2]
theorem cConst_ok {c : Const} {j : Nat} {E : E} (h : cConst c = some E) : SA G (exOf G W) X (fresh E) (.Constant c j pos) (ev F E) := by
  have e1 : ∀ d, ev F (.c d) = fun _ => .val d := fun d => by funext δ; simp only [ev]
  unfold cConst at h
  split at h
  · cases h; rw [e1]; exact sa_non
  · cases h; rw [e1]; exact sa_bl
  · cases h; rw [e1]; exact sa_int
  · split at h
    · rename_i hx
      cases h
      rw [e1]
      exact sa_str (sok_by hx)
    · cases h
  · cases h
theorem cBin_ok (k : Cok gs G F W ct X) {op : Operator} {a b : Expr} {ea eb E : E} (h : cBin op ea eb = some E) (ha : ST G (exOf G W) X a (ev F ea)) (hb : ST G (exOf G W) X b (ev F eb)) : SA G (exOf G W) X (fresh E) (.BinOp a op b pos) (ev F E) := by
  unfold cBin at h
  split at h <;> cases h
  · rw [ev_add]; exact sa_bin (pos := pos) (op2_add (X := X) k.gk) nox_add ha hb
  · have e1 : ev F (.sub ea eb) = f2 dSub (ev F ea) (ev F eb) := by funext δ; simp only [ev, f2]
    rw [e1]; exact sa_bin (pos := pos) (op2_sub (X := X)) nox_sub ha hb
  · have e1 : ev F (.mul ea eb) = f2 dMul (ev F ea) (ev F eb) := by funext δ; simp only [ev, f2]
    rw [e1]; exact sa_bin (pos := pos) (op2_mul (X := X) k.gk) nox_mul ha hb
  · have e1 : ev F (.dv ea eb) = f2 dDiv (ev F ea) (ev F eb) := by funext δ; simp only [ev, f2]
    rw [e1]; exact sa_bin (pos := pos) (op2_div (X := X)) nox_div ha hb
  · have e1 : ev F (.md ea eb) = f2 dMod (ev F ea) (ev F eb) := by funext δ; simp only [ev, f2]
    rw [e1]; exact sa_bin (pos := pos) (op2_mod (X := X)) nox_mod ha hb
theorem obind {α β : Type} {o : Option α} {f : α → Option β} {r : β} (h : (o >>= f) = some r) : ∃ a, o = some a ∧ f a = some r := by
  cases o with
  | none => cases h
  | some a => exact ⟨a, rfl, h⟩
theorem cL_ok (hr : ∀ e E, rc ct .A e = some E → SA G (exOf G W) X (fresh E) e (ev F E)) : ∀ {es : List Expr} {Es : Es}, cL (rc ct .A) es = some Es → PAa G (exOf G W) X es (evs F Es) ∧ ∀ δ ds, evs F Es δ = .val ds → ds.length = es.length
  | [], Es, h => by
    cases h
    have e1 : evs F .nil = fun _ => .val [] := by funext δ; simp only [evs]
    rw [e1]
    exact ⟨aa_nil, fun δ ds h => by cases h; rfl⟩
  | e :: es, Es, h => by
    unfold cL at h
    split at h
    · rename_i hs
      obtain ⟨x, h1, h⟩ := obind h
      obtain ⟨xs, h2, h⟩ := obind h
      cases h
      obtain ⟨g1, g2⟩ := cL_ok hr h2
      have e1 : evs F (.cons x xs) = fCons (ev F x) (evs F xs) := by funext δ; simp only [evs, fCons]
      rw [e1]
      refine ⟨aa_cons (hr e x h1).weak g1 (star_of hs), fun δ ds h => ?_⟩
      unfold fCons at h
      cases ea : ev F x δ with
      | exc c => simp [ea] at h
      | bad => simp [ea] at h
      | val d =>
        cases eb : evs F xs δ with
        | exc c => simp [ea, eb] at h
        | bad => simp [ea, eb] at h
        | val ds' =>
          simp [ea, eb] at h
          subst h
          simp [g2 δ ds' eb]
    · cases h
/-- arguments of own calls -/
def cArgs (ct : Ct) (rc : Expr → Option E) : List Expr → Option Es
  | [] => some .nil
  | .Name x p :: es => match slot ct x with
    | some i => do
      let xs ← cArgs ct rc es
      return .cons (.v i) xs
    | none => do
      let e ← rc (.Name x p)
      let xs ← cArgs ct rc es
      match e with
        | .v _ => none
        | e => return .cons e xs
  | e :: es => if notStar e then (do
      let x ← rc e
      let xs ← cArgs ct rc es
      match x with
        | .v _ => none
        | x => return .cons x xs) else none
theorem cArgs_ok (k : Cok gs G F W ct X) (hr : ∀ e E, rc ct .A e = some E → SA G (exOf G W) X (fresh E) e (ev F E)) : ∀ {es : List Expr} {Es : Es}, cArgs ct (rc ct .A) es = some Es → PAb G (exOf G W) X es (evs F Es) (fun δ => bor δ Es) ∧ es.all notStar = true
  | [], Es, h => by
    cases h
    have e1 : evs F .nil = fun _ => .val [] := by funext δ; simp only [evs]
    rw [e1]
    exact ⟨ab_nil, rfl⟩
  | e :: es, Es, h => by
    have cons1 : ∀ {x : E} {xs : _root_.Py.Es}, rc ct .A e = some x → (∀ i, x ≠ .v i) → notStar e = true → cArgs ct (rc ct .A) es = some xs → PAb G (exOf G W) X (e :: es) (evs F (.cons x xs)) (fun δ => bor δ (.cons x xs)) ∧ (e :: es).all notStar = true := fun {x xs} h1 hx hs h2 => by
      obtain ⟨g1, g3⟩ := cArgs_ok k hr h2
      have e1 : evs F (.cons x xs) = fCons (ev F x) (evs F xs) := by funext δ; simp only [evs, fCons]
      have e2 : (fun δ => bor δ (.cons x xs)) = fun δ => bor δ xs := by
        funext δ
        cases x <;> first | rfl | exact absurd rfl (hx _)
      rw [e1, e2]
      exact ⟨ab_cons (hr e x h1).weak g1 (star_of hs), by simp [hs, g3]⟩
    unfold cArgs at h
    split at h
    · rename_i q1
      cases q1
    · rename_i x p es' q1
      cases q1
      split at h
      · rename_i i hi
        obtain ⟨xs, h2, h⟩ := obind h
        cases h
        obtain ⟨g1, g3⟩ := cArgs_ok k hr h2
        obtain ⟨s1, s2, s3, s4⟩ := slot_ok k hi
        have e1 : evs F (.cons (.v i) xs) = fCons (fun δ => (get δ i).d) (evs F xs) := by funext δ; simp only [evs, fCons, ev]
        rw [e1]
        exact ⟨ab_name s1 s2 s3 s4 g1, by simp [g3, notStar]⟩
      · obtain ⟨x, h1, h⟩ := obind h
        obtain ⟨xs, h2, h⟩ := obind h
        split at h
        · cases h
        · rename_i x' hx
          cases h
          exact cons1 h1 (fun i z => hx i z) rfl h2
    · rename_i e' es' hne q1
      cases q1
      split at h
      · rename_i hs
        obtain ⟨x, h1, h⟩ := obind h
        obtain ⟨xs, h2, h⟩ := obind h
        split at h
        · cases h
        · rename_i x' hx
          cases h
          exact cons1 h1 (fun i z => hx i z) hs h2
      · cases h
end
end Py
end
section
set_option autoImplicit false
set_option linter.all false
set_option maxRecDepth 100000
set_option maxHeartbeats 4000000
/-! PyS: expressions, from the model's syntax to the small language: sound. -/
namespace Py
open PySem PySem.Spec L2
open Sem (wp)

/-! ### targets, blocks -/
def locB (sc : Scope) (x : Str) : Bool := match sc.names.lookup x with
  | some .local => true
  | some .cell => true
  | _ => false
def locO (sc : Scope) (x : Str) : Bool := match sc.names.lookup x with
  | some .local => true
  | _ => false
def tgOne (ct : Ct) (x : Str) : Option Nat := match slot ct x with
  | some i => if locB ct.sc x && (ct.fn x || locO ct.sc x) then some i else none
  | none => none
def tgMany (ct : Ct) : List Expr → Option (List Nat)
  | [] => some []
  | .Name x _ :: r => do
    let i ← tgOne ct x
    let is ← tgMany ct r
    return i :: is
  | _ :: _ => none
def cTg (ct : Ct) : Expr → Option Tg
  | .Name x _ => do
    let i ← tgOne ct x
    return .one i
  | .Tuple es _ _ => if ct.md = 0 then (do
    let is ← tgMany ct es
    return .many is) else none
  | _ => none
section
variable {gs : Gs} {G : Gx} {F : Nm → List D → Out D} {W : WX} {ct : Ct} {X : Cx} {x : Str} {i : Nat} {rc : Rc} {pos : Pos}
theorem locB_ok {sc : Scope} (h : locB sc x = true) : Loc sc x := by
  unfold locB at h
  split at h <;> first | exact .inl ‹_› | exact .inr ‹_› | cases h
theorem locO_ok {sc : Scope} (h : locO sc x = true) : sc.names.lookup x = some .local := by
  unfold locO at h
  split at h <;> first | assumption | cases h
theorem tgOne_ok (k : Cok gs G F W ct X) (h : tgOne ct x = some i) : X.N[i]? = some x ∧ Loc X.env.scope x ∧ (X.fn x = true ∨ X.env.scope.names.lookup x = some .local) := by
  unfold tgOne at h
  split at h
  · rename_i j hs
    split at h
    · rename_i hb
      cases h
      simp only [Bool.and_eq_true, Bool.or_eq_true] at hb
      rw [k.sc, k.fn]
      exact ⟨(slot_ok k hs).1, locB_ok hb.1, hb.2.imp id locO_ok⟩
    · cases h
  · cases h
theorem tgMany_ok (k : Cok gs G F W ct X) : ∀ {es : List Expr} {is : List Nat}, tgMany ct es = some is → PGs X es (gsOf is) ∧ (assignEach es X.env).length = is.length ∧ (assignEach es X.env).findIdx? (·.1) = none
  | [], is, h => by cases h; exact ⟨pgs_nil, rfl, rfl⟩
  | e :: es, is, h => by
    cases e <;> first | cases h | skip
    rename_i x p
    unfold tgMany at h
    obtain ⟨j, h1, h⟩ := obind h
    obtain ⟨js, h2, h⟩ := obind h
    cases h
    obtain ⟨g1, g2, g3⟩ := tgMany_ok k h2
    obtain ⟨s1, s2, s3⟩ := tgOne_ok k h1
    refine ⟨pgs_cons (pg_name k.nd s1 s2 s3) g1 rfl, ?_, ?_⟩
    · show (assignEach es X.env).length + 1 = _
      rw [g2]; rfl
    · show List.findIdx? (·.1) ((false, assign (.Name x p) X.env) :: assignEach es X.env) = none
      rw [List.findIdx?_cons]
      simp [g3]
theorem cTg_ok (k : Cok gs G F W ct X) {e : Expr} {tg : Tg} (h : cTg ct e = some tg) : BG G X e tg := by
  cases e <;> first | cases h | skip
  · unfold cTg at h
    obtain ⟨j, h1, h⟩ := obind h
    cases h
    obtain ⟨s1, s2, s3⟩ := tgOne_ok k h1
    exact bg_one k.nd s1 s2 s3
  · unfold cTg at h
    dsimp only at h
    split at h
    · rename_i hmd
      obtain ⟨js, h1, h⟩ := obind h
      cases h
      obtain ⟨g1, g2, g3⟩ := tgMany_ok k h1
      exact bg_many k.gk (k.calm hmd) g1 g2 g3
    · cases h
end
def ownOf (N : List Str) (scope : Scope) : List (Str × Nat) := scope.names.filterMap fun y => match y.2 with
  | .local => (N.findIdx? fun z => decide (z = y.1)).map fun i => (y.1, i)
  | .cell => (N.findIdx? fun z => decide (z = y.1)).map fun i => (y.1, i)
  | _ => none
def blkCt (ct : Ct) (scope : Scope) : Ct := ⟨ct.N, relS scope ct.sc, fun x => scope.names.lookup x == some .cell, ct.md⟩
def W0 : WX := fun _ _ _ _ => False
theorem takesN0 {X : Cx} : L2N.Takes X W0 := fun _ _ x => by
  obtain ⟨_, _, _, _, _, _, _, _, _, _, _, _, _, _, _, _, z⟩ := x
  exact z.elim
section
variable {gs : Gs} {G : Gx} {F : Nm → List D → Out D} {W : WX} {ct : Ct} {X : Cx} {x : Str} {i : Nat} {rc : Rc} {pos : Pos}
theorem blk_ok (k : Cok gs G F W ct X) (hmd : ct.md = 0) {scope : Scope} (hk : scope.kind = .function) (s : Shared) (H : Hp) (C : Addr) (cl : List (Str × Addr)) (fp : List Addr) : Cok gs G F W0 (blkCt ct scope) (X.blk s H scope (compEnvC scope cl C X.env) fp) where
  N := k.N
  nd := k.nd
  sc := by
    show relabel scope X.env = relS scope ct.sc
    rw [← k.sc]
    rfl
  kind := hk
  fn := rfl
  calm := fun h => k.calm h
  hx0 := k.hx0
  pin := fun a c h => by
    rw [k.hx0 hmd] at h
    cases h
  hot := fun h => by
    have h' : ct.md = 1 := h
    rw [hmd] at h'
    cases h'
  gk := ⟨k.gk.P, k.gk.w, k.gk.K⟩
  hu := k.hu
  gs := k.gs
  calls := k.calls
  hcalls := k.hcalls
  tk := takesN0
  px := PassesOwn.never

/-! ### what is walked -/
def modeJ (top : Bool) : Md := if top then .T else .A
theorem sj_of (hr : RcOk gs G F rc) (k : Cok gs G F W ct X) {top : Bool} {e : Expr} {E : E} (h : rc ct (modeJ top) e = some E) : SJ top G (exOf G W) X e (ev F E) := by
  cases top with
  | true => exact sj_top (hr W ct X .T e E k h)
  | false => exact sj_free (SA.weak (hr W ct X .A e E k h))
def isTupE : Expr → Bool
  | .Tuple _ _ _ => true
  | _ => false
def cI (gs : Gs) (rc : Rc) (ct : Ct) (top : Bool) (tg : Expr) (it : Expr) : Option It :=
  let gen := if notSet it then (do let e ← rc ct (modeJ top) it; return It.e e) else none
  match it with
  | .Call (.Name f _) [a] [] _ =>
    if glB ct.sc f && decide (f ∈ gs.bl) && notStar a then
      if f = "range" then (do let e ← rc ct .T a; return .range1 e)
      else if f = "enumerate" then (if isTupE tg then (do let e ← rc ct (modeJ top) a; return .enum e) else none)
      else if f = "reversed" then (do let e ← rc ct (modeJ top) a; return .rev e)
      else gen
    else gen
  | .Call (.Name f _) [a, b] [] _ =>
    if glB ct.sc f && decide (f ∈ gs.bl) && notStar a && notStar b then
      if f = "range" then (do let e ← rc ct .T a; let e2 ← rc ct .T b; return .range2 e e2)
      else if f = "zip" then (if isTupE tg then (do let e ← rc ct (modeJ top) a; let e2 ← rc ct (modeJ top) b; return .zip e e2) else none)
      else gen
    else gen
  | _ => gen
theorem fold_of {e : Expr} {env : PySem.Env} (h : notSet e = true) : ∀ x, foldedSetIterable e env x = pure x := by
  intro x
  cases e <;> first | rfl | cases h
theorem cI_ok (hr : RcOk gs G F rc) (k : Cok gs G F W ct X) {top : Bool} {tg it : Expr} {I : It} (h : cI gs rc ct top tg it = some I) : SI top G (exOf G W) X tg it (evIt F I) ∧ ∀ x, foldedSetIterable it X.env x = pure x := by
  have gen : ∀ {I : It}, (if notSet it then (do let e ← rc ct (modeJ top) it; return It.e e) else none) = some I → SI top G (exOf G W) X tg it (evIt F I) ∧ ∀ x, foldedSetIterable it X.env x = pure x := fun {I} h => by
    split at h
    · rename_i hs
      obtain ⟨e, h1, h⟩ := obind h
      cases h
      have e1 : evIt F (.e e) = fIt (ev F e) := by funext δ; simp only [evIt, fIt]
      rw [e1]
      exact ⟨si_e k.gk (sj_of hr k h1), fold_of hs⟩
    · cases h
  unfold cI at h
  dsimp only at h
  split at h
  · rename_i f p a pos
    split at h
    · rename_i hc
      simp only [Bool.and_eq_true, decide_eq_true_eq] at hc
      have hm := k.gs.b f hc.1.2
      have hg := glB_ok k hc.1.1
      have hs : starEach [a] X.env = [(false, eval a X.env)] := star_of hc.2
      split at h
      · rename_i hf
        subst hf
        obtain ⟨e, h1, h⟩ := obind h
        cases h
        have e1 : evIt F (.range1 e) = fR1 (ev F e) := by funext δ; simp only [evIt, fR1]
        rw [e1]
        exact ⟨si_range1 hg hm (hr W ct X .T a e k h1) hs, fold_of rfl⟩
      · split at h
        · rename_i hf
          subst hf
          split at h
          · rename_i ht
            obtain ⟨e, h1, h⟩ := obind h
            cases h
            have e1 : evIt F (.enum e) = fEn (ev F e) := by funext δ; simp only [evIt, fEn]
            rw [e1]
            cases tg <;> first | cases ht | skip
            exact ⟨si_enum k.gk hg hm (sj_of hr k h1) hs, fold_of rfl⟩
          · cases h
        · split at h
          · rename_i hf
            subst hf
            obtain ⟨e, h1, h⟩ := obind h
            cases h
            have e1 : evIt F (.rev e) = fRv (ev F e) := by funext δ; simp only [evIt, fRv]
            rw [e1]
            exact ⟨si_rev k.gk hg hm (sj_of hr k h1) (star_of hc.2), fold_of rfl⟩
          · exact gen h
    · exact gen h
  · rename_i f p a b pos
    split at h
    · rename_i hc
      simp only [Bool.and_eq_true, decide_eq_true_eq] at hc
      have hm := k.gs.b f hc.1.1.2
      have hg := glB_ok k hc.1.1.1
      have hs : starEach [a, b] X.env = (false, eval a X.env) :: starEach [b] X.env := star_of hc.1.2
      have hs2 : starEach [b] X.env = (false, eval b X.env) :: starEach [] X.env := star_of hc.2
      split at h
      · rename_i hf
        subst hf
        obtain ⟨e, h1, h⟩ := obind h
        obtain ⟨e2, h2, h⟩ := obind h
        cases h
        have e1 : evIt F (.range2 e e2) = fR2 (ev F e) (ev F e2) := by funext δ; simp only [evIt, fR2]
        rw [e1]
        exact ⟨si_range2 hg hm (hr W ct X .T a e k h1) (hr W ct X .T b e2 k h2) (by rw [hs, hs2]; rfl) hs2, fold_of rfl⟩
      · split at h
        · rename_i hf
          subst hf
          split at h
          · rename_i ht
            obtain ⟨e, h1, h⟩ := obind h
            obtain ⟨e2, h2, h⟩ := obind h
            cases h
            have e1 : evIt F (.zip e e2) = fZp (ev F e) (ev F e2) := by funext δ; simp only [evIt, fZp]
            rw [e1]
            cases tg <;> first | cases ht | skip
            exact ⟨si_zip k.gk hg hm (sj_of hr k h1) (sj_of hr k h2) hs hs2, fold_of rfl⟩
          · cases h
        · exact gen h
    · exact gen h
  · exact gen h

/-! ### comprehensions -/
def cIf (rc : Rc) (ct : Ct) : List Expr → Option (Option E)
  | [] => some none
  | [c] => do
    let e ← rc ct .X c
    return some e
  | _ => none
def cComp (gs : Gs) (rc : Rc) (ct : Ct) (elt tg it : Expr) (ifs : List Expr) (scope : Scope) : Option E :=
  let own := ownOf ct.N scope
  if ct.md = 0 ∧ blkC ct.N ct.sc scope own = true then (do
    let t ← cTg (blkCt ct scope) tg
    if (tgSl t).all fun j => decide (j ∈ own.map (·.2)) then (do
      let i ← cI gs rc ct true tg it
      let q ← cIf rc (blkCt ct scope) ifs
      let e ← rc (blkCt ct scope) .A elt
      match q with
        | none => return .comp e t (own.map (·.2)) i
        | some c => return .compIf e t (own.map (·.2)) i c) else none) else none
theorem exF_ok {σ : L2.St} {c : Nm} {H' : Hp} (h : ExF σ c H') : exOf G W0 σ c H' := h.elim
theorem cComp_ok (hr : RcOk gs G F rc) (k : Cok gs G F W ct X) {elt tg it : Expr} {ifs : List Expr} {scope : Scope} {E : E} (h : cComp gs rc ct elt tg it ifs scope = some E) :
    ∃ own t fi fc fe, CompOk G (exOf G W) X own scope elt tg it ifs t fi fc fe ∧ ev F E = fComp (own.map (·.2)) t fi fc fe ∧ fresh E = true := by
  unfold cComp at h
  dsimp only at h
  split at h
  · rename_i hb
    obtain ⟨hmd, hb⟩ := hb
    obtain ⟨t, h1, h⟩ := obind h
    split at h
    · rename_i ht
      obtain ⟨i, h2, h⟩ := obind h
      obtain ⟨q, h3, h⟩ := obind h
      obtain ⟨e, h4, h⟩ := obind h
      have bok : BlkOk X.N X.env.scope scope (ownOf ct.N scope) := by
        rw [k.N, k.sc]
        exact blkOk_by hb
      obtain ⟨si, sf⟩ := cI_ok hr k h2
      have kb := blk_ok k hmd bok.kind
      have hown : ∀ j ∈ tgSl t, j ∈ (ownOf ct.N scope).map (·.2) := by
        simpa [List.all_eq_true] using ht
      have mk : ∀ fc, (∀ (s : Shared) (H : Hp) (C : Addr) (cl : List (Str × Addr)) (fp : List Addr), PB G ExF (X.blk s H scope (compEnvC scope cl C X.env) fp) ifs fc) → CompOk G (exOf G W) X (ownOf ct.N scope) scope elt tg it ifs t (evIt F i) fc (ev F e) := fun fc hfc =>
        ⟨k.calm hmd, k.nd, si, bok, fun s H C cl fp => cTg_ok (kb s H C cl fp) h1, hfc, fun s H C cl fp => SA.ex (SA.weak (hr _ _ _ .A elt e (kb s H C cl fp) h4)) fun _ _ _ => exF_ok, sf, hown⟩
      cases ifs with
      | nil =>
        cases h3
        cases h
        refine ⟨_, t, _, fun _ => .val true, _, mk _ fun s H C cl fp => pb_nil, ?_, rfl⟩
        funext δ
        simp only [ev, fComp]
      | cons c r =>
        cases r with
        | nil =>
          obtain ⟨c', h5, h3⟩ := obind h3
          cases h3
          cases h
          refine ⟨_, t, _, fun δ => ev F c' δ >>= asB, _, mk _ fun s H C cl fp => pb_one (TX.ex (hr _ _ _ .X c c' (kb s H C cl fp) h5) fun _ _ _ => exF_ok), ?_, rfl⟩
          funext δ
          simp only [ev, fComp]
        | cons _ _ => cases h3
    · cases h
  · cases h
end
end Py
end
section
set_option autoImplicit false
set_option linter.all false
set_option maxRecDepth 100000
set_option maxHeartbeats 4000000
/-! PyT: expressions whole. -/
namespace Py
open PySem PySem.Spec L2
open Sem (wp)

def bi1Of (f : Str) : Option Bi :=
  if f = "len" then some .len else if f = "int" then some .int else if f = "tuple" then some .tuple else if f = "list" then some .list else if f = "all" then some .all
  else if f = "any" then some .any else if f = "max" then some .max1 else if f = "sum" then some .sum else if f = "dict" then some .dict else if f = "sorted" then some .sorted else none
def bi2Of (f : Str) : Option Bi := if f = "max" then some .max2 else if f = "min" then some .min2 else none
def cO (rc : Expr → Option E) : Option Expr → Option E
  | none => some (.c .non)
  | some e => rc e
def tyOf (gs : Gs) (x : Str) : Option Ty :=
  if x ∈ gs.errs then some (.own x.cps.toList)
  else if x ∈ gs.bl then (if x = "int" then some .int else if x = "bool" then some .bool else if x = "str" then some .str else if x = "tuple" then some .tuple else if x = "list" then some .list else if x = "ValueError" then some .valueError else none)
  else none
def cTy (gs : Gs) (ct : Ct) : Expr → Option Ty
  | .Name x _ => if glB ct.sc x && okN x then tyOf gs x else none
  | _ => none
def cCall (gs : Gs) (rc : Rc) (ct : Ct) (f : Str) (args : List Expr) : Option E :=
  if glB ct.sc f && okN f then
    if f ∈ gs.defs then (match args with
      | [] => none
      | a :: r => if ct.md = 0 ∨ (ct.md = 1 ∧ f ∈ gs.hot) then (do
        let es ← cArgs ct (rc ct .A) (a :: r)
        return .call f.cps.toList es) else none)
    else if f ∈ gs.bl then (match args with
      | [a] => if ct.md = 0 ∧ notStar a = true then (do
          let b ← bi1Of f
          let e ← rc ct .T a
          return .bi1 b e) else none
      | [a, c] => if notStar a && notStar c then (if f = "isinstance" then (do
          let t ← cTy gs ct c
          let e ← rc ct .T a
          return .isi e t) else if ct.md = 0 then (do
          let b ← bi2Of f
          let e ← rc ct .T a
          let e2 ← rc ct .T c
          return .bi2 b e e2) else none) else none
      | _ => none)
    else none
  else none
def meOf (nm : Str) : Option Me := if nm = "join" then some .join else if nm = "index" then some .index else if nm = "count" then some .count else if nm = "get" then some .get1 else none
def cMe (rc : Rc) (ct : Ct) (o : Expr) (nm : Str) (b : Expr) (ap cp : Pos) : Option E :=
  if notCall o && notStar b && (ap.endLine == cp.line) then (do
      let m ← meOf nm
      let x ← rc ct .T o
      let y ← rc ct .T b
      return .me1 m x y)
  else none
def cMe2 (rc : Rc) (ct : Ct) (o : Expr) (nm : Str) (b c : Expr) (ap cp : Pos) : Option E :=
  if notCall o && notStar b && notStar c && (ap.endLine == cp.line) && decide (nm = "get") then (do
      let x ← rc ct .T o
      let y ← rc ct .T b
      let z ← rc ct .A c
      return .me2 .get2 x y z)
  else none
def cSet (gs : Gs) (rc : Rc) (ct : Ct) (f g : Str) (a : Expr) : Option E :=
  if f = "sorted" ∧ g = "set" ∧ f ∈ gs.bl ∧ g ∈ gs.bl ∧ glB ct.sc f = true ∧ glB ct.sc g = true ∧ notStar a = true ∧ ct.md = 0 then (do
      let x ← rc ct .T a
      return .bi1 .sortset x) else none
def cCallv (rc : Rc) (ct : Ct) (e : Expr) (args : List Expr) : Option E := match args with
  | [] => none
  | a :: r => if ct.md = 0 then (do
      let x ← rc ct .T e
      let es ← cArgs ct (rc ct .A) (a :: r)
      return .callv x es) else none
def c0 (gs : Gs) (rc : Rc) (ct : Ct) : Expr → Option E
  | .Constant c _ _ => cConst c
  | .BinOp a op b _ => do
    let x ← rc ct .T a
    let y ← rc ct .T b
    cBin op x y
  | .UnaryOp .USub a _ => do
    let x ← rc ct .T a
    return .neg x
  | .Compare a [o] [b] _ => if notSet b then (do
      let k ← cOp o
      let x ← rc ct .T a
      let y ← rc ct .T b
      return .cmp k x y) else none
  | .Compare a [o, o2] [b, c] _ => if notSet c then (do
      let k ← cOp o
      let k2 ← cOp o2
      let x ← rc ct .T a
      let y ← rc ct .T b
      let z ← rc ct .T c
      return .cmp2 k k2 x y z) else none
  | .Tuple es _ _ => if es.length ≤ 1000 then (do
      let xs ← cL (rc ct .A) es
      return .tup xs) else none
  | .List es _ => if es.length ≤ 1000 then (do
      let xs ← cL (rc ct .A) es
      return .lst xs) else none
  | .Dict [] [] _ => some .dnil
  | .Subscript a (.Slice lo hi none _) _ => do
    let x ← rc ct .T a
    let l ← cO (rc ct .T) lo
    let h ← cO (rc ct .T) hi
    return .sl x l h
  | .Subscript a b _ => if notSlice b then (do
      let x ← rc ct .T a
      let y ← rc ct .T b
      return .idx x y) else none
  | .Call (.Name f _) [a] [⟨some kw, d, _⟩] _ => if f = "max" ∧ kw = "default" ∧ f ∈ gs.bl ∧ glB ct.sc f = true ∧ notStar a = true ∧ ct.md = 0 then (do
      let x ← rc ct .T a
      let y ← rc ct .T d
      return .bi2 .maxd x y) else none
  | .Call (.Name f _) [.Call (.Name g p2) [a] [] q2] [] _ => (cSet gs rc ct f g a).orElse fun _ => cCall gs rc ct f [.Call (.Name g p2) [a] [] q2]
  | .Call (.Name f _) args [] _ => cCall gs rc ct f args
  | .Call (.Subscript a b p) args [] _ => cCallv rc ct (.Subscript a b p) args
  | .Call (.Attribute o nm ap) [b] [] cp => cMe rc ct o nm b ap cp
  | .Call (.Attribute o nm ap) [b, c] [] cp => cMe2 rc ct o nm b c ap cp
  | .ListComp elt [⟨tg, it, ifs, 0⟩] scope _ => cComp gs rc ct elt tg it ifs scope
  | _ => none
section
variable {gs : Gs} {G : Gx} {F : Nm → List D → Out D} {W : WX} {ct : Ct} {X : Cx} {x : Str} {i : Nat} {rc : Rc} {pos : Pos}
theorem sa_bi1 {Ex : XS} (k : Cok gs G F W ct X) (hmd : ct.md = 0) {f : Str} {b : Bi} {a : Expr} {fa : Env → Out D} {p : Pos} (h : bi1Of f = some b) (hg : Gl X f) (hm : X.mg f = none) (ha : ST G Ex X a fa) (hs : starEach [a] X.env = (false, eval a X.env) :: starEach [] X.env) (e : E) :
    SA G Ex X (fresh (.bi1 b e)) (.Call (.Name f p) [a] [] pos) (f1 (bi1 b) fa) := by
  unfold bi1Of at h
  split at h
  · rename_i hf; subst hf; cases h
    exact sa_callB (c1_len k.gk) (nox_bi1 .len) hg hm (by decide +kernel) (by decide) (by decide) ha hs
  · split at h
    · rename_i hf; subst hf; cases h
      exact sa_callT c1_int (nox_bi1 .int) hg hm (by decide +kernel) (by decide) (by decide) ha hs
    · split at h
      · rename_i hf; subst hf; cases h
        exact sa_callT (c1_tuple k.gk) (nox_bi1 .tuple) hg hm (by decide +kernel) (by decide) (by decide) ha hs
      · split at h
        · rename_i hf; subst hf; cases h
          exact sa_callT (c1_list k.gk) (nox_bi1 .list) hg hm (by decide +kernel) (by decide) (by decide) ha hs
        · split at h
          · rename_i hf; subst hf; cases h
            exact sa_callB (c1_all k.gk (k.calm hmd)) (nox_bi1 .all) hg hm (by decide +kernel) (by decide) (by decide) ha hs
          · split at h
            · rename_i hf; subst hf; cases h
              exact sa_callB (c1_any k.gk (k.calm hmd)) (nox_bi1 .any) hg hm (by decide +kernel) (by decide) (by decide) ha hs
            · split at h
              · rename_i hf; subst hf; cases h
                exact sa_callB (c1_max1 k.gk (k.calm hmd)) (nox_bi1 .max1) hg hm (by decide +kernel) (by decide) (by decide) ha hs
              · split at h
                · rename_i hf; subst hf; cases h
                  exact sa_callB (c1_sum k.gk (k.calm hmd)) (nox_bi1 .sum) hg hm (by decide +kernel) (by decide) (by decide) ha hs
                · split at h
                  · rename_i hf; subst hf; cases h
                    exact sa_callT (c1_dict k.gk (k.calm hmd) k.hu) (nox_bi1 .dict) hg hm (by decide +kernel) (by decide) (by decide) ha hs
                  · split at h
                    · rename_i hf; subst hf; cases h
                      exact sa_callB (c1_sorted k.gk (k.calm hmd) k.hu) (nox_bi1 .sorted) hg hm (by decide +kernel) (by decide) (by decide) ha hs
                    · cases h
theorem sa_bi2 {Ex : XS} (k : Cok gs G F W ct X) (hmd : ct.md = 0) {f : Str} {b : Bi} {a c : Expr} {fa fc : Env → Out D} {p : Pos} (h : bi2Of f = some b) (hg : Gl X f) (hm : X.mg f = none) (ha : ST G Ex X a fa) (hc : ST G Ex X c fc) (hs : starEach [a, c] X.env = (false, eval a X.env) :: starEach [c] X.env) (hs2 : starEach [c] X.env = (false, eval c X.env) :: starEach [] X.env) :
    SA G Ex X false (.Call (.Name f p) [a, c] [] pos) (f2 (bi2 b) fa fc) := by
  unfold bi2Of at h
  split at h
  · rename_i hf; subst hf; cases h
    exact sa_callB2 (c2_max (k.calm hmd)) (nox_bi2 .max2) hg hm (by decide +kernel) (by decide) (by decide) ha hc hs hs2
  · split at h
    · rename_i hf; subst hf; cases h
      exact sa_callB2 (c2_min (k.calm hmd)) (nox_bi2 .min2) hg hm (by decide +kernel) (by decide) (by decide) ha hc hs hs2
    · cases h
theorem plainL {es : List Expr} {env : PySem.Env} (h : es.all notStar = true) (p : Pos) : (backTo p (starEach es env)).any (·.1) = false := by
  have key : ∀ es : List Expr, es.all notStar = true → (starEach es env).any (·.1) = false := fun es => by
    induction es with
    | nil => intro _; rfl
    | cons e r ih =>
      intro h
      simp only [List.all_cons, Bool.and_eq_true] at h
      rw [star_of h.1]
      simp [ih h.2]
  have := key es h
  unfold backTo
  simpa [List.any_map] using this
theorem sa_call0 (k : Cok gs G F W ct X) {f : Str} {a : Expr} {r : List Expr} {es : Es} {p : Pos} (hf : f ∈ gs.defs) (hg : glB ct.sc f = true) (hn : okN f = true) (hmd : ct.md = 0 ∨ (ct.md = 1 ∧ f ∈ gs.hot)) (hr : RcOk gs G F rc) (h : cArgs ct (rc ct .A) (a :: r) = some es) :
    SA G (exOf G W) X false (.Call (.Name f p) (a :: r) [] pos) (ev F (.call f.cps.toList es)) := by
  obtain ⟨ad, hm, hfa⟩ := k.gs.d f hf
  obtain ⟨g1, g3⟩ := cArgs_ok k (fun e E h => hr W ct X .A e E k h) h
  simp only [List.all_cons, Bool.and_eq_true] at g3
  simp only [okN, Bool.and_eq_true, Bool.not_eq_true'] at hn
  have e1 : ev F (.call f.cps.toList es) = fCall F f.cps.toList (evs F es) (fun δ => bor δ es) := by funext δ; simp only [ev, fCall]
  rw [e1]
  rcases hmd with hmd | ⟨hmd, hh⟩
  · obtain ⟨kk, fd, ps, c1, c2, c3, c4⟩ := k.calls hmd _ _ hfa
    exact sa_call c1 c2 (glB_ok k hg) hm c3 c4 (L2N.passAt k.tk) g1 hn.1 (star_of g3.1) (plainL g3.2 _)
  · obtain ⟨pn, a0, e0, hot, hpn, hx, gd⟩ := k.hot hmd
    obtain ⟨kk, fd, ps, c1, c2, c3, c4⟩ := k.hcalls (by rw [hmd]; decide) a0 e0 f hh _ hfa
    have eG : G.hotx a0 e0 = G := by
      obtain ⟨P, w, K, fa, ca, hx0⟩ := G
      dsimp only at hx
      subst hx
      rfl
    rw [eG] at c1
    exact sa_callH c1 c2 gd hot hpn (glB_ok k hg) hm c3 c4 (L2N.passAt k.tk) g1 hn.1 (star_of g3.1) (plainL g3.2 _)
theorem cTy_ok (k : Cok gs G F W ct X) {e : Expr} {t : Ty} (h : cTy gs ct e = some t) : PTy G X e t := by
  unfold cTy at h
  split at h
  · rename_i x p
    split at h
    · rename_i hg
      simp only [okN, Bool.and_eq_true, Bool.not_eq_true'] at hg
      have hgl := glB_ok k hg.1
      unfold tyOf at h
      split at h
      · rename_i hx
        cases h
        obtain ⟨C, hC⟩ := k.gs.e x hx
        exact pty_own hgl hC.m hC.c hg.2.1
      · split at h
        · rename_i hx
          have hm := k.gs.b x hx
          split at h
          · rename_i hf; subst hf; cases h
            exact pty_blt rfl (fun _ z => nomatch z) hgl hm (by decide +kernel) (by decide) (by decide)
          · split at h
            · rename_i hf; subst hf; cases h
              exact pty_blt rfl (fun _ z => nomatch z) hgl hm (by decide +kernel) (by decide) (by decide)
            · split at h
              · rename_i hf; subst hf; cases h
                exact pty_blt rfl (fun _ z => nomatch z) hgl hm (by decide +kernel) (by decide) (by decide)
              · split at h
                · rename_i hf; subst hf; cases h
                  exact pty_blt rfl (fun _ z => nomatch z) hgl hm (by decide +kernel) (by decide) (by decide)
                · split at h
                  · rename_i hf; subst hf; cases h
                    exact pty_blt rfl (fun _ z => nomatch z) hgl hm (by decide +kernel) (by decide) (by decide)
                  · split at h
                    · rename_i hf; subst hf; cases h
                      exact pty_blt rfl (fun _ z => nomatch z) hgl hm (by decide +kernel) (by decide) (by decide)
                    · cases h
        · cases h
    · cases h
  · cases h
theorem cCall_ok (hr : RcOk gs G F rc) (k : Cok gs G F W ct X) {f : Str} {args : List Expr} {E : E} {p : Pos} (h : cCall gs rc ct f args = some E) : SA G (exOf G W) X (fresh E) (.Call (.Name f p) args [] pos) (ev F E) := by
  unfold cCall at h
  split at h
  · rename_i hg
    simp only [Bool.and_eq_true] at hg
    split at h
    · rename_i hf
      split at h
      · cases h
      · split at h
        · rename_i hmd
          obtain ⟨es, h1, h⟩ := obind h
          cases h
          exact sa_call0 k hf hg.1 hg.2 hmd hr h1
        · cases h
    · split at h
      · rename_i hf
        have hm := k.gs.b f hf
        have hgl := glB_ok k hg.1
        split at h
        · split at h
          · rename_i hs
            obtain ⟨b, h1, h⟩ := obind h
            obtain ⟨e, h2, h⟩ := obind h
            cases h
            have e1 : ev F (.bi1 b e) = f1 (bi1 b) (ev F e) := by funext δ; simp only [ev, f1]
            rw [e1]
            exact sa_bi1 k hs.1 h1 hgl hm (hr W ct X .T _ e k h2) (star_of hs.2) e
          · cases h
        · split at h
          · rename_i hs
            simp only [Bool.and_eq_true] at hs
            split at h
            · rename_i hfi
              subst hfi
              obtain ⟨t, h1, h⟩ := obind h
              obtain ⟨e, h2, h⟩ := obind h
              cases h
              have e1 : ev F (.isi e t) = fIsi t (ev F e) := by funext δ; simp only [ev, fIsi]
              rw [e1]
              exact sa_isi k.gk k.gs.i k.pin hgl hm (hr W ct X .T _ e k h2) (cTy_ok k h1) (star_of hs.1) (star_of hs.2)
            · split at h
              · rename_i hmd
                obtain ⟨b, h1, h⟩ := obind h
                obtain ⟨e, h2, h⟩ := obind h
                obtain ⟨e2, h3, h⟩ := obind h
                cases h
                have e1 : ev F (.bi2 b e e2) = f2 (bi2 b) (ev F e) (ev F e2) := by funext δ; simp only [ev, f2]
                rw [e1]
                exact sa_bi2 k hmd h1 hgl hm (hr W ct X .T _ e k h2) (hr W ct X .T _ e2 k h3) (star_of hs.1) (star_of hs.2)
              · cases h
          · cases h
        · cases h
      · cases h
  · cases h
theorem cMe_ok (hr : RcOk gs G F rc) (k : Cok gs G F W ct X) {o b : Expr} {nm : Str} {E : E} {ap : Pos} (h : cMe rc ct o nm b ap pos = some E) : SA G (exOf G W) X (fresh E) (.Call (.Attribute o nm ap) [b] [] pos) (ev F E) := by
  unfold cMe at h
  split at h
  · rename_i hc
    simp only [Bool.and_eq_true] at hc
    have hst : starEach [b] X.env = (false, eval b X.env) :: starEach [] X.env := star_of hc.1.2
    have hfew : ((backTo pos (starEach [b] X.env)).all (fun x => !x.1) && (backToKw pos (keywordEach [] X.env)).all (fun x => x.1.isSome)
      && decide ([b].length + ([] : List Keyword).length + (if ([] : List Keyword).isEmpty then 0 else 1) < 30)) = true := by
      rw [hst]
      rfl
    obtain ⟨m, hm, h⟩ := obind h
    obtain ⟨x, h1, h⟩ := obind h
    obtain ⟨y, h2, h⟩ := obind h
    cases h
    have e1 : ev F (.me1 m x y) = fMe1 m (ev F x) (ev F y) := by funext δ; simp only [ev, fMe1]
    have sx := hr W ct X .T _ x k h1
    have sy := hr W ct X .T _ y k h2
    rw [e1]
    unfold meOf at hm
    split at hm
    · rename_i hn; subst hn; cases hm
      exact fun δ A => sa_me1 k.gk PySem.F.plainAttrs_str PySem.F.slot_str_join PySem.F.type_str_join (m1_join k.gk) sx sy (base_of hc.1.1) hfew hc.2 hst δ (fun d _ hm => by cases d <;> first | rfl | cases hm) A
    · split at hm
      · rename_i hn; subst hn; cases hm
        intro δ A
        by_cases hl : ∃ ds, ev F x δ = .val (.lst ds)
        · obtain ⟨ds, hl⟩ := hl
          exact sa_me1 k.gk PySem.F.plainAttrs_list PySem.F.slot_list_index PySem.F.type_list_index (m1_lindex k.gk k.hu) sx sy (base_of hc.1.1) hfew hc.2 hst δ (fun d hd _ => by rw [hl] at hd; cases hd; rfl) A
        · exact sa_me1 k.gk PySem.F.plainAttrs_str PySem.F.slot_str_index PySem.F.type_str_index m1_sindex sx sy (base_of hc.1.1) hfew hc.2 hst δ (fun d hd hm => by cases d <;> first | rfl | (cases hm; done) | exact absurd ⟨_, hd⟩ hl) A
      · split at hm
        · rename_i hn; subst hn; cases hm
          exact fun δ A => sa_me1 k.gk PySem.F.plainAttrs_list PySem.F.slot_list_count PySem.F.type_list_count (m1_lcount k.gk k.hu) sx sy (base_of hc.1.1) hfew hc.2 hst δ (fun d _ hm => by cases d <;> first | rfl | cases hm) A
        · split at hm
          · rename_i hn; subst hn; cases hm
            exact fun δ A => sa_me1 k.gk PySem.F.plainAttrs_dict PySem.F.slot_dict_get PySem.F.type_dict_get (m1_get1 k.gk k.hu) sx sy (base_of hc.1.1) hfew hc.2 hst δ (fun d _ hm => by cases d <;> first | rfl | cases hm) A
          · cases hm
  · cases h
theorem cMe2_ok (hr : RcOk gs G F rc) (k : Cok gs G F W ct X) {o b c : Expr} {nm : Str} {E : E} {ap : Pos} (h : cMe2 rc ct o nm b c ap pos = some E) : SA G (exOf G W) X (fresh E) (.Call (.Attribute o nm ap) [b, c] [] pos) (ev F E) := by
  unfold cMe2 at h
  split at h
  · rename_i hc
    simp only [Bool.and_eq_true, decide_eq_true_eq] at hc
    obtain ⟨⟨⟨⟨c1, c2⟩, c3⟩, c4⟩, rfl⟩ := hc
    have hst : starEach [b, c] X.env = (false, eval b X.env) :: starEach [c] X.env := star_of c2
    have hst2 : starEach [c] X.env = (false, eval c X.env) :: starEach [] X.env := star_of c3
    have hfew : ((backTo pos (starEach [b, c] X.env)).all (fun x => !x.1) && (backToKw pos (keywordEach [] X.env)).all (fun x => x.1.isSome)
      && decide ([b, c].length + ([] : List Keyword).length + (if ([] : List Keyword).isEmpty then 0 else 1) < 30)) = true := by
      rw [hst, hst2]
      rfl
    obtain ⟨x, h1, h⟩ := obind h
    obtain ⟨y, h2, h⟩ := obind h
    obtain ⟨z, h3, h⟩ := obind h
    cases h
    have e1 : ev F (.me2 .get2 x y z) = fMe2 .get2 (ev F x) (ev F y) (ev F z) := by funext δ; simp only [ev, fMe2]
    rw [e1]
    exact fun δ A => sa_me2 k.gk PySem.F.plainAttrs_dict PySem.F.slot_dict_get PySem.F.type_dict_get (m2_get2 k.gk k.hu) (hr W ct X .T _ x k h1) (hr W ct X .T _ y k h2) (SA.weak (hr W ct X .A _ z k h3)) (base_of c1) hfew c4 hst hst2 δ (fun d _ hm => by cases d <;> first | rfl | cases hm) A
  · cases h
theorem cSet_ok (hr : RcOk gs G F rc) (k : Cok gs G F W ct X) {f g : Str} {a : Expr} {E : E} {p1 p2 q2 : Pos} (h : cSet gs rc ct f g a = some E) : SA G (exOf G W) X (fresh E) (.Call (.Name f p1) [.Call (.Name g p2) [a] [] q2] [] pos) (ev F E) := by
  unfold cSet at h
  split at h
  · rename_i hc
    obtain ⟨rfl, rfl, h1, h2, h3, h4, h5, hmd⟩ := hc
    obtain ⟨x, h6, h⟩ := obind h
    cases h
    have e1 : ev F (.bi1 .sortset x) = f1 (bi1 .sortset) (ev F x) := by funext δ; simp only [ev, f1]
    rw [e1]
    exact sa_sortset k.gk (k.calm hmd) k.hu (glB_ok k h3) (k.gs.b _ h1) (glB_ok k h4) (k.gs.b _ h2) (hr W ct X .T _ x k h6) (star_of h5)
  · cases h
theorem cCallv_ok (hr : RcOk gs G F rc) (k : Cok gs G F W ct X) {a b : Expr} {args : List Expr} {E : E} {p : Pos} (h : cCallv rc ct (.Subscript a b p) args = some E) : SA G (exOf G W) X (fresh E) (.Call (.Subscript a b p) args [] pos) (ev F E) := by
  unfold cCallv at h
  split at h
  · cases h
  · split at h
    · rename_i hmd
      obtain ⟨x, h1, h⟩ := obind h
      obtain ⟨es, h2, h⟩ := obind h
      cases h
      obtain ⟨g1, g3⟩ := cArgs_ok k (fun e E h => hr W ct X .A e E k h) h2
      simp only [List.all_cons, Bool.and_eq_true] at g3
      have e1 : ev F (.callv x es) = fCallv F (ev F x) (evs F es) (fun δ => bor δ es) := by funext δ; simp only [ev, fCallv]
      rw [e1]
      exact sa_callv (k.calls hmd) (L2N.passAt k.tk) (hr W ct X .T _ x k h1) g1 (star_of g3.1) (plainL g3.2 _)
    · cases h
theorem cO_ok (hr : RcOk gs G F rc) (k : Cok gs G F W ct X) : ∀ {o : Option Expr} {e : E}, cO (rc ct .T) o = some e → PO1 G (exOf G W) X o (ev F e)
  | none, e, h => by
    cases h
    have e1 : ev F (.c .non) = fun _ => .val .non := by funext δ; simp only [ev]
    rw [e1]
    exact po1_none
  | some a, e, h => po1_some (hr W ct X .T a e k h)
theorem c0_ok (hr : RcOk gs G F rc) (k : Cok gs G F W ct X) {e : Expr} {E : E} (h : c0 gs rc ct e = some E) : SA G (exOf G W) X (fresh E) e (ev F E) := by
  unfold c0 at h
  split at h
  · exact cConst_ok h
  · obtain ⟨x, h1, h⟩ := obind h
    obtain ⟨y, h2, h⟩ := obind h
    exact cBin_ok k h (hr W ct X .T _ x k h1) (hr W ct X .T _ y k h2)
  · obtain ⟨x, h1, h⟩ := obind h
    cases h
    have e1 : ev F (.neg x) = f1 dNeg (ev F x) := by funext δ; simp only [ev, f1]
    rw [e1]
    exact sa_un (op1_neg (X := X)) nox_neg (hr W ct X .T _ x k h1)
  · split at h
    · rename_i hs
      obtain ⟨o, h1, h⟩ := obind h
      obtain ⟨x, h2, h⟩ := obind h
      obtain ⟨y, h3, h⟩ := obind h
      cases h
      cases cOp_ok h1
      have e1 : ev F (.cmp o x y) = fCmp o (ev F x) (ev F y) := by funext δ; simp only [ev, fCmp]
      rw [e1]
      exact sa_cmp k.gk k.hu (hr W ct X .T _ x k h2) (hr W ct X .T _ y k h3) (marks_of hs)
    · cases h
  · split at h
    · rename_i hs
      obtain ⟨o, h1, h⟩ := obind h
      obtain ⟨o2, h1', h⟩ := obind h
      obtain ⟨x, h2, h⟩ := obind h
      obtain ⟨y, h3, h⟩ := obind h
      obtain ⟨z, h4, h⟩ := obind h
      cases h
      cases cOp_ok h1
      cases cOp_ok h1'
      have e1 : ev F (.cmp2 o o2 x y z) = fCmp2 o o2 (ev F x) (ev F y) (ev F z) := by funext δ; simp only [ev, fCmp2]
      rw [e1]
      exact sa_cmp2 k.gk k.hu (hr W ct X .T _ x k h2) (hr W ct X .T _ y k h3) (hr W ct X .T _ z k h4) (marks_of hs)
    · cases h
  · split at h
    · rename_i hs
      obtain ⟨xs, h1, h⟩ := obind h
      cases h
      obtain ⟨g1, g2⟩ := cL_ok (fun e E h => hr W ct X .A e E k h) h1
      have e1 : ev F (.tup xs) = fTup (evs F xs) := by funext δ; simp only [ev, fTup]
      rw [e1]
      exact sa_tup g1 hs g2
    · cases h
  · split at h
    · rename_i hs
      obtain ⟨xs, h1, h⟩ := obind h
      cases h
      obtain ⟨g1, g2⟩ := cL_ok (fun e E h => hr W ct X .A e E k h) h1
      have e1 : ev F (.lst xs) = fLst (evs F xs) := by funext δ; simp only [ev, fLst]
      rw [e1]
      exact sa_lst g1 hs g2
    · cases h
  · cases h
    have e1 : ev F .dnil = fun _ => .val (.dct []) := by funext δ; simp only [ev]
    rw [e1]
    exact sa_dnil
  · obtain ⟨x, h1, h⟩ := obind h
    obtain ⟨l, h2, h⟩ := obind h
    obtain ⟨hh, h3, h⟩ := obind h
    cases h
    have e1 : ev F (.sl x l hh) = fSl (ev F x) (ev F l) (ev F hh) := by funext δ; simp only [ev, fSl]
    rw [e1]
    exact sa_sl k.gk (hr W ct X .T _ x k h1) (cO_ok hr k h2) (cO_ok hr k h3)
  · split at h
    · rename_i hs
      obtain ⟨x, h1, h⟩ := obind h
      obtain ⟨y, h2, h⟩ := obind h
      cases h
      have e1 : ev F (.idx x y) = fIdx (ev F x) (ev F y) := by funext δ; simp only [ev, fIdx]
      rw [e1]
      exact sa_idx k.gk k.hu (hr W ct X .T _ x k h1) (hr W ct X .T _ y k h2) (plain_of hs)
    · cases h
  · split at h
    · rename_i hc
      obtain ⟨rfl, rfl, h1, h2, h3, hmd⟩ := hc
      obtain ⟨x, h4, h⟩ := obind h
      obtain ⟨y, h5, h⟩ := obind h
      cases h
      have e1 : ev F (.bi2 .maxd x y) = f2 (bi2 .maxd) (ev F x) (ev F y) := by funext δ; simp only [ev, f2]
      rw [e1]
      exact sa_maxdf k.gk (k.calm hmd) k.hu (glB_ok k h2) (k.gs.b _ h1) (hr W ct X .T _ x k h4) (hr W ct X .T _ y k h5) (star_of h3)
    · cases h
  · rename_i f p1 g p2 a q2 q1
    cases hs : cSet gs rc ct f g a with
    | some E1 =>
      rw [hs] at h
      cases h
      exact cSet_ok hr k hs
    | none =>
      rw [hs] at h
      exact cCall_ok hr k h
  · exact cCall_ok hr k h
  · exact cCallv_ok hr k h
  · exact cMe_ok hr k h
  · exact cMe2_ok hr k h
  · obtain ⟨own, t, fi, fc, fe, hc, e1, e2⟩ := cComp_ok hr k h
    rw [e1, e2]
    exact sa_comp hc
  · cases h
end
end Py
end
section
set_option autoImplicit false
set_option linter.all false
set_option maxRecDepth 100000
set_option maxHeartbeats 4000000
/-! PyU: modes, statements, defs. -/
namespace Py
open PySem PySem.Spec L2
open Sem (wp)

def cName (gs : Gs) (ct : Ct) (m : Md) (x : Str) : Option E := match slot ct x with
  | some i => some (if m = .A then .vv i else .v i)
  | none => if glB ct.sc x && okN x then (if x ∈ gs.defs then some (.fn x.cps.toList) else (gs.cons.find? fun p => decide (p.1 = x)).map fun p => .c p.2) else none
def cc (gs : Gs) : Nat → Rc
  | 0 => fun _ _ _ => none
  | n + 1 => fun ct m e => match e with
    | .Name x _ => cName gs ct m x
    | .UnaryOp .Not a _ => do
      let x ← cc gs n ct (if m = .X then .X else .T) a
      return .not x
    | .BoolOp op vs pos => match vs with
      | [] => none
      | [a] => cc gs n ct (if m = .X then .X else .A) a
      | a :: b :: r => do
        let x ← cc gs n ct (if m = .X then .X else .T) a
        let y ← cc gs n ct (if m = .X then .X else .A) (.BoolOp op (b :: r) pos)
        match op with
          | .And => return .and x y
          | .Or => return .or x y
    | .IfExp c a b _ => if m = .X then none else (do
        let t ← cc gs n ct .X c
        let x ← cc gs n ct .A a
        let y ← cc gs n ct .A b
        return .ite t x y)
    | e => c0 gs (cc gs n) ct e
section
variable {gs : Gs} {G : Gx} {F : Nm → List D → Out D} {W : WX} {ct : Ct} {X : Cx} {x : Str} {i : Nat} {rc : Rc} {pos : Pos}
theorem snd_of (m : Md) {e : Expr} {E : E} (h : SA G (exOf G W) X (fresh E) e (ev F E)) (hx : m = .X → ∀ whole, isTrue e X.env whole = (do let v ← whole; standAt e.pos; holding [v] (truthy v))) : Snd G F W m X e E := by
  cases m with
  | A => exact h
  | T => exact SA.top h
  | X => exact tx_val (SA.top h) (hx rfl)
theorem cName_ok (k : Cok gs G F W ct X) {m : Md} {E : E} (h : cName gs ct m x = some E) : Snd G F W m X (.Name x pos) E := by
  unfold cName at h
  split at h
  · rename_i i hi
    cases h
    obtain ⟨s1, s2, s3, s4⟩ := slot_ok k hi
    have e1 : ev F (.v i) = fun δ => (get δ i).d := by funext δ; simp only [ev]
    have e2 : ev F (.vv i) = fun δ => (get δ i).v := by funext δ; simp only [ev]
    cases m with
    | A =>
      show SA G (exOf G W) X (fresh (.vv i)) _ (ev F (.vv i))
      rw [e2]
      exact sa_name s1 s2 s3 s4
    | T =>
      show ST G (exOf G W) X _ (ev F (.v i))
      rw [e1]
      exact st_name s1 s2 s3 s4
    | X =>
      show TX G (exOf G W) X _ (ev F (.v i))
      rw [e1]
      exact tx_val (st_name s1 s2 s3 s4) fun _ => rfl
  · split at h
    · rename_i hg
      simp only [Bool.and_eq_true, okN, Bool.not_eq_true'] at hg
      split at h
      · rename_i hd
        cases h
        obtain ⟨ad, c1, c2⟩ := k.gs.d x hd
        refine snd_of m ?_ fun _ _ => rfl
        have e1 : ev F (.fn x.cps.toList) = fun _ => .val (.fn x.cps.toList) := by funext δ; simp only [ev]
        rw [e1]
        exact sa_glob (v := .ref ad) (glB_ok k hg.1) c1 rfl (fun H => .fn c2) rfl hg.2.1
      cases hf : gs.cons.find? fun p => decide (p.1 = x) with
      | none => rw [hf] at h; cases h
      | some p =>
        rw [hf] at h
        cases h
        have hp := List.mem_of_find?_eq_some hf
        have hx : p.1 = x := by simpa using List.find?_some hf
        obtain ⟨u, v, c1, c2, c3, c4⟩ := k.gs.c p hp
        rw [hx] at c1
        refine snd_of m ?_ fun _ _ => rfl
        have e1 : ev F (.c p.2) = fun _ => .val p.2 := by funext δ; simp only [ev]
        rw [e1]
        exact sa_glob (glB_ok k hg.1) c1 c2 c3 c4 hg.2.1
    · cases h
theorem c0_cmpX (hr : RcOk gs G F rc) (k : Cok gs G F W ct X) {a : Expr} {os : List CmpOp} {bs : List Expr} {E : E} (h : c0 gs rc ct (.Compare a os bs pos) = some E) : TX G (exOf G W) X (.Compare a os bs pos) (ev F E) := by
  unfold c0 at h
  split at h
  case h_4 a' o b p heq =>
    cases heq
    split at h
    · rename_i hs
      obtain ⟨o, h1, h⟩ := obind h
      obtain ⟨x, h2, h⟩ := obind h
      obtain ⟨y, h3, h⟩ := obind h
      cases h
      cases cOp_ok h1
      have e1 : ev F (.cmp o x y) = fCmp o (ev F x) (ev F y) := by funext δ; simp only [ev, fCmp]
      rw [e1]
      exact tx_cmp k.gk k.hu (hr W ct X .T _ x k h2) (hr W ct X .T _ y k h3) (marks_of hs)
    · cases h
  case h_5 a' o o2 b c p heq =>
    cases heq
    split at h
    · rename_i hs
      obtain ⟨o, h1, h⟩ := obind h
      obtain ⟨o2, h1', h⟩ := obind h
      obtain ⟨x, h2, h⟩ := obind h
      obtain ⟨y, h3, h⟩ := obind h
      obtain ⟨z, h4, h⟩ := obind h
      cases h
      cases cOp_ok h1
      cases cOp_ok h1'
      have e1 : ev F (.cmp2 o o2 x y z) = fCmp2 o o2 (ev F x) (ev F y) (ev F z) := by funext δ; simp only [ev, fCmp2]
      rw [e1]
      exact tx_cmp2 k.gk k.hu (hr W ct X .T _ x k h2) (hr W ct X .T _ y k h3) (hr W ct X .T _ z k h4) (marks_of hs)
    · cases h
  all_goals first | (exfalso; rename_i heq; cases heq; done) | (exfalso; cases h; done) | skip
  all_goals (exfalso; rename_i heq _; cases heq)
theorem cc_ok : ∀ n, RcOk gs G F (cc gs n) ∧ ∀ (W : WX) (ct : Ct) (X : Cx) (op : BoolOp) (vs : List Expr) (pos : Pos) (E : E), Cok gs G F W ct X → cc gs n ct .X (.BoolOp op vs pos) = some E → TW G (exOf G W) X (.BoolOp op vs pos) (ev F E)
  | 0 => And.intro (by intro _ _ _ _ _ _ _ h; cases h) (by intro _ _ _ _ _ _ _ _ h; cases h)
  | n + 1 => by
    obtain ⟨ih, ihw⟩ := cc_ok n
    have hw : ∀ (W : WX) (ct : Ct) (X : Cx) (op : BoolOp) (vs : List Expr) (pos : Pos) (E : E), Cok gs G F W ct X → cc gs (n + 1) ct .X (.BoolOp op vs pos) = some E → TW G (exOf G W) X (.BoolOp op vs pos) (ev F E) := by
      intro W ct X op vs pos E k h
      unfold cc at h
      dsimp only at h
      split at h
      · cases h
      · rw [if_pos rfl] at h
        exact tw_one (ih W ct X .X _ E k h)
      · rw [if_pos rfl] at h
        obtain ⟨x, h1, h⟩ := obind h
        obtain ⟨y, h2, h⟩ := obind h
        have t1 := ih W ct X .X _ x k h1
        have t2 := ihw W ct X _ _ _ y k h2
        cases op with
        | And =>
          cases h
          have e1 : ev F (.and x y) = fAnd (ev F x) (ev F y) := by funext δ; simp only [ev, fAnd]
          rw [e1]
          exact tw_and t1 t2
        | Or =>
          cases h
          have e1 : ev F (.or x y) = fOr (ev F x) (ev F y) := by funext δ; simp only [ev, fOr]
          rw [e1]
          exact tw_or t1 t2
    refine ⟨?_, hw⟩
    intro W ct X m e E k h
    have h' := h
    unfold cc at h
    split at h
    · exact cName_ok k h
    · obtain ⟨x, h1, h⟩ := obind h
      cases h
      have e1 : ev F (.not x) = fNot (ev F x) := by funext δ; simp only [ev, fNot]
      cases m with
      | A =>
        show SA G (exOf G W) X (fresh (.not x)) _ (ev F (.not x))
        rw [e1]
        exact sa_not (ih W ct X .T _ x k h1)
      | T =>
        show ST G (exOf G W) X _ (ev F (.not x))
        rw [e1]
        exact SA.top (fr := false) (sa_not (ih W ct X .T _ x k h1))
      | X =>
        show TX G (exOf G W) X _ (ev F (.not x))
        rw [e1]
        exact tx_not (ih W ct X .X _ x k h1)
    · rename_i op vs pos
      cases m with
      | X => exact (hw W ct X op vs pos E k h').tx
      | A =>
        split at h
        · cases h
        · rename_i a
          rw [if_neg (by decide)] at h
          have := ih W ct X .A _ E k h
          exact fun δ A => pe_one (this δ A)
        · rw [if_neg (by decide), if_neg (by decide)] at h
          obtain ⟨x, h1, h⟩ := obind h
          obtain ⟨y, h2, h⟩ := obind h
          have t1 := ih W ct X .T _ x k h1
          have t2 := SA.weak (ih W ct X .A _ y k h2)
          cases op with
          | And =>
            cases h
            have e1 : ev F (.and x y) = fAnd (ev F x) (ev F y) := by funext δ; simp only [ev, fAnd]
            show SA G (exOf G W) X false _ _
            rw [e1]
            exact sa_and t1 t2
          | Or =>
            cases h
            have e1 : ev F (.or x y) = fOr (ev F x) (ev F y) := by funext δ; simp only [ev, fOr]
            show SA G (exOf G W) X false _ _
            rw [e1]
            exact sa_or t1 t2
      | T =>
        split at h
        · cases h
        · rename_i a
          rw [if_neg (by decide)] at h
          have := ih W ct X .A _ E k h
          exact SA.top (fr := fresh E) fun δ A => pe_one (this δ A)
        · rw [if_neg (by decide), if_neg (by decide)] at h
          obtain ⟨x, h1, h⟩ := obind h
          obtain ⟨y, h2, h⟩ := obind h
          have t1 := ih W ct X .T _ x k h1
          have t2 := SA.weak (ih W ct X .A _ y k h2)
          cases op with
          | And =>
            cases h
            have e1 : ev F (.and x y) = fAnd (ev F x) (ev F y) := by funext δ; simp only [ev, fAnd]
            show ST G (exOf G W) X _ _
            rw [e1]
            exact SA.top (sa_and t1 t2)
          | Or =>
            cases h
            have e1 : ev F (.or x y) = fOr (ev F x) (ev F y) := by funext δ; simp only [ev, fOr]
            show ST G (exOf G W) X _ _
            rw [e1]
            exact SA.top (sa_or t1 t2)
    · split at h
      · cases h
      · rename_i hm
        obtain ⟨t, h1, h⟩ := obind h
        obtain ⟨x, h2, h⟩ := obind h
        obtain ⟨y, h3, h⟩ := obind h
        cases h
        refine snd_of m ?_ fun z => absurd z hm
        have e1 : ev F (.ite t x y) = fIte (ev F t) (ev F x) (ev F y) := by funext δ; simp only [ev, fIte]
        rw [e1]
        exact sa_ite (ih W ct X .X _ t k h1) (SA.weak (ih W ct X .A _ x k h2)) (SA.weak (ih W ct X .A _ y k h3))
    · rename_i n1 n2 n3 n4
      have s := c0_ok ih k h
      by_cases hm : m = .X
      · subst hm
        cases e with
        | Compare a os bs p => exact c0_cmpX ih k h
        | BoolOp op vs p => exact absurd rfl (n3 _ _ _)
        | IfExp a b c p => exact absurd rfl (n4 _ _ _ _)
        | UnaryOp op a p =>
          cases op with
          | Not => exact absurd rfl (n2 _ _)
          | _ => exact snd_of .X s fun _ _ => rfl
        | _ => exact snd_of .X s fun _ _ => rfl
      · exact snd_of m s fun z => absurd z hm
end
end Py
end
section
set_option autoImplicit false
set_option linter.all false
set_option maxRecDepth 100000
set_option maxHeartbeats 4000000
/-! PyV: statements, from the model's syntax to the small language: sound; defs. -/
namespace Py
open PySem PySem.Spec L2
open Sem (wp)

mutual
/-- the slots read as values -/
def vvE : E → List Nat
  | .vv i => [i]
  | .add a b => vvE a ++ vvE b
  | .and a b => vvE a ++ vvE b
  | .or a b => vvE a ++ vvE b
  | .ite a b c => vvE a ++ vvE b ++ vvE c
  | .tup es => vvEs es
  | .lst es => vvEs es
  | .call _ es => vvEs es
  | .comp e _ _ i => vvE e ++ vvI i
  | .compIf e _ _ i c => vvE e ++ vvI i ++ vvE c
  | .idx a b => vvE a ++ vvE b
  | .bi1 _ a => vvE a
  | .bi2 _ a b => vvE a ++ vvE b
  | .me1 _ a b => vvE a ++ vvE b
  | .me2 _ a b c => vvE a ++ vvE b ++ vvE c
  | .callv a es => vvE a ++ vvEs es
  | .rev a => vvE a
  | .isi a _ => vvE a
  | .cmp _ a b => vvE a ++ vvE b
  | .not a => vvE a
  | _ => []
def vvEs : Es → List Nat
  | .nil => []
  | .cons e es => vvE e ++ vvEs es
def vvI : It → List Nat
  | .e a => vvE a
  | .enum a => vvE a
  | .zip a b => vvE a ++ vvE b
  | .rev a => vvE a
  | _ => []
end
def notComp : Expr → Bool
  | .ListComp _ _ _ _ => false
  | .SetComp _ _ _ _ => false
  | .DictComp _ _ _ _ _ => false
  | _ => true
theorem sw_no {e : Expr} {t : Option Expr} {l : Nat} {env : PySem.Env} (h : notComp e = true) : swapsWith e t l env = pure false := by
  cases e <;> first | rfl | cases h
theorem sws_no {e t : Expr} {l : Nat} {env : PySem.Env} (h : notComp e = true) : swapsWithSole [t] e l env = pure false := sw_no h
def notTup : Expr → Bool
  | .Tuple _ _ _ => false
  | _ => true
theorem swd_tup {e : Expr} {es : List Expr} {k : Nat} {p : Pos} {env : PySem.Env} (h : notTup e = true) : swappedStores [.Tuple es k p] e env = pure none := by
  cases e <;> first | rfl | cases h
theorem swd_sub {e o i : Expr} {p : Pos} {env : PySem.Env} : swappedStores [.Subscript o i p] e env = pure none := by
  cases e <;> rfl
theorem sub_asg {o k : Expr} {p : Pos} {env : PySem.Env} (h : notSlice k = true) : ∀ v, assign (.Subscript o k p) env v = (do
      let ov ← holding [v] (eval o env)
      let iv ← holding [v, ov] (eval k env)
      standAt p
      holding [v, ov, iv] (setItem ov iv v)
      release [v, ov, iv] []) := by
  intro v
  cases k <;> first | rfl | cases h
def swB (sc : Scope) (x : Str) (pl el : Nat) (scope : Scope) : Bool := locO sc x && (pl == el) && !(scope.names.any fun y => y.1 == x && (y.2 == .local || y.2 == .cell))
theorem sw_comp {elt : Expr} {gens : List Comprehension} {scope : Scope} {lp p : Pos} {x : Str} {l : Nat} {env : PySem.Env} (hk : env.scope.kind = .function) : swapsWith (.ListComp elt gens scope lp) (some (.Name x p)) l env = pure (swB env.scope x p.line lp.line scope) := by
  have hb : env.blockKind = .function := by unfold Env.blockKind; rw [hk]; rfl
  have hl : (env.kindOf x == some NameKind.local) = locO env.scope x := by
    unfold locO Env.kindOf
    cases env.scope.names.lookup x with
    | none => rfl
    | some k => cases k <;> rfl
  unfold swapsWith swB
  simp only [hb, hl, Expr.pos]
  rfl
/-- the slots of the names that own -/
def owIx (ct : Ct) (ow : List Str) : List Nat := ow.filterMap fun x => slot ct x
def fzOf (ct : Ct) (ow : List Str) (is : List Nat) : List Nat := is.filter fun i => decide (i ∈ owIx ct ow)
/-- blocks that leave the frame as it is -/
def cR1 (rc : Rc) (ct : Ct) (rr : List Stmt → Option Ss) : Stmt → Option S
  | .Return (some e) _ => do
    let e' ← rc ct .A e
    return .ret e' []
  | .Expr e _ => if notComp e then (do
      let e' ← rc ct .A e
      return .ex e') else none
  | .If c a b _ => do
    let c' ← rc ct .X c
    let a' ← rr a
    let b' ← rr b
    return .ifS c' a' b'
  | _ => none
def cRs (rc : Rc) (ct : Ct) : Nat → List Stmt → Option Ss
  | 0, _ => none
  | _ + 1, [] => some .nil
  | n + 1, s :: r => do
    let s' ← cR1 rc ct (cRs rc ct n) s
    let r' ← cRs rc ct n r
    return .cons s' r'
def errB (gs : Gs) (ct : Ct) (x : Str) : Bool := decide (ct.md = 0) && decide (x ∈ gs.errs) && glB ct.sc x && okN x
def cS1 (gs : Gs) (rc : Rc) (ct : Ct) (ow : List Str) (rs rsh rr : List Stmt → Option Ss) : Stmt → Option S
  | .Assign [.Name x pn] (.ListComp elt [⟨tg, it, ifs, 0⟩] scope lp) _ => do
    let i ← tgOne ct x
    let e ← cComp gs rc ct elt tg it ifs scope
    return .set i e (decide (x ∈ ow)) (fzOf ct ow (vvE e))
  | .Assign [.Name x _] e _ => if notComp e then (do
      let i ← tgOne ct x
      let e' ← rc ct .A e
      return .set i e' (decide (x ∈ ow)) (fzOf ct ow (vvE e'))) else none
  | .Assign [.Tuple es k p] e _ => if notComp e && notTup e && decide (ct.md = 0) then (do
      let t ← tgMany ct es
      let e' ← rc ct .A e
      return .unpack t e') else none
  | .Assign [.Subscript (.Name x _) k _] e _ => if notComp e && notTup e && notSlice k then (do
      let i ← slot ct x
      let e' ← rc ct .A e
      let k' ← rc ct .T k
      return .setIdx i k' e') else none
  | .Expr (.Call (.Attribute (.Name x _) nm ap) [e] [] cp) _ => if notStar e && (ap.endLine == cp.line) && decide (nm = "append") then (do
      let i ← slot ct x
      let e' ← rc ct .A e
      return .app i e') else none
  | .Expr (.Constant (.str _) _ _) _ => some .pass
  | .Expr e _ => if notComp e then (do
      let e' ← rc ct .A e
      return .ex e') else none
  | .Return (some e) _ => do
    let e' ← rc ct .A e
    return .ret e' (fzOf ct ow (vvE e'))
  | .Return none _ => some (.ret (.c .non) [])
  | .If c a b _ => do
    let c' ← rc ct .X c
    let a' ← rs a
    let b' ← rs b
    return .ifS c' a' b'
  | .For tg it body [] _ => if ct.md = 0 then (do
    let t ← cTg ct tg
    let i ← cI gs rc ct false tg it
    let b ← rs body
    return .forS t i (fzOf ct ow (vvI i)) b) else none
  | .Raise (some (.Call (.Name x _) [.Constant (.str _) _ _] [] _)) none _ => if errB gs ct x then some (.raise x.cps.toList) else none
  | .Try body [.ExceptHandler (some (.Name y _)) (some nm) (b0 :: suite) _] [] [] _ => if errB gs ct y && locO ct.sc nm then (do
    let i ← slot ct nm
    let b ← rr body
    let h ← rsh (b0 :: suite)
    return .tryS b y.cps.toList (some i) h) else none
  | .Try body [.ExceptHandler (some (.Name y _)) none (b0 :: suite) _] [] [] _ => if errB gs ct y then (do
    let b ← rr body
    let h ← rsh (b0 :: suite)
    return .tryS b y.cps.toList none h) else none
  | .While c body [] _ => do
    let c' ← rc ct .X c
    let b ← rs body
    return .whileS c' b
  | .Pass _ => some .pass
  | _ => none
def cSs (gs : Gs) (rc : Rc) (ct : Ct) (ow : List Str) : Nat → List Stmt → Option Ss
  | 0, _ => none
  | _ + 1, [] => some .nil
  | n + 1, s :: r => do
    let s' ← cS1 gs rc ct ow (cSs gs rc ct ow n) (cSs gs rc { ct with md := 1 } ow n) (cRs rc ct n) s
    let r' ← cSs gs rc ct ow n r
    return .cons s' r'
section
variable {gs : Gs} {G : Gx} {F : Nm → List D → Out D} {W : WX} {ct : Ct} {X : Cx} {x : Str} {i : Nat} {rc : Rc} {pos : Pos} {ow : List Str} {rs rsh rr : List Stmt → Option Ss}
theorem SL.ex {Ex Ex' : XS} {st : List Stmt} {f : Fs} (h : SL G Ex' X st f) (k : ∀ σ c H', Ex σ c H' → Ex' σ c H') : SL G Ex X st f := fun H0 A0 δ A => lImp (h H0 A0 δ A) fun D σ H ⟨fk, o⟩ => ⟨fk, by
  cases e : f δ with
  | bad => rw [e] at o; exact o
  | exc c => rw [e] at o; exact fun σ' H' s => k _ _ _ (o σ' H' s)
  | val p =>
    rw [e] at o
    obtain ⟨c, δ'⟩ := p
    cases c <;> exact o⟩
theorem errB_ok (k : Cok gs G F W ct X) (h : errB gs ct x = true) : ct.md = 0 ∧ x ∈ gs.errs ∧ Gl X x ∧ (x == ("__debug__" : Str)) = false := by
  unfold errB at h
  simp only [Bool.and_eq_true, decide_eq_true_eq, okN, Bool.not_eq_true'] at h
  exact ⟨h.1.1.1, h.1.1.2, glB_ok k h.1.2, h.2.1⟩
/-- within a try's body -/
theorem Cok.tr {W' : WX} {pn : List (Addr × Obj)} {xe : Value → Shared → Prop} (k : Cok gs G F W ct X) (hmd : ct.md = 0) (t : L2N.Takes (X.tr pn xe) W') (p : PassesOwn (model X.prog X.w) X.A X.env xe) : Cok gs G F W' ct (X.tr pn xe) where
  N := k.N
  nd := k.nd
  sc := k.sc
  kind := k.kind
  fn := k.fn
  calm := k.calm
  hx0 := k.hx0
  pin := fun a c h => by
    rw [k.hx0 hmd] at h
    cases h
  hot := fun h => by
    rw [hmd] at h
    cases h
  gk := ⟨k.gk.P, k.gk.w, k.gk.K⟩
  hu := k.hu
  gs := k.gs
  calls := k.calls
  hcalls := k.hcalls
  tk := t
  px := p
/-- within an except suite -/
theorem Cok.suite {e : Nm} {C a : Addr} {oe : Obj} {pn : List (Addr × Obj)} (k : Cok gs G F W ct X) (hmd : ct.md = 0) (hC : G.ca e = some C) (hz : L2N.Zn (.ref C) none oe) (hf : ∃ vs, oe.data = .fields vs) : Cok gs (G.hotx a e) F W0 { ct with md := 1 } (X.suite a ((a, oe) :: pn)) where
  N := k.N
  nd := k.nd
  sc := k.sc
  kind := k.kind
  fn := k.fn
  calm := fun h => by
    have h' : (1 : Nat) = 0 := h
    cases h'
  hx0 := fun h => by
    have h' : (1 : Nat) = 0 := h
    cases h'
  pin := fun b c h => by
    have h' : some (a, e) = some (b, c) := h
    cases h'
    exact ⟨oe, C, List.mem_cons_self, hz, hf, hC⟩
  hot := fun _ => by
    obtain ⟨vs, hv⟩ := hf
    exact ⟨(a, oe), a, e, ⟨rfl, vs, hv, hz.2.2 vs hv⟩, List.mem_cons_self, rfl, rfl, C, hz, ⟨vs, hv⟩, hC⟩
  gk := ⟨k.gk.P, k.gk.w, k.gk.K⟩
  hu := k.hu
  gs := k.gs.hotx (k.hx0 hmd) a e
  calls := fun h => by
    have h' : (1 : Nat) = 0 := h
    cases h'
  hcalls := fun _ a' e' x hx f hf => by
    obtain ⟨kk, fd, ps, h1, h2, h3, h4⟩ := k.hcalls (by rw [hmd]; decide) a' e' x hx f hf
    exact ⟨kk, fd, ps, h1, ⟨h2.dp, h2.un⟩, h3, h4⟩
  tk := takesN0
  px := PassesOwn.never
theorem cR1_ok (hr : RcOk gs G F rc) (k : Cok gs G F W ct X) (hrr : ∀ l ss, rr l = some ss → RL G (exOf G W) X l (exs F ss)) {st : Stmt} {s : S} (h : cR1 rc ct rr st = some s) : RS G (exOf G W) X st (ex F s) := by
  unfold cR1 at h
  split at h
  · obtain ⟨e', h2, h⟩ := obind h
    cases h
    have e3 : ∀ b, ex F (.ret e' b) = fRet b (ev F e') := fun b => by funext δ; simp only [ex, fRet]
    rw [e3]
    exact rs_ret (hr W ct X .A _ e' k h2)
  · split at h
    · rename_i hn
      obtain ⟨e', h2, h⟩ := obind h
      cases h
      have e3 : ex F (.ex e') = fEx (ev F e') := by funext δ; simp only [ex, fEx]
      rw [e3]
      exact rs_expr (hr W ct X .A _ e' k h2) (sw_no hn)
    · cases h
  · obtain ⟨c', h1, h⟩ := obind h
    obtain ⟨a', h2, h⟩ := obind h
    obtain ⟨b', h3, h⟩ := obind h
    cases h
    have e3 : ex F (.ifS c' a' b') = fIf (ev F c') (exs F a') (exs F b') := by funext δ; simp only [ex, fIf]
    rw [e3]
    exact rs_if (hr W ct X .X _ c' k h1) (hrr _ _ h2) (hrr _ _ h3)
  · cases h
theorem cRs_ok (hr : RcOk gs G F rc) : ∀ (n : Nat) {W : WX} {ct : Ct} {X : Cx} {l : List Stmt} {ss : Ss}, Cok gs G F W ct X → cRs rc ct n l = some ss → RL G (exOf G W) X l (exs F ss)
  | 0, _, _, _, _, _, _, h => by cases h
  | n + 1, _, _, _, [], _, k, h => by
    cases h
    have e3 : exs F .nil = fNil := by funext δ; simp only [exs, fNil]
    rw [e3]
    exact rl_nil
  | n + 1, W, ct, X, s :: r, _, k, h => by
    unfold cRs at h
    obtain ⟨s', h1, h⟩ := obind h
    obtain ⟨r', h2, h⟩ := obind h
    cases h
    have e3 : exs F (.cons s' r') = fSeq (ex F s') (exs F r') := by funext δ; simp only [exs, fSeq]
    rw [e3]
    exact rl_cons (cR1_ok hr k (fun l ss h => cRs_ok hr n k h) h1) (cRs_ok hr n k h2)
theorem cS1_ok (hr : RcOk gs G F rc) (k : Cok gs G F W ct X) (hst : X.stack = X.env :: X.outer ∧ X.env.frame = some X.env.locals) (hrs : ∀ l ss, rs l = some ss → SL G (exOf G W) X l (exs F ss)) (hrr : ∀ l ss, rr l = some ss → ∀ (W : WX) (X : Cx), Cok gs G F W ct X → RL G (exOf G W) X l (exs F ss)) (hrsh : ct.md = 0 → ∀ l ss, rsh l = some ss → HdlOk G X l (exs F ss)) {st : Stmt} {s : S} (h : cS1 gs rc ct ow rs rsh rr st = some s) : SS G (exOf G W) X st (ex F s) := by
  unfold cS1 at h
  split at h
  · rename_i x pn elt tg it ifs scope lp p
    obtain ⟨i, h1, h⟩ := obind h
    obtain ⟨e, h2, h⟩ := obind h
    cases h
    obtain ⟨s1, s2, s3⟩ := tgOne_ok k h1
    obtain ⟨own, t, fi, fc, fe, hc, e1, e2⟩ := cComp_ok hr k h2
    have e3 : ex F (.set i e (decide (x ∈ ow)) (fzOf ct ow (vvE e))) = fSet i (decide (x ∈ ow)) true (fzOf ct ow (vvE e)) (fComp (own.map (·.2)) t fi fc fe) := by
      funext δ
      simp only [ex, fSet, e1, e2]
    rw [e3]
    have hk : X.env.scope.kind = .function := by rw [k.sc]; exact k.kind
    cases hb : swB X.env.scope x pn.line lp.line scope with
    | true =>
      have hl : locO X.env.scope x = true := by
        unfold swB at hb
        simp only [Bool.and_eq_true] at hb
        exact hb.1.1
      exact ss_setLc hc s1 (locO_ok hl) (by rw [sw_comp hk, hb])
    | false => exact ss_set k.nd s1 s2 (sa_comp hc) (by rw [sw_comp hk, hb]) s3
  · split at h
    · rename_i hn
      obtain ⟨i, h1, h⟩ := obind h
      obtain ⟨e', h2, h⟩ := obind h
      cases h
      obtain ⟨s1, s2, s3⟩ := tgOne_ok k h1
      have e3 : ∀ a b, ex F (.set i e' a b) = fSet i a (fresh e') b (ev F e') := fun a b => by
        funext δ
        simp only [ex, fSet]
      rw [e3]
      exact ss_set k.nd s1 s2 (hr W ct X .A _ e' k h2) (sw_no hn) s3
    · cases h
  · split at h
    · rename_i hn
      simp only [Bool.and_eq_true, decide_eq_true_eq] at hn
      obtain ⟨hn, hmd⟩ := hn
      obtain ⟨is, h1, h⟩ := obind h
      obtain ⟨e', h2, h⟩ := obind h
      cases h
      obtain ⟨g1, g2, g3⟩ := tgMany_ok k h1
      have e3 : ex F (.unpack is e') = fUnp (.many is) (ev F e') := by
        funext δ
        simp only [ex, fUnp]
      rw [e3]
      exact ss_unp (bg_many k.gk (k.calm hmd) g1 g2 g3) (hr W ct X .A _ e' k h2) (sws_no hn.1) (swd_tup hn.2) rfl
    · cases h
  · split at h
    · rename_i hn
      simp only [Bool.and_eq_true] at hn
      obtain ⟨i, h1, h⟩ := obind h
      obtain ⟨e', h2, h⟩ := obind h
      obtain ⟨k', h3, h⟩ := obind h
      cases h
      obtain ⟨s1, s2, s3, s4⟩ := slot_ok k h1
      have e3 : ex F (.setIdx i k' e') = fSetIdx i (ev F k') (ev F e') := by
        funext δ
        simp only [ex, fSetIdx]
      rw [e3]
      exact ss_setIdx k.gk k.hu s1 s2 s3 s4 (SA.weak (hr W ct X .A _ e' k h2)) (hr W ct X .T _ k' k h3) (sub_asg hn.2) (sws_no hn.1.1) swd_sub
    · cases h
  · split at h
    · rename_i hn
      simp only [Bool.and_eq_true, decide_eq_true_eq] at hn
      obtain ⟨i, h1, h⟩ := obind h
      obtain ⟨e', h2, h⟩ := obind h
      cases h
      obtain ⟨⟨g1, g2⟩, rfl⟩ := hn
      obtain ⟨s1, s2, s3, s4⟩ := slot_ok k h1
      have e3 : ex F (.app i e') = fApp i (ev F e') := by
        funext δ
        simp only [ex, fApp]
      rw [e3]
      refine ss_app s1 s2 s3 s4 (SA.weak (hr W ct X .A _ e' k h2)) (base_of rfl) ?_ g2 (star_of g1)
      rw [star_of g1]
      rfl
    · cases h
  · cases h
    have e3 : ex F .pass = fNil := by funext δ; simp only [ex, fNil]
    rw [e3]
    exact ss_doc
  · split at h
    · rename_i hn
      obtain ⟨e', h2, h⟩ := obind h
      cases h
      have e3 : ex F (.ex e') = fEx (ev F e') := by funext δ; simp only [ex, fEx]
      rw [e3]
      exact ss_expr (hr W ct X .A _ e' k h2) (sw_no hn)
    · cases h
  · obtain ⟨e', h2, h⟩ := obind h
    cases h
    have e3 : ∀ b, ex F (.ret e' b) = fRet b (ev F e') := fun b => by funext δ; simp only [ex, fRet]
    rw [e3]
    exact ss_ret (hr W ct X .A _ e' k h2)
  · cases h
    have e3 : ex F (.ret (.c .non) []) = fun δ => .val (.rt .non, δ) := by funext δ; simp only [ex, ev]; rfl
    rw [e3]
    exact ss_retN
  · obtain ⟨c', h1, h⟩ := obind h
    obtain ⟨a', h2, h⟩ := obind h
    obtain ⟨b', h3, h⟩ := obind h
    cases h
    have e3 : ex F (.ifS c' a' b') = fIf (ev F c') (exs F a') (exs F b') := by funext δ; simp only [ex, fIf]
    rw [e3]
    exact ss_if (hr W ct X .X _ c' k h1) (hrs _ _ h2) (hrs _ _ h3)
  · split at h
    · rename_i hmd
      obtain ⟨t, h1, h⟩ := obind h
      obtain ⟨i, h2, h⟩ := obind h
      obtain ⟨b', h3, h⟩ := obind h
      cases h
      have e3 : ∀ z, ex F (.forS t i z b') = fFor t z (evIt F i) (exs F b') := fun z => by funext δ; simp only [ex, fFor]
      rw [e3]
      obtain ⟨si, sf⟩ := cI_ok hr k h2
      exact ss_for k.px (k.calm hmd) si (cTg_ok k h1) (hrs _ _ h3) sf
    · cases h
  · split at h
    · rename_i hn
      cases h
      obtain ⟨hmd, hx, hg, hdb⟩ := errB_ok k hn
      obtain ⟨C, hC⟩ := k.gs.e _ hx
      have e3 : ∀ x : Str, ex F (.raise x.cps.toList) = fun _ => .exc x.cps.toList := fun x => by funext δ; simp only [ex]
      rw [e3]
      exact ss_raise k.gk (k.calm hmd) k.tk hC hg hdb
    · cases h
  · split at h
    · rename_i hn
      simp only [Bool.and_eq_true] at hn
      obtain ⟨hmd, hx, hg, hdb⟩ := errB_ok k hn.1
      obtain ⟨C, hC⟩ := k.gs.e _ hx
      obtain ⟨i, h1, h⟩ := obind h
      obtain ⟨b', h2, h⟩ := obind h
      obtain ⟨h', h3, h⟩ := obind h
      cases h
      have e3 : ∀ (y : Nm) (n : Option Nat), ex F (.tryS b' y n h') = fTry y n (exs F b') (exs F h') := fun y n => by
        funext δ
        simp only [ex, fTry]
        all_goals (cases exs F b' δ <;> rfl)
      rw [e3]
      obtain ⟨s1, s2, s3, s4⟩ := slot_ok k h1
      have hl := locO_ok hn.2
      rw [← k.sc] at hl
      exact ss_tryAs k.gk (k.hx0 hmd) hst.1 hst.2 k.nd s1 hl hg hdb hC.m (k.gs.m _ hx C hC.c) k.tk (hrr _ _ h2 W X k).1 (fun W' pn xe t p => hrr _ _ h2 W' _ (k.tr hmd t p)) (hrsh hmd _ _ h3)
    · cases h
  · split at h
    · rename_i hn
      obtain ⟨hmd, hx, hg, hdb⟩ := errB_ok k hn
      obtain ⟨C, hC⟩ := k.gs.e _ hx
      obtain ⟨b', h2, h⟩ := obind h
      obtain ⟨h', h3, h⟩ := obind h
      cases h
      have e3 : ∀ (y : Nm) (n : Option Nat), ex F (.tryS b' y n h') = fTry y n (exs F b') (exs F h') := fun y n => by
        funext δ
        simp only [ex, fTry]
        all_goals (cases exs F b' δ <;> rfl)
      rw [e3]
      exact ss_try1 k.gk (k.hx0 hmd) hst.1 hst.2 hg hdb hC.m (k.gs.m _ hx C hC.c) k.tk (hrr _ _ h2 W X k).1 (fun W' pn xe t p => hrr _ _ h2 W' _ (k.tr hmd t p)) (hrsh hmd _ _ h3)
    · cases h
  · obtain ⟨c', h1, h⟩ := obind h
    obtain ⟨b', h3, h⟩ := obind h
    cases h
    have e3 : ex F (.whileS c' b') = fWhile (ev F c') (exs F b') := by funext δ; simp only [ex, fWhile]
    rw [e3]
    exact ss_while k.px (hr W ct X .X _ c' k h1) (hrs _ _ h3)
  · cases h
    have e3 : ex F .pass = fNil := by funext δ; simp only [ex, fNil]
    rw [e3]
    exact ss_pass
  · cases h
theorem cSs_ok (hr : ∀ G, RcOk gs G F rc) : ∀ (n : Nat) {G : Gx} {W : WX} {ct : Ct} {X : Cx} {l : List Stmt} {ss : Ss}, Cok gs G F W ct X → (X.stack = X.env :: X.outer ∧ X.env.frame = some X.env.locals) → cSs gs rc ct ow n l = some ss → SL G (exOf G W) X l (exs F ss)
  | 0, _, _, _, _, _, _, _, _, h => by cases h
  | n + 1, _, _, _, _, [], _, k, hst, h => by
    cases h
    have e3 : exs F .nil = fNil := by funext δ; simp only [exs, fNil]
    rw [e3]
    exact sl_nil
  | n + 1, G, W, ct, X, s :: r, _, k, hst, h => by
    unfold cSs at h
    obtain ⟨s', h1, h⟩ := obind h
    obtain ⟨r', h2, h⟩ := obind h
    cases h
    have e3 : exs F (.cons s' r') = fSeq (ex F s') (exs F r') := by funext δ; simp only [exs, fSeq]
    rw [e3]
    refine sl_cons (cS1_ok (hr G) k hst (fun l ss h => cSs_ok hr n k hst h) (fun l ss h W' X' k' => cRs_ok (hr G) n k' h) (fun hmd l ss h e C a oe pn hC hz hf => ?_) h1) (cSs_ok hr n k hst h2)
    exact SL.ex (cSs_ok hr n (k.suite hmd hC hz hf) hst h) fun _ _ _ z => z.elim
end
end Py
end
section
set_option autoImplicit false
set_option linter.all false
set_option maxRecDepth 100000
set_option maxHeartbeats 4000000
/-! PyW: defs keep what they promise, level by level. -/
namespace Py
open PySem PySem.Spec L2
open Sem (wp)

structure DefOk (gs : Gs) (T : Tab) (K : PySem.W.Frag) (md : Nat) (nm : Nm) (f : Addr) : Prop where
  ex : ∃ (x : Str) (st : Stmt) (N ps ow : List Str) (fd' : FD) (fd : FuncData) (n1 n2 : Nat),
    FunD K x x (defArgs st) (defBody st) (defScope st) [] [] f fd ∧ FnScope N ps (defScope st) ∧ cSs gs (cc gs n1) ⟨N, defScope st, fun _ => true, md⟩ ow n2 (defBody st) = some fd'.body ∧
    fd'.np = ps.length ∧ fd'.ns = N.length ∧ T nm = some fd' ∧ Binds K fd ps []

section
variable {G : Gx} {A : Addr → Bool} {H : Hp}
theorem get_uns : ∀ (k i : Nat), get (uns k) i = .un
  | 0, _ => rfl
  | k + 1, 0 => rfl
  | k + 1, i + 1 => get_uns k i
theorem uns_len : ∀ k : Nat, (uns k).length = k
  | 0 => rfl
  | k + 1 => by simp [uns, uns_len k]
theorem startE_len : ∀ (ds : List D) (k : Nat), (startE ds k).length = ds.length + k
  | [], k => by simp [startE, uns_len]
  | _ :: r, k => by simp [startE, startE_len r k]; omega
theorem startE_get : ∀ (ds : List D) (k i : Nat), (∃ d, ds[i]? = some d ∧ get (startE ds k) i = .sh d) ∨ get (startE ds k) i = .un
  | [], k, i => .inr (get_uns k i)
  | d :: r, k, 0 => .inl ⟨d, rfl, rfl⟩
  | d :: r, k, i + 1 => by
    rcases startE_get r k i with ⟨d', h1, h2⟩ | h
    · exact .inl ⟨d', by simpa using h1, h2⟩
    · exact .inr h
theorem start_fr {ds : List D} {vs : List V} {N : List Str} {k : Nat} (p : Prot A H) (r : RepAll G (Hide H A) ds vs) (hk : ds.length + k = N.length) : FrOk G H A A H (startE ds k) (L2.start N vs) := by
  have hl := r.length
  have noOw : ∀ (i : Nat) (d : D), get (startE ds k) i ≠ .ow d := fun i d h => by
    rcases startE_get ds k i with ⟨d', _, h2⟩ | h2
    · rw [h2] at h; cases h
    · rw [h2] at h; cases h
  refine ⟨⟨p, ?_, fun i d h => ?_, fun i d h => absurd h (noOw i d)⟩, p, Same.refl H, fun _ h => h, fun i d a h => absurd h (noOw i d), fun i j d e a h => absurd h (noOw i d)⟩
  · rw [startE_len]
    unfold L2.start
    rw [List.length_append, List.length_map, List.length_replicate]
    omega
  · rcases startE_get ds k i with ⟨d', h1, h2⟩ | h2
    · rw [h2] at h
      cases h
      obtain ⟨v, h3, h4⟩ := r.get h1
      refine ⟨v, ?_, h4⟩
      unfold L2.start
      have hi : i < vs.length := (List.getElem?_eq_some_iff.mp h3).1
      rw [List.getElem?_append_left (by simpa using hi), List.getElem?_map, h3]
      rfl
    · rw [h2] at h; cases h
end

section
variable {gs : Gs} {G : Gx} {T : Tab} {P : Program} {w : World} {K : PySem.W.Frag} {mg : Str → Option Value} {base : Heap}
theorem spF_len {n : Nat} {nm : Nm} {fd' : FD} (hT : T nm = some fd') {vs : List V} {H : Hp} {Q : VK} {E : XK} (h : spF G (evF T n) nm vs H Q E) : vs.length = fd'.np := by
  obtain ⟨A, ds, p, r, o⟩ := h
  cases n with
  | zero => exact o.elim
  | succ n =>
    unfold evF at o
    rw [hT] at o
    dsimp only at o
    split at o
    · rename_i hl
      rw [← r.length, hl]
    · exact o.elim
/-- behind a body -/
theorem body_end {n : Nat} {A : Addr → Bool} {H : Hp} {Q : VK} {E : XK} {nm : Nm} {fd' : FD} {ds : List D} (h6 : T nm = some fd') (hlen : ds.length = fd'.np) (o : OutE (fun c H' => ∀ a : Addr, G.ca c = some a → E (.ref a) none H') H (MA G A H false) Q (evF T (n + 1) nm ds)) :
    OutS (exOf G fun cls d _ H => E cls d H) G H A A H { nx := fun _ H' => Q .non H', rt := Q } (exs (evF T n) fd'.body (startE ds (fd'.ns - fd'.np))) := by
  have o' : OutE (fun c H' => ∀ a : Addr, G.ca c = some a → E (.ref a) none H') H (MA G A H false) Q (fin (exs (evF T n) fd'.body (startE ds (fd'.ns - fd'.np)))) := by
    unfold evF at o
    rw [h6] at o
    dsimp only at o
    rw [if_pos hlen] at o
    exact o
  cases e : exs (evF T n) fd'.body (startE ds (fd'.ns - fd'.np)) with
  | exc c => rw [e] at o'; exact fun σ' H' s => o' H' s
  | bad => rw [e] at o'; exact o'
  | val q =>
    rw [e] at o'
    obtain ⟨c, δ'⟩ := q
    cases c with
    | nx => exact fun A' H' σ' _ f' => o' .non H' f'.same mk_non
    | rt d => exact fun v H' s r => o' v H' s ⟨r, fun z => nomatch z⟩
theorem len_fd {n : Nat} {A : Addr → Bool} {H : Hp} {vs : List V} {ds : List D} {nm : Nm} {fd' : FD} {Q : VK} {E : XK} (h6 : T nm = some fd') (r : RepAll G (Hide H A) ds vs) (h : spF G (evF T n) nm vs H Q E) : ds.length = fd'.np := by
  rw [r.length]
  exact spF_len h6 h
/-- the hot defs, each kept at each level -/
def HotOk (gs : Gs) (G : Gx) (T : Tab) (P : Program) (w : World) (K : PySem.W.Frag) (mg : Str → Option Value) (base : Heap) : Prop := ∀ (n : Nat) (a : Addr) (e : Nm) (x : Str), x ∈ gs.hot → ∀ f, G.fa x.cps.toList = some f → ∃ fd ps, FnE P w K mg base (L2N.CX P w) n f fd ps (spF (G.hotx a e) (evF T n) x.cps.toList) (GdE G a e) ∧ PySem.W.keepIn K (.ref f) = true ∧ Binds K fd ps []
theorem hot_run (hP : G.P = P) (hw : G.w = w) (hK : G.K = K) (hx : G.hx = none) (hgs : GsOk gs G mg) (hh : ∀ x ∈ gs.hot, ∀ f, G.fa x.cps.toList = some f → DefOk gs T K 2 x.cps.toList f) : HotOk gs G T P w K mg base := by
  intro n a e x0 hx0 f hf
  obtain ⟨x, st, N, ps, ow, fd', fd, n1, n2, h1, h2, h3, h4, h5, h6, h7⟩ := (hh x0 hx0 f hf).ex
  refine ⟨fd, ps, ?_, h1.kp, h7⟩
  cases n with
  | zero =>
    refine ⟨fun vs H Q E h => by rw [spF_len h6 h, h4], fun A outer s H args us vs Q E p _ _ _ _ _ _ _ h => ?_⟩
    obtain ⟨A, ds, p, r, o⟩ := h
    exact o.elim
  | succ n =>
    refine fnE_of h1 h2 (fun vs H Q E h => by rw [spF_len h6 h, h4]) fun cdv A outer s H vs Q E p gd hr h => ?_
    have h' := h
    obtain ⟨Ah, ds, pr, r, o⟩ := h
    have k : Cok gs (G.hotx a e) (evF T n) (fun cls d _ H => E cls d H) ⟨N, defScope st, fun _ => true, 2⟩ (L2H.cxH (L2N.CX P w) P w K mg base N x (defScope st) f cdv A outer s H E p) :=
      { N := rfl, nd := h2.nd, sc := rfl, kind := h2.kind, fn := rfl, calm := fun h => by cases h
        hx0 := fun h => by cases h
        pin := fun b c hb => by
          have hb' : some (a, e) = some (b, c) := hb
          cases hb'
          obtain ⟨rfl, C, g1, g2, g3⟩ := gd
          exact ⟨p.2, C, List.mem_singleton.mpr rfl, g1, g2, g3⟩
        hot := fun h => by cases h
        gk := ⟨hP.symm, hw.symm, hK.symm⟩
        hu := by
          have := hr.un
          show (A.deeper _).units + 70 < cLine
          omega
        calls := fun h => by cases h
        hcalls := fun h => absurd rfl h
        tk := L2N.takes_of rfl rfl rfl rfl
        px := passes_of rfl
        gs := hgs.hotx hx a e }
    have sl := cSs_ok (ow := ow) (fun G => (cc_ok n1).1) n2 k ⟨rfl, rfl⟩ h3
    have hlen2 := len_fd h6 r h'
    refine ⟨_, sl H Ah (startE ds (fd'.ns - fd'.np)) Ah, start_fr pr r (by
      have hpre : ps.length ≤ N.length := by have := congrArg List.length h2.pre; rw [List.length_take] at this; omega
      omega), body_end h6 hlen2 o⟩
theorem def_run (hP : G.P = P) (hw : G.w = w) (hK : G.K = K) (hx : G.hx = none) (hgs : GsOk gs G mg) (hot : HotOk gs G T P w K mg base) {n : Nat} (ih : ∀ nm f, G.fa nm = some f → ∃ fd ps, FnOk P w K mg base (L2N.CX P w) n f fd ps (spF G (evF T n) nm) ∧ PySem.W.keepIn K (.ref f) = true ∧ Binds K fd ps [])
    {nm : Nm} {f : Addr} {x : Str} {st : Stmt} {N ps ow : List Str} {fd' : FD} {fd : FuncData} {n1 n2 : Nat} (h1 : FunD K x x (defArgs st) (defBody st) (defScope st) [] [] f fd) (h2 : FnScope N ps (defScope st)) (h3 : cSs gs (cc gs n1) ⟨N, defScope st, fun _ => true, 0⟩ ow n2 (defBody st) = some fd'.body)
    (h4 : fd'.np = ps.length) (h5 : fd'.ns = N.length) (h6 : T nm = some fd') : FnOk P w K mg base (L2N.CX P w) (n + 1) f fd ps (spF G (evF T (n + 1)) nm) := by
  refine h1.ok h2 (fun vs H Q E h => by rw [spF_len h6 h, h4]) fun cdv A outer s H vs Q E hr h => ?_
  have h' := h
  obtain ⟨Ah, ds, p, r, o⟩ := h
  have k : Cok gs G (evF T n) (fun cls d _ H => E cls d H) ⟨N, defScope st, fun _ => true, 0⟩ (cxOf (L2N.CX P w) P w K mg base N x (defScope st) f cdv A outer s H E) :=
    { N := rfl, nd := h2.nd, sc := rfl, kind := h2.kind, fn := rfl, calm := fun _ => rfl, gk := ⟨hP.symm, hw.symm, hK.symm⟩,
      hx0 := fun _ => hx
      pin := fun b c hb => by rw [hx] at hb; cases hb
      hot := fun h => by cases h
      hu := by
        have := hr.un
        show (A.deeper _).units + 70 < cLine
        omega
      calls := fun _ nm' a ha => by
        obtain ⟨fd2, ps2, g1, g2, g3⟩ := ih nm' a ha
        exact ⟨n, fd2, ps2, g1, hr, g2, g3⟩
      hcalls := fun _ a e y hy f' hf' => by
        obtain ⟨fd2, ps2, g1, g2, g3⟩ := hot n a e y hy f' hf'
        exact ⟨n, fd2, ps2, g1, L2H.roomH_of hr, g2, g3⟩
      tk := L2N.takes_of rfl rfl rfl rfl
      px := passes_of rfl
      gs := hgs }
  have sl := cSs_ok (ow := ow) (fun G => (cc_ok n1).1) n2 k ⟨rfl, rfl⟩ h3
  have hlen2 := len_fd h6 r h'
  exact ⟨_, sl H Ah (startE ds (fd'.ns - fd'.np)) Ah, start_fr p r (by
    have hpre : ps.length ≤ N.length := by have := congrArg List.length h2.pre; rw [List.length_take] at this; omega
    omega), body_end h6 hlen2 o⟩
theorem level (hP : G.P = P) (hw : G.w = w) (hK : G.K = K) (hx : G.hx = none) (hgs : GsOk gs G mg) (hot : HotOk gs G T P w K mg base) (hd : ∀ nm f, G.fa nm = some f → DefOk gs T K 0 nm f) :
    ∀ n nm f, G.fa nm = some f → ∃ fd ps, FnOk P w K mg base (L2N.CX P w) n f fd ps (spF G (evF T n) nm) ∧ PySem.W.keepIn K (.ref f) = true ∧ Binds K fd ps []
  | 0, nm, f, hf => by
    obtain ⟨x, st, N, ps, ow, fd', fd, n1, n2, h1, h2, h3, h4, h5, h6, h7⟩ := (hd nm f hf).ex
    refine ⟨fd, ps, ⟨fun vs H Q E h => by rw [spF_len h6 h, h4], fun A outer s H args us vs Q E _ _ _ _ h => ?_⟩, h1.kp, h7⟩
    obtain ⟨A, ds, p, r, o⟩ := h
    exact o.elim
  | n + 1, nm, f, hf => by
    obtain ⟨x, st, N, ps, ow, fd', fd, n1, n2, h1, h2, h3, h4, h5, h6, h7⟩ := (hd nm f hf).ex
    exact ⟨fd, ps, def_run hP hw hK hx hgs hot (level hP hw hK hx hgs hot hd n) h1 h2 h3 h4 h5 h6, h1.kp, h7⟩
/-- the law's def, at a script -/
theorem law_sp {n : Nat} {nm : Nm} (hK : G.K = K) (h : ∀ ns : List Int, ns.length ≤ 63 → evF T n nm [.lst (ns.map .int)] = .val (.bl true)) {H : Hp} {a : Addr} {ns : List Int} (hl : ns.length ≤ 63) (hS : LsT K H a (ns.map V.int)) :
    spF G (evF T n) nm [.ref a] H (fun v _ => v = .bl true) fun _ _ _ => False := by
  have hH : Hide H (fun _ => false) = H := by
    funext b
    exact Hide.at rfl
  have r : ∀ ns : List Int, RepAll G H (ns.map D.int) (ns.map V.int) := fun ns => by
    induction ns with
    | nil => exact .nil
    | cons i r ih => exact .cons (.int i) ih
  refine Exists.intro (fun _ => false) (Exists.intro [.lst (ns.map .int)] (And.intro (fun a h => absurd h Bool.false_ne_true) (And.intro (by rw [hH]; exact .cons (.lst (by rw [hK]; exact hS) (r ns)) .nil) ?_)))
  rw [h ns hl]
  intro v H' s m
  exact RepT.bl (A := fun _ => false) (.inl m.1)
end
end Py
end
section
set_option autoImplicit false
set_option linter.all false
set_option maxRecDepth 100000
set_option maxHeartbeats 4000000
/-! PyX: a law from what its def computes. -/
namespace Py
open PySem PySem.Spec L2
open Sem (wp)

/-- the walk that a law's head leaves, the script as a list that may be read -/
theorem walk_ofL {l : PySem.W.OpenLaw} {n k : Nat} {q : Program} {loose : List Str} {XP : (Str → Option Value) → Heap → Prop} {YP : World → Heap → Prop} {d : DefRec} {C : CXT} {x : Str}
    (hn : l.most = some n) (hn2 : n ≤ sizeLine) (hdf : d.params.defaults = []) (hr : Room k callerA)
    (F : ∀ (w : World) (mg : Str → Option Value) (fa : Addr) (h : Heap), YP w h → h.Ns mainGlobals mg → mg d.name = some (.ref fa) →
      ∃ (K : PySem.W.Frag) (fd : FuncData) (sp : Sp), K.In h ∧ (∀ (s : Shared) (u : Value), BindsTo s fd ⟨[u], []⟩ [(x, u)]) ∧
        (∀ (H : Hp) (a : Addr) (ns : List Int), ns.length ≤ n → LsT K H a (ns.map V.int) → sp [.ref a] H (fun v _ => v = .bl true) fun _ _ _ => False) ∧
        ∀ base : Heap, K.In base → base.Ns mainGlobals mg → FnOk l.prog w K mg base C k fa fd [x] sp)
    (hC : ∀ (H : Hp) (s : Shared) (e : Value) (s' : Shared), C [] H s (fun _ _ _ => False) e s' → False) :
    PySem.W.WalkO q loose XP YP l.row.toRowW d [] (fun f vs => PySem.call f vs) := by
  refine Att.attach_call hn hdf ?_
  intro w t₀ t₁ mg mb fa o pm cd dc a us ms Gr Yp _ _ _ hname hscript hnums hle hgens
  obtain ⟨K, fd, sp, KX, hbi, hspec, hfn⟩ := F w mg fa _ Yp Gr.T.g hname
  refine law_call KX Gr.T.g Gr.T.b Gr.T.builtins Gr.T.nolimit hgens hscript hnums (Nat.le_trans hle hn2) hr hfn hbi (fun H _ hS => hspec H a ms hle ?_) fun H e s' => hC H t₁ e s'
  rcases hS with hS | ⟨ob, its, m, hk, hcl, hdi, hda, hz, hv⟩
  · exact .inl hS
  · have e := KX a ob hk
    rw [hscript] at e
    cases e
    have hda' : Data.seq us.toArray 0 = Data.seq its m := hda
    cases hda'
    exact .inr ⟨us, 0, hk, by simpa using hz, by simpa using hv⟩

/-! ### a law's text as data -/
/-- a def: its name, its statement, its slots, its parameters, the names that own -/
structure LD where
  x : Str
  st : Stmt
  N : List Str
  ps : List Str
  ow : List Str
def gsD (ds : List LD) (cons : List (Str × D)) (bl errs hot : List Str) : Gs := ⟨ds.map (·.x), cons, bl, errs, hot⟩
def cmpD (gs : Gs) (d : LD) : Option Ss := cSs gs (cc gs 60) ⟨d.N, defScope d.st, fun _ => true, 0⟩ d.ow 60 (defBody d.st)
/-- compiled as a def that is called while an error is handled -/
def cmpH (gs : Gs) (d : LD) : Option Ss := cSs gs (cc gs 60) ⟨d.N, defScope d.st, fun _ => true, 2⟩ d.ow 60 (defBody d.st)
def tabD (gs : Gs) (ds : List LD) : Tab := fun nm => (ds.find? fun d => decide (d.x.cps.toList = nm)).map fun d => ⟨d.ps.length, d.N.length, (cmpD gs d).getD .nil⟩
def caD (K : PySem.W.Frag) (errs : List Str) : Nm → Option Addr := fun nm => (errs.find? fun x => decide (x.cps.toList = nm)).map fun x => He.ga K x
def gxD (P : Program) (w : World) (K : PySem.W.Frag) (ds : List LD) (errs : List Str) : Gx := ⟨P, w, K, fun nm => (ds.find? fun d => decide (d.x.cps.toList = nm)).map fun d => He.ga K d.x, caD K errs, none⟩
/-- what is asked of each def -/
structure LdOk (gs : Gs) (K : PySem.W.Frag) (d : LD) : Prop where
  ex : ∃ fd : FuncData, FunD K d.x d.x (defArgs d.st) (defBody d.st) (defScope d.st) [] [] (He.ga K d.x) fd ∧ Binds K fd d.ps []
  sc : FnScope d.N d.ps (defScope d.st)
  cp : (cmpD gs d).isSome = true
  ht : d.x ∈ gs.hot → cmpH gs d = cmpD gs d
theorem find_self {ds : List LD} {d z : LD} {nm : Nm} (e : (ds.find? fun d => decide (d.x.cps.toList = nm)) = some z) : z.x.cps.toList = nm ∧ z ∈ ds := ⟨by simpa using List.find?_some e, List.mem_of_find?_eq_some e⟩
theorem str_codes {x y : Str} (h : x.cps.toList = y.cps.toList) : x = y := by
  cases x with
  | mk a =>
    cases y with
    | mk b =>
      have : a = b := by simpa using h
      rw [this]
theorem defs_ok {gs : Gs} {P : Program} {w : World} {K : PySem.W.Frag} {ds : List LD} {errs : List Str} (h : ∀ d ∈ ds, LdOk gs K d) : ∀ nm f, (gxD P w K ds errs).fa nm = some f → DefOk gs (tabD gs ds) K 0 nm f ∧ ((∃ x ∈ gs.hot, x.cps.toList = nm) → DefOk gs (tabD gs ds) K 2 nm f) := fun nm f hf => by
  cases e : ds.find? fun d => decide (d.x.cps.toList = nm) with
  | none =>
    have hf' : ((ds.find? fun d => decide (d.x.cps.toList = nm)).map fun d => He.ga K d.x) = some f := hf
    rw [e] at hf'
    cases hf'
  | some d =>
    have hf' : ((ds.find? fun d => decide (d.x.cps.toList = nm)).map fun d => He.ga K d.x) = some f := hf
    rw [e] at hf'
    cases hf'
    obtain ⟨⟨fd, h1, h2⟩, h3, h4, h5⟩ := h d (List.mem_of_find?_eq_some e)
    have hnm : d.x.cps.toList = nm := by simpa using List.find?_some e
    obtain ⟨body, hb⟩ := Option.isSome_iff_exists.mp h4
    have hT : tabD gs ds nm = some ⟨d.ps.length, d.N.length, body⟩ := by
      unfold tabD
      rw [e, Option.map_some, hb]
      rfl
    refine ⟨⟨d.x, d.st, d.N, d.ps, d.ow, ⟨d.ps.length, d.N.length, body⟩, fd, 60, 60, h1, h3, hb, rfl, rfl, hT, h2⟩, fun ⟨x, hx, hxe⟩ => ⟨d.x, d.st, d.N, d.ps, d.ow, ⟨d.ps.length, d.N.length, body⟩, fd, 60, 60, h1, h3, ?_, rfl, rfl, hT, h2⟩⟩
    have : x = d.x := str_codes (hxe.trans hnm.symm)
    rw [this] at hx
    exact (h5 hx).trans hb
/-! ### own errors -/
/-- what the kernel reads of the errors' classes -/
def err1B (K : PySem.W.Frag) (x : Str) : Bool :=
  decide (PySem.W.nsIn K mainGlobals x = some (some (.ref (He.ga K x)))) && (PySem.W.excIn K (He.ga K x) He.veBase "ValueError.__new__" && (PySem.W.keepIn K (.ref (He.ga K x)) && (decide (PySem.W.subIn K (.ref (He.ga K x)) (.type "BaseException") = some true) && (decide (PySem.W.typeIn K (.ref (He.ga K x)) = some (.type "type")) &&
    (decide (PySem.W.findIn K (.ref (He.ga K x)) "__getattribute__" = some (some (.builtin "BaseException.__getattribute__"))) && (decide (PySem.W.findIn K (.ref (He.ga K x)) "__getattr__" = some none) && (PySem.W.hasDictIn K (He.ga K x) && (decide (PySem.W.findIn K (.ref (He.ga K x)) "__class__" = some (some (.builtin "object.__class__"))) &&
      (decide (PySem.W.specialIn K (.builtin "object.__class__") "__get__" = some (some (.builtin "getset_descriptor.__get__"))) && (decide (PySem.W.takesIn K (.builtin "object.__class__") = some true) && (decide (PySem.W.mroIn K (He.ga K x) (.type "object") = some true) && decide (PySem.W.kitOne K (.ref (He.ga K x)) (.type "ValueError") = some true))))))))))))
def err2B (K : PySem.W.Frag) (x y : Str) : Bool := decide (PySem.W.exmOne K (.ref (He.ga K x)) (.ref (He.ga K y)) = some (isErr x.cps.toList y.cps.toList)) && decide (PySem.W.kitOne K (.ref (He.ga K x)) (.ref (He.ga K y)) = some (isErr x.cps.toList y.cps.toList))
def errsB (K : PySem.W.Frag) (errs : List Str) : Bool := errs.all fun x => err1B K x && errs.all fun y => err2B K x y
theorem caD_self {K : PySem.W.Frag} {errs : List Str} {x : Str} (h : x ∈ errs) : caD K errs x.cps.toList = some (He.ga K x) := by
  unfold caD
  cases e : errs.find? fun y => decide (y.cps.toList = x.cps.toList) with
  | none =>
    have := List.find?_eq_none.mp e x h
    simp at this
  | some y =>
    have : y = x := str_codes (by simpa using List.find?_some e)
    rw [this]
    rfl
theorem caD_of {K : PySem.W.Frag} {errs : List Str} {c : Nm} {a : Addr} (h : caD K errs c = some a) : ∃ x ∈ errs, x.cps.toList = c ∧ a = He.ga K x := by
  unfold caD at h
  cases e : errs.find? fun y => decide (y.cps.toList = c) with
  | none => rw [e] at h; cases h
  | some y =>
    rw [e] at h
    cases h
    exact ⟨y, List.mem_of_find?_eq_some e, by simpa using List.find?_some e, rfl⟩
theorem gs_ok {P : Program} {w : World} {K : PySem.W.Frag} {mg : Str → Option Value} {ds : List LD} {cons : List (Str × D)} {bl errs hot : List Str} {h : Heap} (X : K.In h) (Gm : h.Ns mainGlobals mg) (hd : ∀ d ∈ ds, mg d.x = some (.ref (He.ga K d.x)))
    (hc : ∀ p ∈ cons, ∃ u v, mg p.1 = some u ∧ RelV v u ∧ (∀ H : Hp, RepV (gxD P w K ds errs) H p.2 v) ∧ D.isL p.2 = false) (hb : ∀ x ∈ bl, mg x = none) (he : errsB K errs = true) : GsOk (gsD ds cons bl errs hot) (gxD P w K ds errs) mg := by
  have he1 : ∀ x ∈ errs, err1B K x = true ∧ ∀ y ∈ errs, err2B K x y = true := fun x hx => by
    have := List.all_eq_true.mp he x hx
    simp only [Bool.and_eq_true, List.all_eq_true] at this
    exact this
  have one : ∀ x ∈ errs, _ := fun x hx => by
    have := (he1 x hx).1
    unfold err1B at this
    simp only [Bool.and_eq_true, decide_eq_true_eq] at this
    exact this
  have two : ∀ x ∈ errs, ∀ y ∈ errs, _ := fun x hx y hy => by
    have := (he1 x hx).2 y hy
    unfold err2B at this
    simp only [Bool.and_eq_true, decide_eq_true_eq] at this
    exact this
  refine ⟨fun x hx => ?_, hc, hb, fun x hx => ?_, fun y hy C hC => ?_, ⟨fun c C hC => ?_, fun c C hC => ?_, fun c C y D hC hD => ?_⟩⟩
  · obtain ⟨d, hd1, rfl⟩ := List.mem_map.mp hx
    refine ⟨_, hd d hd1, ?_⟩
    show ((ds.find? fun z => decide (z.x.cps.toList = d.x.cps.toList)).map fun z => He.ga K z.x) = _
    cases e : ds.find? fun z => decide (z.x.cps.toList = d.x.cps.toList) with
    | none =>
      have := List.find?_eq_none.mp e d hd1
      simp at this
    | some z =>
      have : z.x = d.x := str_codes (by simpa using List.find?_some e)
      rw [Option.map_some, this]
  · obtain ⟨g1, g2, g3, g4, g5, _⟩ := one x hx
    exact ⟨He.ga K x, PySem.W.mg_of X Gm g1, caD_self hx, g2, g3, g4, g5⟩
  · intro c a ha
    obtain ⟨x, hx, rfl, rfl⟩ := caD_of ha
    rw [show (gxD P w K ds errs).ca y.cps.toList = some (He.ga K y) from caD_self hy] at hC
    cases hC
    exact (two x hx y hy).1
  · obtain ⟨x, hx, rfl, rfl⟩ := caD_of hC
    obtain ⟨g1, g2, g3, g4, g5, g6, g7, g8, g9, g10, g11, g12, g13⟩ := one x hx
    exact ⟨g6, g7, g4, g8, g9, g10, g11, g12⟩
  · obtain ⟨x, hx, rfl, rfl⟩ := caD_of hC
    obtain ⟨g1, g2, g3, g4, g5, g6, g7, g8, g9, g10, g11, g12, g13⟩ := one x hx
    exact g13
  · obtain ⟨x, hx, rfl, rfl⟩ := caD_of hC
    obtain ⟨z, hz, rfl, rfl⟩ := caD_of hD
    exact (two x hx z hz).2
/-! ### the hook -/
/-- tuples of texts among the module's names -/
def isTx : List (List Nat) → List Value → Bool
  | [], [] => true
  | x :: xs, .str y _ :: ys => decide (y.cps.toList = x) && isTx xs ys
  | _, _ => false
def tup1B (K : PySem.W.Frag) (p : Str × List (List Nat)) : Bool := He.eqO (PySem.W.nsIn K mainGlobals p.1) (some (some (.ref (He.ga K p.1)))) && (match K.lookup (He.ga K p.1) with
  | some o => decide (o.cls = .type "tuple") && (match o.data with
    | .seq its _ => decide (its.size ≤ 100) && isTx p.2 its.toList && p.2.all fun z => decide (z.length ≤ 1000) && z.all fun c => decide (c < 0x110000)
    | _ => false)
  | none => false)
def tupsB (K : PySem.W.Frag) (tups : List (Str × List (List Nat))) : Bool := tups.all (tup1B K)
def hookX (n : Nat) (fa : List He.Fa) (fn : List He.DefD) (errs : List Str) (tups : List (Str × List (List Nat))) : PySem.W.Hook where
  α := He.AlD × Bool
  obs s := (He.obsDG n fa fn s.heap.get?, errsB (He.frG s.heap.get? (He.asD s.heap.get? n)) errs && tupsB (He.frG s.heap.get? (He.asD s.heap.get? n)) tups)
  val _ := (He.valD fn, true)
  says _ h := ∃ K : PySem.W.Frag, K.In h ∧ He.SaysD fa fn K ∧ errsB K errs = true ∧ tupsB K tups = true
  of _ _ e := ⟨_, He.frG_in, congrArg Prod.fst e, Bool.and_eq_true_iff.mp (congrArg Prod.snd e)⟩
  keeps _ _ _ z k := z.imp fun K q => ⟨q.1.keeps k, q.2⟩
def obsX (n : Nat) (fa : List He.Fa) (fn : List He.DefD) (errs : List Str) (tups : List (Str × List (List Nat))) (g : Addr → Option Obj) : He.AlD × Bool := (He.obsDG n fa fn g, errsB (He.frG g (He.asD g n)) errs && tupsB (He.frG g (He.asD g n)) tups)
theorem obsX_eq {n : Nat} {fa : List He.Fa} {fn : List He.DefD} {errs : List Str} {tups : List (Str × List (List Nat))} {g : Addr → Option Obj} {s : Shared} (h : ∀ a, g a = s.heap.get? a) : obsX n fa fn errs tups g = (hookX n fa fn errs tups).obs s := by
  obtain rfl : g = s.heap.get? := funext h
  rfl
theorem tx_rep {G : Gx} {H : Hp} : ∀ {xs : List (List Nat)} {us : List Value}, isTx xs us = true → (∀ z ∈ xs, SOk z) → RepAll G H (xs.map .str) (xs.map sV) ∧ Vals (xs.map sV) us
  | [], [], _, _ => ⟨.nil, .nil⟩
  | [], _ :: _, h, _ => by cases h
  | x :: xs, us, h, k => by
    cases us with
    | nil => cases h
    | cons u us =>
      cases u <;> first | (cases h; done) | skip
      rename_i y t
      simp only [isTx, Bool.and_eq_true, decide_eq_true_eq] at h
      obtain ⟨a, b⟩ := tx_rep (G := G) (H := H) h.2 fun z hz => k z (List.mem_cons_of_mem _ hz)
      refine ⟨.cons (.str (k x List.mem_cons_self)) a, .cons ⟨t, ?_⟩ b⟩
      rw [← h.1]
theorem tup_con {P : Program} {w : World} {K : PySem.W.Frag} {h : Heap} {mg : Str → Option Value} {ds : List LD} {errs : List Str} {tups : List (Str × List (List Nat))} (X : K.In h) (Gm : h.Ns mainGlobals mg) (hT : tupsB K tups = true) {x : Str} {zs : List (List Nat)} (hm : (x, zs) ∈ tups) :
    ∃ u v, mg x = some u ∧ RelV v u ∧ (∀ H : Hp, RepV (gxD P w K ds errs) H (.tup (zs.map .str)) v) ∧ D.isL (.tup (zs.map .str)) = false := by
  have h1 := List.all_eq_true.mp hT _ hm
  unfold tup1B at h1
  simp only [Bool.and_eq_true] at h1
  obtain ⟨c1, c2⟩ := h1
  have e := PySem.W.mg_of X Gm (He.eqO_ok c1)
  split at c2
  · rename_i o ho
    simp only [Bool.and_eq_true, decide_eq_true_eq] at c2
    obtain ⟨c2, c3⟩ := c2
    split at c3
    · rename_i its n hd
      simp only [Bool.and_eq_true, decide_eq_true_eq, List.all_eq_true] at c3
      obtain ⟨⟨c3, c4⟩, c5⟩ := c3
      have sk : ∀ z ∈ zs, SOk z := fun z hz => ⟨Nat.le_trans (c5 z hz).1 (by decide), (c5 z hz).2⟩
      refine ⟨_, .ref (He.ga K x), e, rfl, fun H => ?_, rfl⟩
      obtain ⟨a, b⟩ := tx_rep (G := gxD P w K ds errs) (H := H) c4 sk
      exact .tup (.inr ⟨o, its, n, ho, c2, hd, Nat.le_trans c3 (by rw [← LIM_eq]; decide), b⟩) a
    · cases c3
  · cases c2
theorem str_con {P : Program} {w : World} {K : PySem.W.Frag} {mg : Str → Option Value} {ds : List LD} {errs : List Str} {x z : Str} (h : ∃ t, mg x = some (.str z t)) (hz : (decide (z.cps.toList.length ≤ 1000) && z.cps.toList.all fun c => decide (c < 0x110000)) = true) :
    ∃ u v, mg x = some u ∧ RelV v u ∧ (∀ H : Hp, RepV (gxD P w K ds errs) H (.str z.cps.toList) v) ∧ D.isL (.str z.cps.toList) = false := by
  obtain ⟨t, e⟩ := h
  refine ⟨_, sV z.cps.toList, e, ⟨t, ?_⟩, fun H => .str (sok_by hz), rfl⟩
  simp [tx]
theorem int_con {P : Program} {w : World} {K : PySem.W.Frag} {mg : Str → Option Value} {ds : List LD} {errs : List Str} {x : Str} {i : Int} (h : ∃ t, mg x = some (.int i t)) :
    ∃ u v, mg x = some u ∧ RelV v u ∧ (∀ H : Hp, RepV (gxD P w K ds errs) H (.int i) v) ∧ D.isL (.int i) = false := by
  obtain ⟨t, e⟩ := h
  exact ⟨_, .int i, e, ⟨t, rfl⟩, fun H => .int i, rfl⟩
/-- the law's def, from its head's facts -/
theorem law_fn {P : Program} {w : World} {K : PySem.W.Frag} {mg : Str → Option Value} {ds : List LD} {cons : List (Str × D)} {bl errs hot : List Str} {d : LD} {fd : FuncData} {n : Nat} (hgs : GsOk (gsD ds cons bl errs hot) (gxD P w K ds errs) mg) (hd : ∀ d ∈ ds, LdOk (gsD ds cons bl errs hot) K d)
    (hm : (ds.find? fun z => decide (z.x.cps.toList = d.x.cps.toList)) = some d) (h1 : FunD K d.x d.x (defArgs d.st) (defBody d.st) (defScope d.st) [] [] (He.ga K d.x) fd) {base : Heap} :
    FnOk P w K mg base (L2N.CX P w) (n + 1) (He.ga K d.x) fd d.ps (spF (gxD P w K ds errs) (evF (tabD (gsD ds cons bl errs hot) ds) (n + 1)) d.x.cps.toList) := by
  have k := hd d (List.mem_of_find?_eq_some hm)
  obtain ⟨body, hb⟩ := Option.isSome_iff_exists.mp k.cp
  have hot : HotOk (gsD ds cons bl errs hot) (gxD P w K ds errs) (tabD (gsD ds cons bl errs hot) ds) P w K mg base := hot_run rfl rfl rfl rfl hgs fun x hx f hf => (defs_ok (P := P) (w := w) (errs := errs) hd _ f hf).2 ⟨x, hx, rfl⟩
  refine def_run (fd' := ⟨d.ps.length, d.N.length, body⟩) rfl rfl rfl rfl hgs hot (level rfl rfl rfl rfl hgs hot (fun nm f hf => (defs_ok (P := P) (w := w) (errs := errs) hd nm f hf).1) n) h1 k.sc hb rfl rfl ?_
  unfold tabD
  rw [hm, Option.map_some, hb]
  rfl
theorem cx_no {P : Program} {w : World} (H : Hp) (s : Shared) (e : Value) (s' : Shared) (h : L2N.CX P w [] H s (fun _ _ _ => False) e s') : False := by
  obtain ⟨_, _, _, _, _, _, _, _, _, _, _, _, z⟩ := h
  exact z
theorem cx_to {P : Program} {w : World} {A : Around} {o : List PySem.Env} {s : Shared} {H : Hp} {Q : VK} {E : XK} {c : Code} (h : codeAny (model P w) A c (CR (L2N.CX P w) o P w H s Q E) s) : codeAny (model P w) A c (CR (fun o H s E u s' => ∃ w : World, L2N.CX P w o H s E u s') o P w H s Q E) s :=
  codeAny_mono h fun r s' q => by
    cases r with
    | error e => exact ⟨w, q⟩
    | ok f => cases f <;> exact q
end Py
end
section
set_option autoImplicit false
set_option linter.all false
set_option maxRecDepth 100000
/-! PzA: slots by their number; small laws of the data. -/
namespace Py
theorem get_0 (x0 : Ent) (r : Env) : get (x0 :: r) 0 = x0 := rfl
theorem setE_0 (x0 e : Ent) (r : Env) : setE (x0 :: r) 0 e = e :: r := rfl
theorem get_1 (x0 x1 : Ent) (r : Env) : get (x0 :: x1 :: r) 1 = x1 := rfl
theorem setE_1 (x0 x1 e : Ent) (r : Env) : setE (x0 :: x1 :: r) 1 e = x0 :: e :: r := rfl
theorem get_2 (x0 x1 x2 : Ent) (r : Env) : get (x0 :: x1 :: x2 :: r) 2 = x2 := rfl
theorem setE_2 (x0 x1 x2 e : Ent) (r : Env) : setE (x0 :: x1 :: x2 :: r) 2 e = x0 :: x1 :: e :: r := rfl
theorem get_3 (x0 x1 x2 x3 : Ent) (r : Env) : get (x0 :: x1 :: x2 :: x3 :: r) 3 = x3 := rfl
theorem setE_3 (x0 x1 x2 x3 e : Ent) (r : Env) : setE (x0 :: x1 :: x2 :: x3 :: r) 3 e = x0 :: x1 :: x2 :: e :: r := rfl
theorem get_4 (x0 x1 x2 x3 x4 : Ent) (r : Env) : get (x0 :: x1 :: x2 :: x3 :: x4 :: r) 4 = x4 := rfl
theorem setE_4 (x0 x1 x2 x3 x4 e : Ent) (r : Env) : setE (x0 :: x1 :: x2 :: x3 :: x4 :: r) 4 e = x0 :: x1 :: x2 :: x3 :: e :: r := rfl
theorem get_5 (x0 x1 x2 x3 x4 x5 : Ent) (r : Env) : get (x0 :: x1 :: x2 :: x3 :: x4 :: x5 :: r) 5 = x5 := rfl
theorem setE_5 (x0 x1 x2 x3 x4 x5 e : Ent) (r : Env) : setE (x0 :: x1 :: x2 :: x3 :: x4 :: x5 :: r) 5 e = x0 :: x1 :: x2 :: x3 :: x4 :: e :: r := rfl
theorem get_6 (x0 x1 x2 x3 x4 x5 x6 : Ent) (r : Env) : get (x0 :: x1 :: x2 :: x3 :: x4 :: x5 :: x6 :: r) 6 = x6 := rfl
theorem setE_6 (x0 x1 x2 x3 x4 x5 x6 e : Ent) (r : Env) : setE (x0 :: x1 :: x2 :: x3 :: x4 :: x5 :: x6 :: r) 6 e = x0 :: x1 :: x2 :: x3 :: x4 :: x5 :: e :: r := rfl
theorem get_7 (x0 x1 x2 x3 x4 x5 x6 x7 : Ent) (r : Env) : get (x0 :: x1 :: x2 :: x3 :: x4 :: x5 :: x6 :: x7 :: r) 7 = x7 := rfl
theorem setE_7 (x0 x1 x2 x3 x4 x5 x6 x7 e : Ent) (r : Env) : setE (x0 :: x1 :: x2 :: x3 :: x4 :: x5 :: x6 :: x7 :: r) 7 e = x0 :: x1 :: x2 :: x3 :: x4 :: x5 :: x6 :: e :: r := rfl
theorem get_8 (x0 x1 x2 x3 x4 x5 x6 x7 x8 : Ent) (r : Env) : get (x0 :: x1 :: x2 :: x3 :: x4 :: x5 :: x6 :: x7 :: x8 :: r) 8 = x8 := rfl
theorem setE_8 (x0 x1 x2 x3 x4 x5 x6 x7 x8 e : Ent) (r : Env) : setE (x0 :: x1 :: x2 :: x3 :: x4 :: x5 :: x6 :: x7 :: x8 :: r) 8 e = x0 :: x1 :: x2 :: x3 :: x4 :: x5 :: x6 :: x7 :: e :: r := rfl
theorem get_9 (x0 x1 x2 x3 x4 x5 x6 x7 x8 x9 : Ent) (r : Env) : get (x0 :: x1 :: x2 :: x3 :: x4 :: x5 :: x6 :: x7 :: x8 :: x9 :: r) 9 = x9 := rfl
theorem setE_9 (x0 x1 x2 x3 x4 x5 x6 x7 x8 x9 e : Ent) (r : Env) : setE (x0 :: x1 :: x2 :: x3 :: x4 :: x5 :: x6 :: x7 :: x8 :: x9 :: r) 9 e = x0 :: x1 :: x2 :: x3 :: x4 :: x5 :: x6 :: x7 :: x8 :: e :: r := rfl
theorem get_10 (x0 x1 x2 x3 x4 x5 x6 x7 x8 x9 x10 : Ent) (r : Env) : get (x0 :: x1 :: x2 :: x3 :: x4 :: x5 :: x6 :: x7 :: x8 :: x9 :: x10 :: r) 10 = x10 := rfl
theorem setE_10 (x0 x1 x2 x3 x4 x5 x6 x7 x8 x9 x10 e : Ent) (r : Env) : setE (x0 :: x1 :: x2 :: x3 :: x4 :: x5 :: x6 :: x7 :: x8 :: x9 :: x10 :: r) 10 e = x0 :: x1 :: x2 :: x3 :: x4 :: x5 :: x6 :: x7 :: x8 :: x9 :: e :: r := rfl
theorem get_11 (x0 x1 x2 x3 x4 x5 x6 x7 x8 x9 x10 x11 : Ent) (r : Env) : get (x0 :: x1 :: x2 :: x3 :: x4 :: x5 :: x6 :: x7 :: x8 :: x9 :: x10 :: x11 :: r) 11 = x11 := rfl
theorem setE_11 (x0 x1 x2 x3 x4 x5 x6 x7 x8 x9 x10 x11 e : Ent) (r : Env) : setE (x0 :: x1 :: x2 :: x3 :: x4 :: x5 :: x6 :: x7 :: x8 :: x9 :: x10 :: x11 :: r) 11 e = x0 :: x1 :: x2 :: x3 :: x4 :: x5 :: x6 :: x7 :: x8 :: x9 :: x10 :: e :: r := rfl
theorem get_12 (x0 x1 x2 x3 x4 x5 x6 x7 x8 x9 x10 x11 x12 : Ent) (r : Env) : get (x0 :: x1 :: x2 :: x3 :: x4 :: x5 :: x6 :: x7 :: x8 :: x9 :: x10 :: x11 :: x12 :: r) 12 = x12 := rfl
theorem setE_12 (x0 x1 x2 x3 x4 x5 x6 x7 x8 x9 x10 x11 x12 e : Ent) (r : Env) : setE (x0 :: x1 :: x2 :: x3 :: x4 :: x5 :: x6 :: x7 :: x8 :: x9 :: x10 :: x11 :: x12 :: r) 12 e = x0 :: x1 :: x2 :: x3 :: x4 :: x5 :: x6 :: x7 :: x8 :: x9 :: x10 :: x11 :: e :: r := rfl
theorem get_13 (x0 x1 x2 x3 x4 x5 x6 x7 x8 x9 x10 x11 x12 x13 : Ent) (r : Env) : get (x0 :: x1 :: x2 :: x3 :: x4 :: x5 :: x6 :: x7 :: x8 :: x9 :: x10 :: x11 :: x12 :: x13 :: r) 13 = x13 := rfl
theorem setE_13 (x0 x1 x2 x3 x4 x5 x6 x7 x8 x9 x10 x11 x12 x13 e : Ent) (r : Env) : setE (x0 :: x1 :: x2 :: x3 :: x4 :: x5 :: x6 :: x7 :: x8 :: x9 :: x10 :: x11 :: x12 :: x13 :: r) 13 e = x0 :: x1 :: x2 :: x3 :: x4 :: x5 :: x6 :: x7 :: x8 :: x9 :: x10 :: x11 :: x12 :: e :: r := rfl
theorem uns_succ (n : Nat) : uns (n + 1) = .un :: uns n := rfl
theorem ite_val {α : Type} {c : Prop} [Decidable c] (h : c) (a b : Out α) : (if c then a else b) = a := if_pos h
theorem plain_ints : ∀ ns : List Int, D.plainAll (ns.map D.int) = true
  | [] => rfl
  | _ :: r => by simp [D.plainAll, D.plain, plain_ints r]
theorem dep_ints : ∀ ns : List Int, D.depAll (ns.map D.int) = 0
  | [] => rfl
  | _ :: r => by simp [D.depAll, D.dep, dep_ints r]
theorem ok_ints (ns : List Int) : D.ok (.lst (ns.map D.int)) = true := by
  simp [D.ok, D.plain, D.dep, plain_ints, dep_ints]
theorem at_nat {α : Type} (xs : List α) (j : Nat) (h : j < xs.length) : at_ xs (j : Int) = xs[j]? := by
  unfold at_ pl
  rw [if_pos (Int.natCast_nonneg j), if_pos (by omega)]
  simp
theorem at_int {α : Type} (xs : List α) (j : Int) (h0 : 0 ≤ j) (h : j < xs.length) : at_ xs j = xs[j.toNat]? := by
  have e := at_nat xs j.toNat (by omega)
  rw [show ((j.toNat : Nat) : Int) = j by omega] at e
  exact e
theorem small_ofZ {i : Int} (h1 : -18446744073709551616 < i) (h2 : i < 18446744073709551616) : small i = true := by
  unfold small
  simp [h1, h2]
theorem dMul_int {i j : Int} (h1 : -18446744073709551616 < i) (h2 : i < 18446744073709551616) : dMul (.int i) (.int j) = .val (.int (i * j)) := by
  show chk (small i) (D.int (i * j)) = _
  rw [small_ofZ h1 h2]
  rfl
theorem dMod_int {i j : Int} (h : 0 < j) : dMod (.int i) (.int j) = .val (.int (i % j)) := by
  simp [dMod, chk, h]
theorem dDiv_int {i j : Int} (h : 0 < j) (h2 : j < 1073741824) : dDiv (.int i) (.int j) = .val (.int (i / j)) := by
  simp [dDiv, chk, h, h2]
theorem dAdd_int (i j : Int) : dAdd (.int i) (.int j) = .val (.int (i + j)) := rfl
theorem dSub_int (i j : Int) : dSub (.int i) (.int j) = .val (.int (i - j)) := rfl
theorem d_sh (d : D) : (Ent.sh d).d = .val d := rfl
theorem d_ow (d : D) : (Ent.ow d).d = .val d := rfl
theorem v_sh (d : D) : (Ent.sh d).v = .val d := rfl
theorem f_sh (d : D) : (Ent.sh d).frz = .sh d := rfl
theorem f_ow (d : D) : (Ent.ow d).frz = .sh d := rfl
theorem o_sh (d : D) : (Ent.sh d).isOw = false := rfl
theorem o_ow (d : D) : (Ent.ow d).isOw = true := rfl
theorem frz_nil (δ : Env) : frz δ [] = δ := rfl
theorem frz_cons (δ : Env) (i : Nat) (r : List Nat) : frz δ (i :: r) = frz (setE δ i (get δ i).frz) r := rfl
theorem nxt_nx (k : Env → Out (Ctl × Env)) (δ : Env) : nxt k (.nx, δ) = k δ := rfl
theorem nxt_rt (k : Env → Out (Ctl × Env)) (δ : Env) (d : D) : nxt k (.rt d, δ) = .val (.rt d, δ) := rfl
theorem startE_nil (k : Nat) : startE [] k = uns k := rfl
theorem startE_cons (d : D) (r : List D) (k : Nat) : startE (d :: r) k = .sh d :: startE r k := rfl
theorem uns_0 : uns 0 = [] := rfl
theorem uns_1 : uns 1 = [.un] := rfl
theorem uns_2 : uns 2 = [.un, .un] := rfl
theorem uns_3 : uns 3 = [.un, .un, .un] := rfl
theorem uns_4 : uns 4 = [.un, .un, .un, .un] := rfl
theorem uns_5 : uns 5 = [.un, .un, .un, .un, .un] := rfl
theorem uns_6 : uns 6 = [.un, .un, .un, .un, .un, .un] := rfl
theorem uns_7 : uns 7 = [.un, .un, .un, .un, .un, .un, .un] := rfl
theorem uns_8 : uns 8 = [.un, .un, .un, .un, .un, .un, .un, .un] := rfl
theorem uns_9 : uns 9 = [.un, .un, .un, .un, .un, .un, .un, .un, .un] := rfl
theorem uns_10 : uns 10 = [.un, .un, .un, .un, .un, .un, .un, .un, .un, .un] := rfl
theorem uns_11 : uns 11 = [.un, .un, .un, .un, .un, .un, .un, .un, .un, .un, .un] := rfl
theorem uns_12 : uns 12 = [.un, .un, .un, .un, .un, .un, .un, .un, .un, .un, .un, .un] := rfl
theorem fin_rt (d : D) (δ : Env) : fin (.val (.rt d, δ)) = .val d := rfl
theorem fin_nx (δ : Env) : fin (.val (.nx, δ)) = .val .non := rfl
theorem bor_nil (δ : Env) : bor δ .nil = false := rfl
theorem bor_v (δ : Env) (i : Nat) (es : Es) : bor δ (.cons (.v i) es) = ((get δ i).isOw || bor δ es) := rfl
theorem bor_c (d : D) (δ : Env) (es : Es) : bor δ (.cons (.c d) es) = bor δ es := rfl
theorem bor_vv (i : Nat) (δ : Env) (es : Es) : bor δ (.cons (.vv i) es) = bor δ es := rfl
theorem bor_fn (f : Nm) (δ : Env) (es : Es) : bor δ (.cons (.fn f) es) = bor δ es := rfl
theorem bor_add (a b : E) (δ : Env) (es : Es) : bor δ (.cons (.add a b) es) = bor δ es := rfl
theorem bor_sub (a b : E) (δ : Env) (es : Es) : bor δ (.cons (.sub a b) es) = bor δ es := rfl
theorem bor_mul (a b : E) (δ : Env) (es : Es) : bor δ (.cons (.mul a b) es) = bor δ es := rfl
theorem bor_dv (a b : E) (δ : Env) (es : Es) : bor δ (.cons (.dv a b) es) = bor δ es := rfl
theorem bor_md (a b : E) (δ : Env) (es : Es) : bor δ (.cons (.md a b) es) = bor δ es := rfl
theorem bor_neg (a : E) (δ : Env) (es : Es) : bor δ (.cons (.neg a) es) = bor δ es := rfl
theorem bor_not (a : E) (δ : Env) (es : Es) : bor δ (.cons (.not a) es) = bor δ es := rfl
theorem bor_and (a b : E) (δ : Env) (es : Es) : bor δ (.cons (.and a b) es) = bor δ es := rfl
theorem bor_or (a b : E) (δ : Env) (es : Es) : bor δ (.cons (.or a b) es) = bor δ es := rfl
theorem bor_ite (a b c : E) (δ : Env) (es : Es) : bor δ (.cons (.ite a b c) es) = bor δ es := rfl
theorem bor_cmp (o : Cp) (a b : E) (δ : Env) (es : Es) : bor δ (.cons (.cmp o a b) es) = bor δ es := rfl
theorem bor_tup (x : Es) (δ : Env) (es : Es) : bor δ (.cons (.tup x) es) = bor δ es := rfl
theorem bor_lst (x : Es) (δ : Env) (es : Es) : bor δ (.cons (.lst x) es) = bor δ es := rfl
theorem bor_idx (a b : E) (δ : Env) (es : Es) : bor δ (.cons (.idx a b) es) = bor δ es := rfl
theorem bor_sl (a b c : E) (δ : Env) (es : Es) : bor δ (.cons (.sl a b c) es) = bor δ es := rfl
theorem bor_call (f : Nm) (x : Es) (δ : Env) (es : Es) : bor δ (.cons (.call f x) es) = bor δ es := rfl
theorem bor_bi1 (b : Bi) (a : E) (δ : Env) (es : Es) : bor δ (.cons (.bi1 b a) es) = bor δ es := rfl
theorem bor_bi2 (b : Bi) (a c : E) (δ : Env) (es : Es) : bor δ (.cons (.bi2 b a c) es) = bor δ es := rfl
theorem bor_me1 (m : Me) (a c : E) (δ : Env) (es : Es) : bor δ (.cons (.me1 m a c) es) = bor δ es := rfl
theorem bor_me2 (m : Me) (a c d : E) (δ : Env) (es : Es) : bor δ (.cons (.me2 m a c d) es) = bor δ es := rfl
theorem bor_comp (e : E) (t : Tg) (o : List Nat) (i : It) (δ : Env) (es : Es) : bor δ (.cons (.comp e t o i) es) = bor δ es := rfl
theorem bor_compIf (e : E) (t : Tg) (o : List Nat) (i : It) (c : E) (δ : Env) (es : Es) : bor δ (.cons (.compIf e t o i c) es) = bor δ es := rfl
theorem bor_dnil (δ : Env) (es : Es) : bor δ (.cons .dnil es) = bor δ es := rfl
theorem im_true (d : D) (h : D.imm d = true) : immIf true d = .val d := by simp [immIf, h]
theorem ent_f (b : Bool) (d : D) : entOf false b d = .sh d := rfl
theorem evF_run {T : Tab} {n : Nat} {f : Nm} {ds : List D} {fd : FD} (h : T f = some fd) (hl : ds.length = fd.np) : evF T (n + 1) f ds = fin (exs (evF T n) fd.body (startE ds (fd.ns - fd.np))) := by
  unfold evF
  rw [h]
  dsimp only
  rw [if_pos hl]
end Py
end
section
set_option autoImplicit false
set_option linter.all false
set_option maxRecDepth 100000
/-! PzB: the bodies of defs in the small language. -/
namespace Py
def b_signs_named : FD := ⟨1, 2, (Py.Ss.cons
    (Py.S.ifS
      (Py.E.cmp Py.Cp.eq (Py.E.idx (Py.E.v 0) (Py.E.c (Py.D.int (0)))) (Py.E.c (Py.D.str [97, 100, 100])))
      (Py.Ss.cons
        (Py.S.ret
          (Py.E.ite (Py.E.cmp Py.Cp.notN (Py.E.idx (Py.E.v 0) (Py.E.c (Py.D.int (2)))) (Py.E.c Py.D.non))
            (Py.E.lst (Py.Es.cons (Py.E.idx (Py.E.v 0) (Py.E.c (Py.D.int (2)))) Py.Es.nil))
            (Py.E.lst Py.Es.nil))
          [])
        Py.Ss.nil)
      Py.Ss.nil)
    (Py.Ss.cons
      (Py.S.ifS
        (Py.E.cmp Py.Cp.eq (Py.E.idx (Py.E.v 0) (Py.E.c (Py.D.int (0))))
          (Py.E.c (Py.D.str [100, 114, 111, 112])))
        (Py.Ss.cons (Py.S.ret (Py.E.bi1 Py.Bi.list (Py.E.idx (Py.E.v 0) (Py.E.c (Py.D.int (2))))) [])
          Py.Ss.nil)
        Py.Ss.nil)
      (Py.Ss.cons
        (Py.S.ifS
          (Py.E.cmp Py.Cp.eq (Py.E.idx (Py.E.v 0) (Py.E.c (Py.D.int (0))))
            (Py.E.c (Py.D.str [109, 97, 114, 107])))
          (Py.Ss.cons
            (Py.S.ret
              (Py.E.compIf (Py.E.idx (Py.E.v 1) (Py.E.c (Py.D.int (0)))) (Py.Tg.one 1) [1]
                (Py.It.e (Py.E.sl (Py.E.v 0) (Py.E.c (Py.D.int (3))) (Py.E.c Py.D.non)))
                (Py.E.cmp Py.Cp.notN (Py.E.idx (Py.E.v 1) (Py.E.c (Py.D.int (0)))) (Py.E.c Py.D.non)))
              [])
            Py.Ss.nil)
          Py.Ss.nil)
        (Py.Ss.cons (Py.S.ret (Py.E.lst Py.Es.nil) []) Py.Ss.nil))))⟩
def b_deeds_named : FD := ⟨1, 3, (Py.Ss.cons
    (Py.S.set 1
      (Py.E.comp (Py.E.idx (Py.E.v 2) (Py.E.c (Py.D.int (0)))) (Py.Tg.one 2) [2]
        (Py.It.e (Py.E.call [115, 105, 103, 110, 115, 95, 110, 97, 109, 101, 100] (Py.Es.cons (Py.E.v 0) Py.Es.nil))))
      false [])
    (Py.Ss.cons
      (Py.S.ret
        (Py.E.ite
          (Py.E.cmp Py.Cp.eq (Py.E.idx (Py.E.v 0) (Py.E.c (Py.D.int (0))))
            (Py.E.c (Py.D.str [117, 110, 100, 111])))
          (Py.E.add (Py.E.v 1)
            (Py.E.lst (Py.Es.cons (Py.E.idx (Py.E.v 0) (Py.E.c (Py.D.int (2)))) Py.Es.nil)))
          (Py.E.vv 1))
        [])
      Py.Ss.nil))⟩
def b_names_right : FD := ⟨2, 3, (Py.Ss.cons
    (Py.S.forS (Py.Tg.one 2)
      (Py.It.e (Py.E.call [115, 105, 103, 110, 115, 95, 110, 97, 109, 101, 100] (Py.Es.cons (Py.E.v 0) Py.Es.nil))) []
      (Py.Ss.cons
        (Py.S.ifS
          (Py.E.or (Py.E.cmp Py.Cp.nmem (Py.E.idx (Py.E.v 2) (Py.E.c (Py.D.int (0)))) (Py.E.v 1))
            (Py.E.or
              (Py.E.cmp Py.Cp.ne
                (Py.E.idx (Py.E.idx (Py.E.v 1) (Py.E.idx (Py.E.v 2) (Py.E.c (Py.D.int (0)))))
                  (Py.E.c (Py.D.int (0))))
                (Py.E.c (Py.D.str [97, 100, 100])))
              (Py.E.cmp Py.Cp.ge (Py.E.idx (Py.E.v 2) (Py.E.c (Py.D.int (1))))
                (Py.E.bi1 Py.Bi.len
                  (Py.E.idx (Py.E.idx (Py.E.v 1) (Py.E.idx (Py.E.v 2) (Py.E.c (Py.D.int (0)))))
                    (Py.E.c (Py.D.int (3))))))))
          (Py.Ss.cons (Py.S.ret (Py.E.c (Py.D.bl false)) []) Py.Ss.nil) Py.Ss.nil)
        Py.Ss.nil))
    (Py.Ss.cons
      (Py.S.ret
        (Py.E.bi1 Py.Bi.all
          (Py.E.comp (Py.E.cmp Py.Cp.mem (Py.E.v 2) (Py.E.v 1)) (Py.Tg.one 2) [2]
            (Py.It.e
              (Py.E.call [100, 101, 101, 100, 115, 95, 110, 97, 109, 101, 100] (Py.Es.cons (Py.E.v 0) Py.Es.nil)))))
        [])
      Py.Ss.nil))⟩
def b_clock_of : FD := ⟨1, 4, (Py.Ss.cons (Py.S.set 1 (Py.E.lst Py.Es.nil) true [])
    (Py.Ss.cons
      (Py.S.forS (Py.Tg.one 2) (Py.It.e (Py.E.c (Py.D.str [97, 98, 99, 100, 101, 102, 103, 104]))) []
        (Py.Ss.cons
          (Py.S.app 1
            (Py.E.bi2 Py.Bi.maxd
              (Py.E.compIf
                (Py.E.idx (Py.E.idx (Py.E.v 3) (Py.E.c (Py.D.int (1)))) (Py.E.c (Py.D.int (0))))
                (Py.Tg.one 3) [3] (Py.It.e (Py.E.v 0))
                (Py.E.cmp Py.Cp.eq
                  (Py.E.idx (Py.E.idx (Py.E.v 3) (Py.E.c (Py.D.int (1)))) (Py.E.c (Py.D.int (1))))
                  (Py.E.v 2)))
              (Py.E.c (Py.D.int (0)))))
          Py.Ss.nil))
      (Py.Ss.cons (Py.S.ret (Py.E.bi1 Py.Bi.tuple (Py.E.v 1)) []) Py.Ss.nil)))⟩
def b_is_newer : FD := ⟨2, 2, (Py.Ss.cons
    (Py.S.ret
      (Py.E.cmp Py.Cp.gt
        (Py.E.idx (Py.E.idx (Py.E.v 0) (Py.E.c (Py.D.int (1)))) (Py.E.c (Py.D.int (0))))
        (Py.E.idx (Py.E.v 1)
          (Py.E.me1 Py.Me.index (Py.E.c (Py.D.str [97, 98, 99, 100, 101, 102, 103, 104]))
            (Py.E.idx (Py.E.idx (Py.E.v 0) (Py.E.c (Py.D.int (1)))) (Py.E.c (Py.D.int (1)))))))
      [])
    Py.Ss.nil)⟩
def b_newer : FD := ⟨2, 3, (Py.Ss.cons
    (Py.S.ret
      (Py.E.compIf (Py.E.vv 2) (Py.Tg.one 2) [2] (Py.It.e (Py.E.v 0))
        (Py.E.call [105, 115, 95, 110, 101, 119, 101, 114] (Py.Es.cons (Py.E.v 2) (Py.Es.cons (Py.E.v 1) Py.Es.nil))))
      [])
    Py.Ss.nil)⟩
def b_later_clock : FD := ⟨2, 4, (Py.Ss.cons
    (Py.S.ret
      (Py.E.bi1 Py.Bi.tuple
        (Py.E.comp (Py.E.bi2 Py.Bi.max2 (Py.E.v 2) (Py.E.v 3)) (Py.Tg.many [2, 3]) [2, 3]
          (Py.It.zip (Py.E.v 0) (Py.E.v 1))))
      [])
    Py.Ss.nil)⟩
def b_kept_to : FD := ⟨2, 5, (Py.Ss.cons (Py.S.set 2 Py.E.dnil true [])
    (Py.Ss.cons (Py.S.set 3 (Py.E.tup Py.Es.nil) false [])
      (Py.Ss.cons
        (Py.S.forS (Py.Tg.one 4) (Py.It.e (Py.E.vv 0)) []
          (Py.Ss.cons
            (Py.S.ifS
              (Py.E.and
                (Py.E.not
                  (Py.E.call [105, 115, 95, 110, 101, 119, 101, 114]
                    (Py.Es.cons (Py.E.v 4) (Py.Es.cons (Py.E.v 1) Py.Es.nil))))
                (Py.E.call [110, 97, 109, 101, 115, 95, 114, 105, 103, 104, 116]
                  (Py.Es.cons (Py.E.v 4) (Py.Es.cons (Py.E.v 2) Py.Es.nil))))
              (Py.Ss.cons (Py.S.setIdx 2 (Py.E.idx (Py.E.v 4) (Py.E.c (Py.D.int (1)))) (Py.E.vv 4))
                (Py.Ss.cons (Py.S.set 3 (Py.E.add (Py.E.v 3) (Py.E.tup (Py.Es.cons (Py.E.vv 4) Py.Es.nil))) false [])
                  Py.Ss.nil))
              Py.Ss.nil)
            Py.Ss.nil))
        (Py.Ss.cons (Py.S.ret (Py.E.vv 3) []) Py.Ss.nil))))⟩
def b_law_cell : FD := ⟨2, 2, (Py.Ss.cons
    (Py.S.ifS (Py.E.cmp Py.Cp.eq (Py.E.v 0) (Py.E.lst Py.Es.nil))
      (Py.Ss.cons (Py.S.ret (Py.E.mul (Py.E.c (Py.D.int (7))) (Py.E.v 1)) []) Py.Ss.nil) Py.Ss.nil)
    (Py.Ss.cons
      (Py.S.ret
        (Py.E.add (Py.E.idx (Py.E.v 0) (Py.E.md (Py.E.v 1) (Py.E.bi1 Py.Bi.len (Py.E.v 0))))
          (Py.E.mul (Py.E.c (Py.D.int (6553))) (Py.E.dv (Py.E.v 1) (Py.E.bi1 Py.Bi.len (Py.E.v 0)))))
        [])
      Py.Ss.nil))⟩
def b_law_drawn : FD := ⟨3, 4, (Py.Ss.cons
    (Py.S.set 3
      (Py.E.md
        (Py.E.add
          (Py.E.mul
            (Py.E.md
              (Py.E.call [95, 108, 97, 119, 95, 99, 101, 108, 108]
                (Py.Es.cons (Py.E.v 0) (Py.Es.cons (Py.E.v 1) Py.Es.nil)))
              (Py.E.c (Py.D.int (2147483563))))
            (Py.E.c (Py.D.int (69069))))
          (Py.E.mul (Py.E.c (Py.D.int (104723))) (Py.E.add (Py.E.v 1) (Py.E.c (Py.D.int (1))))))
        (Py.E.c (Py.D.int (2147483563))))
      false [])
    (Py.Ss.cons
      (Py.S.set 3
        (Py.E.md (Py.E.add (Py.E.mul (Py.E.v 3) (Py.E.v 3)) (Py.E.dv (Py.E.v 3) (Py.E.c (Py.D.int (3)))))
          (Py.E.c (Py.D.int (2147483399))))
        false [])
      (Py.Ss.cons
        (Py.S.ret
          (Py.E.md
            (Py.E.dv
              (Py.E.md
                (Py.E.add (Py.E.mul (Py.E.v 3) (Py.E.v 3)) (Py.E.dv (Py.E.v 3) (Py.E.c (Py.D.int (7)))))
                (Py.E.c (Py.D.int (2147483647))))
              (Py.E.c (Py.D.int (11))))
            (Py.E.v 2))
          [])
        Py.Ss.nil)))⟩
def b_law_names : FD := ⟨2, 5, (Py.Ss.cons (Py.S.set 2 (Py.E.lst Py.Es.nil) true [])
    (Py.Ss.cons
      (Py.S.forS (Py.Tg.one 3) (Py.It.range1 (Py.E.c (Py.D.int (3)))) []
        (Py.Ss.cons
          (Py.S.set 4
            (Py.E.mul
              (Py.E.idx
                (Py.E.c
                  (Py.D.str
                    [97, 98, 99, 100, 101, 102, 103, 104, 105, 106, 107, 108, 109, 110, 111, 112, 113, 114, 115, 116,
                      117, 118, 119, 120, 121, 122]))
                (Py.E.call [95, 108, 97, 119, 95, 100, 114, 97, 119, 110]
                  (Py.Es.cons (Py.E.v 0)
                    (Py.Es.cons (Py.E.add (Py.E.v 1) (Py.E.mul (Py.E.c (Py.D.int (2))) (Py.E.v 3)))
                      (Py.Es.cons (Py.E.c (Py.D.int (26))) Py.Es.nil)))))
              (Py.E.call [95, 108, 97, 119, 95, 100, 114, 97, 119, 110]
                (Py.Es.cons (Py.E.v 0)
                  (Py.Es.cons
                    (Py.E.add (Py.E.add (Py.E.v 1) (Py.E.mul (Py.E.c (Py.D.int (2))) (Py.E.v 3)))
                      (Py.E.c (Py.D.int (1))))
                    (Py.Es.cons (Py.E.c (Py.D.int (2))) Py.Es.nil)))))
            false [])
          (Py.Ss.cons
            (Py.S.app 2
              (Py.E.idx
                (Py.E.lst
                  (Py.Es.cons (Py.E.add (Py.E.v 4) (Py.E.idx (Py.E.c (Py.D.str [120, 121, 122])) (Py.E.v 3)))
                    (Py.Es.cons (Py.E.add (Py.E.idx (Py.E.c (Py.D.str [120, 121, 122])) (Py.E.v 3)) (Py.E.v 4))
                      Py.Es.nil)))
                (Py.E.call [95, 108, 97, 119, 95, 100, 114, 97, 119, 110]
                  (Py.Es.cons (Py.E.v 0)
                    (Py.Es.cons (Py.E.add (Py.E.v 1) (Py.E.c (Py.D.int (6))))
                      (Py.Es.cons (Py.E.c (Py.D.int (2))) Py.Es.nil))))))
            Py.Ss.nil)))
      (Py.Ss.cons (Py.S.ret (Py.E.vv 2) [2]) Py.Ss.nil)))⟩
def b_law_words : FD := ⟨2, 3, (Py.Ss.cons
    (Py.S.ret
      (Py.E.me1 Py.Me.join (Py.E.c (Py.D.str []))
        (Py.E.comp
          (Py.E.idx (Py.E.c (Py.D.str [97, 98, 32, 99, 100, 126, 32, 60]))
            (Py.E.call [95, 108, 97, 119, 95, 100, 114, 97, 119, 110]
              (Py.Es.cons (Py.E.v 0)
                (Py.Es.cons (Py.E.add (Py.E.v 1) (Py.E.v 2))
                  (Py.Es.cons (Py.E.c (Py.D.int (8))) Py.Es.nil)))))
          (Py.Tg.one 2) [2]
          (Py.It.range1
            (Py.E.add (Py.E.c (Py.D.int (1)))
              (Py.E.call [95, 108, 97, 119, 95, 100, 114, 97, 119, 110]
                (Py.Es.cons (Py.E.v 0)
                  (Py.Es.cons (Py.E.add (Py.E.v 1) (Py.E.c (Py.D.int (4))))
                    (Py.Es.cons (Py.E.c (Py.D.int (4))) Py.Es.nil))))))))
      [])
    Py.Ss.nil)⟩
def b_law_signs : FD := ⟨1, 4, (Py.Ss.cons (Py.S.set 1 (Py.E.lst Py.Es.nil) false [])
    (Py.Ss.cons
      (Py.S.forS (Py.Tg.one 2) (Py.It.e (Py.E.vv 0)) []
        (Py.Ss.cons
          (Py.S.ifS
            (Py.E.cmp Py.Cp.eq (Py.E.idx (Py.E.v 2) (Py.E.c (Py.D.int (0))))
              (Py.E.c (Py.D.str [97, 100, 100])))
            (Py.Ss.cons
              (Py.S.set 1
                (Py.E.add (Py.E.v 1)
                  (Py.E.comp
                    (Py.E.tup
                      (Py.Es.cons (Py.E.idx (Py.E.v 2) (Py.E.c (Py.D.int (1))))
                        (Py.Es.cons (Py.E.vv 3) Py.Es.nil)))
                    (Py.Tg.one 3) [3]
                    (Py.It.range1 (Py.E.bi1 Py.Bi.len (Py.E.idx (Py.E.v 2) (Py.E.c (Py.D.int (3))))))))
                false [])
              Py.Ss.nil)
            Py.Ss.nil)
          Py.Ss.nil))
      (Py.Ss.cons (Py.S.ret (Py.E.vv 1) []) Py.Ss.nil)))⟩
def b_law_anchor : FD := ⟨3, 4, (Py.Ss.cons
    (Py.S.set 3
      (Py.E.idx (Py.E.add (Py.E.lst (Py.Es.cons (Py.E.c Py.D.non) Py.Es.nil)) (Py.E.v 2))
        (Py.E.call [95, 108, 97, 119, 95, 100, 114, 97, 119, 110]
          (Py.Es.cons (Py.E.v 0)
            (Py.Es.cons (Py.E.v 1)
              (Py.Es.cons (Py.E.add (Py.E.bi1 Py.Bi.len (Py.E.v 2)) (Py.E.c (Py.D.int (1)))) Py.Es.nil)))))
      false [])
    (Py.Ss.cons
      (Py.S.ret
        (Py.E.tup
          (Py.Es.cons (Py.E.vv 3)
            (Py.Es.cons
              (Py.E.idx (Py.E.c (Py.D.str [108, 114]))
                (Py.E.call [95, 108, 97, 119, 95, 100, 114, 97, 119, 110]
                  (Py.Es.cons (Py.E.v 0)
                    (Py.Es.cons (Py.E.add (Py.E.v 1) (Py.E.c (Py.D.int (1))))
                      (Py.Es.cons (Py.E.c (Py.D.int (2))) Py.Es.nil)))))
              Py.Es.nil)))
        [])
      Py.Ss.nil))⟩
def b_law_deed : FD := ⟨5, 12, (Py.Ss.cons
    (Py.S.set 5 (Py.E.call [95, 108, 97, 119, 95, 115, 105, 103, 110, 115] (Py.Es.cons (Py.E.v 3) Py.Es.nil)) false [])
    (Py.Ss.cons
      (Py.S.set 6
        (Py.E.call [95, 108, 97, 119, 95, 100, 114, 97, 119, 110]
          (Py.Es.cons (Py.E.v 0) (Py.Es.cons (Py.E.v 1) (Py.Es.cons (Py.E.c (Py.D.int (12))) Py.Es.nil))))
        false [])
      (Py.Ss.cons
        (Py.S.ifS
          (Py.E.and (Py.E.cmp Py.Cp.lt (Py.E.v 6) (Py.E.c (Py.D.int (2))))
            (Py.E.cmp Py.Cp.ne (Py.E.v 5) (Py.E.lst Py.Es.nil)))
          (Py.Ss.cons
            (Py.S.set 8
              (Py.E.compIf (Py.E.vv 11) (Py.Tg.many [10, 11]) [10, 11] (Py.It.enum (Py.E.v 5))
                (Py.E.cmp Py.Cp.eq
                  (Py.E.call [95, 108, 97, 119, 95, 100, 114, 97, 119, 110]
                    (Py.Es.cons (Py.E.v 0)
                      (Py.Es.cons (Py.E.add (Py.E.add (Py.E.v 1) (Py.E.c (Py.D.int (20)))) (Py.E.v 10))
                        (Py.Es.cons (Py.E.c (Py.D.int (4))) Py.Es.nil))))
                  (Py.E.c (Py.D.int (0)))))
              false [])
            (Py.Ss.cons
              (Py.S.ret
                (Py.E.tup
                  (Py.Es.cons (Py.E.c (Py.D.str [100, 114, 111, 112]))
                    (Py.Es.cons (Py.E.vv 2)
                      (Py.Es.cons
                        (Py.E.bi1 Py.Bi.tuple
                          (Py.E.add (Py.E.v 8)
                            (Py.E.mul (Py.E.sl (Py.E.v 5) (Py.E.c Py.D.non) (Py.E.c (Py.D.int (1))))
                              (Py.E.bi1 Py.Bi.int (Py.E.cmp Py.Cp.eq (Py.E.v 8) (Py.E.lst Py.Es.nil))))))
                        Py.Es.nil))))
                [])
              Py.Ss.nil))
          Py.Ss.nil)
        (Py.Ss.cons
          (Py.S.ifS (Py.E.cmp Py.Cp.lt (Py.E.v 6) (Py.E.c (Py.D.int (5))))
            (Py.Ss.cons
              (Py.S.set 9
                (Py.E.tup
                  (Py.Es.cons
                    (Py.E.call [95, 108, 97, 119, 95, 97, 110, 99, 104, 111, 114]
                      (Py.Es.cons (Py.E.v 0)
                        (Py.Es.cons (Py.E.add (Py.E.v 1) (Py.E.c (Py.D.int (1))))
                          (Py.Es.cons (Py.E.v 5) Py.Es.nil))))
                    (Py.Es.cons
                      (Py.E.call [95, 108, 97, 119, 95, 97, 110, 99, 104, 111, 114]
                        (Py.Es.cons (Py.E.v 0)
                          (Py.Es.cons (Py.E.add (Py.E.v 1) (Py.E.c (Py.D.int (3))))
                            (Py.Es.cons (Py.E.v 5) Py.Es.nil))))
                      Py.Es.nil)))
                false [])
              (Py.Ss.cons
                (Py.S.ret
                  (Py.E.add
                    (Py.E.tup
                      (Py.Es.cons (Py.E.c (Py.D.str [109, 97, 114, 107]))
                        (Py.Es.cons (Py.E.vv 2)
                          (Py.Es.cons
                            (Py.E.idx (Py.E.v 4)
                              (Py.E.call [95, 108, 97, 119, 95, 100, 114, 97, 119, 110]
                                (Py.Es.cons (Py.E.v 0)
                                  (Py.Es.cons (Py.E.add (Py.E.v 1) (Py.E.c (Py.D.int (5))))
                                    (Py.Es.cons (Py.E.c (Py.D.int (3))) Py.Es.nil)))))
                            Py.Es.nil))))
                    (Py.E.v 9))
                  [])
                Py.Ss.nil))
            Py.Ss.nil)
          (Py.Ss.cons
            (Py.S.ifS (Py.E.cmp Py.Cp.eq (Py.E.v 6) (Py.E.c (Py.D.int (5))))
              (Py.Ss.cons
                (Py.S.ret
                  (Py.E.tup
                    (Py.Es.cons (Py.E.c (Py.D.str [117, 110, 109, 97, 114, 107]))
                      (Py.Es.cons (Py.E.vv 2)
                        (Py.Es.cons
                          (Py.E.idx (Py.E.v 4)
                            (Py.E.call [95, 108, 97, 119, 95, 100, 114, 97, 119, 110]
                              (Py.Es.cons (Py.E.v 0)
                                (Py.Es.cons (Py.E.add (Py.E.v 1) (Py.E.c (Py.D.int (5))))
                                  (Py.Es.cons (Py.E.c (Py.D.int (3))) Py.Es.nil)))))
                          Py.Es.nil))))
                  [])
                Py.Ss.nil)
              Py.Ss.nil)
            (Py.Ss.cons
              (Py.S.ifS
                (Py.E.and (Py.E.cmp Py.Cp.lt (Py.E.v 6) (Py.E.c (Py.D.int (8))))
                  (Py.E.cmp Py.Cp.ne (Py.E.v 3) (Py.E.tup Py.Es.nil)))
                (Py.Ss.cons
                  (Py.S.ret
                    (Py.E.tup
                      (Py.Es.cons (Py.E.c (Py.D.str [117, 110, 100, 111]))
                        (Py.Es.cons (Py.E.vv 2)
                          (Py.Es.cons
                            (Py.E.idx
                              (Py.E.idx (Py.E.v 3)
                                (Py.E.call [95, 108, 97, 119, 95, 100, 114, 97, 119, 110]
                                  (Py.Es.cons (Py.E.v 0)
                                    (Py.Es.cons (Py.E.add (Py.E.v 1) (Py.E.c (Py.D.int (6))))
                                      (Py.Es.cons (Py.E.bi1 Py.Bi.len (Py.E.v 3)) Py.Es.nil)))))
                              (Py.E.c (Py.D.int (1))))
                            Py.Es.nil))))
                    [])
                  Py.Ss.nil)
                Py.Ss.nil)
              (Py.Ss.cons
                (Py.S.set 7
                  (Py.E.idx
                    (Py.E.add (Py.E.add (Py.E.lst (Py.Es.cons (Py.E.c Py.D.non) Py.Es.nil)) (Py.E.v 5))
                      (Py.E.sl (Py.E.v 5) (Py.E.neg (Py.E.c (Py.D.int (3)))) (Py.E.c Py.D.non)))
                    (Py.E.call [95, 108, 97, 119, 95, 100, 114, 97, 119, 110]
                      (Py.Es.cons (Py.E.v 0)
                        (Py.Es.cons (Py.E.add (Py.E.v 1) (Py.E.c (Py.D.int (7))))
                          (Py.Es.cons
                            (Py.E.add (Py.E.add (Py.E.bi1 Py.Bi.len (Py.E.v 5)) (Py.E.c (Py.D.int (1))))
                              (Py.E.bi1 Py.Bi.len
                                (Py.E.sl (Py.E.v 5) (Py.E.neg (Py.E.c (Py.D.int (3)))) (Py.E.c Py.D.non))))
                            Py.Es.nil)))))
                  false [])
                (Py.Ss.cons
                  (Py.S.ret
                    (Py.E.tup
                      (Py.Es.cons (Py.E.c (Py.D.str [97, 100, 100]))
                        (Py.Es.cons (Py.E.vv 2)
                          (Py.Es.cons (Py.E.vv 7)
                            (Py.Es.cons
                              (Py.E.call [95, 108, 97, 119, 95, 119, 111, 114, 100, 115]
                                (Py.Es.cons (Py.E.v 0)
                                  (Py.Es.cons (Py.E.add (Py.E.v 1) (Py.E.c (Py.D.int (8)))) Py.Es.nil)))
                              Py.Es.nil)))))
                    [])
                  Py.Ss.nil))))))))⟩
def b_law_book : FD := ⟨4, 11, (Py.Ss.cons (Py.S.set 4 (Py.E.tup Py.Es.nil) false [])
    (Py.Ss.cons
      (Py.S.set 5
        (Py.E.tup (Py.Es.cons (Py.E.c (Py.D.int (1))) (Py.Es.cons (Py.E.c (Py.D.str [97])) Py.Es.nil))) false
        [])
      (Py.Ss.cons
        (Py.S.forS (Py.Tg.one 6)
          (Py.It.range1
            (Py.E.call [95, 108, 97, 119, 95, 100, 114, 97, 119, 110]
              (Py.Es.cons (Py.E.v 0)
                (Py.Es.cons (Py.E.v 1)
                  (Py.Es.cons (Py.E.add (Py.E.v 2) (Py.E.c (Py.D.int (1)))) Py.Es.nil)))))
          []
          (Py.Ss.cons
            (Py.S.set 7
              (Py.E.add (Py.E.idx (Py.E.v 5) (Py.E.c (Py.D.int (0))))
                (Py.E.call [95, 108, 97, 119, 95, 100, 114, 97, 119, 110]
                  (Py.Es.cons (Py.E.v 0)
                    (Py.Es.cons
                      (Py.E.add (Py.E.add (Py.E.v 1) (Py.E.c (Py.D.int (1))))
                        (Py.E.mul (Py.E.c (Py.D.int (60))) (Py.E.v 6)))
                      (Py.Es.cons (Py.E.c (Py.D.int (2))) Py.Es.nil)))))
              false [])
            (Py.Ss.cons
              (Py.S.set 8
                (Py.E.idx (Py.E.c (Py.D.str [97, 98, 99]))
                  (Py.E.call [95, 108, 97, 119, 95, 100, 114, 97, 119, 110]
                    (Py.Es.cons (Py.E.v 0)
                      (Py.Es.cons
                        (Py.E.add (Py.E.add (Py.E.v 1) (Py.E.c (Py.D.int (2))))
                          (Py.E.mul (Py.E.c (Py.D.int (60))) (Py.E.v 6)))
                        (Py.Es.cons (Py.E.c (Py.D.int (3))) Py.Es.nil)))))
                false [])
              (Py.Ss.cons
                (Py.S.ifS
                  (Py.E.and (Py.E.cmp Py.Cp.ne (Py.E.v 4) (Py.E.tup Py.Es.nil))
                    (Py.E.cmp Py.Cp.le (Py.E.tup (Py.Es.cons (Py.E.vv 7) (Py.Es.cons (Py.E.vv 8) Py.Es.nil)))
                      (Py.E.v 5)))
                  (Py.Ss.cons
                    (Py.S.set 7
                      (Py.E.add (Py.E.idx (Py.E.v 5) (Py.E.c (Py.D.int (0))))
                        (Py.E.c (Py.D.int (1))))
                      false [])
                    Py.Ss.nil)
                  Py.Ss.nil)
                (Py.Ss.cons (Py.S.set 5 (Py.E.tup (Py.Es.cons (Py.E.vv 7) (Py.Es.cons (Py.E.vv 8) Py.Es.nil))) false [])
                  (Py.Ss.cons
                    (Py.S.set 9
                      (Py.E.bi1 Py.Bi.tuple
                        (Py.E.compIf (Py.E.vv 10) (Py.Tg.one 10) [10] (Py.It.e (Py.E.v 4))
                          (Py.E.cmp Py.Cp.lt
                            (Py.E.idx (Py.E.idx (Py.E.v 10) (Py.E.c (Py.D.int (1))))
                              (Py.E.c (Py.D.int (0))))
                            (Py.E.v 7))))
                      false [])
                    (Py.Ss.cons
                      (Py.S.set 4
                        (Py.E.add (Py.E.v 4)
                          (Py.E.tup
                            (Py.Es.cons
                              (Py.E.call [95, 108, 97, 119, 95, 100, 101, 101, 100]
                                (Py.Es.cons (Py.E.v 0)
                                  (Py.Es.cons
                                    (Py.E.add (Py.E.add (Py.E.v 1) (Py.E.c (Py.D.int (3))))
                                      (Py.E.mul (Py.E.c (Py.D.int (60))) (Py.E.v 6)))
                                    (Py.Es.cons (Py.E.v 5) (Py.Es.cons (Py.E.v 9) (Py.Es.cons (Py.E.v 3) Py.Es.nil))))))
                              Py.Es.nil)))
                        false [])
                      Py.Ss.nil)))))))
        (Py.Ss.cons (Py.S.ret (Py.E.vv 4) []) Py.Ss.nil))))⟩
def b_law_named : FD := ⟨1, 3, (Py.Ss.cons
    (Py.S.ifS
      (Py.E.cmp Py.Cp.eq (Py.E.idx (Py.E.v 0) (Py.E.c (Py.D.int (0))))
        (Py.E.c (Py.D.str [117, 110, 100, 111])))
      (Py.Ss.cons
        (Py.S.ret (Py.E.lst (Py.Es.cons (Py.E.idx (Py.E.v 0) (Py.E.c (Py.D.int (2)))) Py.Es.nil)) [])
        Py.Ss.nil)
      Py.Ss.nil)
    (Py.Ss.cons
      (Py.S.ifS
        (Py.E.cmp Py.Cp.eq (Py.E.idx (Py.E.v 0) (Py.E.c (Py.D.int (0)))) (Py.E.c (Py.D.str [97, 100, 100])))
        (Py.Ss.cons
          (Py.S.ret
            (Py.E.ite (Py.E.cmp Py.Cp.notN (Py.E.idx (Py.E.v 0) (Py.E.c (Py.D.int (2)))) (Py.E.c Py.D.non))
              (Py.E.lst
                (Py.Es.cons
                  (Py.E.idx (Py.E.idx (Py.E.v 0) (Py.E.c (Py.D.int (2)))) (Py.E.c (Py.D.int (0))))
                  Py.Es.nil))
              (Py.E.lst Py.Es.nil))
            [])
          Py.Ss.nil)
        Py.Ss.nil)
      (Py.Ss.cons
        (Py.S.ifS
          (Py.E.cmp Py.Cp.eq (Py.E.idx (Py.E.v 0) (Py.E.c (Py.D.int (0))))
            (Py.E.c (Py.D.str [100, 114, 111, 112])))
          (Py.Ss.cons
            (Py.S.ret
              (Py.E.comp (Py.E.idx (Py.E.v 2) (Py.E.c (Py.D.int (0)))) (Py.Tg.one 2) [2]
                (Py.It.e (Py.E.idx (Py.E.v 0) (Py.E.c (Py.D.int (2))))))
              [])
            Py.Ss.nil)
          Py.Ss.nil)
        (Py.Ss.cons
          (Py.S.ret
            (Py.E.compIf
              (Py.E.idx (Py.E.idx (Py.E.v 1) (Py.E.c (Py.D.int (0)))) (Py.E.c (Py.D.int (0))))
              (Py.Tg.one 1) [1] (Py.It.e (Py.E.sl (Py.E.v 0) (Py.E.c (Py.D.int (3))) (Py.E.c Py.D.non)))
              (Py.E.cmp Py.Cp.notN (Py.E.idx (Py.E.v 1) (Py.E.c (Py.D.int (0)))) (Py.E.c Py.D.non)))
            [])
          Py.Ss.nil))))⟩
def b_law_clock : FD := ⟨3, 7, (Py.Ss.cons
    (Py.S.set 3
      (Py.E.mul (Py.E.lst (Py.Es.cons (Py.E.c (Py.D.int (0))) Py.Es.nil)) (Py.E.c (Py.D.int (8))))
      true [])
    (Py.Ss.cons
      (Py.S.forS (Py.Tg.many [4, 5]) (Py.It.enum (Py.E.vv 2)) []
        (Py.Ss.cons
          (Py.S.ifS
            (Py.E.cmp Py.Cp.eq
              (Py.E.call [95, 108, 97, 119, 95, 100, 114, 97, 119, 110]
                (Py.Es.cons (Py.E.v 0)
                  (Py.Es.cons (Py.E.add (Py.E.v 1) (Py.E.v 4))
                    (Py.Es.cons (Py.E.c (Py.D.int (2))) Py.Es.nil))))
              (Py.E.c (Py.D.int (0))))
            (Py.Ss.cons
              (Py.S.set 6
                (Py.E.me1 Py.Me.index (Py.E.c (Py.D.str [97, 98, 99, 100, 101, 102, 103, 104]))
                  (Py.E.idx (Py.E.idx (Py.E.v 5) (Py.E.c (Py.D.int (1)))) (Py.E.c (Py.D.int (1)))))
                false [])
              (Py.Ss.cons
                (Py.S.setIdx 3 (Py.E.v 6)
                  (Py.E.bi2 Py.Bi.max2 (Py.E.idx (Py.E.v 3) (Py.E.v 6))
                    (Py.E.idx (Py.E.idx (Py.E.v 5) (Py.E.c (Py.D.int (1))))
                      (Py.E.c (Py.D.int (0))))))
                Py.Ss.nil))
            Py.Ss.nil)
          Py.Ss.nil))
      (Py.Ss.cons (Py.S.ret (Py.E.bi1 Py.Bi.tuple (Py.E.v 3)) []) Py.Ss.nil)))⟩
def b_law : FD := ⟨1, 13, (Py.Ss.cons
    (Py.S.set 1
      (Py.E.call [95, 108, 97, 119, 95, 98, 111, 111, 107]
        (Py.Es.cons (Py.E.v 0)
          (Py.Es.cons (Py.E.c (Py.D.int (10)))
            (Py.Es.cons (Py.E.c (Py.D.int (9)))
              (Py.Es.cons
                (Py.E.call [95, 108, 97, 119, 95, 110, 97, 109, 101, 115]
                  (Py.Es.cons (Py.E.v 0) (Py.Es.cons (Py.E.c (Py.D.int (0))) Py.Es.nil)))
                Py.Es.nil)))))
      false [])
    (Py.Ss.cons
      (Py.S.set 2
        (Py.E.bi1 Py.Bi.tuple
          (Py.E.comp
            (Py.E.bi1 Py.Bi.max1
              (Py.E.add (Py.E.lst (Py.Es.cons (Py.E.c (Py.D.int (0))) Py.Es.nil))
                (Py.E.compIf
                  (Py.E.idx (Py.E.idx (Py.E.v 7) (Py.E.c (Py.D.int (1)))) (Py.E.c (Py.D.int (0))))
                  (Py.Tg.one 7) [7] (Py.It.e (Py.E.v 1))
                  (Py.E.cmp Py.Cp.eq
                    (Py.E.idx (Py.E.idx (Py.E.v 7) (Py.E.c (Py.D.int (1)))) (Py.E.c (Py.D.int (1))))
                    (Py.E.v 10)))))
            (Py.Tg.one 10) [10] (Py.It.e (Py.E.c (Py.D.str [97, 98, 99, 100, 101, 102, 103, 104])))))
        false [])
      (Py.Ss.cons
        (Py.S.ifS
          (Py.E.cmp Py.Cp.ne (Py.E.call [99, 108, 111, 99, 107, 95, 111, 102] (Py.Es.cons (Py.E.v 1) Py.Es.nil))
            (Py.E.v 2))
          (Py.Ss.cons (Py.S.ret (Py.E.c (Py.D.bl false)) []) Py.Ss.nil) Py.Ss.nil)
        (Py.Ss.cons
          (Py.S.set 3
            (Py.E.lst
              (Py.Es.cons
                (Py.E.call [95, 108, 97, 119, 95, 99, 108, 111, 99, 107]
                  (Py.Es.cons (Py.E.v 0)
                    (Py.Es.cons (Py.E.c (Py.D.int (600))) (Py.Es.cons (Py.E.v 1) Py.Es.nil))))
                (Py.Es.cons
                  (Py.E.call [95, 108, 97, 119, 95, 99, 108, 111, 99, 107]
                    (Py.Es.cons (Py.E.v 0)
                      (Py.Es.cons (Py.E.c (Py.D.int (640))) (Py.Es.cons (Py.E.v 1) Py.Es.nil))))
                  (Py.Es.cons (Py.E.vv 2) Py.Es.nil))))
            false [])
          (Py.Ss.cons
            (Py.S.set 3
              (Py.E.add (Py.E.v 3)
                (Py.E.lst
                  (Py.Es.cons
                    (Py.E.mul (Py.E.tup (Py.Es.cons (Py.E.c (Py.D.int (0))) Py.Es.nil))
                      (Py.E.c (Py.D.int (8))))
                    (Py.Es.cons
                      (Py.E.mul (Py.E.tup (Py.Es.cons (Py.E.c (Py.D.int (99))) Py.Es.nil))
                        (Py.E.c (Py.D.int (8))))
                      (Py.Es.cons
                        (Py.E.mul (Py.E.tup (Py.Es.cons (Py.E.c (Py.D.int (2))) Py.Es.nil))
                          (Py.E.c (Py.D.int (8))))
                        (Py.Es.cons
                          (Py.E.add
                            (Py.E.tup
                              (Py.Es.cons (Py.E.c (Py.D.int (0)))
                                (Py.Es.cons (Py.E.c (Py.D.int (4)))
                                  (Py.Es.cons (Py.E.c (Py.D.int (1))) Py.Es.nil))))
                            (Py.E.mul (Py.E.tup (Py.Es.cons (Py.E.c (Py.D.int (0))) Py.Es.nil))
                              (Py.E.c (Py.D.int (5)))))
                          Py.Es.nil))))))
              false [])
            (Py.Ss.cons
              (Py.S.forS (Py.Tg.one 4) (Py.It.e (Py.E.vv 3)) []
                (Py.Ss.cons
                  (Py.S.set 5
                    (Py.E.compIf (Py.E.vv 7) (Py.Tg.one 7) [7] (Py.It.e (Py.E.v 1))
                      (Py.E.cmp Py.Cp.gt
                        (Py.E.idx (Py.E.idx (Py.E.v 7) (Py.E.c (Py.D.int (1))))
                          (Py.E.c (Py.D.int (0))))
                        (Py.E.idx (Py.E.v 4)
                          (Py.E.me1 Py.Me.index (Py.E.c (Py.D.str [97, 98, 99, 100, 101, 102, 103, 104]))
                            (Py.E.idx (Py.E.idx (Py.E.v 7) (Py.E.c (Py.D.int (1))))
                              (Py.E.c (Py.D.int (1))))))))
                    false [])
                  (Py.Ss.cons
                    (Py.S.ifS
                      (Py.E.cmp Py.Cp.ne
                        (Py.E.call [110, 101, 119, 101, 114] (Py.Es.cons (Py.E.v 1) (Py.Es.cons (Py.E.v 4) Py.Es.nil)))
                        (Py.E.v 5))
                      (Py.Ss.cons (Py.S.ret (Py.E.c (Py.D.bl false)) []) Py.Ss.nil) Py.Ss.nil)
                    (Py.Ss.cons (Py.S.set 6 (Py.E.tup Py.Es.nil) false [])
                      (Py.Ss.cons
                        (Py.S.forS (Py.Tg.one 7) (Py.It.e (Py.E.vv 1)) []
                          (Py.Ss.cons
                            (Py.S.set 9
                              (Py.E.comp (Py.E.idx (Py.E.v 8) (Py.E.c (Py.D.int (1)))) (Py.Tg.one 8) [8]
                                (Py.It.e (Py.E.v 6)))
                              false [])
                            (Py.Ss.cons
                              (Py.S.ifS
                                (Py.E.and (Py.E.cmp Py.Cp.nmem (Py.E.v 7) (Py.E.v 5))
                                  (Py.E.cmp Py.Cp.eq
                                    (Py.E.compIf (Py.E.vv 11) (Py.Tg.one 11) [11]
                                      (Py.It.e
                                        (Py.E.call [95, 108, 97, 119, 95, 110, 97, 109, 101, 100]
                                          (Py.Es.cons (Py.E.v 7) Py.Es.nil)))
                                      (Py.E.cmp Py.Cp.nmem (Py.E.v 11) (Py.E.v 9)))
                                    (Py.E.lst Py.Es.nil)))
                                (Py.Ss.cons
                                  (Py.S.set 6 (Py.E.add (Py.E.v 6) (Py.E.tup (Py.Es.cons (Py.E.vv 7) Py.Es.nil))) false
                                    [])
                                  Py.Ss.nil)
                                Py.Ss.nil)
                              Py.Ss.nil)))
                        (Py.Ss.cons
                          (Py.S.ifS
                            (Py.E.cmp Py.Cp.ne
                              (Py.E.call [107, 101, 112, 116, 95, 116, 111]
                                (Py.Es.cons (Py.E.v 1) (Py.Es.cons (Py.E.v 4) Py.Es.nil)))
                              (Py.E.v 6))
                            (Py.Ss.cons (Py.S.ret (Py.E.c (Py.D.bl false)) []) Py.Ss.nil) Py.Ss.nil)
                          (Py.Ss.cons
                            (Py.S.forS (Py.Tg.one 8) (Py.It.e (Py.E.vv 3)) []
                              (Py.Ss.cons
                                (Py.S.ifS
                                  (Py.E.cmp Py.Cp.ne
                                    (Py.E.call [108, 97, 116, 101, 114, 95, 99, 108, 111, 99, 107]
                                      (Py.Es.cons (Py.E.v 4) (Py.Es.cons (Py.E.v 8) Py.Es.nil)))
                                    (Py.E.bi1 Py.Bi.tuple
                                      (Py.E.comp
                                        (Py.E.bi2 Py.Bi.max2 (Py.E.idx (Py.E.v 4) (Py.E.v 12))
                                          (Py.E.idx (Py.E.v 8) (Py.E.v 12)))
                                        (Py.Tg.one 12) [12] (Py.It.range1 (Py.E.c (Py.D.int (8)))))))
                                  (Py.Ss.cons (Py.S.ret (Py.E.c (Py.D.bl false)) []) Py.Ss.nil) Py.Ss.nil)
                                Py.Ss.nil))
                            Py.Ss.nil)))))))
              (Py.Ss.cons
                (Py.S.ret
                  (Py.E.and
                    (Py.E.cmp Py.Cp.eq
                      (Py.E.call [99, 108, 111, 99, 107, 95, 111, 102] (Py.Es.cons (Py.E.tup Py.Es.nil) Py.Es.nil))
                      (Py.E.mul (Py.E.tup (Py.Es.cons (Py.E.c (Py.D.int (0))) Py.Es.nil))
                        (Py.E.c (Py.D.int (8)))))
                    (Py.E.and
                      (Py.E.cmp Py.Cp.eq
                        (Py.E.call [107, 101, 112, 116, 95, 116, 111]
                          (Py.Es.cons (Py.E.tup Py.Es.nil)
                            (Py.Es.cons
                              (Py.E.mul (Py.E.tup (Py.Es.cons (Py.E.c (Py.D.int (9))) Py.Es.nil))
                                (Py.E.c (Py.D.int (8))))
                              Py.Es.nil)))
                        (Py.E.tup Py.Es.nil))
                      (Py.E.cmp Py.Cp.eq
                        (Py.E.call [110, 101, 119, 101, 114]
                          (Py.Es.cons (Py.E.tup Py.Es.nil)
                            (Py.Es.cons
                              (Py.E.mul (Py.E.tup (Py.Es.cons (Py.E.c (Py.D.int (0))) Py.Es.nil))
                                (Py.E.c (Py.D.int (8))))
                              Py.Es.nil)))
                        (Py.E.lst Py.Es.nil))))
                  [])
                Py.Ss.nil)))))))⟩
end Py
end
section
set_option autoImplicit false
set_option linter.all false
set_option maxRecDepth 100000
set_option maxHeartbeats 2000000
/-! PzC: what a law draws. -/
namespace Py

def cellF (sc : List Int) (k : Int) : Int := if sc = [] then 7 * k else sc.getD (k % sc.length).toNat 0 + 6553 * (k / sc.length)
def d1F (sc : List Int) (k : Int) : Int := (cellF sc k % 2147483563 * 69069 + 104723 * (k + 1)) % 2147483563
def d2F (sc : List Int) (k : Int) : Int := (d1F sc k * d1F sc k + d1F sc k / 3) % 2147483399
def drawnF (sc : List Int) (k m : Int) : Int := (d2F sc k * d2F sc k + d2F sc k / 7) % 2147483647 / 11 % m
abbrev scD (sc : List Int) : D := .lst (sc.map .int)
abbrev nCell : Nm := [95, 108, 97, 119, 95, 99, 101, 108, 108]
abbrev nDrawn : Nm := [95, 108, 97, 119, 95, 100, 114, 97, 119, 110]
section
variable {T : Tab} {n : Nat} {sc : List Int}
theorem sc_nil : dCmp .eq (scD sc) (.lst []) = .val (decide (sc = [])) := by
  unfold dCmp
  dsimp only
  rw [ok_ints, show D.ok (.lst []) = true from rfl]
  cases sc <;> rfl
theorem sc_len : bi1 .len (scD sc) = .val (.int sc.length) := by
  show Out.val (D.int ((sc.map D.int).length)) = _
  rw [List.length_map]
theorem sc_at {j : Int} (h0 : 0 ≤ j) (h : j < sc.length) : dIdx (scD sc) (.int j) = .val (.int (sc.getD j.toNat 0)) := by
  show orBad (at_ (sc.map D.int) j) = _
  rw [at_int _ _ h0 (by simpa using h), List.getElem?_map]
  have : j.toNat < sc.length := by omega
  simp [this]
theorem cell_ev (h : T nCell = some b_law_cell) (hs : sc.length ≤ 63) (k : Int) : evF T (n + 1) nCell [scD sc, .int k] = .val (.int (cellF sc k)) := by
  rw [evF_run h rfl]
  unfold cellF
  by_cases hn : sc = []
  · simp only [b_law_cell, exs, ex, ev, evs, evIt, get_0, get_1, get_2, get_3, get_4, get_5, get_6, get_7, get_8, get_9, get_10, get_11, get_12, get_13, setE_0, setE_1, setE_2, setE_3, setE_4, setE_5, setE_6, setE_7, setE_8, setE_9, setE_10, setE_11, setE_12, setE_13, d_sh, d_ow, v_sh, f_sh, f_ow, o_sh, o_ow, frz_nil, frz_cons, nxt_nx, nxt_rt, startE_nil, startE_cons, uns_0, uns_1, uns_2, uns_3, uns_4, uns_5, uns_6, uns_7, uns_8, uns_9, uns_10, uns_11, uns_12, fin_rt, fin_nx, bor_nil, bor_v, bor_dnil, bor_c, bor_vv, bor_fn, bor_add, bor_sub, bor_mul, bor_dv, bor_md, bor_neg, bor_not, bor_and, bor_or, bor_ite, bor_cmp, bor_tup, bor_lst, bor_idx, bor_sl, bor_call, bor_bi1, bor_bi2, bor_me1, bor_me2, bor_comp, bor_compIf, ent_f, Out.bind_val, Out.pure_val, Out.bind_bad, asB_bl, owned_ow, lstOf_lst, immIf_false, noExc_val, orBad_some, chk_true, Nat.reduceSub, Nat.reduceAdd, Bool.or_false, Bool.false_or, Bool.or_true, if_true, Bool.false_eq_true, if_false, sc_nil, hn, decide_true, dMul_int (i := 7) (by decide) (by decide)]
  · have hl : 0 < sc.length := List.length_pos_iff.mpr hn
    have hm : 0 ≤ k % (sc.length : Int) := Int.emod_nonneg _ (by omega)
    have hm2 : k % (sc.length : Int) < sc.length := Int.emod_lt_of_pos _ (by omega)
    simp only [b_law_cell, exs, ex, ev, evs, evIt, get_0, get_1, get_2, get_3, get_4, get_5, get_6, get_7, get_8, get_9, get_10, get_11, get_12, get_13, setE_0, setE_1, setE_2, setE_3, setE_4, setE_5, setE_6, setE_7, setE_8, setE_9, setE_10, setE_11, setE_12, setE_13, d_sh, d_ow, v_sh, f_sh, f_ow, o_sh, o_ow, frz_nil, frz_cons, nxt_nx, nxt_rt, startE_nil, startE_cons, uns_0, uns_1, uns_2, uns_3, uns_4, uns_5, uns_6, uns_7, uns_8, uns_9, uns_10, uns_11, uns_12, fin_rt, fin_nx, bor_nil, bor_v, bor_dnil, bor_c, bor_vv, bor_fn, bor_add, bor_sub, bor_mul, bor_dv, bor_md, bor_neg, bor_not, bor_and, bor_or, bor_ite, bor_cmp, bor_tup, bor_lst, bor_idx, bor_sl, bor_call, bor_bi1, bor_bi2, bor_me1, bor_me2, bor_comp, bor_compIf, ent_f, Out.bind_val, Out.pure_val, Out.bind_bad, asB_bl, owned_ow, lstOf_lst, immIf_false, noExc_val, orBad_some, chk_true, Nat.reduceSub, Nat.reduceAdd, Bool.or_false, Bool.false_or, Bool.or_true, if_true, Bool.false_eq_true, if_false, sc_nil, hn, decide_false, sc_len, dMod_int (i := k) (show (0 : Int) < sc.length by omega), dDiv_int (i := k) (show (0 : Int) < sc.length by omega) (by omega), sc_at hm hm2, dMul_int (i := 6553) (by decide) (by decide), dAdd_int]
theorem drawn_ev (hc : T nCell = some b_law_cell) (h : T nDrawn = some b_law_drawn) (hs : sc.length ≤ 63) (k m : Int) (hm : 0 < m) : evF T (n + 2) nDrawn [scD sc, .int k, .int m] = .val (.int (drawnF sc k m)) := by
  have c1 : ∀ i j : Int, dMul (.int (i % 2147483563)) (.int j) = .val (.int (i % 2147483563 * j)) := fun i j => dMul_int (by omega) (by omega)
  have c2 : ∀ i j : Int, dMul (.int (i % 2147483399)) (.int j) = .val (.int (i % 2147483399 * j)) := fun i j => dMul_int (by omega) (by omega)
  have c3 : ∀ i : Int, dMod (.int i) (.int 2147483563) = .val (.int (i % 2147483563)) := fun i => dMod_int (by decide)
  have c4 : ∀ i : Int, dMod (.int i) (.int 2147483399) = .val (.int (i % 2147483399)) := fun i => dMod_int (by decide)
  have c5 : ∀ i : Int, dMod (.int i) (.int 2147483647) = .val (.int (i % 2147483647)) := fun i => dMod_int (by decide)
  have c6 : ∀ i : Int, dDiv (.int i) (.int 3) = .val (.int (i / 3)) := fun i => dDiv_int (by decide) (by decide)
  have c7 : ∀ i : Int, dDiv (.int i) (.int 7) = .val (.int (i / 7)) := fun i => dDiv_int (by decide) (by decide)
  have c8 : ∀ i : Int, dDiv (.int i) (.int 11) = .val (.int (i / 11)) := fun i => dDiv_int (by decide) (by decide)
  rw [evF_run h rfl]
  simp only [b_law_drawn, exs, ex, ev, evs, evIt, get_0, get_1, get_2, get_3, get_4, get_5, get_6, get_7, get_8, get_9, get_10, get_11, get_12, get_13, setE_0, setE_1, setE_2, setE_3, setE_4, setE_5, setE_6, setE_7, setE_8, setE_9, setE_10, setE_11, setE_12, setE_13, d_sh, d_ow, v_sh, f_sh, f_ow, o_sh, o_ow, frz_nil, frz_cons, nxt_nx, nxt_rt, startE_nil, startE_cons, uns_0, uns_1, uns_2, uns_3, uns_4, uns_5, uns_6, uns_7, uns_8, uns_9, uns_10, uns_11, uns_12, fin_rt, fin_nx, bor_nil, bor_v, bor_dnil, bor_c, bor_vv, bor_fn, bor_add, bor_sub, bor_mul, bor_dv, bor_md, bor_neg, bor_not, bor_and, bor_or, bor_ite, bor_cmp, bor_tup, bor_lst, bor_idx, bor_sl, bor_call, bor_bi1, bor_bi2, bor_me1, bor_me2, bor_comp, bor_compIf, ent_f, Out.bind_val, Out.pure_val, Out.bind_bad, asB_bl, owned_ow, lstOf_lst, immIf_false, noExc_val, orBad_some, chk_true, Nat.reduceSub, Nat.reduceAdd, Bool.or_false, Bool.false_or, Bool.or_true, if_true, Bool.false_eq_true, if_false, cell_ev (n := n) hc hs k, c1, c2, c3, c4, c5, c6, c7, c8, dMul_int (i := 104723) (by decide) (by decide), dAdd_int, dMod_int (j := m) hm]
  rfl
theorem drawn_pos (k m : Int) (hm : 0 < m) : 0 ≤ drawnF sc k m ∧ drawnF sc k m < m := ⟨Int.emod_nonneg _ (by omega), Int.emod_lt_of_pos _ hm⟩
end
end Py
end
section
set_option autoImplicit false
set_option linter.all false
set_option maxRecDepth 100000
set_option maxHeartbeats 4000000
/-! PzD: loops; names and words that a law draws. -/
namespace Py

theorem bind_one (δ : Env) (i : Nat) (d : D) : bindT δ (.one i) d = .val (setE δ i (.sh d)) := rfl
theorem bind_two (δ : Env) (i j : Nat) (a b : D) : bindT δ (.many [i, j]) (.tup [a, b]) = .val (setE (setE δ i (.sh a)) j (.sh b)) := rfl
theorem wipe_nil (δ : Env) : wipeE δ [] = δ := rfl
theorem wipe_cons (δ : Env) (i : Nat) (r : List Nat) : wipeE δ (i :: r) = setE (wipeE δ r) i .un := rfl
/-- a loop that goes to its end -/
theorem forD_fold {α β : Type} {enc : α → D} {st : β → Env} {P : β → Prop} {step : β → α → β} {f : D → Env → Out (Ctl × Env)} : ∀ {xs : List α} {b : β}, P b → (∀ b a, a ∈ xs → P b → f (enc a) (st b) = .val (.nx, st (step b a)) ∧ P (step b a)) →
    forD f (xs.map enc) (st b) = .val (.nx, st (xs.foldl step b)) ∧ P (xs.foldl step b)
  | [], b, p, _ => ⟨rfl, p⟩
  | a :: r, b, p, h => by
    obtain ⟨h1, h2⟩ := h b a List.mem_cons_self p
    obtain ⟨h3, h4⟩ := forD_fold (xs := r) h2 fun b a ha => h b a (List.mem_cons_of_mem _ ha)
    refine ⟨?_, h4⟩
    rw [List.map_cons, forD, h1, Out.bind_val, nxt_nx, h3]
    rfl
/-- the same, by what is left -/
theorem forD_foldR {α β : Type} {enc : α → D} {st : β → Env} {P : List α → β → Prop} {step : β → α → β} {f : D → Env → Out (Ctl × Env)} : ∀ {xs : List α} {b : β}, P xs b → (∀ a r b, P (a :: r) b → f (enc a) (st b) = .val (.nx, st (step b a)) ∧ P r (step b a)) →
    forD f (xs.map enc) (st b) = .val (.nx, st (xs.foldl step b)) ∧ P [] (xs.foldl step b)
  | [], b, p, _ => ⟨rfl, p⟩
  | a :: r, b, p, h => by
    obtain ⟨h1, h2⟩ := h a r b p
    obtain ⟨h3, h4⟩ := forD_foldR (xs := r) h2 h
    refine ⟨?_, h4⟩
    rw [List.map_cons, forD, h1, Out.bind_val, nxt_nx, h3]
    rfl
theorem mapIf_map {α : Type} {enc : α → D} {g : D → Out (Option D)} {h : α → Option D} : ∀ {xs : List α}, (∀ a ∈ xs, g (enc a) = .val (h a)) → mapIfD g (xs.map enc) = .val (xs.filterMap h)
  | [], _ => rfl
  | a :: r, hh => by
    rw [List.map_cons, mapIfD, hh a List.mem_cons_self, Out.bind_val, mapIf_map fun b hb => hh b (List.mem_cons_of_mem _ hb)]
    cases e : h a with
    | none => simp [e]
    | some y => simp [e]
/-- every item taken -/
theorem mapAll_map {α : Type} {enc : α → D} {g : D → Out (Option D)} {h : α → D} {xs : List α} (hh : ∀ a ∈ xs, g (enc a) = .val (some (h a))) : mapIfD g (xs.map enc) = .val (xs.map h) := by
  rw [mapIf_map (h := fun a => some (h a)) hh, List.filterMap_eq_map']
theorem upTo_map : ∀ (n : Nat) (lo : Int), upTo lo n = (List.range n).map fun i : Nat => D.int (lo + (i : Int))
  | 0, _ => rfl
  | n + 1, lo => by
    rw [upTo, upTo_map n (lo + 1), List.range_succ_eq_map, List.map_cons, List.map_map]
    congr 1
    · simp
    · refine List.map_congr_left fun i _ => ?_
      simp only [Function.comp, Nat.succ_eq_add_one]
      congr 1
      omega
theorem range_nat (n : Nat) (h : n < 1000000) : range2 (.int 0) (.int n) = .val ((List.range n).map fun i : Nat => D.int (i : Int)) := by
  have e : range2 (.int 0) (.int n) = .val (upTo 0 n) := by
    have h1 : (((n : Int) - 0).toNat) = n := by omega
    unfold range2
    dsimp only
    rw [h1]
    unfold chk
    rw [if_pos]
    simp only [Bool.and_eq_true, decide_eq_true_eq]
    omega
  rw [e, upTo_map]
  simp only [Int.zero_add]
theorem range_int (n : Int) (h0 : 0 ≤ n) (h : n < 1000000) : range2 (.int 0) (.int n) = .val ((List.range n.toNat).map fun i : Nat => D.int (i : Int)) := by
  have := range_nat n.toNat (by omega)
  rw [show ((n.toNat : Nat) : Int) = n by omega] at this
  exact this
theorem str_at {s : List Nat} {j : Int} (h0 : 0 ≤ j) (h : j < s.length) : dIdx (.str s) (.int j) = .val (.str [s.getD j.toNat 0]) := by
  show (match at_ s j with
    | some c => Out.val (D.str [c])
    | none => .bad) = _
  rw [at_int _ _ h0 h]
  have : j.toNat < s.length := by omega
  simp [this]
theorem lst_at {xs : List D} {j : Int} {d : D} (h0 : 0 ≤ j) (h : xs[j.toNat]? = some d) : dIdx (.lst xs) (.int j) = .val d := by
  have hl := (List.getElem?_eq_some_iff.mp h).1
  show orBad (at_ xs j) = _
  rw [at_int _ _ h0 (by omega), h]
  rfl
theorem tup_at {xs : List D} {j : Int} {d : D} (h0 : 0 ≤ j) (h : xs[j.toNat]? = some d) : dIdx (.tup xs) (.int j) = .val d := by
  have hl := (List.getElem?_eq_some_iff.mp h).1
  show orBad (at_ xs j) = _
  rw [at_int _ _ h0 (by omega), h]
  rfl
theorem cat_str {a b : List Nat} (h : a.length + b.length ≤ 1000) : dAdd (.str a) (.str b) = .val (.str (a ++ b)) := by
  show chk _ _ = _
  unfold chk
  rw [if_pos]
  simp only [decide_eq_true_eq]
  unfold LIM
  omega
theorem cat_lstZ {a b : List D} (h : a.length + b.length ≤ 10000) : dAdd (.lst a) (.lst b) = .val (.lst (a ++ b)) := by
  show chk _ _ = _
  unfold chk
  rw [if_pos]
  simp only [decide_eq_true_eq]
  unfold LIM
  omega
theorem cat_tup {a b : List D} (h : a.length + b.length ≤ 10000) : dAdd (.tup a) (.tup b) = .val (.tup (a ++ b)) := by
  show chk _ _ = _
  unfold chk
  rw [if_pos]
  simp only [decide_eq_true_eq]
  unfold LIM
  omega
theorem mul_str {a : List Nat} {j : Int} (h0 : 0 ≤ j) (h : j < 1000) (hl : a.length ≤ 1000) : dMul (.str a) (.int j) = .val (.str (repL a j.toNat)) := by
  show chk _ _ = _
  unfold chk
  rw [if_pos]
  simp only [Bool.and_eq_true, decide_eq_true_eq]
  refine ⟨⟨?_, h0⟩, by omega⟩
  have : a.length * j.toNat ≤ 1000 * 1000 := Nat.mul_le_mul hl (by omega)
  unfold LIM
  omega
theorem repL_lenZ {α : Type} (a : List α) : ∀ n, (repL a n).length = n * a.length
  | 0 => by simp [repL]
  | n + 1 => by rw [repL, List.length_append, repL_lenZ a n, Nat.add_mul]; omega
theorem app_lst {xs : List D} {d : D} (h : xs.length ≤ 10000) : dApp (.lst xs) d = .val (.lst (xs ++ [d])) := by
  show chk _ _ = _
  unfold chk
  rw [if_pos]
  simp only [decide_eq_true_eq]
  unfold LIM
  omega

/-! ### names -/
def azL : List Nat := [97, 98, 99, 100, 101, 102, 103, 104, 105, 106, 107, 108, 109, 110, 111, 112, 113, 114, 115, 116, 117, 118, 119, 120, 121, 122]
def wordF (sc : List Int) (p : Int) (k : Int) : List Nat := repL [azL.getD (drawnF sc (p + 2 * k) 26).toNat 0] (drawnF sc (p + 2 * k + 1) 2).toNat
def nameF (sc : List Int) (p k : Int) (x : Nat) : List Nat := if drawnF sc (p + 6) 2 = 0 then wordF sc p k ++ [x] else [x] ++ wordF sc p k
def namesF (sc : List Int) (p : Int) : List (List Nat) := [nameF sc p 0 120, nameF sc p 1 121, nameF sc p 2 122]
abbrev nNames : Nm := [95, 108, 97, 119, 95, 110, 97, 109, 101, 115]
abbrev nWords : Nm := [95, 108, 97, 119, 95, 119, 111, 114, 100, 115]
/-- the drawing defs stand in T -/
structure Dr (T : Tab) : Prop where
  cell : T nCell = some b_law_cell
  drawn : T nDrawn = some b_law_drawn
section
variable {T : Tab} {n : Nat} {sc : List Int}
theorem word_len (p k : Int) : (wordF sc p k).length ≤ 1 := by
  unfold wordF
  rw [repL_lenZ]
  have := drawn_pos (sc := sc) (p + 2 * k + 1) 2 (by decide)
  simp
  omega
theorem two_at {j : Int} {a b : D} (h0 : 0 ≤ j) (h : j < 2) : dIdx (.lst [a, b]) (.int j) = .val (if j = 0 then a else b) := by
  have : j = 0 ∨ j = 1 := by omega
  rcases this with rfl | rfl <;> rfl
def lb_names : Ss := match b_law_names.body with
  | .cons _ (.cons (.forS _ _ _ b) _) => b
  | _ => .nil
theorem b_names_eq : b_law_names = ⟨2, 5, .cons (.set 2 (.lst .nil) true []) (.cons (.forS (.one 3) (.range1 (.c (.int 3))) [] lb_names) (.cons (.ret (.vv 2) [2]) .nil))⟩ := rfl
theorem name_step (hd : Dr T) (hs : sc.length ≤ 63) (p k : Int) (x : Nat) (hx : dIdx (.str [120, 121, 122]) (.int k) = .val (.str [x])) (hk0 : 0 ≤ k) (hk : k < 3) (acc : List D) (hacc : acc.length ≤ 10) (u3 u4 : Ent) :
    (bindT [.sh (scD sc), .sh (.int p), .ow (.lst acc), u3, u4] (.one 3) (.int k) >>= fun δ' => exs (evF T (n + 2)) lb_names δ') = .val (.nx, [.sh (scD sc), .sh (.int p), .ow (.lst (acc ++ [.str (nameF sc p k x)])), .sh (.int k), .sh (.str (wordF sc p k))]) := by
  have d1 := drawn_ev (T := T) (n := n) hd.cell hd.drawn hs
  have p1 := drawn_pos (sc := sc) (p + 2 * k) 26 (by decide)
  have p2 := drawn_pos (sc := sc) (p + 2 * k + 1) 2 (by decide)
  have p3 := drawn_pos (sc := sc) (p + 6) 2 (by decide)
  have hw := word_len (sc := sc) p k
  have e1 : dIdx (.str azL) (.int (drawnF sc (p + 2 * k) 26)) = .val (.str [azL.getD (drawnF sc (p + 2 * k) 26).toNat 0]) := str_at p1.1 p1.2
  have e2 : ∀ c : Nat, dMul (.str [c]) (.int (drawnF sc (p + 2 * k + 1) 2)) = .val (.str (repL [c] (drawnF sc (p + 2 * k + 1) 2).toNat)) := fun c => mul_str p2.1 (by omega) (by simp)
  have e3 : ∀ a b : D, dIdx (.lst [a, b]) (.int (drawnF sc (p + 6) 2)) = .val (if drawnF sc (p + 6) 2 = 0 then a else b) := fun a b => two_at p3.1 p3.2
  have e4 : dAdd (.str (wordF sc p k)) (.str [x]) = .val (.str (wordF sc p k ++ [x])) := cat_str (by simp; omega)
  have e5 : dAdd (.str [x]) (.str (wordF sc p k)) = .val (.str ([x] ++ wordF sc p k)) := cat_str (by simp; omega)
  have e6 : ∀ d, dApp (.lst acc) d = .val (.lst (acc ++ [d])) := fun d => app_lst (by omega)
  have ew : repL [azL.getD (drawnF sc (p + 2 * k) 26).toNat 0] (drawnF sc (p + 2 * k + 1) 2).toNat = wordF sc p k := rfl
  unfold azL at e1 ew
  simp only [lb_names, b_law_names, exs, ex, ev, evs, evIt, get_0, get_1, get_2, get_3, get_4, get_5, get_6, get_7, get_8, get_9, get_10, get_11, get_12, get_13, setE_0, setE_1, setE_2, setE_3, setE_4, setE_5, setE_6, setE_7, setE_8, setE_9, setE_10, setE_11, setE_12, setE_13, d_sh, d_ow, v_sh, f_sh, f_ow, o_sh, o_ow, frz_nil, frz_cons, nxt_nx, nxt_rt, startE_nil, startE_cons, uns_0, uns_1, uns_2, uns_3, uns_4, uns_5, uns_6, uns_7, uns_8, uns_9, uns_10, uns_11, uns_12, fin_rt, fin_nx, bor_nil, bor_v, bor_dnil, bor_c, bor_vv, bor_fn, bor_add, bor_sub, bor_mul, bor_dv, bor_md, bor_neg, bor_not, bor_and, bor_or, bor_ite, bor_cmp, bor_tup, bor_lst, bor_idx, bor_sl, bor_call, bor_bi1, bor_bi2, bor_me1, bor_me2, bor_comp, bor_compIf, ent_f, Out.bind_val, Out.pure_val, Out.bind_bad, asB_bl, owned_ow, lstOf_lst, immIf_false, noExc_val, orBad_some, chk_true, Nat.reduceSub, Nat.reduceAdd, Bool.or_false, Bool.false_or, Bool.or_true, if_true, Bool.false_eq_true, if_false, bind_one, dMul_int (i := 2) (by decide) (by decide), dAdd_int, d1 _ 26 (by decide), d1 _ 2 (by decide), e1, e2, ew, hx, e4, e5, e3, e6]
  unfold nameF
  split <;> rfl
theorem names_ev (hd : Dr T) (h : T nNames = some b_law_names) (hs : sc.length ≤ 63) (p : Int) : evF T (n + 3) nNames [scD sc, .int p] = .val (.lst ((namesF sc p).map .str)) := by
  rw [evF_run h rfl]
  have s0 := fun u3 u4 => name_step (n := n) hd hs p 0 120 rfl (by decide) (by decide) [] (by decide) u3 u4
  have s1 := fun a u3 u4 => name_step (n := n) hd hs p 1 121 rfl (by decide) (by decide) [a] (by simp) u3 u4
  have s2 := fun a b u3 u4 => name_step (n := n) hd hs p 2 122 rfl (by decide) (by decide) [a, b] (by simp) u3 u4
  have r3 : range2 (.int 0) (.int 3) = .val [.int 0, .int 1, .int 2] := rfl
  have hf : fresh (.lst .nil) = true := rfl
  have he : entOf true true (.lst []) = .ow (.lst []) := rfl
  simp only [b_names_eq, exs, ex, ev, evs, evIt, get_0, get_1, get_2, get_3, get_4, get_5, get_6, get_7, get_8, get_9, get_10, get_11, get_12, get_13, setE_0, setE_1, setE_2, setE_3, setE_4, setE_5, setE_6, setE_7, setE_8, setE_9, setE_10, setE_11, setE_12, setE_13, d_sh, d_ow, v_sh, f_sh, f_ow, o_sh, o_ow, frz_nil, frz_cons, nxt_nx, nxt_rt, startE_nil, startE_cons, uns_0, uns_1, uns_2, uns_3, uns_4, uns_5, uns_6, uns_7, uns_8, uns_9, uns_10, uns_11, uns_12, fin_rt, fin_nx, bor_nil, bor_v, bor_dnil, bor_c, bor_vv, bor_fn, bor_add, bor_sub, bor_mul, bor_dv, bor_md, bor_neg, bor_not, bor_and, bor_or, bor_ite, bor_cmp, bor_tup, bor_lst, bor_idx, bor_sl, bor_call, bor_bi1, bor_bi2, bor_me1, bor_me2, bor_comp, bor_compIf, ent_f, Out.bind_val, Out.pure_val, Out.bind_bad, asB_bl, owned_ow, lstOf_lst, immIf_false, noExc_val, orBad_some, chk_true, Nat.reduceSub, Nat.reduceAdd, Bool.or_false, Bool.false_or, Bool.or_true, if_true, Bool.false_eq_true, if_false, r3, forD, hf, he, s0, s1, s2, List.nil_append, List.cons_append]
  rfl

/-! ### words -/
def wsF (sc : List Int) (p : Int) : List Nat := (List.range (1 + drawnF sc (p + 4) 4).toNat).map fun k : Nat => ([97, 98, 32, 99, 100, 126, 32, 60] : List Nat).getD (drawnF sc (p + k) 8).toNat 0
theorem strsOf_map (f : Nat → Nat) : ∀ l : List Nat, strsOf (l.map fun k => D.str [f k]) = some (l.map fun k => [f k])
  | [] => rfl
  | a :: r => by simp [strsOf, strsOf_map f r]
theorem join_one (f : Nat → Nat) : ∀ l : List Nat, joinL [] (l.map fun k => [f k]) = l.map f
  | [] => rfl
  | [a] => rfl
  | a :: b :: r => by
    have := join_one f (b :: r)
    simp only [List.map_cons, joinL] at this ⊢
    rw [this]
    rfl
theorem sizes_one (f : Nat → Nat) : ∀ l : List Nat, sizes 0 (l.map fun k => [f k]) = l.length
  | [] => rfl
  | a :: r => by
    have := sizes_one f r
    simp only [List.map_cons, sizes, this, List.length_cons, List.length_nil]
    omega
def eb_words : E := match b_law_words.body with
  | .cons (.ret (.me1 _ _ (.comp e _ _ _)) _) _ => e
  | _ => .dnil
theorem b_words_eq : b_law_words = ⟨2, 3, .cons (.ret (.me1 .join (.c (.str [])) (.comp eb_words (.one 2) [2] (.range1 (.add (.c (.int 1)) (.call [95, 108, 97, 119, 95, 100, 114, 97, 119, 110] (.cons (.v 0) (.cons (.add (.v 1) (.c (.int 4))) (.cons (.c (.int 4)) .nil)))))))) []) .nil⟩ := rfl
theorem words_ev (hd : Dr T) (h : T nWords = some b_law_words) (hs : sc.length ≤ 63) (p : Int) : evF T (n + 3) nWords [scD sc, .int p] = .val (.str (wsF sc p)) := by
  rw [evF_run h rfl]
  have d1 := drawn_ev (T := T) (n := n) hd.cell hd.drawn hs
  have p4 := drawn_pos (sc := sc) (p + 4) 4 (by decide)
  have hr : range2 (.int 0) (.int (1 + drawnF sc (p + 4) 4)) = .val ((List.range (1 + drawnF sc (p + 4) 4).toNat).map fun i : Nat => D.int (i : Int)) := range_int _ (by omega) (by omega)
  have hm : ∀ u2 : Ent, mapIfD (stepOf [2] (.one 2) (fun _ => .val true) (fun δ' => ev (evF T (n + 2)) eb_words δ') [.sh (scD sc), .sh (.int p), u2])
      ((List.range (1 + drawnF sc (p + 4) 4).toNat).map fun i : Nat => D.int (i : Int)) = .val ((List.range (1 + drawnF sc (p + 4) 4).toNat).map fun k : Nat => D.str [([97, 98, 32, 99, 100, 126, 32, 60] : List Nat).getD (drawnF sc (p + k) 8).toNat 0]) := fun u2 => by
    refine mapAll_map fun a _ => ?_
    have p8 := drawn_pos (sc := sc) (p + a) 8 (by decide)
    have e1 : dIdx (.str [97, 98, 32, 99, 100, 126, 32, 60]) (.int (drawnF sc (p + a) 8)) = .val (.str [([97, 98, 32, 99, 100, 126, 32, 60] : List Nat).getD (drawnF sc (p + a) 8).toNat 0]) := str_at p8.1 (by simpa using p8.2)
    simp only [eb_words, b_law_words, stepOf, wipe_nil, wipe_cons, bind_one, exs, ex, ev, evs, evIt, get_0, get_1, get_2, get_3, get_4, get_5, get_6, get_7, get_8, get_9, get_10, get_11, get_12, get_13, setE_0, setE_1, setE_2, setE_3, setE_4, setE_5, setE_6, setE_7, setE_8, setE_9, setE_10, setE_11, setE_12, setE_13, d_sh, d_ow, v_sh, f_sh, f_ow, o_sh, o_ow, frz_nil, frz_cons, nxt_nx, nxt_rt, startE_nil, startE_cons, uns_0, uns_1, uns_2, uns_3, uns_4, uns_5, uns_6, uns_7, uns_8, uns_9, uns_10, uns_11, uns_12, fin_rt, fin_nx, bor_nil, bor_v, bor_dnil, bor_c, bor_vv, bor_fn, bor_add, bor_sub, bor_mul, bor_dv, bor_md, bor_neg, bor_not, bor_and, bor_or, bor_ite, bor_cmp, bor_tup, bor_lst, bor_idx, bor_sl, bor_call, bor_bi1, bor_bi2, bor_me1, bor_me2, bor_comp, bor_compIf, ent_f, Out.bind_val, Out.pure_val, Out.bind_bad, asB_bl, owned_ow, lstOf_lst, immIf_false, noExc_val, orBad_some, chk_true, Nat.reduceSub, Nat.reduceAdd, Bool.or_false, Bool.false_or, Bool.or_true, if_true, Bool.false_eq_true, if_false, dAdd_int, d1 _ 8 (by decide), e1]
  have hj : me1 .join (.str []) (.lst ((List.range (1 + drawnF sc (p + 4) 4).toNat).map fun k : Nat => D.str [([97, 98, 32, 99, 100, 126, 32, 60] : List Nat).getD (drawnF sc (p + k) 8).toNat 0])) = .val (.str (wsF sc p)) := by
    unfold me1
    dsimp only
    rw [strsOf_map fun k => ([97, 98, 32, 99, 100, 126, 32, 60] : List Nat).getD (drawnF sc (p + k) 8).toNat 0]
    dsimp only
    rw [List.length_nil, sizes_one, join_one]
    unfold chk
    rw [if_pos]
    · rfl
    · simp only [List.length_range, decide_eq_true_eq]
      unfold LIM
      omega
  have ht : meTy .join (.str []) = true := rfl
  simp only [b_words_eq, exs, ex, ev, evs, evIt, get_0, get_1, get_2, get_3, get_4, get_5, get_6, get_7, get_8, get_9, get_10, get_11, get_12, get_13, setE_0, setE_1, setE_2, setE_3, setE_4, setE_5, setE_6, setE_7, setE_8, setE_9, setE_10, setE_11, setE_12, setE_13, d_sh, d_ow, v_sh, f_sh, f_ow, o_sh, o_ow, frz_nil, frz_cons, nxt_nx, nxt_rt, startE_nil, startE_cons, uns_0, uns_1, uns_2, uns_3, uns_4, uns_5, uns_6, uns_7, uns_8, uns_9, uns_10, uns_11, uns_12, fin_rt, fin_nx, bor_nil, bor_v, bor_dnil, bor_c, bor_vv, bor_fn, bor_add, bor_sub, bor_mul, bor_dv, bor_md, bor_neg, bor_not, bor_and, bor_or, bor_ite, bor_cmp, bor_tup, bor_lst, bor_idx, bor_sl, bor_call, bor_bi1, bor_bi2, bor_me1, bor_me2, bor_comp, bor_compIf, ent_f, Out.bind_val, Out.pure_val, Out.bind_bad, asB_bl, owned_ow, lstOf_lst, immIf_false, noExc_val, orBad_some, chk_true, Nat.reduceSub, Nat.reduceAdd, Bool.or_false, Bool.false_or, Bool.or_true, if_true, Bool.false_eq_true, if_false, dAdd_int, d1 _ 4 (by decide), hr, hm, ht, hj]
theorem ws_len (p : Int) : 1 ≤ (wsF sc p).length ∧ (wsF sc p).length ≤ 4 := by
  unfold wsF
  have p4 := drawn_pos (sc := sc) (p + 4) 4 (by decide)
  rw [List.length_map, List.length_range]
  omega
end
end Py
end
section
set_option autoImplicit false
set_option linter.all false
set_option maxRecDepth 100000
set_option maxHeartbeats 4000000
/-! PzE: deeds, books; their signs. -/
namespace Py

abbrev Idd := Int × Nat
abbrev Sg := Idd × Int
abbrev An := Option Sg × Nat
inductive Deed where
  | add (i : Idd) (b : Option Sg) (t : List Nat)
  | drop (i : Idd) (ss : List Sg)
  | mark (i : Idd) (nm : List Nat) (a b : An)
  | unmark (i : Idd) (nm : List Nat)
  | undo (i o : Idd)
  deriving DecidableEq, Inhabited
def Deed.id : Deed → Idd
  | .add i _ _ => i
  | .drop i _ => i
  | .mark i _ _ _ => i
  | .unmark i _ => i
  | .undo i _ => i
def eId (p : Idd) : D := .tup [.int p.1, .str [p.2]]
def eSg (s : Sg) : D := .tup [eId s.1, .int s.2]
def eOS : Option Sg → D
  | none => .non
  | some s => eSg s
def eAn (a : An) : D := .tup [eOS a.1, .str [a.2]]
def eDeed : Deed → D
  | .add i b t => .tup [.str [97, 100, 100], eId i, eOS b, .str t]
  | .drop i ss => .tup [.str [100, 114, 111, 112], eId i, .tup (ss.map eSg)]
  | .mark i nm a b => .tup [.str [109, 97, 114, 107], eId i, .str nm, eAn a, eAn b]
  | .unmark i nm => .tup [.str [117, 110, 109, 97, 114, 107], eId i, .str nm]
  | .undo i o => .tup [.str [117, 110, 100, 111], eId i, eId o]
def eBook (b : List Deed) : D := .tup (b.map eDeed)
def Deed.txt : Deed → List Nat
  | .add _ _ t => t
  | _ => []
def signs1 (d : Deed) : List Sg := match d with
  | .add i _ t => (List.range t.length).map fun k : Nat => (i, (k : Int))
  | _ => []
def signsF (b : List Deed) : List Sg := b.flatMap signs1
/-- no text is long -/
def Short (b : List Deed) : Prop := ∀ d ∈ b, d.txt.length ≤ 4
theorem signs1_len (d : Deed) : (signs1 d).length = d.txt.length := by
  cases d <;> simp [signs1, Deed.txt]
theorem signsF_len {b : List Deed} (h : Short b) : (signsF b).length ≤ 4 * b.length := by
  induction b with
  | nil => simp [signsF]
  | cons d r ih =>
    have h1 := h d List.mem_cons_self
    have h2 := ih fun e he => h e (List.mem_cons_of_mem _ he)
    have := signs1_len d
    unfold signsF at h2 ⊢
    rw [List.flatMap_cons, List.length_append, List.length_cons]
    omega
theorem tag_at (d : Deed) : ∃ s, dIdx (eDeed d) (.int 0) = .val (.str s) ∧ dCmp .eq (.str s) (.str [97, 100, 100]) = .val (match d with
    | .add _ _ _ => true
    | _ => false) := by
  cases d <;> exact ⟨_, rfl, rfl⟩
theorem id_at (d : Deed) : dIdx (eDeed d) (.int 1) = .val (eId d.id) := by cases d <;> rfl
theorem t_at (i : Idd) : dIdx (eId i) (.int 0) = .val (.int i.1) := rfl
theorem h_at (i : Idd) : dIdx (eId i) (.int 1) = .val (.str [i.2]) := rfl
abbrev nSigns : Nm := [95, 108, 97, 119, 95, 115, 105, 103, 110, 115]
abbrev nAnchor : Nm := [95, 108, 97, 119, 95, 97, 110, 99, 104, 111, 114]
def lb_signs : Ss := match b_law_signs.body with
  | .cons _ (.cons (.forS _ _ _ b) _) => b
  | _ => .nil
theorem b_signs_eq : b_law_signs = ⟨1, 4, .cons (.set 1 (.lst .nil) false []) (.cons (.forS (.one 2) (.e (.vv 0)) [] lb_signs) (.cons (.ret (.vv 1) []) .nil))⟩ := rfl
def eb_signs : E := match lb_signs with
  | .cons (.ifS _ (.cons (.set _ (.add _ (.comp e _ _ _)) _ _) _) _) _ => e
  | _ => .dnil
theorem lb_signs_eq : lb_signs = .cons (.ifS (.cmp .eq (.idx (.v 2) (.c (.int 0))) (.c (.str [97, 100, 100]))) (.cons (.set 1 (.add (.v 1) (.comp eb_signs (.one 3) [3] (.range1 (.bi1 .len (.idx (.v 2) (.c (.int 3))))))) false []) .nil) .nil) .nil := rfl
section
variable {T : Tab} {n : Nat} {sc : List Int}
theorem sg_add (F : Nm → List D → Out D) (x0 u : Ent) (da da' d0 : D) (t : List Nat) (new : List D) (h0 : dIdx d0 (.int 0) = .val (.str [97, 100, 100])) (h3 : dIdx d0 (.int 3) = .val (.str t)) (hlen : bi1 .len (.str t) = .val (.int t.length)) (hr : range2 (.int 0) (.int t.length) = .val ((List.range t.length).map fun k : Nat => D.int (k : Int)))
    (hm : mapIfD (stepOf [3] (.one 3) (fun _ => .val true) (fun δ' => ev F eb_signs δ') [x0, .sh da, .sh d0, .un]) ((List.range t.length).map fun k : Nat => D.int (k : Int)) = .val new) (hc : dAdd da (.lst new) = .val da') :
    (bindT [x0, .sh da, u, .un] (.one 2) d0 >>= fun δ' => exs F lb_signs δ') = .val (.nx, [x0, .sh da', .sh d0, .un]) := by
  have hq : dCmp .eq (.str [97, 100, 100]) (.str [97, 100, 100]) = .val true := rfl
  rw [lb_signs_eq]
  simp -implicitDefEqProofs only [exs, ex, ev, evs, evIt, get_0, get_1, get_2, get_3, get_4, get_5, get_6, get_7, get_8, get_9, get_10, get_11, get_12, get_13, setE_0, setE_1, setE_2, setE_3, setE_4, setE_5, setE_6, setE_7, setE_8, setE_9, setE_10, setE_11, setE_12, setE_13, d_sh, d_ow, v_sh, f_sh, f_ow, o_sh, o_ow, frz_nil, frz_cons, nxt_nx, nxt_rt, startE_nil, startE_cons, uns_0, uns_1, uns_2, uns_3, uns_4, uns_5, uns_6, uns_7, uns_8, uns_9, uns_10, uns_11, uns_12, fin_rt, fin_nx, bor_nil, bor_v, bor_dnil, bor_c, bor_vv, bor_fn, bor_add, bor_sub, bor_mul, bor_dv, bor_md, bor_neg, bor_not, bor_and, bor_or, bor_ite, bor_cmp, bor_tup, bor_lst, bor_idx, bor_sl, bor_call, bor_bi1, bor_bi2, bor_me1, bor_me2, bor_comp, bor_compIf, ent_f, Out.bind_val, Out.pure_val, Out.bind_bad, asB_bl, owned_ow, lstOf_lst, immIf_false, noExc_val, orBad_some, chk_true, Nat.reduceSub, Nat.reduceAdd, Bool.or_false, Bool.false_or, Bool.or_true, if_true, Bool.false_eq_true, if_false, bind_one, h0, h3, hq, hlen, hr, hm, hc]
theorem sg_no (F : Nm → List D → Out D) (x0 u : Ent) (da d0 : D) (s : List Nat) (h0 : dIdx d0 (.int 0) = .val (.str s)) (hq : dCmp .eq (.str s) (.str [97, 100, 100]) = .val false) :
    (bindT [x0, .sh da, u, .un] (.one 2) d0 >>= fun δ' => exs F lb_signs δ') = .val (.nx, [x0, .sh da, .sh d0, .un]) := by
  rw [lb_signs_eq]
  simp only [exs, ex, ev, evs, evIt, get_0, get_1, get_2, get_3, get_4, get_5, get_6, get_7, get_8, get_9, get_10, get_11, get_12, get_13, setE_0, setE_1, setE_2, setE_3, setE_4, setE_5, setE_6, setE_7, setE_8, setE_9, setE_10, setE_11, setE_12, setE_13, d_sh, d_ow, v_sh, f_sh, f_ow, o_sh, o_ow, frz_nil, frz_cons, nxt_nx, nxt_rt, startE_nil, startE_cons, uns_0, uns_1, uns_2, uns_3, uns_4, uns_5, uns_6, uns_7, uns_8, uns_9, uns_10, uns_11, uns_12, fin_rt, fin_nx, bor_nil, bor_v, bor_dnil, bor_c, bor_vv, bor_fn, bor_add, bor_sub, bor_mul, bor_dv, bor_md, bor_neg, bor_not, bor_and, bor_or, bor_ite, bor_cmp, bor_tup, bor_lst, bor_idx, bor_sl, bor_call, bor_bi1, bor_bi2, bor_me1, bor_me2, bor_comp, bor_compIf, ent_f, Out.bind_val, Out.pure_val, Out.bind_bad, asB_bl, owned_ow, lstOf_lst, immIf_false, noExc_val, orBad_some, chk_true, Nat.reduceSub, Nat.reduceAdd, Bool.or_false, Bool.false_or, Bool.or_true, if_true, Bool.false_eq_true, if_false, bind_one, h0, hq]
theorem signs_ev (h : T nSigns = some b_law_signs) {b : List Deed} (hb : Short b) (hl : b.length ≤ 1000) : evF T (n + 1) nSigns [eBook b] = .val (.lst ((signsF b).map eSg)) := by
  rw [evF_run h rfl]
  have step1 : ∀ (d : Deed) (r : List Deed) (p : List Sg × Ent), (p.1.length + 4 * (d :: r).length ≤ 9000 ∧ Short (d :: r)) → (bindT [.sh (eBook b), .sh (.lst (p.1.map eSg)), p.2, .un] (.one 2) (eDeed d) >>= fun δ' => exs (evF T n) lb_signs δ') =
      .val (.nx, [.sh (eBook b), .sh (.lst ((p.1 ++ signs1 d).map eSg)), .sh (eDeed d), .un]) := fun d r p hp => by
    have hdl := hp.2 d List.mem_cons_self
    cases d with
    | add i bb t =>
      have hlen : bi1 .len (.str t) = .val (.int t.length) := rfl
      have hr := range_nat t.length (by have : t.length ≤ 4 := hdl; omega)
      have hm : mapIfD (stepOf [3] (.one 3) (fun _ => .val true) (fun δ' => ev (evF T n) eb_signs δ') [.sh (eBook b), .sh (.lst (p.1.map eSg)), .sh (eDeed (.add i bb t)), .un]) ((List.range t.length).map fun k : Nat => D.int (k : Int)) = .val ((List.range t.length).map fun k : Nat => eSg (i, (k : Int))) := by
        refine mapAll_map fun k _ => ?_
        simp only [eb_signs, lb_signs, b_law_signs, stepOf, wipe_nil, wipe_cons, bind_one, exs, ex, ev, evs, evIt, get_0, get_1, get_2, get_3, get_4, get_5, get_6, get_7, get_8, get_9, get_10, get_11, get_12, get_13, setE_0, setE_1, setE_2, setE_3, setE_4, setE_5, setE_6, setE_7, setE_8, setE_9, setE_10, setE_11, setE_12, setE_13, d_sh, d_ow, v_sh, f_sh, f_ow, o_sh, o_ow, frz_nil, frz_cons, nxt_nx, nxt_rt, startE_nil, startE_cons, uns_0, uns_1, uns_2, uns_3, uns_4, uns_5, uns_6, uns_7, uns_8, uns_9, uns_10, uns_11, uns_12, fin_rt, fin_nx, bor_nil, bor_v, bor_dnil, bor_c, bor_vv, bor_fn, bor_add, bor_sub, bor_mul, bor_dv, bor_md, bor_neg, bor_not, bor_and, bor_or, bor_ite, bor_cmp, bor_tup, bor_lst, bor_idx, bor_sl, bor_call, bor_bi1, bor_bi2, bor_me1, bor_me2, bor_comp, bor_compIf, ent_f, Out.bind_val, Out.pure_val, Out.bind_bad, asB_bl, owned_ow, lstOf_lst, immIf_false, noExc_val, orBad_some, chk_true, Nat.reduceSub, Nat.reduceAdd, Bool.or_false, Bool.false_or, Bool.or_true, if_true, Bool.false_eq_true, if_false, id_at]
        rfl
      have hc : dAdd (.lst (p.1.map eSg)) (.lst ((List.range t.length).map fun k : Nat => eSg (i, (k : Int)))) = .val (.lst (p.1.map eSg ++ (List.range t.length).map fun k : Nat => eSg (i, (k : Int)))) := cat_lstZ (by
        have h4 : t.length ≤ 4 := hdl
        have := hp.1
        simp only [List.length_map, List.length_range, List.length_cons] at this ⊢
        omega)
      have := sg_add (evF T n) (.sh (eBook b)) p.2 (.lst (p.1.map eSg)) _ (eDeed (.add i bb t)) t _ rfl rfl hlen hr hm hc
      rw [this, signs1, List.map_append, List.map_map]
      rfl
    | drop i ss =>
      obtain ⟨s, h0, hq⟩ := tag_at (.drop i ss)
      have e0 : signs1 (.drop i ss) = [] := rfl
      rw [e0, List.append_nil]
      exact sg_no _ _ _ _ _ s h0 hq
    | mark i nm a b =>
      obtain ⟨s, h0, hq⟩ := tag_at (.mark i nm a b)
      have e0 : signs1 (.mark i nm a b) = [] := rfl
      rw [e0, List.append_nil]
      exact sg_no _ _ _ _ _ s h0 hq
    | unmark i nm =>
      obtain ⟨s, h0, hq⟩ := tag_at (.unmark i nm)
      have e0 : signs1 (.unmark i nm) = [] := rfl
      rw [e0, List.append_nil]
      exact sg_no _ _ _ _ _ s h0 hq
    | undo i o =>
      obtain ⟨s, h0, hq⟩ := tag_at (.undo i o)
      have e0 : signs1 (.undo i o) = [] := rfl
      rw [e0, List.append_nil]
      exact sg_no _ _ _ _ _ s h0 hq
  have loop := forD_foldR (enc := eDeed) (st := fun p : List Sg × Ent => [.sh (eBook b), .sh (.lst (p.1.map eSg)), p.2, .un]) (P := fun r p => p.1.length + 4 * r.length ≤ 9000 ∧ Short r) (step := fun p d => (p.1 ++ signs1 d, .sh (eDeed d))) (f := fun x δ => do
    let δ' ← bindT δ (.one 2) x
    exs (evF T n) lb_signs δ') (xs := b) (b := ([], .un)) ⟨by simp; omega, hb⟩ (fun d r p hp => ⟨step1 d r p hp, by
      have h4 := hp.2 d List.mem_cons_self
      have := signs1_len d
      have h9 := hp.1
      refine ⟨?_, fun e he => hp.2 e (List.mem_cons_of_mem _ he)⟩
      simp only [List.length_append, List.length_cons] at h9 ⊢
      omega⟩)
  have hfold : ∀ (l : List Deed) (p : List Sg × Ent), (l.foldl (fun (p : List Sg × Ent) d => (p.1 ++ signs1 d, Ent.sh (eDeed d))) p).1 = p.1 ++ signsF l := fun l => by
    induction l with
    | nil => intro p; simp [signsF]
    | cons d r ih => intro p; rw [List.foldl_cons, ih]; simp [signsF, List.append_assoc]
  have hi : items (eBook b) = .val (b.map eDeed) := rfl
  have l1 := loop.1
  simp only [List.map_nil] at l1
  simp only [b_signs_eq, exs, ex, ev, evs, evIt, get_0, get_1, get_2, get_3, get_4, get_5, get_6, get_7, get_8, get_9, get_10, get_11, get_12, get_13, setE_0, setE_1, setE_2, setE_3, setE_4, setE_5, setE_6, setE_7, setE_8, setE_9, setE_10, setE_11, setE_12, setE_13, d_sh, d_ow, v_sh, f_sh, f_ow, o_sh, o_ow, frz_nil, frz_cons, nxt_nx, nxt_rt, startE_nil, startE_cons, uns_0, uns_1, uns_2, uns_3, uns_4, uns_5, uns_6, uns_7, uns_8, uns_9, uns_10, uns_11, uns_12, fin_rt, fin_nx, bor_nil, bor_v, bor_dnil, bor_c, bor_vv, bor_fn, bor_add, bor_sub, bor_mul, bor_dv, bor_md, bor_neg, bor_not, bor_and, bor_or, bor_ite, bor_cmp, bor_tup, bor_lst, bor_idx, bor_sl, bor_call, bor_bi1, bor_bi2, bor_me1, bor_me2, bor_comp, bor_compIf, ent_f, Out.bind_val, Out.pure_val, Out.bind_bad, asB_bl, owned_ow, lstOf_lst, immIf_false, noExc_val, orBad_some, chk_true, Nat.reduceSub, Nat.reduceAdd, Bool.or_false, Bool.false_or, Bool.or_true, if_true, Bool.false_eq_true, if_false, hi, l1, hfold, List.nil_append]
end
end Py
end
section
set_option autoImplicit false
set_option linter.all false
set_option maxRecDepth 100000
set_option maxHeartbeats 4000000
/-! PzF: anchors and deeds that a law draws. -/
namespace Py
def sgO (ss : List Sg) : List (Option Sg) := none :: ss.map some
theorem sgO_map (ss : List Sg) : (sgO ss).map eOS = .non :: ss.map eSg := by
  simp [sgO, eOS, List.map_map, Function.comp_def]
/-- the anchor is at one of these signs, or at none -/
def AnV (ss : List Sg) (a : An) : Prop := (∀ s, a.1 = some s → s ∈ ss) ∧ (a.2 = 108 ∨ a.2 = 114)
section
variable {T : Tab} {n : Nat} {sc : List Int}
theorem cat_non (ss : List Sg) (h : ss.length ≤ 9000) : dAdd (.lst [.non]) (.lst (ss.map eSg)) = .val (.lst ((sgO ss).map eOS)) := by
  rw [cat_lstZ (by simp; omega), sgO_map]
  rfl
theorem anchor_run (F : Nm → List D → Out D) (x0 x1 : D) (dl dc : D) (len j j2 : Int) (s : D) (c : Nat) (h1 : dAdd (.lst [.non]) dl = .val dc) (h2 : bi1 .len dl = .val (.int len)) (p : Int) (hp : x1 = .int p) (hF : F nDrawn [x0, .int p, .int (len + 1)] = .val (.int j)) (hF2 : F nDrawn [x0, .int (p + 1), .int 2] = .val (.int j2))
    (h3 : dIdx dc (.int j) = .val s) (h4 : dIdx (.str [108, 114]) (.int j2) = .val (.str [c])) :
    fin (exs F b_law_anchor.body [.sh x0, .sh x1, .sh dl, .un]) = .val (.tup [s, .str [c]]) := by
  subst hp
  rw [show b_law_anchor.body = _ from rfl]
  simp -implicitDefEqProofs only [b_law_anchor, exs, ex, ev, evs, evIt, get_0, get_1, get_2, get_3, get_4, get_5, get_6, get_7, get_8, get_9, get_10, get_11, get_12, get_13, setE_0, setE_1, setE_2, setE_3, setE_4, setE_5, setE_6, setE_7, setE_8, setE_9, setE_10, setE_11, setE_12, setE_13, d_sh, d_ow, v_sh, f_sh, f_ow, o_sh, o_ow, frz_nil, frz_cons, nxt_nx, nxt_rt, startE_nil, startE_cons, uns_0, uns_1, uns_2, uns_3, uns_4, uns_5, uns_6, uns_7, uns_8, uns_9, uns_10, uns_11, uns_12, fin_rt, fin_nx, bor_nil, bor_v, bor_dnil, bor_c, bor_vv, bor_fn, bor_add, bor_sub, bor_mul, bor_dv, bor_md, bor_neg, bor_not, bor_and, bor_or, bor_ite, bor_cmp, bor_tup, bor_lst, bor_idx, bor_sl, bor_call, bor_bi1, bor_bi2, bor_me1, bor_me2, bor_comp, bor_compIf, ent_f, Out.bind_val, Out.pure_val, Out.bind_bad, asB_bl, owned_ow, lstOf_lst, immIf_false, noExc_val, orBad_some, chk_true, Nat.reduceSub, Nat.reduceAdd, Bool.or_false, Bool.false_or, Bool.or_true, if_true, Bool.false_eq_true, if_false, h1, h2, hF, hF2, h3, h4, dAdd_int]
theorem anchor_ev (hd : Dr T) (h : T nAnchor = some b_law_anchor) (hs : sc.length ≤ 63) (p : Int) {ss : List Sg} (hl : ss.length ≤ 9000) : ∃ a : An, evF T (n + 3) nAnchor [scD sc, .int p, .lst (ss.map eSg)] = .val (eAn a) ∧ AnV ss a := by
  rw [evF_run h rfl]
  have d1 := drawn_ev (T := T) (n := n) hd.cell hd.drawn hs
  have p1 := drawn_pos (sc := sc) p (ss.length + 1) (by omega)
  have p2 := drawn_pos (sc := sc) (p + 1) 2 (by decide)
  have hj : (drawnF sc p (ss.length + 1)).toNat < (sgO ss).length := by simp [sgO]; omega
  have hlen : bi1 .len (.lst (ss.map eSg)) = .val (.int ss.length) := by
    show Out.val (D.int ((ss.map eSg).length)) = _
    rw [List.length_map]
  have h3 : dIdx (.lst ((sgO ss).map eOS)) (.int (drawnF sc p (ss.length + 1))) = .val (eOS (sgO ss)[(drawnF sc p (ss.length + 1)).toNat]) := lst_at p1.1 (by rw [List.getElem?_map, List.getElem?_eq_getElem hj]; rfl)
  have h4 : ∃ c, dIdx (.str [108, 114]) (.int (drawnF sc (p + 1) 2)) = .val (.str [c]) ∧ (c = 108 ∨ c = 114) := by
    have : drawnF sc (p + 1) 2 = 0 ∨ drawnF sc (p + 1) 2 = 1 := by omega
    rcases this with e | e
    · exact ⟨108, by rw [e]; rfl, .inl rfl⟩
    · exact ⟨114, by rw [e]; rfl, .inr rfl⟩
  obtain ⟨c, h4, hc⟩ := h4
  refine ⟨((sgO ss)[(drawnF sc p (ss.length + 1)).toNat], c), anchor_run _ _ _ _ _ _ _ _ _ _ (cat_non ss hl) hlen p rfl (d1 p _ (by omega)) (d1 (p + 1) 2 (by decide)) h3 h4, ?_, hc⟩
  intro s hsm
  have hm : (sgO ss)[(drawnF sc p (ss.length + 1)).toNat] ∈ sgO ss := List.getElem_mem hj
  have hsm' : (sgO ss)[(drawnF sc p (ss.length + 1)).toNat] = some s := hsm
  rw [hsm'] at hm
  simpa [sgO] using hm

/-! ### a deed -/
theorem enum_some {g : D → Out (Option D)} : ∀ (ss : List Sg) (k : Int), (∀ (i : Int) (s : Sg), s ∈ ss → ∃ b : Bool, g (.tup [.int i, eSg s]) = .val (if b = true then some (eSg s) else none)) → ∃ zs : List Sg, zs.Sublist ss ∧ mapIfD g (enumFrom k (ss.map eSg)) = .val (zs.map eSg)
  | [], k, _ => ⟨[], .slnil, rfl⟩
  | s :: r, k, h => by
    obtain ⟨zs, h1, h2⟩ := enum_some r (k + 1) fun i s hs => h i s (List.mem_cons_of_mem _ hs)
    obtain ⟨b, hb⟩ := h k s List.mem_cons_self
    cases b with
    | true =>
      refine ⟨s :: zs, h1.cons_cons s, ?_⟩
      rw [List.map_cons, enumFrom, mapIfD, hb, Out.bind_val, if_pos rfl, h2]
      rfl
    | false =>
      refine ⟨zs, h1.cons s, ?_⟩
      rw [List.map_cons, enumFrom, mapIfD, hb, Out.bind_val, if_neg (by decide), h2]
def ec_deed : E := match b_law_deed.body with
  | .cons _ (.cons _ (.cons (.ifS _ (.cons (.set _ (.compIf _ _ _ _ c) _ _) _) _) _)) => c
  | _ => .dnil
def lb_deed1 : Ss := match b_law_deed.body with
  | .cons _ (.cons _ (.cons (.ifS _ a _) _)) => a
  | _ => .nil
def lb_deed2 : Ss := match b_law_deed.body with
  | .cons _ (.cons _ (.cons _ (.cons (.ifS _ a _) _))) => a
  | _ => .nil
def lb_deed3 : Ss := match b_law_deed.body with
  | .cons _ (.cons _ (.cons _ (.cons _ (.cons (.ifS _ a _) _)))) => a
  | _ => .nil
def lb_deed4 : Ss := match b_law_deed.body with
  | .cons _ (.cons _ (.cons _ (.cons _ (.cons _ (.cons (.ifS _ a _) _))))) => a
  | _ => .nil
def lb_deed5 : Ss := match b_law_deed.body with
  | .cons _ (.cons _ (.cons _ (.cons _ (.cons _ (.cons _ r))))) => r
  | _ => .nil
theorem b_deed_eq : b_law_deed.body = .cons (.set 5 (.call nSigns (.cons (.v 3) .nil)) false []) (.cons (.set 6 (.call nDrawn (.cons (.v 0) (.cons (.v 1) (.cons (.c (.int 12)) .nil)))) false [])
    (.cons (.ifS (.and (.cmp .lt (.v 6) (.c (.int 2))) (.cmp .ne (.v 5) (.lst .nil))) lb_deed1 .nil) (.cons (.ifS (.cmp .lt (.v 6) (.c (.int 5))) lb_deed2 .nil) (.cons (.ifS (.cmp .eq (.v 6) (.c (.int 5))) lb_deed3 .nil)
      (.cons (.ifS (.and (.cmp .lt (.v 6) (.c (.int 8))) (.cmp .ne (.v 3) (.tup .nil))) lb_deed4 .nil) lb_deed5))))) := rfl
theorem lt_int (i j : Int) : dCmp .lt (.int i) (.int j) = .val (decide (i < j)) := rfl
theorem eq_int (i j : Int) : dCmp .eq (.int i) (.int j) = .val (i == j) := rfl
/-- which of the ways is gone -/
theorem deed_way (F : Nm → List D → Out D) (d0 d1 d2 d3 d4 dsg : D) (way : Int) (ne nk : Bool) (r : D) (h1 : F nSigns [d3] = .val dsg) (h2 : F nDrawn [d0, d1, .int 12] = .val (.int way)) (h3 : dCmp .ne dsg (.lst []) = .val ne) (h4 : dCmp .ne d3 (.tup []) = .val nk)
    (hr : ∀ δ', δ' = [.sh d0, .sh d1, .sh d2, .sh d3, .sh d4, .sh dsg, .sh (.int way), .un, .un, .un, .un, .un] →
      (if way < 2 ∧ ne = true then ∃ δ2, exs F lb_deed1 δ' = .val (.rt r, δ2) else if way < 5 then ∃ δ2, exs F lb_deed2 δ' = .val (.rt r, δ2) else if way = 5 then ∃ δ2, exs F lb_deed3 δ' = .val (.rt r, δ2)
        else if way < 8 ∧ nk = true then ∃ δ2, exs F lb_deed4 δ' = .val (.rt r, δ2) else ∃ δ2, exs F lb_deed5 δ' = .val (.rt r, δ2))) :
    fin (exs F b_law_deed.body [.sh d0, .sh d1, .sh d2, .sh d3, .sh d4, .un, .un, .un, .un, .un, .un, .un]) = .val r := by
  have hr := hr _ rfl
  rw [b_deed_eq]
  by_cases c1 : way < 2 ∧ ne = true
  · rw [if_pos c1] at hr
    obtain ⟨δ2, hr⟩ := hr
    simp -implicitDefEqProofs only [exs, ex, ev, evs, evIt, get_0, get_1, get_2, get_3, get_4, get_5, get_6, get_7, get_8, get_9, get_10, get_11, get_12, get_13, setE_0, setE_1, setE_2, setE_3, setE_4, setE_5, setE_6, setE_7, setE_8, setE_9, setE_10, setE_11, setE_12, setE_13, d_sh, d_ow, v_sh, f_sh, f_ow, o_sh, o_ow, frz_nil, frz_cons, nxt_nx, nxt_rt, startE_nil, startE_cons, uns_0, uns_1, uns_2, uns_3, uns_4, uns_5, uns_6, uns_7, uns_8, uns_9, uns_10, uns_11, uns_12, fin_rt, fin_nx, bor_nil, bor_v, bor_dnil, bor_c, bor_vv, bor_fn, bor_add, bor_sub, bor_mul, bor_dv, bor_md, bor_neg, bor_not, bor_and, bor_or, bor_ite, bor_cmp, bor_tup, bor_lst, bor_idx, bor_sl, bor_call, bor_bi1, bor_bi2, bor_me1, bor_me2, bor_comp, bor_compIf, ent_f, Out.bind_val, Out.pure_val, Out.bind_bad, asB_bl, owned_ow, lstOf_lst, immIf_false, noExc_val, orBad_some, chk_true, Nat.reduceSub, Nat.reduceAdd, Bool.or_false, Bool.false_or, Bool.or_true, if_true, Bool.false_eq_true, if_false, h1, h2, h3, lt_int, c1.1, c1.2, decide_true, hr]
  · rw [if_neg c1] at hr
    have e1 : (if (decide (way < 2)) = true then (Out.val (D.bl ne)) else Out.val (D.bl false)) = .val (.bl false) := by
      by_cases hw : way < 2
      · have : ne = false := by cases ne <;> simp_all
        simp [hw, this]
      · simp [hw]
    by_cases c2 : way < 5
    · rw [if_pos c2] at hr
      obtain ⟨δ2, hr⟩ := hr
      simp -implicitDefEqProofs only [exs, ex, ev, evs, evIt, get_0, get_1, get_2, get_3, get_4, get_5, get_6, get_7, get_8, get_9, get_10, get_11, get_12, get_13, setE_0, setE_1, setE_2, setE_3, setE_4, setE_5, setE_6, setE_7, setE_8, setE_9, setE_10, setE_11, setE_12, setE_13, d_sh, d_ow, v_sh, f_sh, f_ow, o_sh, o_ow, frz_nil, frz_cons, nxt_nx, nxt_rt, startE_nil, startE_cons, uns_0, uns_1, uns_2, uns_3, uns_4, uns_5, uns_6, uns_7, uns_8, uns_9, uns_10, uns_11, uns_12, fin_rt, fin_nx, bor_nil, bor_v, bor_dnil, bor_c, bor_vv, bor_fn, bor_add, bor_sub, bor_mul, bor_dv, bor_md, bor_neg, bor_not, bor_and, bor_or, bor_ite, bor_cmp, bor_tup, bor_lst, bor_idx, bor_sl, bor_call, bor_bi1, bor_bi2, bor_me1, bor_me2, bor_comp, bor_compIf, ent_f, Out.bind_val, Out.pure_val, Out.bind_bad, asB_bl, owned_ow, lstOf_lst, immIf_false, noExc_val, orBad_some, chk_true, Nat.reduceSub, Nat.reduceAdd, Bool.or_false, Bool.false_or, Bool.or_true, if_true, Bool.false_eq_true, if_false, h1, h2, h3, lt_int, e1, c2, decide_true, hr]
    · rw [if_neg c2] at hr
      by_cases c3 : way = 5
      · rw [if_pos c3] at hr
        obtain ⟨δ2, hr⟩ := hr
        subst c3
        simp -implicitDefEqProofs only [exs, ex, ev, evs, evIt, get_0, get_1, get_2, get_3, get_4, get_5, get_6, get_7, get_8, get_9, get_10, get_11, get_12, get_13, setE_0, setE_1, setE_2, setE_3, setE_4, setE_5, setE_6, setE_7, setE_8, setE_9, setE_10, setE_11, setE_12, setE_13, d_sh, d_ow, v_sh, f_sh, f_ow, o_sh, o_ow, frz_nil, frz_cons, nxt_nx, nxt_rt, startE_nil, startE_cons, uns_0, uns_1, uns_2, uns_3, uns_4, uns_5, uns_6, uns_7, uns_8, uns_9, uns_10, uns_11, uns_12, fin_rt, fin_nx, bor_nil, bor_v, bor_dnil, bor_c, bor_vv, bor_fn, bor_add, bor_sub, bor_mul, bor_dv, bor_md, bor_neg, bor_not, bor_and, bor_or, bor_ite, bor_cmp, bor_tup, bor_lst, bor_idx, bor_sl, bor_call, bor_bi1, bor_bi2, bor_me1, bor_me2, bor_comp, bor_compIf, ent_f, Out.bind_val, Out.pure_val, Out.bind_bad, asB_bl, owned_ow, lstOf_lst, immIf_false, noExc_val, orBad_some, chk_true, Nat.reduceSub, Nat.reduceAdd, Bool.or_false, Bool.false_or, Bool.or_true, if_true, Bool.false_eq_true, if_false, h1, h2, h3, lt_int, eq_int, e1, decide_false, beq_self_eq_true, hr, show ¬ ((5 : Int) < 5) by decide]
      · rw [if_neg c3] at hr
        have e3 : (way == 5) = false := by simpa using c3
        by_cases c4 : way < 8 ∧ nk = true
        · rw [if_pos c4] at hr
          obtain ⟨δ2, hr⟩ := hr
          simp -implicitDefEqProofs only [exs, ex, ev, evs, evIt, get_0, get_1, get_2, get_3, get_4, get_5, get_6, get_7, get_8, get_9, get_10, get_11, get_12, get_13, setE_0, setE_1, setE_2, setE_3, setE_4, setE_5, setE_6, setE_7, setE_8, setE_9, setE_10, setE_11, setE_12, setE_13, d_sh, d_ow, v_sh, f_sh, f_ow, o_sh, o_ow, frz_nil, frz_cons, nxt_nx, nxt_rt, startE_nil, startE_cons, uns_0, uns_1, uns_2, uns_3, uns_4, uns_5, uns_6, uns_7, uns_8, uns_9, uns_10, uns_11, uns_12, fin_rt, fin_nx, bor_nil, bor_v, bor_dnil, bor_c, bor_vv, bor_fn, bor_add, bor_sub, bor_mul, bor_dv, bor_md, bor_neg, bor_not, bor_and, bor_or, bor_ite, bor_cmp, bor_tup, bor_lst, bor_idx, bor_sl, bor_call, bor_bi1, bor_bi2, bor_me1, bor_me2, bor_comp, bor_compIf, ent_f, Out.bind_val, Out.pure_val, Out.bind_bad, asB_bl, owned_ow, lstOf_lst, immIf_false, noExc_val, orBad_some, chk_true, Nat.reduceSub, Nat.reduceAdd, Bool.or_false, Bool.false_or, Bool.or_true, if_true, Bool.false_eq_true, if_false, h1, h2, h3, h4, lt_int, eq_int, e1, e3, c2, decide_false, decide_true, c4.1, c4.2, hr]
        · rw [if_neg c4] at hr
          obtain ⟨δ2, hr⟩ := hr
          have e4 : (if (decide (way < 8)) = true then (Out.val (D.bl nk)) else Out.val (D.bl false)) = .val (.bl false) := by
            by_cases hw : way < 8
            · have : nk = false := by cases nk <;> simp_all
              simp [hw, this]
            · simp [hw]
          simp -implicitDefEqProofs only [exs, ex, ev, evs, evIt, get_0, get_1, get_2, get_3, get_4, get_5, get_6, get_7, get_8, get_9, get_10, get_11, get_12, get_13, setE_0, setE_1, setE_2, setE_3, setE_4, setE_5, setE_6, setE_7, setE_8, setE_9, setE_10, setE_11, setE_12, setE_13, d_sh, d_ow, v_sh, f_sh, f_ow, o_sh, o_ow, frz_nil, frz_cons, nxt_nx, nxt_rt, startE_nil, startE_cons, uns_0, uns_1, uns_2, uns_3, uns_4, uns_5, uns_6, uns_7, uns_8, uns_9, uns_10, uns_11, uns_12, fin_rt, fin_nx, bor_nil, bor_v, bor_dnil, bor_c, bor_vv, bor_fn, bor_add, bor_sub, bor_mul, bor_dv, bor_md, bor_neg, bor_not, bor_and, bor_or, bor_ite, bor_cmp, bor_tup, bor_lst, bor_idx, bor_sl, bor_call, bor_bi1, bor_bi2, bor_me1, bor_me2, bor_comp, bor_compIf, ent_f, Out.bind_val, Out.pure_val, Out.bind_bad, asB_bl, owned_ow, lstOf_lst, immIf_false, noExc_val, orBad_some, chk_true, Nat.reduceSub, Nat.reduceAdd, Bool.or_false, Bool.false_or, Bool.or_true, if_true, Bool.false_eq_true, if_false, h1, h2, h3, h4, lt_int, eq_int, e1, e3, e4, c2, decide_false, hr]
end
end Py
end
section
set_option autoImplicit false
set_option linter.all false
set_option maxRecDepth 100000
set_option maxHeartbeats 4000000
/-! PzG: a deed that a law draws. -/
namespace Py
theorem bnd_non : bound .non = .val none := rfl
theorem bnd_int (i : Int) : bound (.int i) = .val (some i) := rfl
theorem neg_int (i : Int) : dNeg (.int i) = .val (.int (-i)) := rfl
theorem tup_lst (xs : List D) : bi1 .tuple (.lst xs) = .val (.tup xs) := rfl
theorem int_bl (b : Bool) : bi1 .int (.bl b) = .val (.int (if b = true then 1 else 0)) := rfl
abbrev nWordsN : Nm := [95, 108, 97, 119, 95, 119, 111, 114, 100, 115]
section
variable (F : Nm → List D → Out D) (d0 d2 d3 d4 dsg : D) (p way : Int) (u7 u8 u9 u10 u11 : Ent)
theorem deed1_run (xs ys zs : List D) (em : Bool) (dh dm : D) (hq : itemsQ dsg = .val xs)
    (hm : mapIfD (stepOf [10, 11] (.many [10, 11]) (fun δ' => ev F ec_deed δ' >>= asB) (fun δ' => (get δ' 11).v) [.sh d0, .sh (.int p), .sh d2, .sh d3, .sh d4, .sh dsg, .sh (.int way), u7, u8, u9, u10, u11]) (enumFrom 0 xs) = .val ys)
    (he : dCmp .eq (.lst ys) (.lst []) = .val em) (hc : dCut dsg none (some 1) = .val dh) (hmul : dMul dh (.int (if em = true then 1 else 0)) = .val dm) (ha : dAdd (.lst ys) dm = .val (.lst zs)) :
    ∃ δ2, exs F lb_deed1 [.sh d0, .sh (.int p), .sh d2, .sh d3, .sh d4, .sh dsg, .sh (.int way), u7, u8, u9, u10, u11] = .val (.rt (.tup [.str [100, 114, 111, 112], d2, .tup zs]), δ2) := by
  rw [show lb_deed1 = .cons (.set 8 (.compIf (.vv 11) (.many [10, 11]) [10, 11] (.enum (.v 5)) ec_deed) false []) (.cons (.ret (.tup (.cons (.c (.str [100, 114, 111, 112])) (.cons (.vv 2) (.cons (.bi1 .tuple (.add (.v 8) (.mul (.sl (.v 5) (.c .non) (.c (.int 1))) (.bi1 .int (.cmp .eq (.v 8) (.lst .nil)))))) .nil)))) []) .nil) from rfl]
  simp -implicitDefEqProofs only [exs, ex, ev, evs, evIt, get_0, get_1, get_2, get_3, get_4, get_5, get_6, get_7, get_8, get_9, get_10, get_11, get_12, get_13, setE_0, setE_1, setE_2, setE_3, setE_4, setE_5, setE_6, setE_7, setE_8, setE_9, setE_10, setE_11, setE_12, setE_13, d_sh, d_ow, v_sh, f_sh, f_ow, o_sh, o_ow, frz_nil, frz_cons, nxt_nx, nxt_rt, startE_nil, startE_cons, uns_0, uns_1, uns_2, uns_3, uns_4, uns_5, uns_6, uns_7, uns_8, uns_9, uns_10, uns_11, uns_12, fin_rt, fin_nx, bor_nil, bor_v, bor_dnil, bor_c, bor_vv, bor_fn, bor_add, bor_sub, bor_mul, bor_dv, bor_md, bor_neg, bor_not, bor_and, bor_or, bor_ite, bor_cmp, bor_tup, bor_lst, bor_idx, bor_sl, bor_call, bor_bi1, bor_bi2, bor_me1, bor_me2, bor_comp, bor_compIf, ent_f, Out.bind_val, Out.pure_val, Out.bind_bad, asB_bl, owned_ow, lstOf_lst, immIf_false, noExc_val, orBad_some, chk_true, Nat.reduceSub, Nat.reduceAdd, Bool.or_false, Bool.false_or, Bool.or_true, if_true, Bool.false_eq_true, if_false, hq, hm, bnd_non, bnd_int, he, hc, int_bl, hmul, ha, tup_lst]
  exact ⟨_, rfl⟩
theorem deed2_run (a1 a2 nm r : D) (j : Int) (h1 : F nAnchor [d0, .int (p + 1), dsg] = .val a1) (h2 : F nAnchor [d0, .int (p + 3), dsg] = .val a2) (hj : F nDrawn [d0, .int (p + 5), .int 3] = .val (.int j)) (hn : dIdx d4 (.int j) = .val nm)
    (hr : dAdd (.tup [.str [109, 97, 114, 107], d2, nm]) (.tup [a1, a2]) = .val r) :
    ∃ δ2, exs F lb_deed2 [.sh d0, .sh (.int p), .sh d2, .sh d3, .sh d4, .sh dsg, .sh (.int way), u7, u8, u9, u10, u11] = .val (.rt r, δ2) := by
  unfold lb_deed2
  simp -implicitDefEqProofs only [b_law_deed, exs, ex, ev, evs, evIt, get_0, get_1, get_2, get_3, get_4, get_5, get_6, get_7, get_8, get_9, get_10, get_11, get_12, get_13, setE_0, setE_1, setE_2, setE_3, setE_4, setE_5, setE_6, setE_7, setE_8, setE_9, setE_10, setE_11, setE_12, setE_13, d_sh, d_ow, v_sh, f_sh, f_ow, o_sh, o_ow, frz_nil, frz_cons, nxt_nx, nxt_rt, startE_nil, startE_cons, uns_0, uns_1, uns_2, uns_3, uns_4, uns_5, uns_6, uns_7, uns_8, uns_9, uns_10, uns_11, uns_12, fin_rt, fin_nx, bor_nil, bor_v, bor_dnil, bor_c, bor_vv, bor_fn, bor_add, bor_sub, bor_mul, bor_dv, bor_md, bor_neg, bor_not, bor_and, bor_or, bor_ite, bor_cmp, bor_tup, bor_lst, bor_idx, bor_sl, bor_call, bor_bi1, bor_bi2, bor_me1, bor_me2, bor_comp, bor_compIf, ent_f, Out.bind_val, Out.pure_val, Out.bind_bad, asB_bl, owned_ow, lstOf_lst, immIf_false, noExc_val, orBad_some, chk_true, Nat.reduceSub, Nat.reduceAdd, Bool.or_false, Bool.false_or, Bool.or_true, if_true, Bool.false_eq_true, if_false, h1, h2, hj, hn, hr, dAdd_int]
  exact ⟨_, rfl⟩
theorem deed3_run (nm : D) (j : Int) (hj : F nDrawn [d0, .int (p + 5), .int 3] = .val (.int j)) (hn : dIdx d4 (.int j) = .val nm) :
    ∃ δ2, exs F lb_deed3 [.sh d0, .sh (.int p), .sh d2, .sh d3, .sh d4, .sh dsg, .sh (.int way), u7, u8, u9, u10, u11] = .val (.rt (.tup [.str [117, 110, 109, 97, 114, 107], d2, nm]), δ2) := by
  unfold lb_deed3
  simp -implicitDefEqProofs only [b_law_deed, exs, ex, ev, evs, evIt, get_0, get_1, get_2, get_3, get_4, get_5, get_6, get_7, get_8, get_9, get_10, get_11, get_12, get_13, setE_0, setE_1, setE_2, setE_3, setE_4, setE_5, setE_6, setE_7, setE_8, setE_9, setE_10, setE_11, setE_12, setE_13, d_sh, d_ow, v_sh, f_sh, f_ow, o_sh, o_ow, frz_nil, frz_cons, nxt_nx, nxt_rt, startE_nil, startE_cons, uns_0, uns_1, uns_2, uns_3, uns_4, uns_5, uns_6, uns_7, uns_8, uns_9, uns_10, uns_11, uns_12, fin_rt, fin_nx, bor_nil, bor_v, bor_dnil, bor_c, bor_vv, bor_fn, bor_add, bor_sub, bor_mul, bor_dv, bor_md, bor_neg, bor_not, bor_and, bor_or, bor_ite, bor_cmp, bor_tup, bor_lst, bor_idx, bor_sl, bor_call, bor_bi1, bor_bi2, bor_me1, bor_me2, bor_comp, bor_compIf, ent_f, Out.bind_val, Out.pure_val, Out.bind_bad, asB_bl, owned_ow, lstOf_lst, immIf_false, noExc_val, orBad_some, chk_true, Nat.reduceSub, Nat.reduceAdd, Bool.or_false, Bool.false_or, Bool.or_true, if_true, Bool.false_eq_true, if_false, hj, hn, dAdd_int]
  exact ⟨_, rfl⟩
theorem deed4_run (len j : Int) (dd o : D) (hl : bi1 .len d3 = .val (.int len)) (hj : F nDrawn [d0, .int (p + 6), .int len] = .val (.int j)) (hd : dIdx d3 (.int j) = .val dd) (ho : dIdx dd (.int 1) = .val o) :
    ∃ δ2, exs F lb_deed4 [.sh d0, .sh (.int p), .sh d2, .sh d3, .sh d4, .sh dsg, .sh (.int way), u7, u8, u9, u10, u11] = .val (.rt (.tup [.str [117, 110, 100, 111], d2, o]), δ2) := by
  unfold lb_deed4
  simp -implicitDefEqProofs only [b_law_deed, exs, ex, ev, evs, evIt, get_0, get_1, get_2, get_3, get_4, get_5, get_6, get_7, get_8, get_9, get_10, get_11, get_12, get_13, setE_0, setE_1, setE_2, setE_3, setE_4, setE_5, setE_6, setE_7, setE_8, setE_9, setE_10, setE_11, setE_12, setE_13, d_sh, d_ow, v_sh, f_sh, f_ow, o_sh, o_ow, frz_nil, frz_cons, nxt_nx, nxt_rt, startE_nil, startE_cons, uns_0, uns_1, uns_2, uns_3, uns_4, uns_5, uns_6, uns_7, uns_8, uns_9, uns_10, uns_11, uns_12, fin_rt, fin_nx, bor_nil, bor_v, bor_dnil, bor_c, bor_vv, bor_fn, bor_add, bor_sub, bor_mul, bor_dv, bor_md, bor_neg, bor_not, bor_and, bor_or, bor_ite, bor_cmp, bor_tup, bor_lst, bor_idx, bor_sl, bor_call, bor_bi1, bor_bi2, bor_me1, bor_me2, bor_comp, bor_compIf, ent_f, Out.bind_val, Out.pure_val, Out.bind_bad, asB_bl, owned_ow, lstOf_lst, immIf_false, noExc_val, orBad_some, chk_true, Nat.reduceSub, Nat.reduceAdd, Bool.or_false, Bool.false_or, Bool.or_true, if_true, Bool.false_eq_true, if_false, hl, hj, hd, ho, dAdd_int]
  exact ⟨_, rfl⟩
theorem deed5_run (l1 l2 j : Int) (dc dt df s w : D) (h1 : dAdd (.lst [.non]) dsg = .val dc) (h2 : dCut dsg (some (-3)) none = .val dt) (h3 : dAdd dc dt = .val df) (h4 : bi1 .len dsg = .val (.int l1)) (h5 : bi1 .len dt = .val (.int l2)) (hj : F nDrawn [d0, .int (p + 7), .int (l1 + 1 + l2)] = .val (.int j))
    (hs : dIdx df (.int j) = .val s) (hw : F nWords [d0, .int (p + 8)] = .val w) :
    ∃ δ2, exs F lb_deed5 [.sh d0, .sh (.int p), .sh d2, .sh d3, .sh d4, .sh dsg, .sh (.int way), u7, u8, u9, u10, u11] = .val (.rt (.tup [.str [97, 100, 100], d2, s, w]), δ2) := by
  unfold lb_deed5
  simp -implicitDefEqProofs only [b_law_deed, exs, ex, ev, evs, evIt, get_0, get_1, get_2, get_3, get_4, get_5, get_6, get_7, get_8, get_9, get_10, get_11, get_12, get_13, setE_0, setE_1, setE_2, setE_3, setE_4, setE_5, setE_6, setE_7, setE_8, setE_9, setE_10, setE_11, setE_12, setE_13, d_sh, d_ow, v_sh, f_sh, f_ow, o_sh, o_ow, frz_nil, frz_cons, nxt_nx, nxt_rt, startE_nil, startE_cons, uns_0, uns_1, uns_2, uns_3, uns_4, uns_5, uns_6, uns_7, uns_8, uns_9, uns_10, uns_11, uns_12, fin_rt, fin_nx, bor_nil, bor_v, bor_dnil, bor_c, bor_vv, bor_fn, bor_add, bor_sub, bor_mul, bor_dv, bor_md, bor_neg, bor_not, bor_and, bor_or, bor_ite, bor_cmp, bor_tup, bor_lst, bor_idx, bor_sl, bor_call, bor_bi1, bor_bi2, bor_me1, bor_me2, bor_comp, bor_compIf, ent_f, Out.bind_val, Out.pure_val, Out.bind_bad, asB_bl, owned_ow, lstOf_lst, immIf_false, noExc_val, orBad_some, chk_true, Nat.reduceSub, Nat.reduceAdd, Bool.or_false, Bool.false_or, Bool.or_true, if_true, Bool.false_eq_true, if_false, h1, h2, h3, h4, h5, hj, hs, hw, neg_int, bnd_non, bnd_int, dAdd_int]
  exact ⟨_, rfl⟩
end
end Py
end
section
set_option autoImplicit false
set_option linter.all false
set_option maxRecDepth 100000
set_option maxHeartbeats 4000000
/-! PzH: a deed that a law draws is one, and names what is known. -/
namespace Py
/-- a deed fits what is known -/
def Dv (known : List Deed) (names : List (List Nat)) (one : Idd) : Deed → Prop
  | .add i b t => i = one ∧ (∀ s, b = some s → s ∈ signsF known) ∧ ∃ sc p, t = wsF sc p
  | .drop i ss => i = one ∧ ss ≠ [] ∧ ss.Sublist (signsF known)
  | .mark i nm a b => i = one ∧ nm ∈ names ∧ AnV (signsF known) a ∧ AnV (signsF known) b
  | .unmark i nm => i = one ∧ nm ∈ names
  | .undo i o => i = one ∧ o ∈ known.map Deed.id
theorem Dv.id_eq {known : List Deed} {names : List (List Nat)} {one : Idd} {d : Deed} (h : Dv known names one d) : d.id = one := by
  cases d <;> exact h.1
theorem Dv.short {known : List Deed} {names : List (List Nat)} {one : Idd} {d : Deed} (h : Dv known names one d) : d.txt.length ≤ 4 := by
  cases d with
  | add i b t => obtain ⟨_, _, sc, p, rfl⟩ := h; exact (ws_len p).2
  | _ => exact Nat.zero_le _
theorem sg_plain (s : Sg) : D.plain (eSg s) = true ∧ D.dep (eSg s) ≤ 2 := by
  simp [eSg, eId, D.plain, D.plainAll, D.dep, D.depAll]
theorem os_plain (s : Option Sg) : D.plain (eOS s) = true ∧ D.dep (eOS s) ≤ 2 := by
  cases s with
  | none => simp [eOS, D.plain, D.dep]
  | some s => exact sg_plain s
theorem all_plain {α : Type} {enc : α → D} {m : Nat} : ∀ {xs : List α}, (∀ x ∈ xs, D.plain (enc x) = true ∧ D.dep (enc x) ≤ m) → D.plainAll (xs.map enc) = true ∧ D.depAll (xs.map enc) ≤ m
  | [], _ => ⟨rfl, Nat.zero_le _⟩
  | x :: r, h => by
    obtain ⟨h1, h2⟩ := h x List.mem_cons_self
    obtain ⟨h3, h4⟩ := all_plain (xs := r) fun y hy => h y (List.mem_cons_of_mem _ hy)
    refine ⟨by simp [D.plainAll, h1, h3], ?_⟩
    simp only [List.map_cons, D.depAll]
    omega
theorem deed_plain (d : Deed) : D.plain (eDeed d) = true ∧ D.dep (eDeed d) ≤ 5 := by
  cases d with
  | add i b t =>
    obtain ⟨h1, h2⟩ := os_plain b
    simp [eDeed, eId, D.plain, D.plainAll, D.dep, D.depAll, h1]
    omega
  | drop i ss =>
    obtain ⟨h1, h2⟩ := all_plain (xs := ss) (enc := eSg) (m := 2) fun s _ => sg_plain s
    simp [eDeed, eId, D.plain, D.plainAll, D.dep, D.depAll, h1]
    omega
  | mark i nm a b =>
    obtain ⟨h1, h2⟩ := os_plain a.1
    obtain ⟨h3, h4⟩ := os_plain b.1
    simp [eDeed, eId, eAn, D.plain, D.plainAll, D.dep, D.depAll, h1, h3]
    omega
  | unmark i nm => simp [eDeed, eId, D.plain, D.plainAll, D.dep, D.depAll]
  | undo i o => simp [eDeed, eId, D.plain, D.plainAll, D.dep, D.depAll]
theorem ok_sgs (ss : List Sg) : D.ok (.lst (ss.map eSg)) = true := by
  obtain ⟨h1, h2⟩ := all_plain (xs := ss) (enc := eSg) (m := 2) fun s _ => sg_plain s
  simp [D.ok, D.plain, D.dep, h1]
  omega
theorem ok_book (b : List Deed) : D.ok (eBook b) = true := by
  obtain ⟨h1, h2⟩ := all_plain (xs := b) (enc := eDeed) (m := 5) fun s _ => deed_plain s
  simp [eBook, D.ok, D.plain, D.dep, h1]
  omega
theorem sgs_eq (ss : List Sg) : dCmp .eq (.lst (ss.map eSg)) (.lst []) = .val ss.isEmpty := by
  show chk _ _ = _
  rw [ok_sgs, show D.ok (.lst []) = true from rfl]
  cases ss <;> rfl
theorem sgs_ne (ss : List Sg) : dCmp .ne (.lst (ss.map eSg)) (.lst []) = .val (!ss.isEmpty) := by
  show chk _ _ = _
  rw [ok_sgs, show D.ok (.lst []) = true from rfl]
  cases ss <;> rfl
theorem book_ne (b : List Deed) : dCmp .ne (eBook b) (.tup []) = .val (!b.isEmpty) := by
  show chk _ _ = _
  rw [ok_book, show D.ok (.tup []) = true from rfl]
  cases b <;> rfl
theorem cut_map {α β : Type} (f : α → β) (xs : List α) (lo hi : Option Int) : cut (xs.map f) lo hi = (cut xs lo hi).map f := by
  unfold cut
  rw [List.length_map, List.map_take, List.map_drop]
theorem cut_in {α : Type} {xs : List α} {lo hi : Option Int} {c : α} (h : c ∈ cut xs lo hi) : c ∈ xs := List.mem_of_mem_drop (List.mem_of_mem_take h)
theorem cut_le {α : Type} (xs : List α) (lo hi : Option Int) : (cut xs lo hi).length ≤ xs.length := by
  unfold cut
  rw [List.length_take, List.length_drop]
  omega
theorem cut_one {α : Type} (xs : List α) : cut xs none (some 1) = xs.take 1 := by
  cases xs with
  | nil => rfl
  | cons a r =>
    unfold cut cutIx
    simp
theorem mul_lst {a : List D} {j : Int} (h0 : 0 ≤ j) (h : j < 1000) (hl : a.length ≤ 1000) : dMul (.lst a) (.int j) = .val (.lst (repL a j.toNat)) := by
  show chk _ _ = _
  unfold chk
  rw [if_pos]
  simp only [Bool.and_eq_true, decide_eq_true_eq]
  refine ⟨⟨?_, h0⟩, by omega⟩
  have : a.length * j.toNat ≤ 1000 * 1000 := Nat.mul_le_mul hl (by omega)
  unfold LIM
  omega
abbrev nDeed : Nm := [95, 108, 97, 119, 95, 100, 101, 101, 100]
/-- the drawing defs of books -/
structure DrB (T : Tab) : Prop extends Dr T where
  names : T nNames = some b_law_names
  words : T nWords = some b_law_words
  signs : T nSigns = some b_law_signs
  anchor : T nAnchor = some b_law_anchor
  deed : T nDeed = some b_law_deed
section
variable {T : Tab} {n : Nat} {sc : List Int}
theorem deed_ev (hd : DrB T) (hs : sc.length ≤ 63) (p : Int) (one : Idd) {known : List Deed} (hk : Short known) (hl : known.length ≤ 100) {names : List (List Nat)} (hn : names.length = 3) :
    ∃ d, evF T (n + 4) nDeed [scD sc, .int p, eId one, eBook known, .lst (names.map .str)] = .val (eDeed d) ∧ Dv known names one d := by
  have dr := drawn_ev (T := T) (n := n + 1) hd.cell hd.drawn hs
  have hsg := signs_ev (T := T) (n := n + 2) hd.signs hk (by omega)
  have hsl := signsF_len hk
  have hss : (signsF known).length ≤ 400 := by omega
  generalize hSS : signsF known = ss at hsg hss
  have p12 := drawn_pos (sc := sc) p 12 (by decide)
  have hnm : ∀ j : Int, 0 ≤ j → j < 3 → ∃ nm, nm ∈ names ∧ dIdx (.lst (names.map .str)) (.int j) = .val (.str nm) := fun j h0 h3 => by
    have hj : j.toNat < names.length := by omega
    exact ⟨names[j.toNat], List.getElem_mem hj, lst_at h0 (by rw [List.getElem?_map, List.getElem?_eq_getElem hj]; rfl)⟩
  have slen : bi1 .len (.lst (ss.map eSg)) = .val (.int ss.length) := by
    show Out.val (D.int ((ss.map eSg).length)) = _
    rw [List.length_map]
  have way := deed_way (evF T (n + 3)) (scD sc) (.int p) (eId one) (eBook known) (.lst (names.map .str)) (.lst (ss.map eSg)) (drawnF sc p 12) (!ss.isEmpty) (!known.isEmpty)
  have fin1 : ∀ {r : D}, fin (exs (evF T (n + 3)) b_law_deed.body [.sh (scD sc), .sh (.int p), .sh (eId one), .sh (eBook known), .sh (.lst (names.map .str)), .un, .un, .un, .un, .un, .un, .un]) = .val r → evF T (n + 4) nDeed [scD sc, .int p, eId one, eBook known, .lst (names.map .str)] = .val r := fun {r} h => by
    rw [evF_run hd.deed rfl]
    exact h
  by_cases c1 : drawnF sc p 12 < 2 ∧ (!ss.isEmpty) = true
  · have hm := fun δ => enum_some (g := stepOf [10, 11] (.many [10, 11]) (fun δ' => ev (evF T (n + 3)) ec_deed δ' >>= asB) (fun δ' => (get δ' 11).v) [.sh (scD sc), .sh (.int p), .sh (eId one), .sh (eBook known), .sh (.lst (names.map .str)), .sh (.lst (ss.map eSg)), .sh (.int δ), .un, .un, .un, .un, .un]) ss 0 fun i s _ => by
      refine ⟨drawnF sc (p + 20 + i) 4 == 0, ?_⟩
      have e1 := dr (p + 20 + i) 4 (by decide)
      unfold ec_deed
      simp -implicitDefEqProofs only [stepOf, wipe_nil, wipe_cons, bind_two, b_law_deed, exs, ex, ev, evs, evIt, get_0, get_1, get_2, get_3, get_4, get_5, get_6, get_7, get_8, get_9, get_10, get_11, get_12, get_13, setE_0, setE_1, setE_2, setE_3, setE_4, setE_5, setE_6, setE_7, setE_8, setE_9, setE_10, setE_11, setE_12, setE_13, d_sh, d_ow, v_sh, f_sh, f_ow, o_sh, o_ow, frz_nil, frz_cons, nxt_nx, nxt_rt, startE_nil, startE_cons, uns_0, uns_1, uns_2, uns_3, uns_4, uns_5, uns_6, uns_7, uns_8, uns_9, uns_10, uns_11, uns_12, fin_rt, fin_nx, bor_nil, bor_v, bor_dnil, bor_c, bor_vv, bor_fn, bor_add, bor_sub, bor_mul, bor_dv, bor_md, bor_neg, bor_not, bor_and, bor_or, bor_ite, bor_cmp, bor_tup, bor_lst, bor_idx, bor_sl, bor_call, bor_bi1, bor_bi2, bor_me1, bor_me2, bor_comp, bor_compIf, ent_f, Out.bind_val, Out.pure_val, Out.bind_bad, asB_bl, owned_ow, lstOf_lst, immIf_false, noExc_val, orBad_some, chk_true, Nat.reduceSub, Nat.reduceAdd, Bool.or_false, Bool.false_or, Bool.or_true, if_true, Bool.false_eq_true, if_false, dAdd_int, e1, eq_int]
      cases (drawnF sc (p + 20 + i) 4 == 0) <;> rfl
    obtain ⟨zs, hz1, hz2⟩ := hm (drawnF sc p 12)
    have hne : ss ≠ [] := by
      intro e
      subst e
      simp at c1
    have hcut : dCut (.lst (ss.map eSg)) none (some 1) = .val (.lst ((ss.take 1).map eSg)) := by
      show Out.val (D.lst (cut (ss.map eSg) none (some 1))) = _
      rw [cut_map, cut_one]
    have zlen : zs.length ≤ 400 := Nat.le_trans hz1.length_le hss
    have htk : (ss.take 1).length ≤ 1 := by rw [List.length_take]; omega
    cases hz : zs.isEmpty with
    | true =>
      have hz0 : zs = [] := by simpa using hz
      subst hz0
      have hmul : dMul (.lst ((ss.take 1).map eSg)) (.int (if true = true then 1 else 0)) = .val (.lst ((ss.take 1).map eSg)) := by
        rw [if_pos rfl]
        have := mul_lst (a := (ss.take 1).map eSg) (j := 1) (by decide) (by decide) (by simp; omega)
        rw [this]
        simp [repL]
      refine ⟨.drop one (ss.take 1), fin1 (way _ hsg (dr p 12 (by decide)) (sgs_ne ss) (book_ne known) fun δ' hδ => ?_), rfl, ?_, ?_⟩
      · subst hδ
        rw [if_pos c1]
        exact deed1_run _ _ _ _ _ _ p _ _ _ _ _ _ _ _ ((ss.take 1).map eSg) true _ _ rfl hz2 (sgs_eq []) hcut hmul (by
          rw [List.map_nil, cat_lstZ (by simp; omega), List.nil_append])
      · cases ss with
        | nil => exact absurd rfl hne
        | cons a r => simp
      · rw [hSS]; exact List.take_sublist _ _
    | false =>
      have hmul : dMul (.lst ((ss.take 1).map eSg)) (.int (if false = true then 1 else 0)) = .val (.lst []) := by
        rw [if_neg (by decide)]
        have := mul_lst (a := (ss.take 1).map eSg) (j := 0) (by decide) (by decide) (by simp; omega)
        rw [this]
        rfl
      refine ⟨.drop one zs, fin1 (way _ hsg (dr p 12 (by decide)) (sgs_ne ss) (book_ne known) fun δ' hδ => ?_), rfl, ?_, ?_⟩
      · subst hδ
        rw [if_pos c1]
        exact deed1_run _ _ _ _ _ _ p _ _ _ _ _ _ _ _ (zs.map eSg) false _ _ rfl hz2 (by rw [sgs_eq, hz]) hcut hmul (by
          rw [cat_lstZ (by simp; omega), List.append_nil])
      · intro e; subst e; cases hz
      · rw [hSS]; exact hz1
  · by_cases c2 : drawnF sc p 12 < 5
    · obtain ⟨a1, ha1, va1⟩ := anchor_ev (n := n) hd.toDr hd.anchor hs (p + 1) (ss := ss) (by omega)
      obtain ⟨a2, ha2, va2⟩ := anchor_ev (n := n) hd.toDr hd.anchor hs (p + 3) (ss := ss) (by omega)
      have p5 := drawn_pos (sc := sc) (p + 5) 3 (by decide)
      obtain ⟨nm, hm1, hm2⟩ := hnm _ p5.1 p5.2
      refine ⟨.mark one nm a1 a2, fin1 (way _ hsg (dr p 12 (by decide)) (sgs_ne ss) (book_ne known) fun δ' hδ => ?_), rfl, hm1, by rw [hSS]; exact va1, by rw [hSS]; exact va2⟩
      subst hδ
      rw [if_neg c1, if_pos c2]
      exact deed2_run _ _ _ _ _ _ p _ _ _ _ _ _ _ _ _ _ _ ha1 ha2 (dr (p + 5) 3 (by decide)) hm2 (by rw [cat_tup (by simp)]; rfl)
    · by_cases c3 : drawnF sc p 12 = 5
      · have p5 := drawn_pos (sc := sc) (p + 5) 3 (by decide)
        obtain ⟨nm, hm1, hm2⟩ := hnm _ p5.1 p5.2
        refine ⟨.unmark one nm, fin1 (way _ hsg (dr p 12 (by decide)) (sgs_ne ss) (book_ne known) fun δ' hδ => ?_), rfl, hm1⟩
        subst hδ
        rw [if_neg c1, if_neg c2, if_pos c3]
        exact deed3_run _ _ _ _ _ _ p _ _ _ _ _ _ _ _ (dr (p + 5) 3 (by decide)) hm2
      · by_cases c4 : drawnF sc p 12 < 8 ∧ (!known.isEmpty) = true
        · have hkn : known ≠ [] := by
            intro e
            subst e
            simp at c4
          have hkl : 0 < known.length := List.length_pos_iff.mpr hkn
          have p6 := drawn_pos (sc := sc) (p + 6) known.length (by omega)
          have hj : (drawnF sc (p + 6) known.length).toNat < known.length := by omega
          have klen : bi1 .len (eBook known) = .val (.int known.length) := by
            show Out.val (D.int ((known.map eDeed).length)) = _
            rw [List.length_map]
          refine ⟨.undo one (known[(drawnF sc (p + 6) known.length).toNat]).id, fin1 (way _ hsg (dr p 12 (by decide)) (sgs_ne ss) (book_ne known) fun δ' hδ => ?_), rfl, List.mem_map.mpr ⟨_, List.getElem_mem hj, rfl⟩⟩
          subst hδ
          rw [if_neg c1, if_neg c2, if_neg c3, if_pos c4]
          exact deed4_run _ _ _ _ _ _ p _ _ _ _ _ _ _ _ (eDeed known[(drawnF sc (p + 6) known.length).toNat]) _ klen (dr (p + 6) _ (by omega)) (tup_at p6.1 (by rw [List.getElem?_map, List.getElem?_eq_getElem hj]; rfl)) (id_at _)
        · have ct : cut ss (some (-3)) none = cut ss (some (-3)) none := rfl
          generalize hT3 : cut ss (some (-3)) none = tl at ct
          have htl : tl.length ≤ 400 := by rw [← hT3]; exact Nat.le_trans (cut_le _ _ _) hss
          have hcut : dCut (.lst (ss.map eSg)) (some (-3)) none = .val (.lst (tl.map eSg)) := by
            show Out.val (D.lst (cut (ss.map eSg) (some (-3)) none)) = _
            rw [cut_map, hT3]
          have tlen : bi1 .len (.lst (tl.map eSg)) = .val (.int tl.length) := by
            show Out.val (D.int ((tl.map eSg).length)) = _
            rw [List.length_map]
          have hfull : dAdd (.lst ((sgO ss).map eOS)) (.lst (tl.map eSg)) = .val (.lst ((sgO ss ++ tl.map some).map eOS)) := by
            rw [cat_lstZ (by simp [sgO]; omega)]
            simp [eOS, List.map_map, Function.comp_def]
          have p7 := drawn_pos (sc := sc) (p + 7) (ss.length + 1 + tl.length) (by omega)
          have hj : (drawnF sc (p + 7) (ss.length + 1 + tl.length)).toNat < (sgO ss ++ tl.map some).length := by simp [sgO]; omega
          have hat : dIdx (.lst ((sgO ss ++ tl.map some).map eOS)) (.int (drawnF sc (p + 7) (ss.length + 1 + tl.length))) = .val (eOS (sgO ss ++ tl.map some)[(drawnF sc (p + 7) (ss.length + 1 + tl.length)).toNat]) := lst_at p7.1 (by rw [List.getElem?_map, List.getElem?_eq_getElem hj]; rfl)
          have hw := words_ev (n := n) hd.toDr hd.words hs (p + 8)
          refine ⟨.add one (sgO ss ++ tl.map some)[(drawnF sc (p + 7) (ss.length + 1 + tl.length)).toNat] (wsF sc (p + 8)), fin1 (way _ hsg (dr p 12 (by decide)) (sgs_ne ss) (book_ne known) fun δ' hδ => ?_), rfl, ?_, _, _, rfl⟩
          · subst hδ
            rw [if_neg c1, if_neg c2, if_neg c3, if_neg c4]
            exact deed5_run _ _ _ _ _ _ p _ _ _ _ _ _ _ _ _ _ _ _ _ _ (cat_non ss (by omega)) hcut hfull slen tlen (dr (p + 7) _ (by omega)) hat hw
          · intro s hsm
            have hmem : (sgO ss ++ tl.map some)[(drawnF sc (p + 7) (ss.length + 1 + tl.length)).toNat] ∈ sgO ss ++ tl.map some := List.getElem_mem hj
            rw [hsm] at hmem
            rw [hSS]
            simp only [sgO, List.mem_append, List.mem_cons, List.mem_map, Option.some.injEq, reduceCtorEq, false_or, exists_eq_right] at hmem
            rcases hmem with hmem | hmem
            · exact hmem
            · rw [← hT3] at hmem
              exact cut_in hmem
end
end Py
end
section
set_option autoImplicit false
set_option linter.all false
set_option maxRecDepth 100000
set_option maxHeartbeats 4000000
/-! PzI: the book that a law draws. -/
namespace Py
abbrev nBook : Nm := [95, 108, 97, 119, 95, 98, 111, 111, 107]
def lb_book : Ss := match b_law_book.body with
  | .cons _ (.cons _ (.cons (.forS _ _ _ b) _)) => b
  | _ => .nil
def ec_book : E := match lb_book with
  | .cons _ (.cons _ (.cons _ (.cons _ (.cons (.set _ (.bi1 _ (.compIf _ _ _ _ c)) _ _) _)))) => c
  | _ => .dnil
theorem b_book_eq : b_law_book = ⟨4, 11, .cons (.set 4 (.tup .nil) false []) (.cons (.set 5 (.tup (.cons (.c (.int 1)) (.cons (.c (.str [97])) .nil))) false []) (.cons (.forS (.one 6) (.range1 (.call nDrawn (.cons (.v 0) (.cons (.v 1) (.cons (.add (.v 2) (.c (.int 1))) .nil))))) [] lb_book) (.cons (.ret (.vv 4) []) .nil)))⟩ := rfl
theorem lb_book_eq : lb_book = .cons (.set 7 (.add (.idx (.v 5) (.c (.int 0))) (.call nDrawn (.cons (.v 0) (.cons (.add (.add (.v 1) (.c (.int 1))) (.mul (.c (.int 60)) (.v 6))) (.cons (.c (.int 2)) .nil))))) false [])
    (.cons (.set 8 (.idx (.c (.str [97, 98, 99])) (.call nDrawn (.cons (.v 0) (.cons (.add (.add (.v 1) (.c (.int 2))) (.mul (.c (.int 60)) (.v 6))) (.cons (.c (.int 3)) .nil))))) false [])
    (.cons (.ifS (.and (.cmp .ne (.v 4) (.tup .nil)) (.cmp .le (.tup (.cons (.vv 7) (.cons (.vv 8) .nil))) (.v 5))) (.cons (.set 7 (.add (.idx (.v 5) (.c (.int 0))) (.c (.int 1))) false []) .nil) .nil)
    (.cons (.set 5 (.tup (.cons (.vv 7) (.cons (.vv 8) .nil))) false [])
    (.cons (.set 9 (.bi1 .tuple (.compIf (.vv 10) (.one 10) [10] (.e (.v 4)) ec_book)) false [])
    (.cons (.set 4 (.add (.v 4) (.tup (.cons (.call nDeed (.cons (.v 0) (.cons (.add (.add (.v 1) (.c (.int 3))) (.mul (.c (.int 60)) (.v 6))) (.cons (.v 5) (.cons (.v 9) (.cons (.v 3) .nil)))))) .nil))) false []) .nil))))) := rfl
section
variable (F : Nm → List D → Out D) (d0 d2 d3 df done : D) (p k : Int)
theorem book_run (u6 u7 u8 u9 : Ent) (t0 t j2 j3 : Int) (h : Nat) (ne le : Bool) (its ks : List D) (dd df' : D) (h0 : dIdx done (.int 0) = .val (.int t0)) (h1 : F nDrawn [d0, .int (p + 1 + 60 * k), .int 2] = .val (.int j2)) (h2 : F nDrawn [d0, .int (p + 2 + 60 * k), .int 3] = .val (.int j3)) (h3 : dIdx (.str [97, 98, 99]) (.int j3) = .val (.str [h]))
    (h4 : dCmp .ne df (.tup []) = .val ne) (h5 : dCmp .le (.tup [.int (t0 + j2), .str [h]]) done = .val le) (ht : t = if ne = true ∧ le = true then t0 + 1 else t0 + j2) (h7 : items df = .val its)
    (h6 : mapIfD (stepOf [10] (.one 10) (fun δ' => ev F ec_book δ' >>= asB) (fun δ' => (get δ' 10).v) [.sh d0, .sh (.int p), .sh d2, .sh d3, .sh df, .sh (.tup [.int t, .str [h]]), .sh (.int k), .sh (.int t), .sh (.str [h]), u9, .un]) its = .val ks)
    (h8 : F nDeed [d0, .int (p + 3 + 60 * k), .tup [.int t, .str [h]], .tup ks, d3] = .val dd) (h9 : dAdd df (.tup [dd]) = .val df') :
    (bindT [.sh d0, .sh (.int p), .sh d2, .sh d3, .sh df, .sh done, u6, u7, u8, u9, .un] (.one 6) (.int k) >>= fun δ' => exs F lb_book δ') =
      .val (.nx, [.sh d0, .sh (.int p), .sh d2, .sh d3, .sh df', .sh (.tup [.int t, .str [h]]), .sh (.int k), .sh (.int t), .sh (.str [h]), .sh (.tup ks), .un]) := by
  rw [lb_book_eq]
  have m60 : ∀ i : Int, dMul (.int 60) (.int i) = .val (.int (60 * i)) := fun i => dMul_int (by decide) (by decide)
  by_cases hc : ne = true ∧ le = true
  · rw [if_pos hc] at ht
    subst ht
    obtain ⟨rfl, rfl⟩ := hc
    simp -implicitDefEqProofs only [exs, ex, ev, evs, evIt, get_0, get_1, get_2, get_3, get_4, get_5, get_6, get_7, get_8, get_9, get_10, get_11, get_12, get_13, setE_0, setE_1, setE_2, setE_3, setE_4, setE_5, setE_6, setE_7, setE_8, setE_9, setE_10, setE_11, setE_12, setE_13, d_sh, d_ow, v_sh, f_sh, f_ow, o_sh, o_ow, frz_nil, frz_cons, nxt_nx, nxt_rt, startE_nil, startE_cons, uns_0, uns_1, uns_2, uns_3, uns_4, uns_5, uns_6, uns_7, uns_8, uns_9, uns_10, uns_11, uns_12, fin_rt, fin_nx, bor_nil, bor_v, bor_dnil, bor_c, bor_vv, bor_fn, bor_add, bor_sub, bor_mul, bor_dv, bor_md, bor_neg, bor_not, bor_and, bor_or, bor_ite, bor_cmp, bor_tup, bor_lst, bor_idx, bor_sl, bor_call, bor_bi1, bor_bi2, bor_me1, bor_me2, bor_comp, bor_compIf, ent_f, Out.bind_val, Out.pure_val, Out.bind_bad, asB_bl, owned_ow, lstOf_lst, immIf_false, noExc_val, orBad_some, chk_true, Nat.reduceSub, Nat.reduceAdd, Bool.or_false, Bool.false_or, Bool.or_true, if_true, Bool.false_eq_true, if_false, bind_one, h0, h1, h2, h3, h4, h5, h6, h7, h8, h9, m60, dAdd_int, tup_lst]
  · rw [if_neg hc] at ht
    subst ht
    have e1 : (if ne = true then Out.val (D.bl le) else Out.val (D.bl false)) = .val (.bl false) := by
      cases ne
      · rfl
      · cases le
        · rfl
        · exact absurd ⟨rfl, rfl⟩ hc
    simp -implicitDefEqProofs only [exs, ex, ev, evs, evIt, get_0, get_1, get_2, get_3, get_4, get_5, get_6, get_7, get_8, get_9, get_10, get_11, get_12, get_13, setE_0, setE_1, setE_2, setE_3, setE_4, setE_5, setE_6, setE_7, setE_8, setE_9, setE_10, setE_11, setE_12, setE_13, d_sh, d_ow, v_sh, f_sh, f_ow, o_sh, o_ow, frz_nil, frz_cons, nxt_nx, nxt_rt, startE_nil, startE_cons, uns_0, uns_1, uns_2, uns_3, uns_4, uns_5, uns_6, uns_7, uns_8, uns_9, uns_10, uns_11, uns_12, fin_rt, fin_nx, bor_nil, bor_v, bor_dnil, bor_c, bor_vv, bor_fn, bor_add, bor_sub, bor_mul, bor_dv, bor_md, bor_neg, bor_not, bor_and, bor_or, bor_ite, bor_cmp, bor_tup, bor_lst, bor_idx, bor_sl, bor_call, bor_bi1, bor_bi2, bor_me1, bor_me2, bor_comp, bor_compIf, ent_f, Out.bind_val, Out.pure_val, Out.bind_bad, asB_bl, owned_ow, lstOf_lst, immIf_false, noExc_val, orBad_some, chk_true, Nat.reduceSub, Nat.reduceAdd, Bool.or_false, Bool.false_or, Bool.or_true, if_true, Bool.false_eq_true, if_false, bind_one, h0, h1, h2, h3, h4, h5, e1, h6, h7, h8, h9, m60, dAdd_int, tup_lst]
end
theorem forD_ex {α : Type} {enc : α → D} {P : List α → Env → Prop} {f : D → Env → Out (Ctl × Env)} : ∀ {xs : List α} {δ : Env}, P xs δ → (∀ a r δ, P (a :: r) δ → ∃ δ', f (enc a) δ = .val (.nx, δ') ∧ P r δ') → ∃ δ', forD f (xs.map enc) δ = .val (.nx, δ') ∧ P [] δ'
  | [], δ, p, _ => ⟨δ, rfl, p⟩
  | a :: r, δ, p, h => by
    obtain ⟨δ1, h1, h2⟩ := h a r δ p
    obtain ⟨δ2, h3, h4⟩ := forD_ex (xs := r) h2 h
    refine ⟨δ2, ?_, h4⟩
    rw [List.map_cons, forD, h1, Out.bind_val, nxt_nx]
    exact h3

/-! ### books -/
def idLt (a b : Idd) : Prop := a.1 < b.1 ∨ (a.1 = b.1 ∧ a.2 < b.2)
instance (a b : Idd) : Decidable (idLt a b) := by unfold idLt; infer_instance
theorem le_id (a b : Idd) : dCmp .le (.tup [.int a.1, .str [a.2]]) (eId b) = .val (!decide (idLt b a)) := by
  show dLe (.tup [.int a.1, .str [a.2]]) (eId b) = _
  unfold dLe
  have h1 : (D.ok (.tup [.int a.1, .str [a.2]]) && D.ok (eId b) && D.alike (.tup [.int a.1, .str [a.2]]) (eId b)) = true := rfl
  rw [h1]
  show Out.val (!D.lt (eId b) (.tup [.int a.1, .str [a.2]])) = _
  have h2 : D.lt (eId b) (.tup [.int a.1, .str [a.2]]) = decide (idLt b a) := by
    obtain ⟨a1, a2⟩ := a
    obtain ⟨b1, b2⟩ := b
    simp only [eId, D.lt, D.ltAll, D.eqv, D.ltS, idLt]
    by_cases e : b1 = a1
    · subst e
      by_cases e2 : b2 = a2
      · subst e2; simp
      · simp [e2, D.ltS]
    · simp [e]
  rw [h2]
/-- a book: each deed fits those of lesser times; ids rise -/
structure Bk (names : List (List Nat)) (b : List Deed) : Prop where
  up : b.Pairwise fun x y => idLt x.id y.id
  fits : ∀ d ∈ b, Dv (b.filter fun e => decide (e.id.1 < d.id.1)) names d.id d
  time : ∀ d ∈ b, 1 ≤ d.id.1
  hand : ∀ d ∈ b, d.id.2 = 97 ∨ d.id.2 = 98 ∨ d.id.2 = 99
  short : Short b
theorem Bk.snoc {names : List (List Nat)} {b : List Deed} {d : Deed} (h : Bk names b) (hu : ∀ e ∈ b, idLt e.id d.id) (hf : Dv (b.filter fun e => decide (e.id.1 < d.id.1)) names d.id d) (ht : 1 ≤ d.id.1) (hh : d.id.2 = 97 ∨ d.id.2 = 98 ∨ d.id.2 = 99) : Bk names (b ++ [d]) where
  up := by
    rw [List.pairwise_append]
    exact ⟨h.up, by simp, fun x hx y hy => by simp at hy; subst hy; exact hu x hx⟩
  fits := fun e he => by
    have keep : ∀ x : Deed, x.id.1 ≤ d.id.1 → (b ++ [d]).filter (fun e => decide (e.id.1 < x.id.1)) = b.filter fun e => decide (e.id.1 < x.id.1) := fun x hx => by
      rw [List.filter_append]
      have : ¬ d.id.1 < x.id.1 := by omega
      simp [this]
    rcases List.mem_append.mp he with he | he
    · have := hu e he
      rw [keep e (by unfold idLt at this; omega)]
      exact h.fits e he
    · simp at he
      subst he
      rw [keep e (by omega)]
      exact hf
  time := fun e he => by
    rcases List.mem_append.mp he with he | he
    · exact h.time e he
    · simp at he; subst he; exact ht
  hand := fun e he => by
    rcases List.mem_append.mp he with he | he
    · exact h.hand e he
    · simp at he; subst he; exact hh
  short := fun e he => by
    rcases List.mem_append.mp he with he | he
    · exact h.short e he
    · simp at he; subst he; exact hf.short

section
variable {T : Tab} {n : Nat} {sc : List Int}
theorem cat_book (b : List Deed) (d : Deed) (h : b.length ≤ 9000) : dAdd (eBook b) (.tup [eDeed d]) = .val (eBook (b ++ [d])) := by
  unfold eBook
  rw [cat_tup (by simp; omega), List.map_append]
  rfl
theorem book_ev (hd : DrB T) (h : T nBook = some b_law_book) (hs : sc.length ≤ 63) (p most : Int) (hm0 : 0 ≤ most) (hm : most ≤ 50) {names : List (List Nat)} (hn : names.length = 3) :
    ∃ b : List Deed, evF T (n + 5) nBook [scD sc, .int p, .int most, .lst (names.map .str)] = .val (eBook b) ∧ Bk names b ∧ (b.length : Int) ≤ most ∧ ∀ d ∈ b, d.id.1 ≤ 1 + most := by
  have dr := drawn_ev (T := T) (n := n + 2) hd.cell hd.drawn hs
  have pm := drawn_pos (sc := sc) p (most + 1) (by omega)
  generalize hM : drawnF sc p (most + 1) = m at pm
  have hr := range_int m pm.1 (by omega)
  have loop := forD_ex (enc := fun k : Nat => D.int (k : Int)) (xs := List.range m.toNat) (P := fun r δ => ∃ (b : List Deed) (one : Idd) (u6 u7 u8 u9 : Ent), δ = [.sh (scD sc), .sh (.int p), .sh (.int most), .sh (.lst (names.map .str)), .sh (eBook b), .sh (eId one), u6, u7, u8, u9, .un] ∧
      Bk names b ∧ (∀ e ∈ b, e.id = one ∨ idLt e.id one) ∧ 1 ≤ one.1 ∧ b.length + r.length ≤ m.toNat ∧ one.1 + r.length ≤ 1 + m.toNat) (f := fun x δ => do
    let δ' ← bindT δ (.one 6) x
    exs (evF T (n + 4)) lb_book δ') (δ := [.sh (scD sc), .sh (.int p), .sh (.int most), .sh (.lst (names.map .str)), .sh (eBook []), .sh (eId (1, 97)), .un, .un, .un, .un, .un])
    ⟨[], (1, 97), .un, .un, .un, .un, rfl, ⟨List.Pairwise.nil, (by simp), (by simp), (by simp), fun d hd => by cases hd⟩, (by simp), (by decide), by simp, by simp⟩
    (fun k r δ ⟨b, one, u6, u7, u8, u9, hδ, bk, hlt, h1, hlen, hlate⟩ => by
      subst hδ
      have q2 := drawn_pos (sc := sc) (p + 1 + 60 * k) 2 (by decide)
      have q3 := drawn_pos (sc := sc) (p + 2 + 60 * k) 3 (by decide)
      have hh : ∃ c, dIdx (.str [97, 98, 99]) (.int (drawnF sc (p + 2 + 60 * k) 3)) = .val (.str [c]) ∧ (c = 97 ∨ c = 98 ∨ c = 99) := by
        have : drawnF sc (p + 2 + 60 * k) 3 = 0 ∨ drawnF sc (p + 2 + 60 * k) 3 = 1 ∨ drawnF sc (p + 2 + 60 * k) 3 = 2 := by omega
        rcases this with e | e | e
        · exact ⟨97, by rw [e]; rfl, .inl rfl⟩
        · exact ⟨98, by rw [e]; rfl, .inr (.inl rfl)⟩
        · exact ⟨99, by rw [e]; rfl, .inr (.inr rfl)⟩
      obtain ⟨c, hc, hc3⟩ := hh
      generalize hj2 : drawnF sc (p + 1 + 60 * k) 2 = j2 at q2
      have hbl : b.length ≤ 50 := by
        simp only [List.length_cons] at hlen
        omega
      generalize ht : (if (!b.isEmpty) = true ∧ (!decide (idLt one (one.1 + j2, c))) = true then one.1 + 1 else one.1 + j2) = t
      have hm6 : mapIfD (stepOf [10] (.one 10) (fun δ' => ev (evF T (n + 4)) ec_book δ' >>= asB) (fun δ' => (get δ' 10).v) [.sh (scD sc), .sh (.int p), .sh (.int most), .sh (.lst (names.map .str)), .sh (eBook b), .sh (.tup [.int t, .str [c]]), .sh (.int k), .sh (.int t), .sh (.str [c]), u9, .un]) (b.map eDeed) = .val ((b.filter fun e => decide (e.id.1 < t)).map eDeed) := by
        rw [mapIf_map (h := fun e : Deed => if decide (e.id.1 < t) = true then some (eDeed e) else none)]
        · rw [← List.filterMap_eq_map', ← List.filterMap_eq_filter, List.filterMap_filterMap]
          congr 1
          congr 1
          funext e
          simp only [Option.guard]
          split <;> rfl
        · intro e _
          unfold ec_book
          simp -implicitDefEqProofs only [lb_book_eq, lb_book, b_law_book, stepOf, wipe_nil, wipe_cons, bind_one, exs, ex, ev, evs, evIt, get_0, get_1, get_2, get_3, get_4, get_5, get_6, get_7, get_8, get_9, get_10, get_11, get_12, get_13, setE_0, setE_1, setE_2, setE_3, setE_4, setE_5, setE_6, setE_7, setE_8, setE_9, setE_10, setE_11, setE_12, setE_13, d_sh, d_ow, v_sh, f_sh, f_ow, o_sh, o_ow, frz_nil, frz_cons, nxt_nx, nxt_rt, startE_nil, startE_cons, uns_0, uns_1, uns_2, uns_3, uns_4, uns_5, uns_6, uns_7, uns_8, uns_9, uns_10, uns_11, uns_12, fin_rt, fin_nx, bor_nil, bor_v, bor_dnil, bor_c, bor_vv, bor_fn, bor_add, bor_sub, bor_mul, bor_dv, bor_md, bor_neg, bor_not, bor_and, bor_or, bor_ite, bor_cmp, bor_tup, bor_lst, bor_idx, bor_sl, bor_call, bor_bi1, bor_bi2, bor_me1, bor_me2, bor_comp, bor_compIf, ent_f, Out.bind_val, Out.pure_val, Out.bind_bad, asB_bl, owned_ow, lstOf_lst, immIf_false, noExc_val, orBad_some, chk_true, Nat.reduceSub, Nat.reduceAdd, Bool.or_false, Bool.false_or, Bool.or_true, if_true, Bool.false_eq_true, if_false, id_at, t_at, lt_int]
          by_cases he : e.id.1 < t
          · simp [he]
          · simp [he]
      have hshort : Short (b.filter fun e => decide (e.id.1 < t)) := fun e he => bk.short e (List.mem_filter.mp he).1
      obtain ⟨d, hd1, hd2⟩ := deed_ev (n := n) hd hs (p + 3 + 60 * k) (t, c) hshort (by have := List.length_filter_le (fun e : Deed => decide (e.id.1 < t)) b; omega) hn
      have hid := hd2.id_eq
      have hup : ∀ e ∈ b, idLt e.id (t, c) := fun e he => by
        have hne : b.isEmpty = false := by cases b <;> simp_all
        have h3 := hlt e he
        rw [hne] at ht
        by_cases hl : idLt one (one.1 + j2, c)
        · simp [hl] at ht
          subst ht
          rcases h3 with h3 | h3
          · rw [h3]; exact hl
          · unfold idLt at h3 hl ⊢
            simp only at hl ⊢
            omega
        · simp [hl] at ht
          subst ht
          rcases h3 with h3 | h3
          · rw [h3]; unfold idLt; simp only; omega
          · unfold idLt at h3 ⊢
            simp only
            omega
      have ht1 : 1 ≤ t := by
        rw [← ht]
        split <;> omega
      have ht2 : t ≤ one.1 + 1 := by
        rw [← ht]
        split <;> omega
      refine ⟨_, book_run (evF T (n + 4)) (scD sc) (.int most) (.lst (names.map .str)) (eBook b) (eId one) p k u6 u7 u8 u9 one.1 t j2 (drawnF sc (p + 2 + 60 * k) 3) c (!b.isEmpty) (!decide (idLt one (one.1 + j2, c))) (b.map eDeed) _ _ _ (t_at one) (by rw [dr _ 2 (by decide), hj2]) (dr _ 3 (by decide)) hc (book_ne b) (le_id (one.1 + j2, c) one) ht.symm rfl hm6 hd1 (cat_book b d (by omega)), ?_⟩
      refine ⟨b ++ [d], (t, c), _, _, _, _, rfl, bk.snoc (by rw [hid]; exact hup) (by rw [hid]; exact hd2) (by rw [hid]; exact ht1) (by rw [hid]; exact hc3), fun e he => ?_, ht1, ?_, ?_⟩
      · rcases List.mem_append.mp he with he | he
        · exact .inr (hup e he)
        · simp at he; subst he; exact .inl hid
      · simp only [List.length_append, List.length_cons, List.length_nil] at hlen ⊢
        omega
      · simp only [List.length_cons] at hlate
        dsimp only
        omega)
  obtain ⟨δ', l1, b, one, u6, u7, u8, u9, rfl, bk, hone, _, hlen, hlate⟩ := loop
  refine ⟨b, ?_, bk, ?_, fun d hd => ?_⟩
  · rw [evF_run h rfl]
    have dm := dr p (most + 1) (by omega)
    rw [hM] at dm
    have e1 : (Out.val (D.tup [.int 1, .str [97]])) = .val (eId (1, 97)) := rfl
    have l1' : forD (fun x δ => bindT δ (.one 6) x >>= fun δ' => exs (evF T (n + 4)) lb_book δ') ((List.range m.toNat).map fun k : Nat => D.int (k : Int)) [.sh (scD sc), .sh (.int p), .sh (.int most), .sh (.lst (names.map .str)), .sh (.tup []), .sh (.tup [.int 1, .str [97]]), .un, .un, .un, .un, .un] = _ := l1
    simp -implicitDefEqProofs only [b_book_eq, exs, ex, ev, evs, evIt, get_0, get_1, get_2, get_3, get_4, get_5, get_6, get_7, get_8, get_9, get_10, get_11, get_12, get_13, setE_0, setE_1, setE_2, setE_3, setE_4, setE_5, setE_6, setE_7, setE_8, setE_9, setE_10, setE_11, setE_12, setE_13, d_sh, d_ow, v_sh, f_sh, f_ow, o_sh, o_ow, frz_nil, frz_cons, nxt_nx, nxt_rt, startE_nil, startE_cons, uns_0, uns_1, uns_2, uns_3, uns_4, uns_5, uns_6, uns_7, uns_8, uns_9, uns_10, uns_11, uns_12, fin_rt, fin_nx, bor_nil, bor_v, bor_dnil, bor_c, bor_vv, bor_fn, bor_add, bor_sub, bor_mul, bor_dv, bor_md, bor_neg, bor_not, bor_and, bor_or, bor_ite, bor_cmp, bor_tup, bor_lst, bor_idx, bor_sl, bor_call, bor_bi1, bor_bi2, bor_me1, bor_me2, bor_comp, bor_compIf, ent_f, Out.bind_val, Out.pure_val, Out.bind_bad, asB_bl, owned_ow, lstOf_lst, immIf_false, noExc_val, orBad_some, chk_true, Nat.reduceSub, Nat.reduceAdd, Bool.or_false, Bool.false_or, Bool.or_true, if_true, Bool.false_eq_true, if_false, dAdd_int, dm, hr, l1']
  · simp only [List.length_nil] at hlen
    omega
  · simp only [List.length_nil] at hlate
    rcases hone d hd with q | q
    · rw [q]; omega
    · unfold idLt at q
      omega
end
end Py
end
section
set_option autoImplicit false
set_option linter.all false
set_option maxRecDepth 100000
set_option maxHeartbeats 4000000
/-! PzJ: clocks. -/
namespace Py
def hL : List Nat := [97, 98, 99, 100, 101, 102, 103, 104]
def hix (h : Nat) : Nat := h - 97
def eCl (c : List Int) : D := .tup (c.map .int)
def newerB (c : List Int) (d : Deed) : Bool := decide (c.getD (hix d.id.2) 0 < d.id.1)
abbrev nIsNewer : Nm := [105, 115, 95, 110, 101, 119, 101, 114]
abbrev nNewer : Nm := [110, 101, 119, 101, 114]
abbrev nLater : Nm := [108, 97, 116, 101, 114, 95, 99, 108, 111, 99, 107]
abbrev nClockOf : Nm := [99, 108, 111, 99, 107, 95, 111, 102]
def Hand (d : Deed) : Prop := d.id.2 = 97 ∨ d.id.2 = 98 ∨ d.id.2 = 99
theorem hix_lt {d : Deed} (h : Hand d) : hix d.id.2 < 8 := by
  unfold hix
  rcases h with h | h | h <;> omega
theorem hand_ix {d : Deed} (h : Hand d) : me1 .index (.str [97, 98, 99, 100, 101, 102, 103, 104]) (.str [d.id.2]) = .val (.int (hix d.id.2)) := by
  rcases h with h | h | h <;> rw [h] <;> rfl
theorem cl_at {c : List Int} {i : Nat} (hi : i < c.length) : dIdx (eCl c) (.int i) = .val (.int (c.getD i 0)) := tup_at (Int.natCast_nonneg i) (by simp [hi])
theorem gt_int (i j : Int) : dCmp .gt (.int i) (.int j) = .val (decide (j < i)) := rfl
section
variable {T : Tab} {n : Nat}
theorem isNewer_ev (h : T nIsNewer = some b_is_newer) {d : Deed} (hd : Hand d) {c : List Int} (hc : c.length = 8) : evF T (n + 1) nIsNewer [eDeed d, eCl c] = .val (.bl (newerB c d)) := by
  rw [evF_run h rfl]
  have e1 := cl_at (c := c) (i := hix d.id.2) (by have := hix_lt hd; omega)
  have e2 : meTy .index (.str [97, 98, 99, 100, 101, 102, 103, 104]) = true := rfl
  simp -implicitDefEqProofs only [b_is_newer, exs, ex, ev, evs, evIt, get_0, get_1, get_2, get_3, get_4, get_5, get_6, get_7, get_8, get_9, get_10, get_11, get_12, get_13, setE_0, setE_1, setE_2, setE_3, setE_4, setE_5, setE_6, setE_7, setE_8, setE_9, setE_10, setE_11, setE_12, setE_13, d_sh, d_ow, v_sh, f_sh, f_ow, o_sh, o_ow, frz_nil, frz_cons, nxt_nx, nxt_rt, startE_nil, startE_cons, uns_0, uns_1, uns_2, uns_3, uns_4, uns_5, uns_6, uns_7, uns_8, uns_9, uns_10, uns_11, uns_12, fin_rt, fin_nx, bor_nil, bor_v, bor_dnil, bor_c, bor_vv, bor_fn, bor_add, bor_sub, bor_mul, bor_dv, bor_md, bor_neg, bor_not, bor_and, bor_or, bor_ite, bor_cmp, bor_tup, bor_lst, bor_idx, bor_sl, bor_call, bor_bi1, bor_bi2, bor_me1, bor_me2, bor_comp, bor_compIf, ent_f, Out.bind_val, Out.pure_val, Out.bind_bad, asB_bl, owned_ow, lstOf_lst, immIf_false, noExc_val, orBad_some, chk_true, Nat.reduceSub, Nat.reduceAdd, Bool.or_false, Bool.false_or, Bool.or_true, if_true, Bool.false_eq_true, if_false, id_at, t_at, h_at, hand_ix hd, e1, e2, gt_int]
  rfl
theorem filt_map {p : Deed → Bool} {g : D → Out (Option D)} (b : List Deed) (h : ∀ e ∈ b, g (eDeed e) = .val (if p e = true then some (eDeed e) else none)) : mapIfD g (b.map eDeed) = .val ((b.filter p).map eDeed) := by
  rw [mapIf_map (h := fun e : Deed => if p e = true then some (eDeed e) else none) h]
  congr 1
  rw [← List.filterMap_eq_map', ← List.filterMap_eq_filter, List.filterMap_filterMap]
  congr 1
  funext e
  simp only [Option.guard]
  split <;> rfl
theorem it_book (b : List Deed) : items (eBook b) = .val (b.map eDeed) := rfl
def ec_newer : E := match b_newer.body with
  | .cons (.ret (.compIf _ _ _ _ c) _) _ => c
  | _ => .dnil
theorem b_newer_eq : b_newer = ⟨2, 3, .cons (.ret (.compIf (.vv 2) (.one 2) [2] (.e (.v 0)) ec_newer) []) .nil⟩ := rfl
theorem newer_ev (h1 : T nIsNewer = some b_is_newer) (h : T nNewer = some b_newer) {b : List Deed} (hb : ∀ d ∈ b, Hand d) {c : List Int} (hc : c.length = 8) : evF T (n + 2) nNewer [eBook b, eCl c] = .val (.lst ((b.filter (newerB c)).map eDeed)) := by
  rw [evF_run h rfl]
  have hm : mapIfD (stepOf [2] (.one 2) (fun δ' => ev (evF T (n + 1)) ec_newer δ' >>= asB) (fun δ' => (get δ' 2).v) [.sh (eBook b), .sh (eCl c), .un]) (b.map eDeed) = .val ((b.filter (newerB c)).map eDeed) := filt_map b fun e he => by
    have e1 := isNewer_ev (n := n) h1 (hb e he) hc
    unfold ec_newer
    simp -implicitDefEqProofs only [b_newer, stepOf, wipe_nil, wipe_cons, bind_one, exs, ex, ev, evs, evIt, get_0, get_1, get_2, get_3, get_4, get_5, get_6, get_7, get_8, get_9, get_10, get_11, get_12, get_13, setE_0, setE_1, setE_2, setE_3, setE_4, setE_5, setE_6, setE_7, setE_8, setE_9, setE_10, setE_11, setE_12, setE_13, d_sh, d_ow, v_sh, f_sh, f_ow, o_sh, o_ow, frz_nil, frz_cons, nxt_nx, nxt_rt, startE_nil, startE_cons, uns_0, uns_1, uns_2, uns_3, uns_4, uns_5, uns_6, uns_7, uns_8, uns_9, uns_10, uns_11, uns_12, fin_rt, fin_nx, bor_nil, bor_v, bor_dnil, bor_c, bor_vv, bor_fn, bor_add, bor_sub, bor_mul, bor_dv, bor_md, bor_neg, bor_not, bor_and, bor_or, bor_ite, bor_cmp, bor_tup, bor_lst, bor_idx, bor_sl, bor_call, bor_bi1, bor_bi2, bor_me1, bor_me2, bor_comp, bor_compIf, ent_f, Out.bind_val, Out.pure_val, Out.bind_bad, asB_bl, owned_ow, lstOf_lst, immIf_false, noExc_val, orBad_some, chk_true, Nat.reduceSub, Nat.reduceAdd, Bool.or_false, Bool.false_or, Bool.or_true, if_true, Bool.false_eq_true, if_false, e1]
    cases newerB c e <;> rfl
  simp -implicitDefEqProofs only [b_newer_eq, exs, ex, ev, evs, evIt, get_0, get_1, get_2, get_3, get_4, get_5, get_6, get_7, get_8, get_9, get_10, get_11, get_12, get_13, setE_0, setE_1, setE_2, setE_3, setE_4, setE_5, setE_6, setE_7, setE_8, setE_9, setE_10, setE_11, setE_12, setE_13, d_sh, d_ow, v_sh, f_sh, f_ow, o_sh, o_ow, frz_nil, frz_cons, nxt_nx, nxt_rt, startE_nil, startE_cons, uns_0, uns_1, uns_2, uns_3, uns_4, uns_5, uns_6, uns_7, uns_8, uns_9, uns_10, uns_11, uns_12, fin_rt, fin_nx, bor_nil, bor_v, bor_dnil, bor_c, bor_vv, bor_fn, bor_add, bor_sub, bor_mul, bor_dv, bor_md, bor_neg, bor_not, bor_and, bor_or, bor_ite, bor_cmp, bor_tup, bor_lst, bor_idx, bor_sl, bor_call, bor_bi1, bor_bi2, bor_me1, bor_me2, bor_comp, bor_compIf, ent_f, Out.bind_val, Out.pure_val, Out.bind_bad, asB_bl, owned_ow, lstOf_lst, immIf_false, noExc_val, orBad_some, chk_true, Nat.reduceSub, Nat.reduceAdd, Bool.or_false, Bool.false_or, Bool.or_true, if_true, Bool.false_eq_true, if_false, it_book, hm]

/-! ### the later clock -/
def laterF (a b : List Int) : List Int := (List.zip a b).map fun p => if p.2 > p.1 then p.2 else p.1
theorem zip_map : ∀ (a b : List Int), zipD (a.map .int) (b.map .int) = (List.zip a b).map fun p => D.tup [.int p.1, .int p.2]
  | [], _ => by simp [zipD]
  | _ :: _, [] => by simp [zipD]
  | x :: a, y :: b => by simp [zipD, zip_map a b]
def eb_later : E := match b_later_clock.body with
  | .cons (.ret (.bi1 _ (.comp e _ _ _)) _) _ => e
  | _ => .dnil
theorem b_later_eq : b_later_clock = ⟨2, 4, .cons (.ret (.bi1 .tuple (.comp eb_later (.many [2, 3]) [2, 3] (.zip (.v 0) (.v 1)))) []) .nil⟩ := rfl
theorem later_ev (h : T nLater = some b_later_clock) (a b : List Int) : evF T (n + 1) nLater [eCl a, eCl b] = .val (eCl (laterF a b)) := by
  rw [evF_run h rfl]
  have hz : zipQ (eCl a) (eCl b) = .val ((List.zip a b).map fun p => D.tup [.int p.1, .int p.2]) := by
    show Out.val (zipD (a.map .int) (b.map .int)) = _
    rw [zip_map]
  have hm : mapIfD (stepOf [2, 3] (.many [2, 3]) (fun _ => .val true) (fun δ' => ev (evF T n) eb_later δ') [.sh (eCl a), .sh (eCl b), .un, .un]) ((List.zip a b).map fun p => D.tup [.int p.1, .int p.2]) = .val ((List.zip a b).map fun p => D.int (if p.2 > p.1 then p.2 else p.1)) := mapAll_map fun p _ => by
    have e1 : bi2 .max2 (.int p.1) (.int p.2) = .val (.int (if p.2 > p.1 then p.2 else p.1)) := rfl
    unfold eb_later
    simp -implicitDefEqProofs only [b_later_clock, stepOf, wipe_nil, wipe_cons, bind_two, exs, ex, ev, evs, evIt, get_0, get_1, get_2, get_3, get_4, get_5, get_6, get_7, get_8, get_9, get_10, get_11, get_12, get_13, setE_0, setE_1, setE_2, setE_3, setE_4, setE_5, setE_6, setE_7, setE_8, setE_9, setE_10, setE_11, setE_12, setE_13, d_sh, d_ow, v_sh, f_sh, f_ow, o_sh, o_ow, frz_nil, frz_cons, nxt_nx, nxt_rt, startE_nil, startE_cons, uns_0, uns_1, uns_2, uns_3, uns_4, uns_5, uns_6, uns_7, uns_8, uns_9, uns_10, uns_11, uns_12, fin_rt, fin_nx, bor_nil, bor_v, bor_dnil, bor_c, bor_vv, bor_fn, bor_add, bor_sub, bor_mul, bor_dv, bor_md, bor_neg, bor_not, bor_and, bor_or, bor_ite, bor_cmp, bor_tup, bor_lst, bor_idx, bor_sl, bor_call, bor_bi1, bor_bi2, bor_me1, bor_me2, bor_comp, bor_compIf, ent_f, Out.bind_val, Out.pure_val, Out.bind_bad, asB_bl, owned_ow, lstOf_lst, immIf_false, noExc_val, orBad_some, chk_true, Nat.reduceSub, Nat.reduceAdd, Bool.or_false, Bool.false_or, Bool.or_true, if_true, Bool.false_eq_true, if_false, e1]
  simp -implicitDefEqProofs only [b_later_eq, exs, ex, ev, evs, evIt, get_0, get_1, get_2, get_3, get_4, get_5, get_6, get_7, get_8, get_9, get_10, get_11, get_12, get_13, setE_0, setE_1, setE_2, setE_3, setE_4, setE_5, setE_6, setE_7, setE_8, setE_9, setE_10, setE_11, setE_12, setE_13, d_sh, d_ow, v_sh, f_sh, f_ow, o_sh, o_ow, frz_nil, frz_cons, nxt_nx, nxt_rt, startE_nil, startE_cons, uns_0, uns_1, uns_2, uns_3, uns_4, uns_5, uns_6, uns_7, uns_8, uns_9, uns_10, uns_11, uns_12, fin_rt, fin_nx, bor_nil, bor_v, bor_dnil, bor_c, bor_vv, bor_fn, bor_add, bor_sub, bor_mul, bor_dv, bor_md, bor_neg, bor_not, bor_and, bor_or, bor_ite, bor_cmp, bor_tup, bor_lst, bor_idx, bor_sl, bor_call, bor_bi1, bor_bi2, bor_me1, bor_me2, bor_comp, bor_compIf, ent_f, Out.bind_val, Out.pure_val, Out.bind_bad, asB_bl, owned_ow, lstOf_lst, immIf_false, noExc_val, orBad_some, chk_true, Nat.reduceSub, Nat.reduceAdd, Bool.or_false, Bool.false_or, Bool.or_true, if_true, Bool.false_eq_true, if_false, hz, hm, tup_lst]
  unfold eCl laterF
  rw [List.map_map]
  rfl

/-! ### the clock of a book -/
def maxO : List Int → Int
  | [] => 0
  | x :: xs => maxI x xs
def timesF (b : List Deed) (h : Nat) : List Int := (b.filter fun d => d.id.2 == h).map fun d => d.id.1
def clockF (b : List Deed) : List Int := hL.map fun h => maxO (timesF b h)
theorem ints_of : ∀ l : List Int, intsOf (l.map .int) = some l
  | [] => rfl
  | a :: r => by simp [intsOf, ints_of r]
theorem maxd_ints (l : List Int) : bi2 .maxd (.lst (l.map .int)) (.int 0) = .val (.int (maxO l)) := by
  unfold bi2
  dsimp only
  rw [ints_of]
  cases l <;> rfl
theorem eq_hand (a c : Nat) : dCmp .eq (.str [a]) (.str [c]) = .val (a == c) := by
  show chk _ _ = _
  rw [show (D.ok (.str [a]) && D.ok (.str [c])) = true from rfl]
  show Out.val (D.eqv (.str [a]) (.str [c])) = _
  have : D.eqv (.str [a]) (.str [c]) = (a == c) := by
    show (([a] : List Nat) == [c]) = _
    simp
  rw [this]
def lb_clock : Ss := match b_clock_of.body with
  | .cons _ (.cons (.forS _ _ _ b) _) => b
  | _ => .nil
def ec_clock : E := match lb_clock with
  | .cons (.app _ (.bi2 _ (.compIf _ _ _ _ c) _)) _ => c
  | _ => .dnil
theorem b_clock_eq : b_clock_of = ⟨1, 4, .cons (.set 1 (.lst .nil) true []) (.cons (.forS (.one 2) (.e (.c (.str [97, 98, 99, 100, 101, 102, 103, 104]))) [] lb_clock) (.cons (.ret (.bi1 .tuple (.v 1)) []) .nil))⟩ := rfl
def eb_clock : E := match lb_clock with
  | .cons (.app _ (.bi2 _ (.compIf e _ _ _ _) _)) _ => e
  | _ => .dnil
theorem lb_clock_eq : lb_clock = .cons (.app 1 (.bi2 .maxd (.compIf eb_clock (.one 3) [3] (.e (.v 0)) ec_clock) (.c (.int 0)))) .nil := rfl
theorem times_map {g : D → Out (Option D)} (b : List Deed) (h : Nat) (hg : ∀ e ∈ b, g (eDeed e) = .val (if (e.id.2 == h) = true then some (.int e.id.1) else none)) : mapIfD g (b.map eDeed) = .val ((timesF b h).map .int) := by
  rw [mapIf_map (h := fun e : Deed => if (e.id.2 == h) = true then some (D.int e.id.1) else none) hg]
  congr 1
  unfold timesF
  rw [List.map_map, ← List.filterMap_eq_map', ← List.filterMap_eq_filter, List.filterMap_filterMap]
  congr 1
  funext e
  simp only [Option.guard]
  split <;> rfl
theorem clock_ev (h : T nClockOf = some b_clock_of) (b : List Deed) : evF T (n + 1) nClockOf [eBook b] = .val (eCl (clockF b)) := by
  rw [evF_run h rfl]
  have loop := forD_ex (enc := fun c : Nat => D.str [c]) (xs := hL) (P := fun r δ => ∃ (acc : List Int) (u2 : Ent), δ = [.sh (eBook b), .ow (.lst (acc.map .int)), u2, .un] ∧ acc ++ r.map (fun c => maxO (timesF b c)) = clockF b) (f := fun x δ => do
    let δ' ← bindT δ (.one 2) x
    exs (evF T n) lb_clock δ') (δ := [.sh (eBook b), .ow (.lst []), .un, .un]) ⟨[], .un, rfl, rfl⟩ (fun c r δ ⟨acc, u2, hδ, hacc⟩ => by
      subst hδ
      have hm : mapIfD (stepOf [3] (.one 3) (fun δ' => ev (evF T n) ec_clock δ' >>= asB) (fun δ' => ev (evF T n) eb_clock δ') [.sh (eBook b), .ow (.lst (acc.map .int)), .sh (.str [c]), .un]) (b.map eDeed) = .val ((timesF b c).map .int) := times_map b c fun e _ => by
        unfold ec_clock eb_clock
        simp -implicitDefEqProofs only [lb_clock_eq, lb_clock, b_clock_of, stepOf, wipe_nil, wipe_cons, bind_one, exs, ex, ev, evs, evIt, get_0, get_1, get_2, get_3, get_4, get_5, get_6, get_7, get_8, get_9, get_10, get_11, get_12, get_13, setE_0, setE_1, setE_2, setE_3, setE_4, setE_5, setE_6, setE_7, setE_8, setE_9, setE_10, setE_11, setE_12, setE_13, d_sh, d_ow, v_sh, f_sh, f_ow, o_sh, o_ow, frz_nil, frz_cons, nxt_nx, nxt_rt, startE_nil, startE_cons, uns_0, uns_1, uns_2, uns_3, uns_4, uns_5, uns_6, uns_7, uns_8, uns_9, uns_10, uns_11, uns_12, fin_rt, fin_nx, bor_nil, bor_v, bor_dnil, bor_c, bor_vv, bor_fn, bor_add, bor_sub, bor_mul, bor_dv, bor_md, bor_neg, bor_not, bor_and, bor_or, bor_ite, bor_cmp, bor_tup, bor_lst, bor_idx, bor_sl, bor_call, bor_bi1, bor_bi2, bor_me1, bor_me2, bor_comp, bor_compIf, ent_f, Out.bind_val, Out.pure_val, Out.bind_bad, asB_bl, owned_ow, lstOf_lst, immIf_false, noExc_val, orBad_some, chk_true, Nat.reduceSub, Nat.reduceAdd, Bool.or_false, Bool.false_or, Bool.or_true, if_true, Bool.false_eq_true, if_false, id_at, t_at, h_at, eq_hand]
        cases (e.id.2 == c) <;> rfl
      have hl : acc.length ≤ 8 := by
        have := congrArg List.length hacc
        simp [clockF, hL] at this
        omega
      have ha : dApp (.lst (acc.map .int)) (.int (maxO (timesF b c))) = .val (.lst ((acc ++ [maxO (timesF b c)]).map .int)) := by
        rw [app_lst (by simp; omega), List.map_append]
        rfl
      refine ⟨_, ?_, acc ++ [maxO (timesF b c)], .sh (.str [c]), rfl, ?_⟩
      · rw [lb_clock_eq]
        simp -implicitDefEqProofs only [exs, ex, ev, evs, evIt, get_0, get_1, get_2, get_3, get_4, get_5, get_6, get_7, get_8, get_9, get_10, get_11, get_12, get_13, setE_0, setE_1, setE_2, setE_3, setE_4, setE_5, setE_6, setE_7, setE_8, setE_9, setE_10, setE_11, setE_12, setE_13, d_sh, d_ow, v_sh, f_sh, f_ow, o_sh, o_ow, frz_nil, frz_cons, nxt_nx, nxt_rt, startE_nil, startE_cons, uns_0, uns_1, uns_2, uns_3, uns_4, uns_5, uns_6, uns_7, uns_8, uns_9, uns_10, uns_11, uns_12, fin_rt, fin_nx, bor_nil, bor_v, bor_dnil, bor_c, bor_vv, bor_fn, bor_add, bor_sub, bor_mul, bor_dv, bor_md, bor_neg, bor_not, bor_and, bor_or, bor_ite, bor_cmp, bor_tup, bor_lst, bor_idx, bor_sl, bor_call, bor_bi1, bor_bi2, bor_me1, bor_me2, bor_comp, bor_compIf, ent_f, Out.bind_val, Out.pure_val, Out.bind_bad, asB_bl, owned_ow, lstOf_lst, immIf_false, noExc_val, orBad_some, chk_true, Nat.reduceSub, Nat.reduceAdd, Bool.or_false, Bool.false_or, Bool.or_true, if_true, Bool.false_eq_true, if_false, bind_one, it_book, hm, maxd_ints, ha]
      · rw [← hacc]
        simp)
  obtain ⟨δ', l1, acc, u2, rfl, hacc⟩ := loop
  have hacc : acc = clockF b := by simpa using hacc
  subst hacc
  have l1' : forD (fun x δ => bindT δ (.one 2) x >>= fun δ' => exs (evF T n) lb_clock δ') (signs [97, 98, 99, 100, 101, 102, 103, 104]) [.sh (eBook b), .ow (.lst []), .un, .un] = _ := l1
  have hi : items (.str [97, 98, 99, 100, 101, 102, 103, 104]) = .val (signs [97, 98, 99, 100, 101, 102, 103, 104]) := rfl
  have he : entOf true (fresh (.lst .nil)) (.lst []) = .ow (.lst []) := rfl
  simp -implicitDefEqProofs only [b_clock_eq, exs, ex, ev, evs, evIt, get_0, get_1, get_2, get_3, get_4, get_5, get_6, get_7, get_8, get_9, get_10, get_11, get_12, get_13, setE_0, setE_1, setE_2, setE_3, setE_4, setE_5, setE_6, setE_7, setE_8, setE_9, setE_10, setE_11, setE_12, setE_13, d_sh, d_ow, v_sh, f_sh, f_ow, o_sh, o_ow, frz_nil, frz_cons, nxt_nx, nxt_rt, startE_nil, startE_cons, uns_0, uns_1, uns_2, uns_3, uns_4, uns_5, uns_6, uns_7, uns_8, uns_9, uns_10, uns_11, uns_12, fin_rt, fin_nx, bor_nil, bor_v, bor_dnil, bor_c, bor_vv, bor_fn, bor_add, bor_sub, bor_mul, bor_dv, bor_md, bor_neg, bor_not, bor_and, bor_or, bor_ite, bor_cmp, bor_tup, bor_lst, bor_idx, bor_sl, bor_call, bor_bi1, bor_bi2, bor_me1, bor_me2, bor_comp, bor_compIf, ent_f, Out.bind_val, Out.pure_val, Out.bind_bad, asB_bl, owned_ow, lstOf_lst, immIf_false, noExc_val, orBad_some, chk_true, Nat.reduceSub, Nat.reduceAdd, Bool.or_false, Bool.false_or, Bool.or_true, if_true, Bool.false_eq_true, if_false, he, hi, l1', tup_lst]
  rfl
end
end Py
end
section
set_option autoImplicit false
set_option linter.all false
set_option maxRecDepth 100000
set_option maxHeartbeats 4000000
/-! PzK: what a deed names. -/
namespace Py
abbrev nSignsNamed : Nm := [115, 105, 103, 110, 115, 95, 110, 97, 109, 101, 100]
abbrev nDeedsNamed : Nm := [100, 101, 101, 100, 115, 95, 110, 97, 109, 101, 100]
abbrev nLawNamed : Nm := [95, 108, 97, 119, 95, 110, 97, 109, 101, 100]
def sgn : Deed → List Sg
  | .add _ b _ => b.toList
  | .drop _ ss => ss
  | .mark _ _ a b => a.1.toList ++ b.1.toList
  | .unmark _ _ => []
  | .undo _ _ => []
def dnm (d : Deed) : List Idd := (sgn d).map (·.1) ++ (match d with
  | .undo _ o => [o]
  | _ => [])
theorem notN_os (b : Option Sg) : dCmp .notN (eOS b) .non = .val b.isSome := by cases b <;> rfl
theorem s_add : dCmp .eq (.str [97, 100, 100]) (.str [97, 100, 100]) = .val true := rfl
theorem s_da : dCmp .eq (.str [100, 114, 111, 112]) (.str [97, 100, 100]) = .val false := rfl
theorem s_dd : dCmp .eq (.str [100, 114, 111, 112]) (.str [100, 114, 111, 112]) = .val true := rfl
theorem s_ma : dCmp .eq (.str [109, 97, 114, 107]) (.str [97, 100, 100]) = .val false := rfl
theorem s_md : dCmp .eq (.str [109, 97, 114, 107]) (.str [100, 114, 111, 112]) = .val false := rfl
theorem s_mm : dCmp .eq (.str [109, 97, 114, 107]) (.str [109, 97, 114, 107]) = .val true := rfl
theorem s_ua : dCmp .eq (.str [117, 110, 109, 97, 114, 107]) (.str [97, 100, 100]) = .val false := rfl
theorem s_ud : dCmp .eq (.str [117, 110, 109, 97, 114, 107]) (.str [100, 114, 111, 112]) = .val false := rfl
theorem s_um : dCmp .eq (.str [117, 110, 109, 97, 114, 107]) (.str [109, 97, 114, 107]) = .val false := rfl
theorem s_oa : dCmp .eq (.str [117, 110, 100, 111]) (.str [97, 100, 100]) = .val false := rfl
theorem s_od : dCmp .eq (.str [117, 110, 100, 111]) (.str [100, 114, 111, 112]) = .val false := rfl
theorem s_om : dCmp .eq (.str [117, 110, 100, 111]) (.str [109, 97, 114, 107]) = .val false := rfl
theorem s_oo : dCmp .eq (.str [117, 110, 100, 111]) (.str [117, 110, 100, 111]) = .val true := rfl
theorem s_ao : dCmp .eq (.str [97, 100, 100]) (.str [117, 110, 100, 111]) = .val false := rfl
theorem s_do : dCmp .eq (.str [100, 114, 111, 112]) (.str [117, 110, 100, 111]) = .val false := rfl
theorem s_mo : dCmp .eq (.str [109, 97, 114, 107]) (.str [117, 110, 100, 111]) = .val false := rfl
theorem s_uo : dCmp .eq (.str [117, 110, 109, 97, 114, 107]) (.str [117, 110, 100, 111]) = .val false := rfl
theorem lst_tup (xs : List D) : bi1 .list (.tup xs) = .val (.lst xs) := rfl
section
variable {T : Tab} {n : Nat}
def lb_sn : E := match b_signs_named.body with
  | .cons _ (.cons _ (.cons (.ifS _ (.cons (.ret (.compIf e _ _ _ _) _) _) _) _)) => e
  | _ => .dnil
theorem signsNamed_ev (h : T nSignsNamed = some b_signs_named) (d : Deed) : evF T (n + 1) nSignsNamed [eDeed d] = .val (.lst ((sgn d).map eSg)) := by
  rw [evF_run h rfl]
  cases d with
  | add i b t =>
    have h0 : dIdx (eDeed (.add i b t)) (.int 0) = .val (.str [97, 100, 100]) := rfl
    have h2 : dIdx (eDeed (.add i b t)) (.int 2) = .val (eOS b) := rfl
    simp -implicitDefEqProofs only [b_signs_named, exs, ex, ev, evs, evIt, get_0, get_1, get_2, get_3, get_4, get_5, get_6, get_7, get_8, get_9, get_10, get_11, get_12, get_13, setE_0, setE_1, setE_2, setE_3, setE_4, setE_5, setE_6, setE_7, setE_8, setE_9, setE_10, setE_11, setE_12, setE_13, d_sh, d_ow, v_sh, f_sh, f_ow, o_sh, o_ow, frz_nil, frz_cons, nxt_nx, nxt_rt, startE_nil, startE_cons, uns_0, uns_1, uns_2, uns_3, uns_4, uns_5, uns_6, uns_7, uns_8, uns_9, uns_10, uns_11, uns_12, fin_rt, fin_nx, bor_nil, bor_v, bor_dnil, bor_c, bor_vv, bor_fn, bor_add, bor_sub, bor_mul, bor_dv, bor_md, bor_neg, bor_not, bor_and, bor_or, bor_ite, bor_cmp, bor_tup, bor_lst, bor_idx, bor_sl, bor_call, bor_bi1, bor_bi2, bor_me1, bor_me2, bor_comp, bor_compIf, ent_f, Out.bind_val, Out.pure_val, Out.bind_bad, asB_bl, owned_ow, lstOf_lst, immIf_false, noExc_val, orBad_some, chk_true, Nat.reduceSub, Nat.reduceAdd, Bool.or_false, Bool.false_or, Bool.or_true, if_true, Bool.false_eq_true, if_false, h0, h2, s_add, notN_os]
    cases b <;> rfl
  | drop i ss =>
    have h0 : dIdx (eDeed (.drop i ss)) (.int 0) = .val (.str [100, 114, 111, 112]) := rfl
    have h2 : dIdx (eDeed (.drop i ss)) (.int 2) = .val (.tup (ss.map eSg)) := rfl
    simp -implicitDefEqProofs only [b_signs_named, exs, ex, ev, evs, evIt, get_0, get_1, get_2, get_3, get_4, get_5, get_6, get_7, get_8, get_9, get_10, get_11, get_12, get_13, setE_0, setE_1, setE_2, setE_3, setE_4, setE_5, setE_6, setE_7, setE_8, setE_9, setE_10, setE_11, setE_12, setE_13, d_sh, d_ow, v_sh, f_sh, f_ow, o_sh, o_ow, frz_nil, frz_cons, nxt_nx, nxt_rt, startE_nil, startE_cons, uns_0, uns_1, uns_2, uns_3, uns_4, uns_5, uns_6, uns_7, uns_8, uns_9, uns_10, uns_11, uns_12, fin_rt, fin_nx, bor_nil, bor_v, bor_dnil, bor_c, bor_vv, bor_fn, bor_add, bor_sub, bor_mul, bor_dv, bor_md, bor_neg, bor_not, bor_and, bor_or, bor_ite, bor_cmp, bor_tup, bor_lst, bor_idx, bor_sl, bor_call, bor_bi1, bor_bi2, bor_me1, bor_me2, bor_comp, bor_compIf, ent_f, Out.bind_val, Out.pure_val, Out.bind_bad, asB_bl, owned_ow, lstOf_lst, immIf_false, noExc_val, orBad_some, chk_true, Nat.reduceSub, Nat.reduceAdd, Bool.or_false, Bool.false_or, Bool.or_true, if_true, Bool.false_eq_true, if_false, h0, h2, s_da, s_dd, lst_tup]
    rfl
  | mark i nm a b =>
    have h0 : dIdx (eDeed (.mark i nm a b)) (.int 0) = .val (.str [109, 97, 114, 107]) := rfl
    have h2 : dCut (eDeed (.mark i nm a b)) (some 3) none = .val (.tup [eAn a, eAn b]) := rfl
    have h3 : ∀ a : An, dIdx (eAn a) (.int 0) = .val (eOS a.1) := fun _ => rfl
    have hi : ∀ a b : An, items (.tup [eAn a, eAn b]) = .val [eAn a, eAn b] := fun _ _ => rfl
    simp -implicitDefEqProofs only [b_signs_named, exs, ex, ev, evs, evIt, get_0, get_1, get_2, get_3, get_4, get_5, get_6, get_7, get_8, get_9, get_10, get_11, get_12, get_13, setE_0, setE_1, setE_2, setE_3, setE_4, setE_5, setE_6, setE_7, setE_8, setE_9, setE_10, setE_11, setE_12, setE_13, d_sh, d_ow, v_sh, f_sh, f_ow, o_sh, o_ow, frz_nil, frz_cons, nxt_nx, nxt_rt, startE_nil, startE_cons, uns_0, uns_1, uns_2, uns_3, uns_4, uns_5, uns_6, uns_7, uns_8, uns_9, uns_10, uns_11, uns_12, fin_rt, fin_nx, bor_nil, bor_v, bor_dnil, bor_c, bor_vv, bor_fn, bor_add, bor_sub, bor_mul, bor_dv, bor_md, bor_neg, bor_not, bor_and, bor_or, bor_ite, bor_cmp, bor_tup, bor_lst, bor_idx, bor_sl, bor_call, bor_bi1, bor_bi2, bor_me1, bor_me2, bor_comp, bor_compIf, ent_f, Out.bind_val, Out.pure_val, Out.bind_bad, asB_bl, owned_ow, lstOf_lst, immIf_false, noExc_val, orBad_some, chk_true, Nat.reduceSub, Nat.reduceAdd, Bool.or_false, Bool.false_or, Bool.or_true, if_true, Bool.false_eq_true, if_false, h0, h2, s_ma, s_md, s_mm, bnd_int, bnd_non, hi, mapIfD, stepOf, wipe_nil, wipe_cons, bind_one, h3, notN_os]
    obtain ⟨a1, a2⟩ := a
    obtain ⟨b1, b2⟩ := b
    cases a1 <;> cases b1 <;> rfl
  | unmark i nm =>
    have h0 : dIdx (eDeed (.unmark i nm)) (.int 0) = .val (.str [117, 110, 109, 97, 114, 107]) := rfl
    simp -implicitDefEqProofs only [b_signs_named, exs, ex, ev, evs, evIt, get_0, get_1, get_2, get_3, get_4, get_5, get_6, get_7, get_8, get_9, get_10, get_11, get_12, get_13, setE_0, setE_1, setE_2, setE_3, setE_4, setE_5, setE_6, setE_7, setE_8, setE_9, setE_10, setE_11, setE_12, setE_13, d_sh, d_ow, v_sh, f_sh, f_ow, o_sh, o_ow, frz_nil, frz_cons, nxt_nx, nxt_rt, startE_nil, startE_cons, uns_0, uns_1, uns_2, uns_3, uns_4, uns_5, uns_6, uns_7, uns_8, uns_9, uns_10, uns_11, uns_12, fin_rt, fin_nx, bor_nil, bor_v, bor_dnil, bor_c, bor_vv, bor_fn, bor_add, bor_sub, bor_mul, bor_dv, bor_md, bor_neg, bor_not, bor_and, bor_or, bor_ite, bor_cmp, bor_tup, bor_lst, bor_idx, bor_sl, bor_call, bor_bi1, bor_bi2, bor_me1, bor_me2, bor_comp, bor_compIf, ent_f, Out.bind_val, Out.pure_val, Out.bind_bad, asB_bl, owned_ow, lstOf_lst, immIf_false, noExc_val, orBad_some, chk_true, Nat.reduceSub, Nat.reduceAdd, Bool.or_false, Bool.false_or, Bool.or_true, if_true, Bool.false_eq_true, if_false, h0, s_ua, s_ud, s_um]
    rfl
  | undo i o =>
    have h0 : dIdx (eDeed (.undo i o)) (.int 0) = .val (.str [117, 110, 100, 111]) := rfl
    simp -implicitDefEqProofs only [b_signs_named, exs, ex, ev, evs, evIt, get_0, get_1, get_2, get_3, get_4, get_5, get_6, get_7, get_8, get_9, get_10, get_11, get_12, get_13, setE_0, setE_1, setE_2, setE_3, setE_4, setE_5, setE_6, setE_7, setE_8, setE_9, setE_10, setE_11, setE_12, setE_13, d_sh, d_ow, v_sh, f_sh, f_ow, o_sh, o_ow, frz_nil, frz_cons, nxt_nx, nxt_rt, startE_nil, startE_cons, uns_0, uns_1, uns_2, uns_3, uns_4, uns_5, uns_6, uns_7, uns_8, uns_9, uns_10, uns_11, uns_12, fin_rt, fin_nx, bor_nil, bor_v, bor_dnil, bor_c, bor_vv, bor_fn, bor_add, bor_sub, bor_mul, bor_dv, bor_md, bor_neg, bor_not, bor_and, bor_or, bor_ite, bor_cmp, bor_tup, bor_lst, bor_idx, bor_sl, bor_call, bor_bi1, bor_bi2, bor_me1, bor_me2, bor_comp, bor_compIf, ent_f, Out.bind_val, Out.pure_val, Out.bind_bad, asB_bl, owned_ow, lstOf_lst, immIf_false, noExc_val, orBad_some, chk_true, Nat.reduceSub, Nat.reduceAdd, Bool.or_false, Bool.false_or, Bool.or_true, if_true, Bool.false_eq_true, if_false, h0, s_oa, s_od, s_om]
    rfl

def eb_dn : E := match b_deeds_named.body with
  | .cons (.set _ (.comp e _ _ _) _ _) _ => e
  | _ => .dnil
theorem b_dn_eq : b_deeds_named = ⟨1, 3, .cons (.set 1 (.comp eb_dn (.one 2) [2] (.e (.call nSignsNamed (.cons (.v 0) .nil)))) false []) (.cons (.ret (.ite (.cmp .eq (.idx (.v 0) (.c (.int 0))) (.c (.str [117, 110, 100, 111]))) (.add (.v 1) (.lst (.cons (.idx (.v 0) (.c (.int 2))) .nil))) (.vv 1)) []) .nil)⟩ := rfl
theorem sg_id (s : Sg) : dIdx (eSg s) (.int 0) = .val (eId s.1) := rfl
theorem sg_no2 (s : Sg) : dIdx (eSg s) (.int 1) = .val (.int s.2) := rfl
/-- the ids of signs, one by one -/
theorem ids_map {g : D → Out (Option D)} (ss : List Sg) (h : ∀ s, g (eSg s) = .val (some (eId s.1))) : mapIfD g (ss.map eSg) = .val ((ss.map (·.1)).map eId) := by
  rw [mapAll_map (h := fun s : Sg => eId s.1) fun s _ => h s, List.map_map]
  rfl
theorem tag_undo (d : Deed) : ∃ s, dIdx (eDeed d) (.int 0) = .val (.str s) ∧ dCmp .eq (.str s) (.str [117, 110, 100, 111]) = .val (match d with
    | .undo _ _ => true
    | _ => false) := by
  cases d <;> exact ⟨_, rfl, rfl⟩
theorem deedsNamed_ev (h1 : T nSignsNamed = some b_signs_named) (h : T nDeedsNamed = some b_deeds_named) (d : Deed) (hl : (sgn d).length ≤ 1000) : evF T (n + 2) nDeedsNamed [eDeed d] = .val (.lst ((dnm d).map eId)) := by
  rw [evF_run h rfl]
  have hs := signsNamed_ev (n := n) h1 d
  have hi : items (.lst ((sgn d).map eSg)) = .val ((sgn d).map eSg) := rfl
  have hm : mapIfD (stepOf [2] (.one 2) (fun _ => .val true) (fun δ' => ev (evF T (n + 1)) eb_dn δ') [.sh (eDeed d), .un, .un]) ((sgn d).map eSg) = .val (((sgn d).map (·.1)).map eId) := ids_map _ fun s => by
    unfold eb_dn
    simp -implicitDefEqProofs only [b_deeds_named, stepOf, wipe_nil, wipe_cons, bind_one, exs, ex, ev, evs, evIt, get_0, get_1, get_2, get_3, get_4, get_5, get_6, get_7, get_8, get_9, get_10, get_11, get_12, get_13, setE_0, setE_1, setE_2, setE_3, setE_4, setE_5, setE_6, setE_7, setE_8, setE_9, setE_10, setE_11, setE_12, setE_13, d_sh, d_ow, v_sh, f_sh, f_ow, o_sh, o_ow, frz_nil, frz_cons, nxt_nx, nxt_rt, startE_nil, startE_cons, uns_0, uns_1, uns_2, uns_3, uns_4, uns_5, uns_6, uns_7, uns_8, uns_9, uns_10, uns_11, uns_12, fin_rt, fin_nx, bor_nil, bor_v, bor_dnil, bor_c, bor_vv, bor_fn, bor_add, bor_sub, bor_mul, bor_dv, bor_md, bor_neg, bor_not, bor_and, bor_or, bor_ite, bor_cmp, bor_tup, bor_lst, bor_idx, bor_sl, bor_call, bor_bi1, bor_bi2, bor_me1, bor_me2, bor_comp, bor_compIf, ent_f, Out.bind_val, Out.pure_val, Out.bind_bad, asB_bl, owned_ow, lstOf_lst, immIf_false, noExc_val, orBad_some, chk_true, Nat.reduceSub, Nat.reduceAdd, Bool.or_false, Bool.false_or, Bool.or_true, if_true, Bool.false_eq_true, if_false, sg_id]
  obtain ⟨s, g0, g1⟩ := tag_undo d
  cases d with
  | undo i o =>
    have h2 : dIdx (eDeed (.undo i o)) (.int 2) = .val (eId o) := rfl
    have ha : dAdd (.lst (((sgn (.undo i o)).map (·.1)).map eId)) (.lst [eId o]) = .val (.lst ((dnm (.undo i o)).map eId)) := by
      rw [cat_lstZ (by simp [sgn])]
      simp [dnm]
    simp -implicitDefEqProofs only [b_dn_eq, exs, ex, ev, evs, evIt, get_0, get_1, get_2, get_3, get_4, get_5, get_6, get_7, get_8, get_9, get_10, get_11, get_12, get_13, setE_0, setE_1, setE_2, setE_3, setE_4, setE_5, setE_6, setE_7, setE_8, setE_9, setE_10, setE_11, setE_12, setE_13, d_sh, d_ow, v_sh, f_sh, f_ow, o_sh, o_ow, frz_nil, frz_cons, nxt_nx, nxt_rt, startE_nil, startE_cons, uns_0, uns_1, uns_2, uns_3, uns_4, uns_5, uns_6, uns_7, uns_8, uns_9, uns_10, uns_11, uns_12, fin_rt, fin_nx, bor_nil, bor_v, bor_dnil, bor_c, bor_vv, bor_fn, bor_add, bor_sub, bor_mul, bor_dv, bor_md, bor_neg, bor_not, bor_and, bor_or, bor_ite, bor_cmp, bor_tup, bor_lst, bor_idx, bor_sl, bor_call, bor_bi1, bor_bi2, bor_me1, bor_me2, bor_comp, bor_compIf, ent_f, Out.bind_val, Out.pure_val, Out.bind_bad, asB_bl, owned_ow, lstOf_lst, immIf_false, noExc_val, orBad_some, chk_true, Nat.reduceSub, Nat.reduceAdd, Bool.or_false, Bool.false_or, Bool.or_true, if_true, Bool.false_eq_true, if_false, hs, hi, hm, g0, g1, h2, ha]
  | add i b t =>
    simp -implicitDefEqProofs only [b_dn_eq, exs, ex, ev, evs, evIt, get_0, get_1, get_2, get_3, get_4, get_5, get_6, get_7, get_8, get_9, get_10, get_11, get_12, get_13, setE_0, setE_1, setE_2, setE_3, setE_4, setE_5, setE_6, setE_7, setE_8, setE_9, setE_10, setE_11, setE_12, setE_13, d_sh, d_ow, v_sh, f_sh, f_ow, o_sh, o_ow, frz_nil, frz_cons, nxt_nx, nxt_rt, startE_nil, startE_cons, uns_0, uns_1, uns_2, uns_3, uns_4, uns_5, uns_6, uns_7, uns_8, uns_9, uns_10, uns_11, uns_12, fin_rt, fin_nx, bor_nil, bor_v, bor_dnil, bor_c, bor_vv, bor_fn, bor_add, bor_sub, bor_mul, bor_dv, bor_md, bor_neg, bor_not, bor_and, bor_or, bor_ite, bor_cmp, bor_tup, bor_lst, bor_idx, bor_sl, bor_call, bor_bi1, bor_bi2, bor_me1, bor_me2, bor_comp, bor_compIf, ent_f, Out.bind_val, Out.pure_val, Out.bind_bad, asB_bl, owned_ow, lstOf_lst, immIf_false, noExc_val, orBad_some, chk_true, Nat.reduceSub, Nat.reduceAdd, Bool.or_false, Bool.false_or, Bool.or_true, if_true, Bool.false_eq_true, if_false, hs, hi, hm, g0, g1, dnm, List.append_nil]
  | drop i ss =>
    simp -implicitDefEqProofs only [b_dn_eq, exs, ex, ev, evs, evIt, get_0, get_1, get_2, get_3, get_4, get_5, get_6, get_7, get_8, get_9, get_10, get_11, get_12, get_13, setE_0, setE_1, setE_2, setE_3, setE_4, setE_5, setE_6, setE_7, setE_8, setE_9, setE_10, setE_11, setE_12, setE_13, d_sh, d_ow, v_sh, f_sh, f_ow, o_sh, o_ow, frz_nil, frz_cons, nxt_nx, nxt_rt, startE_nil, startE_cons, uns_0, uns_1, uns_2, uns_3, uns_4, uns_5, uns_6, uns_7, uns_8, uns_9, uns_10, uns_11, uns_12, fin_rt, fin_nx, bor_nil, bor_v, bor_dnil, bor_c, bor_vv, bor_fn, bor_add, bor_sub, bor_mul, bor_dv, bor_md, bor_neg, bor_not, bor_and, bor_or, bor_ite, bor_cmp, bor_tup, bor_lst, bor_idx, bor_sl, bor_call, bor_bi1, bor_bi2, bor_me1, bor_me2, bor_comp, bor_compIf, ent_f, Out.bind_val, Out.pure_val, Out.bind_bad, asB_bl, owned_ow, lstOf_lst, immIf_false, noExc_val, orBad_some, chk_true, Nat.reduceSub, Nat.reduceAdd, Bool.or_false, Bool.false_or, Bool.or_true, if_true, Bool.false_eq_true, if_false, hs, hi, hm, g0, g1, dnm, List.append_nil]
  | mark i nm a b =>
    simp -implicitDefEqProofs only [b_dn_eq, exs, ex, ev, evs, evIt, get_0, get_1, get_2, get_3, get_4, get_5, get_6, get_7, get_8, get_9, get_10, get_11, get_12, get_13, setE_0, setE_1, setE_2, setE_3, setE_4, setE_5, setE_6, setE_7, setE_8, setE_9, setE_10, setE_11, setE_12, setE_13, d_sh, d_ow, v_sh, f_sh, f_ow, o_sh, o_ow, frz_nil, frz_cons, nxt_nx, nxt_rt, startE_nil, startE_cons, uns_0, uns_1, uns_2, uns_3, uns_4, uns_5, uns_6, uns_7, uns_8, uns_9, uns_10, uns_11, uns_12, fin_rt, fin_nx, bor_nil, bor_v, bor_dnil, bor_c, bor_vv, bor_fn, bor_add, bor_sub, bor_mul, bor_dv, bor_md, bor_neg, bor_not, bor_and, bor_or, bor_ite, bor_cmp, bor_tup, bor_lst, bor_idx, bor_sl, bor_call, bor_bi1, bor_bi2, bor_me1, bor_me2, bor_comp, bor_compIf, ent_f, Out.bind_val, Out.pure_val, Out.bind_bad, asB_bl, owned_ow, lstOf_lst, immIf_false, noExc_val, orBad_some, chk_true, Nat.reduceSub, Nat.reduceAdd, Bool.or_false, Bool.false_or, Bool.or_true, if_true, Bool.false_eq_true, if_false, hs, hi, hm, g0, g1, dnm, List.append_nil]
  | unmark i nm =>
    simp -implicitDefEqProofs only [b_dn_eq, exs, ex, ev, evs, evIt, get_0, get_1, get_2, get_3, get_4, get_5, get_6, get_7, get_8, get_9, get_10, get_11, get_12, get_13, setE_0, setE_1, setE_2, setE_3, setE_4, setE_5, setE_6, setE_7, setE_8, setE_9, setE_10, setE_11, setE_12, setE_13, d_sh, d_ow, v_sh, f_sh, f_ow, o_sh, o_ow, frz_nil, frz_cons, nxt_nx, nxt_rt, startE_nil, startE_cons, uns_0, uns_1, uns_2, uns_3, uns_4, uns_5, uns_6, uns_7, uns_8, uns_9, uns_10, uns_11, uns_12, fin_rt, fin_nx, bor_nil, bor_v, bor_dnil, bor_c, bor_vv, bor_fn, bor_add, bor_sub, bor_mul, bor_dv, bor_md, bor_neg, bor_not, bor_and, bor_or, bor_ite, bor_cmp, bor_tup, bor_lst, bor_idx, bor_sl, bor_call, bor_bi1, bor_bi2, bor_me1, bor_me2, bor_comp, bor_compIf, ent_f, Out.bind_val, Out.pure_val, Out.bind_bad, asB_bl, owned_ow, lstOf_lst, immIf_false, noExc_val, orBad_some, chk_true, Nat.reduceSub, Nat.reduceAdd, Bool.or_false, Bool.false_or, Bool.or_true, if_true, Bool.false_eq_true, if_false, hs, hi, hm, g0, g1, dnm, List.append_nil]
theorem lawNamed_ev (h : T nLawNamed = some b_law_named) (d : Deed) : evF T (n + 1) nLawNamed [eDeed d] = .val (.lst ((dnm d).map eId)) := by
  rw [evF_run h rfl]
  cases d with
  | add i b t =>
    have h0 : dIdx (eDeed (.add i b t)) (.int 0) = .val (.str [97, 100, 100]) := rfl
    have h2 : dIdx (eDeed (.add i b t)) (.int 2) = .val (eOS b) := rfl
    cases b with
    | none =>
      simp -implicitDefEqProofs only [b_law_named, exs, ex, ev, evs, evIt, get_0, get_1, get_2, get_3, get_4, get_5, get_6, get_7, get_8, get_9, get_10, get_11, get_12, get_13, setE_0, setE_1, setE_2, setE_3, setE_4, setE_5, setE_6, setE_7, setE_8, setE_9, setE_10, setE_11, setE_12, setE_13, d_sh, d_ow, v_sh, f_sh, f_ow, o_sh, o_ow, frz_nil, frz_cons, nxt_nx, nxt_rt, startE_nil, startE_cons, uns_0, uns_1, uns_2, uns_3, uns_4, uns_5, uns_6, uns_7, uns_8, uns_9, uns_10, uns_11, uns_12, fin_rt, fin_nx, bor_nil, bor_v, bor_dnil, bor_c, bor_vv, bor_fn, bor_add, bor_sub, bor_mul, bor_dv, bor_md, bor_neg, bor_not, bor_and, bor_or, bor_ite, bor_cmp, bor_tup, bor_lst, bor_idx, bor_sl, bor_call, bor_bi1, bor_bi2, bor_me1, bor_me2, bor_comp, bor_compIf, ent_f, Out.bind_val, Out.pure_val, Out.bind_bad, asB_bl, owned_ow, lstOf_lst, immIf_false, noExc_val, orBad_some, chk_true, Nat.reduceSub, Nat.reduceAdd, Bool.or_false, Bool.false_or, Bool.or_true, if_true, Bool.false_eq_true, if_false, h0, h2, s_ao, s_add, notN_os, Option.isSome]
      rfl
    | some s =>
      have h3 : dIdx (eOS (some s)) (.int 0) = .val (eId s.1) := rfl
      simp -implicitDefEqProofs only [b_law_named, exs, ex, ev, evs, evIt, get_0, get_1, get_2, get_3, get_4, get_5, get_6, get_7, get_8, get_9, get_10, get_11, get_12, get_13, setE_0, setE_1, setE_2, setE_3, setE_4, setE_5, setE_6, setE_7, setE_8, setE_9, setE_10, setE_11, setE_12, setE_13, d_sh, d_ow, v_sh, f_sh, f_ow, o_sh, o_ow, frz_nil, frz_cons, nxt_nx, nxt_rt, startE_nil, startE_cons, uns_0, uns_1, uns_2, uns_3, uns_4, uns_5, uns_6, uns_7, uns_8, uns_9, uns_10, uns_11, uns_12, fin_rt, fin_nx, bor_nil, bor_v, bor_dnil, bor_c, bor_vv, bor_fn, bor_add, bor_sub, bor_mul, bor_dv, bor_md, bor_neg, bor_not, bor_and, bor_or, bor_ite, bor_cmp, bor_tup, bor_lst, bor_idx, bor_sl, bor_call, bor_bi1, bor_bi2, bor_me1, bor_me2, bor_comp, bor_compIf, ent_f, Out.bind_val, Out.pure_val, Out.bind_bad, asB_bl, owned_ow, lstOf_lst, immIf_false, noExc_val, orBad_some, chk_true, Nat.reduceSub, Nat.reduceAdd, Bool.or_false, Bool.false_or, Bool.or_true, if_true, Bool.false_eq_true, if_false, h0, h2, s_ao, s_add, notN_os, Option.isSome, h3]
      rfl
  | drop i ss =>
    have h0 : dIdx (eDeed (.drop i ss)) (.int 0) = .val (.str [100, 114, 111, 112]) := rfl
    have h2 : dIdx (eDeed (.drop i ss)) (.int 2) = .val (.tup (ss.map eSg)) := rfl
    have hi : items (.tup (ss.map eSg)) = .val (ss.map eSg) := rfl
    have hm : mapIfD (stepOf [2] (.one 2) (fun _ => .val true) (fun δ' => do
        let x ← (get δ' 2).d
        dIdx x (.int 0)) [.sh (eDeed (.drop i ss)), .un, .un]) (ss.map eSg) = .val ((ss.map (·.1)).map eId) := ids_map _ fun s => by
      simp -implicitDefEqProofs only [stepOf, wipe_nil, wipe_cons, bind_one, exs, ex, ev, evs, evIt, get_0, get_1, get_2, get_3, get_4, get_5, get_6, get_7, get_8, get_9, get_10, get_11, get_12, get_13, setE_0, setE_1, setE_2, setE_3, setE_4, setE_5, setE_6, setE_7, setE_8, setE_9, setE_10, setE_11, setE_12, setE_13, d_sh, d_ow, v_sh, f_sh, f_ow, o_sh, o_ow, frz_nil, frz_cons, nxt_nx, nxt_rt, startE_nil, startE_cons, uns_0, uns_1, uns_2, uns_3, uns_4, uns_5, uns_6, uns_7, uns_8, uns_9, uns_10, uns_11, uns_12, fin_rt, fin_nx, bor_nil, bor_v, bor_dnil, bor_c, bor_vv, bor_fn, bor_add, bor_sub, bor_mul, bor_dv, bor_md, bor_neg, bor_not, bor_and, bor_or, bor_ite, bor_cmp, bor_tup, bor_lst, bor_idx, bor_sl, bor_call, bor_bi1, bor_bi2, bor_me1, bor_me2, bor_comp, bor_compIf, ent_f, Out.bind_val, Out.pure_val, Out.bind_bad, asB_bl, owned_ow, lstOf_lst, immIf_false, noExc_val, orBad_some, chk_true, Nat.reduceSub, Nat.reduceAdd, Bool.or_false, Bool.false_or, Bool.or_true, if_true, Bool.false_eq_true, if_false, sg_id]
    simp -implicitDefEqProofs only [b_law_named, exs, ex, ev, evs, evIt, get_0, get_1, get_2, get_3, get_4, get_5, get_6, get_7, get_8, get_9, get_10, get_11, get_12, get_13, setE_0, setE_1, setE_2, setE_3, setE_4, setE_5, setE_6, setE_7, setE_8, setE_9, setE_10, setE_11, setE_12, setE_13, d_sh, d_ow, v_sh, f_sh, f_ow, o_sh, o_ow, frz_nil, frz_cons, nxt_nx, nxt_rt, startE_nil, startE_cons, uns_0, uns_1, uns_2, uns_3, uns_4, uns_5, uns_6, uns_7, uns_8, uns_9, uns_10, uns_11, uns_12, fin_rt, fin_nx, bor_nil, bor_v, bor_dnil, bor_c, bor_vv, bor_fn, bor_add, bor_sub, bor_mul, bor_dv, bor_md, bor_neg, bor_not, bor_and, bor_or, bor_ite, bor_cmp, bor_tup, bor_lst, bor_idx, bor_sl, bor_call, bor_bi1, bor_bi2, bor_me1, bor_me2, bor_comp, bor_compIf, ent_f, Out.bind_val, Out.pure_val, Out.bind_bad, asB_bl, owned_ow, lstOf_lst, immIf_false, noExc_val, orBad_some, chk_true, Nat.reduceSub, Nat.reduceAdd, Bool.or_false, Bool.false_or, Bool.or_true, if_true, Bool.false_eq_true, if_false, h0, h2, s_do, s_da, s_dd, hi, hm, dnm, sgn, List.append_nil]
  | mark i nm a b =>
    have h0 : dIdx (eDeed (.mark i nm a b)) (.int 0) = .val (.str [109, 97, 114, 107]) := rfl
    have h2 : dCut (eDeed (.mark i nm a b)) (some 3) none = .val (.tup [eAn a, eAn b]) := rfl
    have h3 : ∀ a : An, dIdx (eAn a) (.int 0) = .val (eOS a.1) := fun _ => rfl
    have h4 : ∀ s : Sg, dIdx (eOS (some s)) (.int 0) = .val (eId s.1) := fun _ => rfl
    have hi : ∀ a b : An, items (.tup [eAn a, eAn b]) = .val [eAn a, eAn b] := fun _ _ => rfl
    obtain ⟨a1, a2⟩ := a
    obtain ⟨b1, b2⟩ := b
    cases a1 <;> cases b1 <;> simp -implicitDefEqProofs only [b_law_named, exs, ex, ev, evs, evIt, get_0, get_1, get_2, get_3, get_4, get_5, get_6, get_7, get_8, get_9, get_10, get_11, get_12, get_13, setE_0, setE_1, setE_2, setE_3, setE_4, setE_5, setE_6, setE_7, setE_8, setE_9, setE_10, setE_11, setE_12, setE_13, d_sh, d_ow, v_sh, f_sh, f_ow, o_sh, o_ow, frz_nil, frz_cons, nxt_nx, nxt_rt, startE_nil, startE_cons, uns_0, uns_1, uns_2, uns_3, uns_4, uns_5, uns_6, uns_7, uns_8, uns_9, uns_10, uns_11, uns_12, fin_rt, fin_nx, bor_nil, bor_v, bor_dnil, bor_c, bor_vv, bor_fn, bor_add, bor_sub, bor_mul, bor_dv, bor_md, bor_neg, bor_not, bor_and, bor_or, bor_ite, bor_cmp, bor_tup, bor_lst, bor_idx, bor_sl, bor_call, bor_bi1, bor_bi2, bor_me1, bor_me2, bor_comp, bor_compIf, ent_f, Out.bind_val, Out.pure_val, Out.bind_bad, asB_bl, owned_ow, lstOf_lst, immIf_false, noExc_val, orBad_some, chk_true, Nat.reduceSub, Nat.reduceAdd, Bool.or_false, Bool.false_or, Bool.or_true, if_true, Bool.false_eq_true, if_false, h0, h2, s_mo, s_ma, s_md, bnd_int, bnd_non, hi, mapIfD, stepOf, wipe_nil, wipe_cons, bind_one, h3, h4, notN_os, Option.isSome] <;> rfl
  | unmark i nm =>
    have h0 : dIdx (eDeed (.unmark i nm)) (.int 0) = .val (.str [117, 110, 109, 97, 114, 107]) := rfl
    have h2 : dCut (eDeed (.unmark i nm)) (some 3) none = .val (.tup []) := rfl
    have hi : items (.tup []) = .val [] := rfl
    simp -implicitDefEqProofs only [b_law_named, exs, ex, ev, evs, evIt, get_0, get_1, get_2, get_3, get_4, get_5, get_6, get_7, get_8, get_9, get_10, get_11, get_12, get_13, setE_0, setE_1, setE_2, setE_3, setE_4, setE_5, setE_6, setE_7, setE_8, setE_9, setE_10, setE_11, setE_12, setE_13, d_sh, d_ow, v_sh, f_sh, f_ow, o_sh, o_ow, frz_nil, frz_cons, nxt_nx, nxt_rt, startE_nil, startE_cons, uns_0, uns_1, uns_2, uns_3, uns_4, uns_5, uns_6, uns_7, uns_8, uns_9, uns_10, uns_11, uns_12, fin_rt, fin_nx, bor_nil, bor_v, bor_dnil, bor_c, bor_vv, bor_fn, bor_add, bor_sub, bor_mul, bor_dv, bor_md, bor_neg, bor_not, bor_and, bor_or, bor_ite, bor_cmp, bor_tup, bor_lst, bor_idx, bor_sl, bor_call, bor_bi1, bor_bi2, bor_me1, bor_me2, bor_comp, bor_compIf, ent_f, Out.bind_val, Out.pure_val, Out.bind_bad, asB_bl, owned_ow, lstOf_lst, immIf_false, noExc_val, orBad_some, chk_true, Nat.reduceSub, Nat.reduceAdd, Bool.or_false, Bool.false_or, Bool.or_true, if_true, Bool.false_eq_true, if_false, h0, h2, s_uo, s_ua, s_ud, bnd_int, bnd_non, hi, mapIfD]
    rfl
  | undo i o =>
    have h0 : dIdx (eDeed (.undo i o)) (.int 0) = .val (.str [117, 110, 100, 111]) := rfl
    have h2 : dIdx (eDeed (.undo i o)) (.int 2) = .val (eId o) := rfl
    simp -implicitDefEqProofs only [b_law_named, exs, ex, ev, evs, evIt, get_0, get_1, get_2, get_3, get_4, get_5, get_6, get_7, get_8, get_9, get_10, get_11, get_12, get_13, setE_0, setE_1, setE_2, setE_3, setE_4, setE_5, setE_6, setE_7, setE_8, setE_9, setE_10, setE_11, setE_12, setE_13, d_sh, d_ow, v_sh, f_sh, f_ow, o_sh, o_ow, frz_nil, frz_cons, nxt_nx, nxt_rt, startE_nil, startE_cons, uns_0, uns_1, uns_2, uns_3, uns_4, uns_5, uns_6, uns_7, uns_8, uns_9, uns_10, uns_11, uns_12, fin_rt, fin_nx, bor_nil, bor_v, bor_dnil, bor_c, bor_vv, bor_fn, bor_add, bor_sub, bor_mul, bor_dv, bor_md, bor_neg, bor_not, bor_and, bor_or, bor_ite, bor_cmp, bor_tup, bor_lst, bor_idx, bor_sl, bor_call, bor_bi1, bor_bi2, bor_me1, bor_me2, bor_comp, bor_compIf, ent_f, Out.bind_val, Out.pure_val, Out.bind_bad, asB_bl, owned_ow, lstOf_lst, immIf_false, noExc_val, orBad_some, chk_true, Nat.reduceSub, Nat.reduceAdd, Bool.or_false, Bool.false_or, Bool.or_true, if_true, Bool.false_eq_true, if_false, h0, h2, s_oo]
    rfl
end
end Py
end
section
set_option autoImplicit false
set_option linter.all false
set_option maxRecDepth 100000
set_option maxHeartbeats 4000000
/-! PzL: deeds by their ids; whether a deed names what is there. -/
namespace Py
abbrev nNamesRight : Nm := [110, 97, 109, 101, 115, 95, 114, 105, 103, 104, 116]
def kvsF (K : List Deed) : List (D × D) := K.map fun d => (eId d.id, eDeed d)
def inB (K : List Deed) (i : Idd) : Bool := decide (i ∈ K.map Deed.id)
theorem id_eqv (a b : Idd) : D.eqv (eId a) (eId b) = decide (a = b) := by
  obtain ⟨a1, a2⟩ := a
  obtain ⟨b1, b2⟩ := b
  simp only [eId, D.eqv, D.eqvAll, Bool.and_true, Prod.mk.injEq]
  by_cases h1 : a1 = b1 <;> by_cases h2 : a2 = b2 <;> simp [h1, h2]
theorem look_kvs : ∀ (K : List Deed) (i : Idd), look (kvsF K) (eId i) = (K.find? fun d => decide (d.id = i)).map eDeed
  | [], _ => rfl
  | d :: r, i => by
    show (if D.eqv (eId d.id) (eId i) = true then some (eDeed d) else look (kvsF r) (eId i)) = _
    rw [id_eqv, look_kvs r i, List.find?_cons]
    by_cases h : d.id = i <;> simp [h]
theorem find_in (K : List Deed) (i : Idd) : (K.find? fun d => decide (d.id = i)).isSome = inB K i := by
  unfold inB
  rw [Bool.eq_iff_iff]
  simp
theorem nmem_kvs (K : List Deed) (i : Idd) : dCmp .nmem (eId i) (.dct (kvsF K)) = .val (!inB K i) := by
  have h : dMem (eId i) (.dct (kvsF K)) = .val (inB K i) := by
    show chk (D.hkey (eId i)) _ = _
    rw [show D.hkey (eId i) = true from rfl, chk_true, look_kvs, Option.isSome_map, find_in]
  unfold dCmp
  dsimp only
  rw [h]
theorem mem_kvs (K : List Deed) (i : Idd) : dCmp .mem (eId i) (.dct (kvsF K)) = .val (inB K i) := by
  show chk (D.hkey (eId i)) _ = _
  rw [show D.hkey (eId i) = true from rfl, chk_true, look_kvs, Option.isSome_map, find_in]
theorem idx_kvs {K : List Deed} {i : Idd} {e : Deed} (h : (K.find? fun d => decide (d.id = i)) = some e) : dIdx (.dct (kvsF K)) (eId i) = .val (eDeed e) := by
  show (if D.hkey (eId i) = true then orBad (look (kvsF K) (eId i)) else .bad) = _
  rw [show D.hkey (eId i) = true from rfl, if_pos rfl, look_kvs, h]
  rfl
theorem ge_int (i j : Int) : dCmp .ge (.int i) (.int j) = .val (!decide (i < j)) := rfl
def lb_nr : Ss := match b_names_right.body with
  | .cons (.forS _ _ _ b) _ => b
  | _ => .nil
def eb_nr : E := match b_names_right.body with
  | .cons _ (.cons (.ret (.bi1 _ (.comp e _ _ _)) _) _) => e
  | _ => .dnil
theorem b_nr_eq : b_names_right = ⟨2, 3, .cons (.forS (.one 2) (.e (.call nSignsNamed (.cons (.v 0) .nil))) [] lb_nr) (.cons (.ret (.bi1 .all (.comp eb_nr (.one 2) [2] (.e (.call nDeedsNamed (.cons (.v 0) .nil))))) []) .nil)⟩ := rfl
section
variable {T : Tab} {n : Nat}
/-- each sign's deed that is there is one that adds it -/
def Right (K : List Deed) (ss : List Sg) : Prop := ∀ s ∈ ss, ∀ e ∈ K, e.id = s.1 → ∃ i b t, e = .add i b t ∧ s.2 < t.length
theorem nr_step (F : Nm → List D → Out D) (dd : D) (u : Ent) {K : List Deed} {s : Sg} (hr : ∀ e ∈ K, e.id = s.1 → ∃ i b t, e = .add i b t ∧ s.2 < t.length) :
    (bindT [.sh dd, .sh (.dct (kvsF K)), u] (.one 2) (eSg s) >>= fun δ' => exs F lb_nr δ') = if inB K s.1 = true then .val (.nx, [.sh dd, .sh (.dct (kvsF K)), .sh (eSg s)]) else .val (.rt (.bl false), [.sh dd, .sh (.dct (kvsF K)), .sh (eSg s)]) := by
  have hn := nmem_kvs K s.1
  cases hi : inB K s.1 with
  | false =>
    rw [hi] at hn
    simp -implicitDefEqProofs only [lb_nr, b_names_right, exs, ex, ev, evs, evIt, get_0, get_1, get_2, get_3, get_4, get_5, get_6, get_7, get_8, get_9, get_10, get_11, get_12, get_13, setE_0, setE_1, setE_2, setE_3, setE_4, setE_5, setE_6, setE_7, setE_8, setE_9, setE_10, setE_11, setE_12, setE_13, d_sh, d_ow, v_sh, f_sh, f_ow, o_sh, o_ow, frz_nil, frz_cons, nxt_nx, nxt_rt, startE_nil, startE_cons, uns_0, uns_1, uns_2, uns_3, uns_4, uns_5, uns_6, uns_7, uns_8, uns_9, uns_10, uns_11, uns_12, fin_rt, fin_nx, bor_nil, bor_v, bor_dnil, bor_c, bor_vv, bor_fn, bor_add, bor_sub, bor_mul, bor_dv, bor_md, bor_neg, bor_not, bor_and, bor_or, bor_ite, bor_cmp, bor_tup, bor_lst, bor_idx, bor_sl, bor_call, bor_bi1, bor_bi2, bor_me1, bor_me2, bor_comp, bor_compIf, ent_f, Out.bind_val, Out.pure_val, Out.bind_bad, asB_bl, owned_ow, lstOf_lst, immIf_false, noExc_val, orBad_some, chk_true, Nat.reduceSub, Nat.reduceAdd, Bool.or_false, Bool.false_or, Bool.or_true, if_true, Bool.false_eq_true, if_false, bind_one, sg_id, hn, Bool.not_false]
  | true =>
    rw [hi] at hn
    have hs : (K.find? fun d => decide (d.id = s.1)).isSome = true := by rw [find_in, hi]
    obtain ⟨e, he⟩ := Option.isSome_iff_exists.mp hs
    have hid : e.id = s.1 := by simpa using List.find?_some he
    obtain ⟨i, b, t, rfl, hlt⟩ := hr e (List.mem_of_find?_eq_some he) hid
    have h1 := idx_kvs he
    have h0 : dIdx (eDeed (.add i b t)) (.int 0) = .val (.str [97, 100, 100]) := rfl
    have h3 : dIdx (eDeed (.add i b t)) (.int 3) = .val (.str t) := rfl
    have hne : dCmp .ne (.str [97, 100, 100]) (.str [97, 100, 100]) = .val false := rfl
    have hlen : bi1 .len (.str t) = .val (.int t.length) := rfl
    simp -implicitDefEqProofs only [lb_nr, b_names_right, exs, ex, ev, evs, evIt, get_0, get_1, get_2, get_3, get_4, get_5, get_6, get_7, get_8, get_9, get_10, get_11, get_12, get_13, setE_0, setE_1, setE_2, setE_3, setE_4, setE_5, setE_6, setE_7, setE_8, setE_9, setE_10, setE_11, setE_12, setE_13, d_sh, d_ow, v_sh, f_sh, f_ow, o_sh, o_ow, frz_nil, frz_cons, nxt_nx, nxt_rt, startE_nil, startE_cons, uns_0, uns_1, uns_2, uns_3, uns_4, uns_5, uns_6, uns_7, uns_8, uns_9, uns_10, uns_11, uns_12, fin_rt, fin_nx, bor_nil, bor_v, bor_dnil, bor_c, bor_vv, bor_fn, bor_add, bor_sub, bor_mul, bor_dv, bor_md, bor_neg, bor_not, bor_and, bor_or, bor_ite, bor_cmp, bor_tup, bor_lst, bor_idx, bor_sl, bor_call, bor_bi1, bor_bi2, bor_me1, bor_me2, bor_comp, bor_compIf, ent_f, Out.bind_val, Out.pure_val, Out.bind_bad, asB_bl, owned_ow, lstOf_lst, immIf_false, noExc_val, orBad_some, chk_true, Nat.reduceSub, Nat.reduceAdd, Bool.or_false, Bool.false_or, Bool.or_true, if_true, Bool.false_eq_true, if_false, bind_one, sg_id, sg_no2, hn, Bool.not_true, h1, h0, hne, h3, hlen, ge_int, hlt, decide_true]
theorem nr_loop (F : Nm → List D → Out D) (dd : D) {K : List Deed} : ∀ (ss : List Sg) (u : Ent), Right K ss → ∃ u', forD (fun x δ => bindT δ (.one 2) x >>= fun δ' => exs F lb_nr δ') (ss.map eSg) [.sh dd, .sh (.dct (kvsF K)), u] =
    if (ss.all fun s => inB K s.1) = true then .val (.nx, [.sh dd, .sh (.dct (kvsF K)), u']) else .val (.rt (.bl false), [.sh dd, .sh (.dct (kvsF K)), u'])
  | [], u, _ => ⟨u, rfl⟩
  | s :: r, u, h => by
    have st := nr_step F dd u (h s List.mem_cons_self)
    rw [List.map_cons, forD, st]
    cases hi : inB K s.1 with
    | false =>
      refine ⟨.sh (eSg s), ?_⟩
      simp [hi, nxt]
    | true =>
      obtain ⟨u', hu⟩ := nr_loop F dd r (.sh (eSg s)) fun s hs => h s (List.mem_cons_of_mem _ hs)
      refine ⟨u', ?_⟩
      rw [if_pos rfl, Out.bind_val, nxt_nx, hu, List.all_cons, hi, Bool.true_and]
theorem bools_of : ∀ l : List Bool, bools (l.map .bl) = some l
  | [] => rfl
  | a :: r => by simp [bools, bools_of r]
theorem namesRight_ev (h1 : T nSignsNamed = some b_signs_named) (h2 : T nDeedsNamed = some b_deeds_named) (h : T nNamesRight = some b_names_right) (d : Deed) (K : List Deed) (hl : (sgn d).length ≤ 1000) (hr : Right K (sgn d)) :
    evF T (n + 3) nNamesRight [eDeed d, .dct (kvsF K)] = .val (.bl ((dnm d).all (inB K))) := by
  rw [evF_run h rfl]
  have hs := signsNamed_ev (n := n + 1) h1 d
  have hd := deedsNamed_ev (n := n) h1 h2 d hl
  have hi : items (.lst ((sgn d).map eSg)) = .val ((sgn d).map eSg) := rfl
  have hi2 : items (.lst ((dnm d).map eId)) = .val ((dnm d).map eId) := rfl
  obtain ⟨u', lp⟩ := nr_loop (evF T (n + 2)) (eDeed d) (K := K) (sgn d) .un hr
  by_cases ha : ((sgn d).all fun s => inB K s.1) = true
  · rw [if_pos ha] at lp
    have hm : mapIfD (stepOf [2] (.one 2) (fun _ => .val true) (fun δ' => ev (evF T (n + 2)) eb_nr δ') [.sh (eDeed d), .sh (.dct (kvsF K)), u']) ((dnm d).map eId) = .val (((dnm d).map (inB K)).map .bl) := by
      rw [mapAll_map (h := fun i : Idd => D.bl (inB K i)) fun i _ => by
        unfold eb_nr
        simp -implicitDefEqProofs only [b_names_right, stepOf, wipe_nil, wipe_cons, bind_one, exs, ex, ev, evs, evIt, get_0, get_1, get_2, get_3, get_4, get_5, get_6, get_7, get_8, get_9, get_10, get_11, get_12, get_13, setE_0, setE_1, setE_2, setE_3, setE_4, setE_5, setE_6, setE_7, setE_8, setE_9, setE_10, setE_11, setE_12, setE_13, d_sh, d_ow, v_sh, f_sh, f_ow, o_sh, o_ow, frz_nil, frz_cons, nxt_nx, nxt_rt, startE_nil, startE_cons, uns_0, uns_1, uns_2, uns_3, uns_4, uns_5, uns_6, uns_7, uns_8, uns_9, uns_10, uns_11, uns_12, fin_rt, fin_nx, bor_nil, bor_v, bor_dnil, bor_c, bor_vv, bor_fn, bor_add, bor_sub, bor_mul, bor_dv, bor_md, bor_neg, bor_not, bor_and, bor_or, bor_ite, bor_cmp, bor_tup, bor_lst, bor_idx, bor_sl, bor_call, bor_bi1, bor_bi2, bor_me1, bor_me2, bor_comp, bor_compIf, ent_f, Out.bind_val, Out.pure_val, Out.bind_bad, asB_bl, owned_ow, lstOf_lst, immIf_false, noExc_val, orBad_some, chk_true, Nat.reduceSub, Nat.reduceAdd, Bool.or_false, Bool.false_or, Bool.or_true, if_true, Bool.false_eq_true, if_false, mem_kvs], List.map_map]
      rfl
    have hb : bi1 .all (.lst (((dnm d).map (inB K)).map .bl)) = .val (.bl ((dnm d).all (inB K))) := by
      unfold bi1
      dsimp only
      rw [bools_of]
      simp [List.all_map, Function.comp_def]
    simp -implicitDefEqProofs only [b_nr_eq, exs, ex, ev, evs, evIt, get_0, get_1, get_2, get_3, get_4, get_5, get_6, get_7, get_8, get_9, get_10, get_11, get_12, get_13, setE_0, setE_1, setE_2, setE_3, setE_4, setE_5, setE_6, setE_7, setE_8, setE_9, setE_10, setE_11, setE_12, setE_13, d_sh, d_ow, v_sh, f_sh, f_ow, o_sh, o_ow, frz_nil, frz_cons, nxt_nx, nxt_rt, startE_nil, startE_cons, uns_0, uns_1, uns_2, uns_3, uns_4, uns_5, uns_6, uns_7, uns_8, uns_9, uns_10, uns_11, uns_12, fin_rt, fin_nx, bor_nil, bor_v, bor_dnil, bor_c, bor_vv, bor_fn, bor_add, bor_sub, bor_mul, bor_dv, bor_md, bor_neg, bor_not, bor_and, bor_or, bor_ite, bor_cmp, bor_tup, bor_lst, bor_idx, bor_sl, bor_call, bor_bi1, bor_bi2, bor_me1, bor_me2, bor_comp, bor_compIf, ent_f, Out.bind_val, Out.pure_val, Out.bind_bad, asB_bl, owned_ow, lstOf_lst, immIf_false, noExc_val, orBad_some, chk_true, Nat.reduceSub, Nat.reduceAdd, Bool.or_false, Bool.false_or, Bool.or_true, if_true, Bool.false_eq_true, if_false, hs, hi, lp, hd, hi2, hm, hb]
  · rw [if_neg ha] at lp
    have hf : (dnm d).all (inB K) = false := by
      rw [Bool.eq_false_iff]
      intro z
      apply ha
      rw [List.all_eq_true] at z ⊢
      intro s hs
      exact z s.1 (by unfold dnm; exact List.mem_append_left _ (List.mem_map_of_mem hs))
    simp -implicitDefEqProofs only [b_nr_eq, exs, ex, ev, evs, evIt, get_0, get_1, get_2, get_3, get_4, get_5, get_6, get_7, get_8, get_9, get_10, get_11, get_12, get_13, setE_0, setE_1, setE_2, setE_3, setE_4, setE_5, setE_6, setE_7, setE_8, setE_9, setE_10, setE_11, setE_12, setE_13, d_sh, d_ow, v_sh, f_sh, f_ow, o_sh, o_ow, frz_nil, frz_cons, nxt_nx, nxt_rt, startE_nil, startE_cons, uns_0, uns_1, uns_2, uns_3, uns_4, uns_5, uns_6, uns_7, uns_8, uns_9, uns_10, uns_11, uns_12, fin_rt, fin_nx, bor_nil, bor_v, bor_dnil, bor_c, bor_vv, bor_fn, bor_add, bor_sub, bor_mul, bor_dv, bor_md, bor_neg, bor_not, bor_and, bor_or, bor_ite, bor_cmp, bor_tup, bor_lst, bor_idx, bor_sl, bor_call, bor_bi1, bor_bi2, bor_me1, bor_me2, bor_comp, bor_compIf, ent_f, Out.bind_val, Out.pure_val, Out.bind_bad, asB_bl, owned_ow, lstOf_lst, immIf_false, noExc_val, orBad_some, chk_true, Nat.reduceSub, Nat.reduceAdd, Bool.or_false, Bool.false_or, Bool.or_true, if_true, Bool.false_eq_true, if_false, hs, hi, lp, hf]
end
end Py
end
section
set_option autoImplicit false
set_option linter.all false
set_option maxRecDepth 100000
set_option maxHeartbeats 4000000
/-! PzM: a book up to a clock. -/
namespace Py
abbrev nKeptTo : Nm := [107, 101, 112, 116, 95, 116, 111]
theorem idLt_irr (a : Idd) : ¬ idLt a a := by unfold idLt; omega
theorem ids_inj {b : List Deed} (h : b.Pairwise fun x y => idLt x.id y.id) : ∀ e ∈ b, ∀ e' ∈ b, e.id = e'.id → e = e' := by
  induction b with
  | nil => intro e he; cases he
  | cons d r ih =>
    obtain ⟨h1, h2⟩ := List.pairwise_cons.mp h
    intro e he e' he' hid
    rcases List.mem_cons.mp he with e1 | he1
    · rcases List.mem_cons.mp he' with e2 | he2
      · rw [e1, e2]
      · subst e1; exact absurd (h1 e' he2) (by rw [hid]; exact idLt_irr _)
    · rcases List.mem_cons.mp he' with e2 | he2
      · subst e2; exact absurd (h1 e he1) (by rw [hid]; exact idLt_irr _)
      · exact ih h2 e he1 e' he2 hid
theorem mem_signs {b : List Deed} {s : Sg} (h : s ∈ signsF b) : ∃ i bb t, Deed.add i bb t ∈ b ∧ s.1 = i ∧ s.2 < t.length := by
  obtain ⟨e, he, hs⟩ := List.mem_flatMap.mp h
  cases e with
  | add i bb t =>
    simp only [signs1, List.mem_map, List.mem_range] at hs
    obtain ⟨k, hk, rfl⟩ := hs
    exact ⟨i, bb, t, he, rfl, by simp only; omega⟩
  | _ => cases hs
theorem Dv.sgn {known : List Deed} {names : List (List Nat)} {one : Idd} {d : Deed} (h : Dv known names one d) : ∀ s ∈ sgn d, s ∈ signsF known := by
  intro s hs
  cases d with
  | add i b t =>
    have : b = some s := by simpa [Py.sgn] using hs
    exact h.2.1 s this
  | drop i ss => exact h.2.2.subset hs
  | mark i nm a b =>
    simp only [Py.sgn, List.mem_append, Option.mem_toList] at hs
    rcases hs with hs | hs
    · exact h.2.2.1.1 s hs
    · exact h.2.2.2.1 s hs
  | unmark i nm => cases hs
  | undo i o => cases hs
theorem Bk.right {names : List (List Nat)} {b K : List Deed} {d : Deed} (h : Bk names b) (hd : d ∈ b) (hK : ∀ e ∈ K, e ∈ b) : Right K (sgn d) := by
  intro s hs e he hid
  obtain ⟨i, bb, t, h1, h2, h3⟩ := mem_signs ((h.fits d hd).sgn s hs)
  have hb := (List.mem_filter.mp h1).1
  have : e = .add i bb t := ids_inj h.up e (hK e he) _ hb (by rw [hid, h2]; rfl)
  exact ⟨i, bb, t, this, h3⟩
theorem Bk.sgn_len {names : List (List Nat)} {b : List Deed} {d : Deed} (h : Bk names b) (hd : d ∈ b) (hl : b.length ≤ 50) : (sgn d).length ≤ 1000 := by
  have hf := h.fits d hd
  have hs : Short (b.filter fun e => decide (e.id.1 < d.id.1)) := fun e he => h.short e (List.mem_filter.mp he).1
  have h1 := signsF_len hs
  have h2 := List.length_filter_le (fun e : Deed => decide (e.id.1 < d.id.1)) b
  cases d with
  | add i bb t => cases bb <;> simp [sgn]
  | drop i ss =>
    have := hf.2.2.length_le
    show ss.length ≤ 1000
    omega
  | mark i nm a c =>
    obtain ⟨a1, a2⟩ := a
    obtain ⟨c1, c2⟩ := c
    cases a1 <;> cases c1 <;> simp [sgn]
  | unmark i nm => simp [sgn]
  | undo i o => simp [sgn]
def stepK (c : List Int) (K : List Deed) (d : Deed) : List Deed := if (!newerB c d && (dnm d).all (inB K)) = true then K ++ [d] else K
def keptF (c : List Int) (b : List Deed) : List Deed := b.foldl (stepK c) []
theorem put_newZ (K : List Deed) (d : Deed) (h : ∀ e ∈ K, e.id ≠ d.id) : put (kvsF K) (eId d.id) (eDeed d) = kvsF (K ++ [d]) := by
  induction K with
  | nil => rfl
  | cons e r ih =>
    show (if D.eqv (eId e.id) (eId d.id) = true then _ else (eId e.id, eDeed e) :: put (kvsF r) (eId d.id) (eDeed d)) = _
    rw [id_eqv, ih fun x hx => h x (List.mem_cons_of_mem _ hx)]
    have := h e List.mem_cons_self
    simp [this, kvsF]
theorem set_kvs {K : List Deed} {d : Deed} (h : ∀ e ∈ K, e.id ≠ d.id) (hl : K.length ≤ 1000) : dSet (.dct (kvsF K)) (eId d.id) (eDeed d) = .val (.dct (kvsF (K ++ [d]))) := by
  show chk (D.hkey (eId d.id) && decide ((kvsF K).length < LIM)) _ = _
  have h1 : (D.hkey (eId d.id) && decide ((kvsF K).length < LIM)) = true := by
    rw [show D.hkey (eId d.id) = true from rfl]
    simp only [Bool.true_and, decide_eq_true_eq, kvsF, List.length_map]
    unfold LIM
    omega
  rw [h1, chk_true, put_newZ K d h]
theorem im_bl (b : Bool) : immIf true (.bl b) = .val (.bl b) := rfl
theorem not_bl (b : Bool) : dNot (.bl b) = .val (.bl (!b)) := rfl
def lb_kept : Ss := match b_kept_to.body with
  | .cons _ (.cons _ (.cons (.forS _ _ _ b) _)) => b
  | _ => .nil
theorem b_kept_eq : b_kept_to = ⟨2, 5, .cons (.set 2 .dnil true []) (.cons (.set 3 (.tup .nil) false []) (.cons (.forS (.one 4) (.e (.vv 0)) [] lb_kept) (.cons (.ret (.vv 3) []) .nil)))⟩ := rfl
theorem lb_kept_eq : lb_kept = .cons (.ifS (.and (.not (.call nIsNewer (.cons (.v 4) (.cons (.v 1) .nil)))) (.call nNamesRight (.cons (.v 4) (.cons (.v 2) .nil)))) (.cons (.setIdx 2 (.idx (.v 4) (.c (.int 1))) (.vv 4)) (.cons (.set 3 (.add (.v 3) (.tup (.cons (.vv 4) .nil))) false []) .nil)) .nil) .nil := rfl
theorem kept_run (F : Nm → List D → Out D) (x0 u4 : Ent) (dc dd kk kk' ff ff' di : D) (nw ok : Bool) (h1 : F nIsNewer [dd, dc] = .val (.bl nw)) (h2 : F nNamesRight [dd, kk] = .val (.bl ok)) (h3 : dIdx dd (.int 1) = .val di) (h4 : dSet kk di dd = .val kk') (h5 : dAdd ff (.tup [dd]) = .val ff') :
    (bindT [x0, .sh dc, .ow kk, .sh ff, u4] (.one 4) dd >>= fun δ' => exs F lb_kept δ') = if (!nw && ok) = true then .val (.nx, [x0, .sh dc, .ow kk', .sh ff', .sh dd]) else .val (.nx, [x0, .sh dc, .ow kk, .sh ff, .sh dd]) := by
  rw [lb_kept_eq]
  cases nw with
  | true => simp -implicitDefEqProofs only [exs, ex, ev, evs, evIt, get_0, get_1, get_2, get_3, get_4, get_5, get_6, get_7, get_8, get_9, get_10, get_11, get_12, get_13, setE_0, setE_1, setE_2, setE_3, setE_4, setE_5, setE_6, setE_7, setE_8, setE_9, setE_10, setE_11, setE_12, setE_13, d_sh, d_ow, v_sh, f_sh, f_ow, o_sh, o_ow, frz_nil, frz_cons, nxt_nx, nxt_rt, startE_nil, startE_cons, uns_0, uns_1, uns_2, uns_3, uns_4, uns_5, uns_6, uns_7, uns_8, uns_9, uns_10, uns_11, uns_12, fin_rt, fin_nx, bor_nil, bor_v, bor_dnil, bor_c, bor_vv, bor_fn, bor_add, bor_sub, bor_mul, bor_dv, bor_md, bor_neg, bor_not, bor_and, bor_or, bor_ite, bor_cmp, bor_tup, bor_lst, bor_idx, bor_sl, bor_call, bor_bi1, bor_bi2, bor_me1, bor_me2, bor_comp, bor_compIf, ent_f, Out.bind_val, Out.pure_val, Out.bind_bad, asB_bl, owned_ow, lstOf_lst, immIf_false, noExc_val, orBad_some, chk_true, Nat.reduceSub, Nat.reduceAdd, Bool.or_false, Bool.false_or, Bool.or_true, if_true, Bool.false_eq_true, if_false, bind_one, h1, not_bl, Bool.not_true, Bool.false_and]
  | false =>
    cases ok with
    | true => simp -implicitDefEqProofs only [exs, ex, ev, evs, evIt, get_0, get_1, get_2, get_3, get_4, get_5, get_6, get_7, get_8, get_9, get_10, get_11, get_12, get_13, setE_0, setE_1, setE_2, setE_3, setE_4, setE_5, setE_6, setE_7, setE_8, setE_9, setE_10, setE_11, setE_12, setE_13, d_sh, d_ow, v_sh, f_sh, f_ow, o_sh, o_ow, frz_nil, frz_cons, nxt_nx, nxt_rt, startE_nil, startE_cons, uns_0, uns_1, uns_2, uns_3, uns_4, uns_5, uns_6, uns_7, uns_8, uns_9, uns_10, uns_11, uns_12, fin_rt, fin_nx, bor_nil, bor_v, bor_dnil, bor_c, bor_vv, bor_fn, bor_add, bor_sub, bor_mul, bor_dv, bor_md, bor_neg, bor_not, bor_and, bor_or, bor_ite, bor_cmp, bor_tup, bor_lst, bor_idx, bor_sl, bor_call, bor_bi1, bor_bi2, bor_me1, bor_me2, bor_comp, bor_compIf, ent_f, Out.bind_val, Out.pure_val, Out.bind_bad, asB_bl, owned_ow, lstOf_lst, immIf_false, noExc_val, orBad_some, chk_true, Nat.reduceSub, Nat.reduceAdd, Bool.or_false, Bool.false_or, Bool.or_true, if_true, Bool.false_eq_true, if_false, bind_one, h1, h2, h3, h4, h5, not_bl, im_bl, Bool.not_false, Bool.true_and]
    | false => simp -implicitDefEqProofs only [exs, ex, ev, evs, evIt, get_0, get_1, get_2, get_3, get_4, get_5, get_6, get_7, get_8, get_9, get_10, get_11, get_12, get_13, setE_0, setE_1, setE_2, setE_3, setE_4, setE_5, setE_6, setE_7, setE_8, setE_9, setE_10, setE_11, setE_12, setE_13, d_sh, d_ow, v_sh, f_sh, f_ow, o_sh, o_ow, frz_nil, frz_cons, nxt_nx, nxt_rt, startE_nil, startE_cons, uns_0, uns_1, uns_2, uns_3, uns_4, uns_5, uns_6, uns_7, uns_8, uns_9, uns_10, uns_11, uns_12, fin_rt, fin_nx, bor_nil, bor_v, bor_dnil, bor_c, bor_vv, bor_fn, bor_add, bor_sub, bor_mul, bor_dv, bor_md, bor_neg, bor_not, bor_and, bor_or, bor_ite, bor_cmp, bor_tup, bor_lst, bor_idx, bor_sl, bor_call, bor_bi1, bor_bi2, bor_me1, bor_me2, bor_comp, bor_compIf, ent_f, Out.bind_val, Out.pure_val, Out.bind_bad, asB_bl, owned_ow, lstOf_lst, immIf_false, noExc_val, orBad_some, chk_true, Nat.reduceSub, Nat.reduceAdd, Bool.or_false, Bool.false_or, Bool.or_true, if_true, Bool.false_eq_true, if_false, bind_one, h1, h2, not_bl, im_bl, Bool.not_false, Bool.true_and]
section
variable {T : Tab} {n : Nat}
/-- the defs of clocks -/
structure Ck (T : Tab) : Prop where
  sn : T nSignsNamed = some b_signs_named
  dn : T nDeedsNamed = some b_deeds_named
  nr : T nNamesRight = some b_names_right
  isn : T nIsNewer = some b_is_newer
  kept : T nKeptTo = some b_kept_to
theorem kept_ev (k : Ck T) {names : List (List Nat)} {b : List Deed} (bk : Bk names b) (hl : b.length ≤ 50) {c : List Int} (hc : c.length = 8) : evF T (n + 4) nKeptTo [eBook b, eCl c] = .val (eBook (keptF c b)) := by
  rw [evF_run k.kept rfl]
  have loop := forD_ex (enc := eDeed) (xs := b) (P := fun r δ => ∃ (K : List Deed) (u4 : Ent), δ = [.sh (eBook b), .sh (eCl c), .ow (.dct (kvsF K)), .sh (eBook K), u4] ∧ (∀ e ∈ K, e ∈ b) ∧ (∀ e ∈ K, ∀ x ∈ r, e.id ≠ x.id) ∧ K.length + r.length ≤ b.length ∧ (∀ x ∈ r, x ∈ b) ∧
      (r.Pairwise fun x y => idLt x.id y.id) ∧ r.foldl (stepK c) K = keptF c b) (f := fun x δ => do
    let δ' ← bindT δ (.one 4) x
    exs (evF T (n + 3)) lb_kept δ') (δ := [.sh (eBook b), .sh (eCl c), .ow (.dct (kvsF [])), .sh (eBook []), .un])
    ⟨[], .un, rfl, (by simp), (by simp), by simp, fun _ h => h, bk.up, rfl⟩ (fun d r δ ⟨K, u4, hδ, hK, hne, hlen, hr, hp, hf⟩ => by
      subst hδ
      have hd := hr d List.mem_cons_self
      have e1 := isNewer_ev (n := n + 2) k.isn (bk.hand d hd) hc
      have e2 := namesRight_ev (n := n) k.sn k.dn k.nr d K (bk.sgn_len hd hl) (bk.right hd hK)
      have hKl : K.length ≤ 50 := by simp only [List.length_cons] at hlen; omega
      have hnid : ∀ e ∈ K, e.id ≠ d.id := fun e he => hne e he d List.mem_cons_self
      have run := kept_run (evF T (n + 3)) (.sh (eBook b)) u4 (eCl c) (eDeed d) (.dct (kvsF K)) _ (eBook K) _ _ _ _ e1 e2 (id_at d) (set_kvs hnid (by omega)) (cat_book K d (by omega))
      obtain ⟨hp1, hp2⟩ := List.pairwise_cons.mp hp
      rw [List.foldl_cons] at hf
      by_cases hcond : (!newerB c d && (dnm d).all (inB K)) = true
      · rw [if_pos hcond] at run
        refine ⟨_, run, K ++ [d], .sh (eDeed d), rfl, ?_, ?_, ?_, fun x hx => hr x (List.mem_cons_of_mem _ hx), hp2, ?_⟩
        · intro e he
          rcases List.mem_append.mp he with he | he
          · exact hK e he
          · simp at he; subst he; exact hd
        · intro e he x hx
          rcases List.mem_append.mp he with he | he
          · exact hne e he x (List.mem_cons_of_mem _ hx)
          · simp at he; subst he
            intro z
            have := hp1 x hx
            rw [z] at this
            exact idLt_irr _ this
        · simp only [List.length_append, List.length_cons, List.length_nil] at hlen ⊢
          omega
        · rw [← hf]
          unfold stepK
          rw [if_pos hcond]
      · rw [if_neg hcond] at run
        refine ⟨_, run, K, .sh (eDeed d), rfl, hK, fun e he x hx => hne e he x (List.mem_cons_of_mem _ hx), ?_, fun x hx => hr x (List.mem_cons_of_mem _ hx), hp2, ?_⟩
        · simp only [List.length_cons] at hlen
          omega
        · rw [← hf]
          unfold stepK
          rw [if_neg hcond])
  obtain ⟨δ', l1, K, u4, rfl, _, _, _, _, _, hf⟩ := loop
  have hf : K = keptF c b := hf
  subst hf
  have l1' : forD (fun x δ => bindT δ (.one 4) x >>= fun δ' => exs (evF T (n + 3)) lb_kept δ') (b.map eDeed) [.sh (eBook b), .sh (eCl c), .ow (.dct []), .sh (.tup []), .un] = _ := l1
  have he : entOf true (fresh .dnil) (.dct []) = .ow (.dct []) := rfl
  simp -implicitDefEqProofs only [b_kept_eq, exs, ex, ev, evs, evIt, get_0, get_1, get_2, get_3, get_4, get_5, get_6, get_7, get_8, get_9, get_10, get_11, get_12, get_13, setE_0, setE_1, setE_2, setE_3, setE_4, setE_5, setE_6, setE_7, setE_8, setE_9, setE_10, setE_11, setE_12, setE_13, d_sh, d_ow, v_sh, f_sh, f_ow, o_sh, o_ow, frz_nil, frz_cons, nxt_nx, nxt_rt, startE_nil, startE_cons, uns_0, uns_1, uns_2, uns_3, uns_4, uns_5, uns_6, uns_7, uns_8, uns_9, uns_10, uns_11, uns_12, fin_rt, fin_nx, bor_nil, bor_v, bor_dnil, bor_c, bor_vv, bor_fn, bor_add, bor_sub, bor_mul, bor_dv, bor_md, bor_neg, bor_not, bor_and, bor_or, bor_ite, bor_cmp, bor_tup, bor_lst, bor_idx, bor_sl, bor_call, bor_bi1, bor_bi2, bor_me1, bor_me2, bor_comp, bor_compIf, ent_f, Out.bind_val, Out.pure_val, Out.bind_bad, asB_bl, owned_ow, lstOf_lst, immIf_false, noExc_val, orBad_some, chk_true, Nat.reduceSub, Nat.reduceAdd, Bool.or_false, Bool.false_or, Bool.or_true, if_true, Bool.false_eq_true, if_false, he, it_book, l1']
end
end Py
end
section
set_option autoImplicit false
set_option linter.all false
set_option maxRecDepth 100000
set_option maxHeartbeats 4000000
/-! Q0: exact encodings; comparisons, membership, empty lists. -/
namespace Py
/-- data that stand for a type's values, one for one -/
structure Enc {α : Type} [DecidableEq α] (enc : α → D) (m : Nat) : Prop where
  pl : ∀ a, D.plain (enc a) = true
  dp : ∀ a, D.dep (enc a) ≤ m
  eq : ∀ a b, D.eqv (enc a) (enc b) = decide (a = b)
section
variable {α β : Type} [DecidableEq α] [DecidableEq β] {enc : α → D} {enb : β → D} {m k : Nat}
theorem Enc.plAll (h : Enc enc m) : ∀ xs : List α, D.plainAll (xs.map enc) = true
  | [] => rfl
  | x :: r => by simp only [List.map_cons, D.plainAll, h.pl x, Enc.plAll h r, Bool.and_self]
theorem Enc.dpAll (h : Enc enc m) : ∀ xs : List α, D.depAll (xs.map enc) ≤ m
  | [] => Nat.zero_le _
  | x :: r => by
    simp only [List.map_cons, D.depAll]
    have := h.dp x
    have := Enc.dpAll h r
    omega
theorem Enc.eqAll (h : Enc enc m) : ∀ xs ys : List α, D.eqvAll (xs.map enc) (ys.map enc) = decide (xs = ys)
  | [], [] => rfl
  | [], _ :: _ => by simp [D.eqvAll]
  | _ :: _, [] => by simp [D.eqvAll]
  | x :: r, y :: s => by
    simp only [List.map_cons, D.eqvAll, h.eq x y, Enc.eqAll h r s, List.cons.injEq]
    by_cases h1 : x = y <;> by_cases h2 : r = s <;> simp [h1, h2]
theorem Enc.lst (h : Enc enc m) : Enc (fun xs : List α => D.lst (xs.map enc)) (m + 1) :=
  ⟨fun xs => h.plAll xs, fun xs => Nat.succ_le_succ (h.dpAll xs), fun xs ys => h.eqAll xs ys⟩
theorem Enc.tup (h : Enc enc m) : Enc (fun xs : List α => D.tup (xs.map enc)) (m + 1) :=
  ⟨fun xs => h.plAll xs, fun xs => Nat.succ_le_succ (h.dpAll xs), fun xs ys => h.eqAll xs ys⟩
theorem Enc.le (h : Enc enc m) (hk : m ≤ k) : Enc enc k := ⟨h.pl, fun a => Nat.le_trans (h.dp a) hk, h.eq⟩
theorem Enc.pair (h : Enc enc m) (g : Enc enb k) : Enc (fun p : α × β => D.tup [enc p.1, enb p.2]) (max m k + 1) where
  pl p := by simp [D.plain, D.plainAll, h.pl, g.pl]
  dp p := by
    have := h.dp p.1
    have := g.dp p.2
    simp only [D.dep, D.depAll]
    omega
  eq p q := by
    simp only [D.eqv, D.eqvAll, h.eq, g.eq, Bool.and_true]
    obtain ⟨a, b⟩ := p
    obtain ⟨c, d⟩ := q
    by_cases h1 : a = c <;> by_cases h2 : b = d <;> simp [h1, h2]
end
theorem encInt : Enc D.int 0 := ⟨fun _ => rfl, fun _ => Nat.le_refl _, fun a b => by
  show (a == b) = _
  by_cases h : a = b <;> simp [h]⟩
theorem encStr : Enc D.str 0 := ⟨fun _ => rfl, fun _ => Nat.le_refl _, fun a b => by
  show (a == b) = _
  by_cases h : a = b <;> simp [h]⟩
theorem encBl : Enc D.bl 0 := ⟨fun _ => rfl, fun _ => Nat.le_refl _, fun a b => by
  show (a == b) = _
  cases a <;> cases b <;> rfl⟩
theorem encCh : Enc (fun c : Nat => D.str [c]) 0 := ⟨fun _ => rfl, fun _ => Nat.le_refl _, fun a b => by
  show ([a] == [b]) = _
  by_cases h : a = b <;> simp [h]⟩
theorem encId : Enc eId 1 := (encInt.pair encCh).le (by decide)
theorem encSg : Enc eSg 2 := (encId.pair encInt).le (by decide)
theorem encOS : Enc eOS 2 where
  pl a := by cases a with
    | none => rfl
    | some s => exact encSg.pl s
  dp a := by cases a with
    | none => exact Nat.zero_le _
    | some s => exact encSg.dp s
  eq a b := by
    cases a with
    | none => cases b <;> simp [eOS, D.eqv, eSg]
    | some s =>
      cases b with
      | none => simp [eOS, D.eqv, eSg]
      | some t =>
        show D.eqv (eSg s) (eSg t) = _
        rw [encSg.eq]
        simp
theorem encAn : Enc eAn 3 := (encOS.pair encCh).le (by decide)
theorem encSgs : Enc (fun ss : List Sg => D.tup (ss.map eSg)) 3 := encSg.tup
theorem encDeed : Enc eDeed 5 where
  pl d := (deed_plain d).1
  dp d := (deed_plain d).2
  eq d e := by
    have off : ∀ {x : Bool} {a b : Deed}, a ≠ b → x = false → x = decide (a = b) := fun h g => by rw [g, decide_eq_false h]
    have on : ∀ {x y : Bool} {a b : Deed}, (x = true ↔ a = b) → x = decide (a = b) := fun h => by rw [Bool.eq_iff_iff, h, decide_eq_true_eq]
    cases d with
    | add i b t =>
      cases e with
      | add j c u =>
        show (true && (D.eqv (eId i) (eId j) && (D.eqv (eOS b) (eOS c) && (D.eqv (.str t) (.str u) && true)))) = _
        rw [encId.eq, encOS.eq, encStr.eq]
        refine on (y := true) ?_
        simp
      | _ => exact off (by simp) rfl
    | drop i ss =>
      cases e with
      | drop j tt =>
        show (true && (D.eqv (eId i) (eId j) && (D.eqv (.tup (ss.map eSg)) (.tup (tt.map eSg)) && true))) = _
        rw [encId.eq, encSgs.eq]
        refine on (y := true) ?_
        simp
      | _ => exact off (by simp) rfl
    | mark i nm a b =>
      cases e with
      | mark j mm c g =>
        show (true && (D.eqv (eId i) (eId j) && (D.eqv (.str nm) (.str mm) && (D.eqv (eAn a) (eAn c) && (D.eqv (eAn b) (eAn g) && true))))) = _
        rw [encId.eq, encStr.eq, encAn.eq, encAn.eq]
        refine on (y := true) ?_
        simp
      | _ => exact off (by simp) rfl
    | unmark i nm =>
      cases e with
      | unmark j mm =>
        show (true && (D.eqv (eId i) (eId j) && (D.eqv (.str nm) (.str mm) && true))) = _
        rw [encId.eq, encStr.eq]
        refine on (y := true) ?_
        simp
      | _ => exact off (by simp) rfl
    | undo i o =>
      cases e with
      | undo j q =>
        show (true && (D.eqv (eId i) (eId j) && (D.eqv (eId o) (eId q) && true))) = _
        rw [encId.eq, encId.eq]
        refine on (y := true) ?_
        simp
      | _ => exact off (by simp) rfl
theorem encBook : Enc eBook 6 := encDeed.tup
section
variable {α : Type} [DecidableEq α] {enc : α → D} {m : Nat}
theorem Enc.ok (h : Enc enc m) (a : α) (hm : m ≤ 50 := by decide) : D.ok (enc a) = true := by
  have := h.dp a
  unfold D.ok
  rw [h.pl a, decide_eq_true (by omega)]
  rfl
theorem Enc.okAll (h : Enc enc m) (hm : m ≤ 50 := by decide) : ∀ xs : List α, Py.okAll (xs.map enc) = true
  | [] => rfl
  | x :: r => by simp only [List.map_cons, Py.okAll, h.ok x hm, Enc.okAll h hm r, Bool.and_self]
theorem Enc.cEq (h : Enc enc m) (a b : α) (hm : m ≤ 50 := by decide) : dCmp .eq (enc a) (enc b) = .val (decide (a = b)) := by
  show chk (D.ok (enc a) && D.ok (enc b)) (D.eqv (enc a) (enc b)) = _
  rw [h.ok a hm, h.ok b hm, h.eq]
  rfl
theorem Enc.cNe (h : Enc enc m) (a b : α) (hm : m ≤ 50 := by decide) : dCmp .ne (enc a) (enc b) = .val (!decide (a = b)) := by
  show chk (D.ok (enc a) && D.ok (enc b)) (!D.eqv (enc a) (enc b)) = _
  rw [h.ok a hm, h.ok b hm, h.eq]
  rfl
/-- a stands in xs -/
def has (a : α) (xs : List α) : Bool := xs.any fun x => decide (x = a)
theorem has_iff {a : α} {xs : List α} : has a xs = true ↔ a ∈ xs := by
  unfold has
  simp only [List.any_eq_true, decide_eq_true_eq]
  exact ⟨fun ⟨x, h1, h2⟩ => h2 ▸ h1, fun h => ⟨a, h, rfl⟩⟩
theorem has_dec (a : α) (xs : List α) [d : Decidable (a ∈ xs)] : has a xs = decide (a ∈ xs) := by
  rw [Bool.eq_iff_iff, has_iff, decide_eq_true_eq]
theorem Enc.memb (h : Enc enc m) (a : α) : ∀ xs : List α, Py.memb (enc a) (xs.map enc) = has a xs
  | [] => rfl
  | x :: r => by
    have ih := Enc.memb h a r
    unfold has at ih ⊢
    simp only [List.map_cons, Py.memb, h.eq, ih, List.any_cons]
theorem Enc.cMem (h : Enc enc m) (a : α) (xs : List α) (hm : m ≤ 50 := by decide) : dCmp .mem (enc a) (.lst (xs.map enc)) = .val (has a xs) := by
  show chk (D.ok (enc a) && Py.okAll (xs.map enc)) (Py.memb (enc a) (xs.map enc)) = _
  rw [h.ok a hm, h.okAll hm, h.memb]
  rfl
theorem Enc.cMemT (h : Enc enc m) (a : α) (xs : List α) (hm : m ≤ 50 := by decide) : dCmp .mem (enc a) (.tup (xs.map enc)) = .val (has a xs) := by
  show chk (D.ok (enc a) && Py.okAll (xs.map enc)) (Py.memb (enc a) (xs.map enc)) = _
  rw [h.ok a hm, h.okAll hm, h.memb]
  rfl
theorem Enc.cNmem (h : Enc enc m) (a : α) (xs : List α) (hm : m ≤ 50 := by decide) : dCmp .nmem (enc a) (.lst (xs.map enc)) = .val (!has a xs) := by
  have e : dMem (enc a) (.lst (xs.map enc)) = .val (has a xs) := h.cMem a xs hm
  unfold dCmp
  dsimp only
  rw [e]
theorem Enc.cNmemT (h : Enc enc m) (a : α) (xs : List α) (hm : m ≤ 50 := by decide) : dCmp .nmem (enc a) (.tup (xs.map enc)) = .val (!has a xs) := by
  have e : dMem (enc a) (.tup (xs.map enc)) = .val (has a xs) := h.cMemT a xs hm
  unfold dCmp
  dsimp only
  rw [e]
/-- lists, against the empty one -/
theorem Enc.cNil (h : Enc enc m) (xs : List α) (hm : m ≤ 49 := by decide) : dCmp .eq (.lst (xs.map enc)) (.lst []) = .val xs.isEmpty := by
  have z : dCmp .eq (.lst (xs.map enc)) (.lst []) = .val (decide (xs = [])) := h.lst.cEq xs [] (by omega)
  rw [z]
  cases xs <;> simp
theorem Enc.cNeNil (h : Enc enc m) (xs : List α) (hm : m ≤ 49 := by decide) : dCmp .ne (.lst (xs.map enc)) (.lst []) = .val (!xs.isEmpty) := by
  have z : dCmp .ne (.lst (xs.map enc)) (.lst []) = .val (!decide (xs = [])) := h.lst.cNe xs [] (by omega)
  rw [z]
  cases xs <;> simp
theorem Enc.lEq (h : Enc enc m) (xs ys : List α) (hm : m ≤ 49 := by decide) : dCmp .eq (.lst (xs.map enc)) (.lst (ys.map enc)) = .val (decide (xs = ys)) := h.lst.cEq xs ys (by omega)
theorem Enc.lNe (h : Enc enc m) (xs ys : List α) (hm : m ≤ 49 := by decide) : dCmp .ne (.lst (xs.map enc)) (.lst (ys.map enc)) = .val (!decide (xs = ys)) := h.lst.cNe xs ys (by omega)
theorem Enc.tEq (h : Enc enc m) (xs ys : List α) (hm : m ≤ 49 := by decide) : dCmp .eq (.tup (xs.map enc)) (.tup (ys.map enc)) = .val (decide (xs = ys)) := h.tup.cEq xs ys (by omega)
theorem Enc.tNe (h : Enc enc m) (xs ys : List α) (hm : m ≤ 49 := by decide) : dCmp .ne (.tup (xs.map enc)) (.tup (ys.map enc)) = .val (!decide (xs = ys)) := h.tup.cNe xs ys (by omega)
end
theorem forD_step {f : D → Env → Out (Ctl × Env)} {x : D} {xs : List D} {δ δ1 : Env} {r : Out (Ctl × Env)} (h1 : f x δ = .val (.nx, δ1)) (h2 : forD f xs δ1 = r) : forD f (x :: xs) δ = r := by
  unfold forD
  rw [h1]
  exact h2
/-- what a filter leaves -/
theorem filtZ {α : Type} {enc : α → D} {p : α → Bool} {g : D → Out (Option D)} (xs : List α) (h : ∀ e ∈ xs, g (enc e) = .val (if p e = true then some (enc e) else none)) : mapIfD g (xs.map enc) = .val ((xs.filter p).map enc) := by
  rw [mapIf_map (h := fun e : α => if p e = true then some (enc e) else none) h]
  congr 1
  rw [← List.filterMap_eq_map', ← List.filterMap_eq_filter, List.filterMap_filterMap]
  congr 1
  funext e
  simp only [Option.guard]
  split <;> rfl
theorem filt_any {α : Type} {p : α → Bool} : ∀ xs : List α, (!(xs.filter p).isEmpty) = xs.any p
  | [] => rfl
  | x :: r => by
    rw [List.filter_cons, List.any_cons]
    cases h : p x with
    | true => simp
    | false => simp [filt_any r]
end Py
end
section
set_option autoImplicit false
set_option linter.all false
set_option maxRecDepth 100000
set_option maxHeartbeats 4000000
/-! QA: by_id, leaning_on, without. -/
namespace Py
def by_id_e1 : E := (.tup (.cons (.idx (.v 1) (.c (.int 1))) (.cons (.vv 1) .nil)))
def b_by_id : FD := ⟨1, 2, (.cons (.ret (.bi1 .dict (.comp by_id_e1 (.one 1) [1] (.e (.v 0)))) []) .nil)⟩
abbrev n_by_id : Nm := [98, 121, 95, 105, 100]
def leaning_on_e1 : E := (.cmp .mem (.v 4) (.v 2))
def leaning_on_l1 : Ss := (.cons (.ifS (.bi1 .any (.comp leaning_on_e1 (.one 4) [4] (.e (.call [100, 101, 101, 100, 115, 95, 110, 97, 109, 101, 100] (.cons (.v 3) .nil))))) (.cons (.app 2 (.idx (.v 3) (.c (.int 1)))) .nil) .nil) .nil)
def b_leaning_on : FD := ⟨2, 5, (.cons (.set 2 (.lst (.cons (.vv 1) .nil)) true []) (.cons (.forS (.one 3) (.e (.vv 0)) [] leaning_on_l1) (.cons (.ret (.sl (.v 2) (.c (.int 1)) (.c .non)) []) .nil)))⟩
abbrev n_leaning_on : Nm := [108, 101, 97, 110, 105, 110, 103, 95, 111, 110]
def without_e1 : E := (.vv 3)
def without_c1 : E := (.cmp .nmem (.idx (.v 3) (.c (.int 1))) (.v 2))
def b_without : FD := ⟨2, 4, (.cons (.ifS (.cmp .nmem (.v 1) (.call [98, 121, 95, 105, 100] (.cons (.v 0) .nil))) (.cons (.raise [78, 111, 68, 101, 101, 100]) .nil) .nil) (.cons (.set 2 (.add (.lst (.cons (.vv 1) .nil)) (.call [108, 101, 97, 110, 105, 110, 103, 95, 111, 110] (.cons (.v 0) (.cons (.v 1) .nil)))) false []) (.cons (.ret (.bi1 .tuple (.compIf without_e1 (.one 3) [3] (.e (.v 0)) without_c1)) []) .nil)))⟩
abbrev n_without : Nm := [119, 105, 116, 104, 111, 117, 116]

/-! ### small laws -/
theorem bor_cmp2 (o o' : Cp) (a b c : E) (δ : Env) (es : Es) : bor δ (.cons (.cmp2 o o' a b c) es) = bor δ es := rfl
theorem bor_isi (a : E) (t : Ty) (δ : Env) (es : Es) : bor δ (.cons (.isi a t) es) = bor δ es := rfl
theorem bor_rev (a : E) (δ : Env) (es : Es) : bor δ (.cons (.rev a) es) = bor δ es := rfl
theorem bind_exc' {α β : Type} (c : Nm) (f : α → Out β) : ((Out.exc c : Out α) >>= f) = .exc c := rfl
theorem fin_exc (c : Nm) : fin (.exc c) = .exc c := rfl
theorem ok_id (i : Idd) : D.ok (eId i) = true := rfl
theorem okAll_ids : ∀ xs : List Idd, okAll (xs.map eId) = true
  | [] => rfl
  | x :: r => by simp only [List.map_cons, okAll, ok_id, okAll_ids r, Bool.and_self]
theorem memb_ids (i : Idd) : ∀ xs : List Idd, memb (eId i) (xs.map eId) = decide (i ∈ xs)
  | [] => rfl
  | x :: r => by
    simp only [List.map_cons, memb, id_eqv, memb_ids i r, List.mem_cons]
    by_cases h : x = i
    · subst h; simp
    · have h2 : ¬ i = x := fun z => h z.symm
      simp [h, h2]
theorem mem_ids (i : Idd) (xs : List Idd) : dCmp .mem (eId i) (.lst (xs.map eId)) = .val (decide (i ∈ xs)) := by
  show chk (D.ok (eId i) && okAll (xs.map eId)) (memb (eId i) (xs.map eId)) = _
  rw [ok_id, okAll_ids, memb_ids]
  rfl
theorem nmem_ids (i : Idd) (xs : List Idd) : dCmp .nmem (eId i) (.lst (xs.map eId)) = .val (!decide (i ∈ xs)) := by
  have h : dMem (eId i) (.lst (xs.map eId)) = .val (decide (i ∈ xs)) := by
    show chk (D.ok (eId i) && okAll (xs.map eId)) (memb (eId i) (xs.map eId)) = _
    rw [ok_id, okAll_ids, memb_ids]
    rfl
  unfold dCmp
  dsimp only
  rw [h]
theorem cut_from {α : Type} (xs : List α) (k : Nat) : cut xs (some (k : Int)) none = xs.drop k := by
  unfold cut cutIx
  have h1 : ¬ ((k : Int) < 0) := by omega
  simp only [h1, if_false, Int.toNat_natCast]
  by_cases h : k ≤ xs.length
  · rw [Nat.min_eq_left h, ← List.length_drop, List.take_length]
  · rw [Nat.min_eq_right (by omega), Nat.sub_self, List.take_zero, List.drop_eq_nil_of_le (by omega)]
theorem cut_1 {α : Type} (xs : List α) : cut xs (some 1) none = xs.drop 1 := cut_from xs 1
theorem app_ids {xs : List Idd} {i : Idd} (h : xs.length ≤ 9000) : dApp (.lst (xs.map eId)) (eId i) = .val (.lst ((xs ++ [i]).map eId)) := by
  rw [app_lst (by simp; omega), List.map_append]
  rfl
theorem any_bools (l : List Bool) : bi1 .any (.lst (l.map .bl)) = .val (.bl (l.any id)) := by
  show (match bools (l.map .bl) with
    | some bs => Out.val (D.bl (bs.any id))
    | none => .bad) = _
  rw [bools_of]
theorem all_bools (l : List Bool) : bi1 .all (.lst (l.map .bl)) = .val (.bl (l.all id)) := by
  show (match bools (l.map .bl) with
    | some bs => Out.val (D.bl (bs.all id))
    | none => .bad) = _
  rw [bools_of]
/-- no id twice -/
def Dis (b : List Deed) : Prop := (b.map Deed.id).Nodup
theorem Bk.dis {names : List (List Nat)} {b : List Deed} (h : Bk names b) : Dis b := by
  unfold Dis
  refine (List.pairwise_map.mpr (h.up.imp fun {x y} q z => ?_))
  rw [z] at q
  exact idLt_irr _ q
theorem it_lstZ (xs : List D) : items (.lst xs) = .val xs := rfl
theorem pairs_kvs : ∀ b : List Deed, pairsOf (b.map fun d => D.tup [eId d.id, eDeed d]) = some (kvsF b)
  | [] => rfl
  | d :: r => by
    show (pairsOf (r.map fun d => D.tup [eId d.id, eDeed d])).map ((eId d.id, eDeed d) :: ·) = _
    rw [pairs_kvs r]
    rfl
theorem hkeys_kvs : ∀ b : List Deed, hkeys (kvsF b) = true
  | [] => rfl
  | d :: r => by
    show (D.hkey (eId d.id) && hkeys (kvsF r)) = true
    rw [hkeys_kvs r]
    rfl
theorem putAll_kvs : ∀ (r K : List Deed), ((K ++ r).map Deed.id).Nodup → putAll (kvsF K) (kvsF r) = kvsF (K ++ r)
  | [], K, _ => by simp [kvsF, putAll]
  | d :: r, K, h => by
    show putAll (put (kvsF K) (eId d.id) (eDeed d)) (kvsF r) = _
    have h2 : ∀ e ∈ K, e.id ≠ d.id := by
      rw [List.map_append, List.nodup_append] at h
      intro e he z
      exact h.2.2 e.id (List.mem_map_of_mem he) d.id (by simp) z
    rw [put_newZ K d h2, putAll_kvs r (K ++ [d]) (by simpa using h)]
    simp
theorem dict_book {b : List Deed} (h : Dis b) : bi1 .dict (.lst (b.map fun d => D.tup [eId d.id, eDeed d])) = .val (.dct (kvsF b)) := by
  show (match pairsOf (b.map fun d => D.tup [eId d.id, eDeed d]) with
    | some ps => chk (hkeys ps) (D.dct (putAll [] ps))
    | none => .bad) = _
  rw [pairs_kvs]
  dsimp only
  rw [hkeys_kvs]
  have := putAll_kvs b [] h
  rw [show kvsF [] = [] from rfl] at this
  rw [this]
  rfl
section
variable {T : Tab} {n : Nat}
theorem byId_ev (h : T n_by_id = some b_by_id) {b : List Deed} (hb : Dis b) : evF T (n + 1) n_by_id [eBook b] = .val (.dct (kvsF b)) := by
  rw [evF_run h rfl]
  have hm : mapIfD (stepOf [1] (.one 1) (fun _ => .val true) (fun δ' => ev (evF T n) by_id_e1 δ') [.sh (eBook b), .un]) (b.map eDeed) = .val (b.map fun d => D.tup [eId d.id, eDeed d]) := mapAll_map fun d _ => by
    simp -implicitDefEqProofs only [by_id_e1, stepOf, wipe_nil, wipe_cons, bind_one, exs, ex, ev, evs, evIt, get_0, get_1, get_2, get_3, get_4, get_5, get_6, get_7, get_8, get_9, get_10, get_11, get_12, get_13, setE_0, setE_1, setE_2, setE_3, setE_4, setE_5, setE_6, setE_7, setE_8, setE_9, setE_10, setE_11, setE_12, setE_13, d_sh, d_ow, v_sh, f_sh, f_ow, o_sh, o_ow, frz_nil, frz_cons, nxt_nx, nxt_rt, startE_nil, startE_cons, uns_0, uns_1, uns_2, uns_3, uns_4, uns_5, uns_6, uns_7, uns_8, uns_9, uns_10, uns_11, uns_12, fin_rt, fin_nx, bor_nil, bor_v, bor_dnil, bor_c, bor_vv, bor_fn, bor_add, bor_sub, bor_mul, bor_dv, bor_md, bor_neg, bor_not, bor_and, bor_or, bor_ite, bor_cmp, bor_tup, bor_lst, bor_idx, bor_sl, bor_call, bor_bi1, bor_bi2, bor_me1, bor_me2, bor_comp, bor_compIf, ent_f, Out.bind_val, Out.pure_val, Out.bind_bad, asB_bl, owned_ow, lstOf_lst, immIf_false, noExc_val, orBad_some, chk_true, Nat.reduceSub, Nat.reduceAdd, Bool.or_false, Bool.false_or, Bool.or_true, if_true, Bool.false_eq_true, if_false, id_at]
  simp -implicitDefEqProofs only [b_by_id, exs, ex, ev, evs, evIt, get_0, get_1, get_2, get_3, get_4, get_5, get_6, get_7, get_8, get_9, get_10, get_11, get_12, get_13, setE_0, setE_1, setE_2, setE_3, setE_4, setE_5, setE_6, setE_7, setE_8, setE_9, setE_10, setE_11, setE_12, setE_13, d_sh, d_ow, v_sh, f_sh, f_ow, o_sh, o_ow, frz_nil, frz_cons, nxt_nx, nxt_rt, startE_nil, startE_cons, uns_0, uns_1, uns_2, uns_3, uns_4, uns_5, uns_6, uns_7, uns_8, uns_9, uns_10, uns_11, uns_12, fin_rt, fin_nx, bor_nil, bor_v, bor_dnil, bor_c, bor_vv, bor_fn, bor_add, bor_sub, bor_mul, bor_dv, bor_md, bor_neg, bor_not, bor_and, bor_or, bor_ite, bor_cmp, bor_tup, bor_lst, bor_idx, bor_sl, bor_call, bor_bi1, bor_bi2, bor_me1, bor_me2, bor_comp, bor_compIf, ent_f, Out.bind_val, Out.pure_val, Out.bind_bad, asB_bl, owned_ow, lstOf_lst, immIf_false, noExc_val, orBad_some, chk_true, Nat.reduceSub, Nat.reduceAdd, Bool.or_false, Bool.false_or, Bool.or_true, if_true, Bool.false_eq_true, if_false, it_book, hm, dict_book hb]

/-! ### what leans -/
def leanS (acc : List Idd) (d : Deed) : List Idd := if (dnm d).any (fun i => decide (i ∈ acc)) = true then acc ++ [d.id] else acc
def leanG (b : List Deed) (o : Idd) : List Idd := b.foldl leanS [o]
def leanF (b : List Deed) (o : Idd) : List Idd := (leanG b o).drop 1
theorem leanS_len (acc : List Idd) (d : Deed) : (leanS acc d).length ≤ acc.length + 1 := by
  unfold leanS
  split <;> simp
theorem leanG_len : ∀ (b : List Deed) (acc : List Idd), (b.foldl leanS acc).length ≤ acc.length + b.length
  | [], acc => by simp
  | d :: r, acc => by
    have := leanG_len r (leanS acc d)
    have := leanS_len acc d
    simp only [List.foldl_cons, List.length_cons]
    omega
theorem leanStep (F : Nm → List D → Out D) (x0 x1 u3 : Ent) {d : Deed} {acc : List Idd} (h1 : F nDeedsNamed [eDeed d] = .val (.lst ((dnm d).map eId))) (hl : acc.length ≤ 9000) :
    exs F leaning_on_l1 [x0, x1, .ow (.lst (acc.map eId)), .sh (eDeed d), u3] = .val (.nx, [x0, x1, .ow (.lst ((leanS acc d).map eId)), .sh (eDeed d), u3]) := by
  have hm : mapIfD (stepOf [4] (.one 4) (fun _ => .val true) (fun δ' => ev F leaning_on_e1 δ') [x0, x1, .ow (.lst (acc.map eId)), .sh (eDeed d), u3]) ((dnm d).map eId) = .val (((dnm d).map fun i => decide (i ∈ acc)).map .bl) := by
    rw [List.map_map]
    exact mapAll_map fun i _ => by
      simp -implicitDefEqProofs only [leaning_on_e1, stepOf, wipe_nil, wipe_cons, bind_one, exs, ex, ev, evs, evIt, get_0, get_1, get_2, get_3, get_4, get_5, get_6, get_7, get_8, get_9, get_10, get_11, get_12, get_13, setE_0, setE_1, setE_2, setE_3, setE_4, setE_5, setE_6, setE_7, setE_8, setE_9, setE_10, setE_11, setE_12, setE_13, d_sh, d_ow, v_sh, f_sh, f_ow, o_sh, o_ow, frz_nil, frz_cons, nxt_nx, nxt_rt, startE_nil, startE_cons, uns_0, uns_1, uns_2, uns_3, uns_4, uns_5, uns_6, uns_7, uns_8, uns_9, uns_10, uns_11, uns_12, fin_rt, fin_nx, bor_nil, bor_v, bor_dnil, bor_c, bor_vv, bor_fn, bor_add, bor_sub, bor_mul, bor_dv, bor_md, bor_neg, bor_not, bor_and, bor_or, bor_ite, bor_cmp, bor_tup, bor_lst, bor_idx, bor_sl, bor_call, bor_bi1, bor_bi2, bor_me1, bor_me2, bor_comp, bor_compIf, ent_f, Out.bind_val, Out.pure_val, Out.bind_bad, asB_bl, owned_ow, lstOf_lst, immIf_false, noExc_val, orBad_some, chk_true, Nat.reduceSub, Nat.reduceAdd, Bool.or_false, Bool.false_or, Bool.or_true, if_true, Bool.false_eq_true, if_false, mem_ids]
      rfl
  have e1 : ((dnm d).map fun i => decide (i ∈ acc)).any id = (dnm d).any fun i => decide (i ∈ acc) := by rw [List.any_map]; rfl
  unfold leanS
  cases hc : (dnm d).any fun i => decide (i ∈ acc) with
  | true => simp -implicitDefEqProofs only [leaning_on_l1, exs, ex, ev, evs, evIt, get_0, get_1, get_2, get_3, get_4, get_5, get_6, get_7, get_8, get_9, get_10, get_11, get_12, get_13, setE_0, setE_1, setE_2, setE_3, setE_4, setE_5, setE_6, setE_7, setE_8, setE_9, setE_10, setE_11, setE_12, setE_13, d_sh, d_ow, v_sh, f_sh, f_ow, o_sh, o_ow, frz_nil, frz_cons, nxt_nx, nxt_rt, startE_nil, startE_cons, uns_0, uns_1, uns_2, uns_3, uns_4, uns_5, uns_6, uns_7, uns_8, uns_9, uns_10, uns_11, uns_12, fin_rt, fin_nx, bor_nil, bor_v, bor_dnil, bor_c, bor_vv, bor_fn, bor_add, bor_sub, bor_mul, bor_dv, bor_md, bor_neg, bor_not, bor_and, bor_or, bor_ite, bor_cmp, bor_tup, bor_lst, bor_idx, bor_sl, bor_call, bor_bi1, bor_bi2, bor_me1, bor_me2, bor_comp, bor_compIf, ent_f, Out.bind_val, Out.pure_val, Out.bind_bad, asB_bl, owned_ow, lstOf_lst, immIf_false, noExc_val, orBad_some, chk_true, Nat.reduceSub, Nat.reduceAdd, Bool.or_false, Bool.false_or, Bool.or_true, if_true, Bool.false_eq_true, if_false, h1, it_lstZ, hm, any_bools, e1, hc, id_at, app_ids hl]
  | false => simp -implicitDefEqProofs only [leaning_on_l1, exs, ex, ev, evs, evIt, get_0, get_1, get_2, get_3, get_4, get_5, get_6, get_7, get_8, get_9, get_10, get_11, get_12, get_13, setE_0, setE_1, setE_2, setE_3, setE_4, setE_5, setE_6, setE_7, setE_8, setE_9, setE_10, setE_11, setE_12, setE_13, d_sh, d_ow, v_sh, f_sh, f_ow, o_sh, o_ow, frz_nil, frz_cons, nxt_nx, nxt_rt, startE_nil, startE_cons, uns_0, uns_1, uns_2, uns_3, uns_4, uns_5, uns_6, uns_7, uns_8, uns_9, uns_10, uns_11, uns_12, fin_rt, fin_nx, bor_nil, bor_v, bor_dnil, bor_c, bor_vv, bor_fn, bor_add, bor_sub, bor_mul, bor_dv, bor_md, bor_neg, bor_not, bor_and, bor_or, bor_ite, bor_cmp, bor_tup, bor_lst, bor_idx, bor_sl, bor_call, bor_bi1, bor_bi2, bor_me1, bor_me2, bor_comp, bor_compIf, ent_f, Out.bind_val, Out.pure_val, Out.bind_bad, asB_bl, owned_ow, lstOf_lst, immIf_false, noExc_val, orBad_some, chk_true, Nat.reduceSub, Nat.reduceAdd, Bool.or_false, Bool.false_or, Bool.or_true, if_true, Bool.false_eq_true, if_false, h1, it_lstZ, hm, any_bools, e1, hc]
theorem leanOn_ev (h1 : T nSignsNamed = some b_signs_named) (h2 : T nDeedsNamed = some b_deeds_named) (h : T n_leaning_on = some b_leaning_on) {b : List Deed} (hs : ∀ d ∈ b, (sgn d).length ≤ 1000) (hl : b.length ≤ 1000) (o : Idd) :
    evF T (n + 3) n_leaning_on [eBook b, eId o] = .val (.lst ((leanF b o).map eId)) := by
  rw [evF_run h rfl]
  have loop := forD_ex (enc := eDeed) (xs := b) (P := fun r δ => ∃ (acc : List Idd) (u3 : Ent), δ = [.sh (eBook b), .sh (eId o), .ow (.lst (acc.map eId)), u3, .un] ∧ (∀ x ∈ r, x ∈ b) ∧ acc.length + r.length ≤ b.length + 1 ∧ r.foldl leanS acc = leanG b o) (f := fun x δ => do
    let δ' ← bindT δ (.one 3) x
    exs (evF T (n + 2)) leaning_on_l1 δ') (δ := [.sh (eBook b), .sh (eId o), .ow (.lst ([o].map eId)), .un, .un])
    ⟨[o], .un, rfl, fun _ h => h, by simp; omega, rfl⟩ (fun d r δ ⟨acc, u3, hδ, hr, hlen, hf⟩ => by
      subst hδ
      have e1 := deedsNamed_ev (n := n) h1 h2 d (hs d (hr d List.mem_cons_self))
      simp only [List.length_cons] at hlen
      have st := leanStep (evF T (n + 2)) (.sh (eBook b)) (.sh (eId o)) .un e1 (acc := acc) (by omega)
      refine ⟨_, ?_, leanS acc d, .sh (eDeed d), rfl, fun x hx => hr x (List.mem_cons_of_mem _ hx), ?_, hf⟩
      · simp -implicitDefEqProofs only [bind_one, exs, ex, ev, evs, evIt, get_0, get_1, get_2, get_3, get_4, get_5, get_6, get_7, get_8, get_9, get_10, get_11, get_12, get_13, setE_0, setE_1, setE_2, setE_3, setE_4, setE_5, setE_6, setE_7, setE_8, setE_9, setE_10, setE_11, setE_12, setE_13, d_sh, d_ow, v_sh, f_sh, f_ow, o_sh, o_ow, frz_nil, frz_cons, nxt_nx, nxt_rt, startE_nil, startE_cons, uns_0, uns_1, uns_2, uns_3, uns_4, uns_5, uns_6, uns_7, uns_8, uns_9, uns_10, uns_11, uns_12, fin_rt, fin_nx, bor_nil, bor_v, bor_dnil, bor_c, bor_vv, bor_fn, bor_add, bor_sub, bor_mul, bor_dv, bor_md, bor_neg, bor_not, bor_and, bor_or, bor_ite, bor_cmp, bor_tup, bor_lst, bor_idx, bor_sl, bor_call, bor_bi1, bor_bi2, bor_me1, bor_me2, bor_comp, bor_compIf, ent_f, Out.bind_val, Out.pure_val, Out.bind_bad, asB_bl, owned_ow, lstOf_lst, immIf_false, noExc_val, orBad_some, chk_true, Nat.reduceSub, Nat.reduceAdd, Bool.or_false, Bool.false_or, Bool.or_true, if_true, Bool.false_eq_true, if_false, st]
      · have := leanS_len acc d
        omega)
  obtain ⟨δ', l1, acc, u3, rfl, _, _, hf⟩ := loop
  have hf : acc = leanG b o := hf
  subst hf
  have he : entOf true (fresh (.lst (.cons (.vv 1) .nil))) (.lst [eId o]) = .ow (.lst ([o].map eId)) := rfl
  have hc : dCut (.lst ((leanG b o).map eId)) (some 1) none = .val (.lst ((leanF b o).map eId)) := by
    show Out.val (D.lst (cut ((leanG b o).map eId) (some 1) none)) = _
    rw [cut_1]
    unfold leanF
    rw [List.map_drop]
  simp -implicitDefEqProofs only [b_leaning_on, exs, ex, ev, evs, evIt, get_0, get_1, get_2, get_3, get_4, get_5, get_6, get_7, get_8, get_9, get_10, get_11, get_12, get_13, setE_0, setE_1, setE_2, setE_3, setE_4, setE_5, setE_6, setE_7, setE_8, setE_9, setE_10, setE_11, setE_12, setE_13, d_sh, d_ow, v_sh, f_sh, f_ow, o_sh, o_ow, frz_nil, frz_cons, nxt_nx, nxt_rt, startE_nil, startE_cons, uns_0, uns_1, uns_2, uns_3, uns_4, uns_5, uns_6, uns_7, uns_8, uns_9, uns_10, uns_11, uns_12, fin_rt, fin_nx, bor_nil, bor_v, bor_dnil, bor_c, bor_vv, bor_fn, bor_add, bor_sub, bor_mul, bor_dv, bor_md, bor_neg, bor_not, bor_and, bor_or, bor_ite, bor_cmp, bor_tup, bor_lst, bor_idx, bor_sl, bor_call, bor_bi1, bor_bi2, bor_me1, bor_me2, bor_comp, bor_compIf, ent_f, Out.bind_val, Out.pure_val, Out.bind_bad, asB_bl, owned_ow, lstOf_lst, immIf_false, noExc_val, orBad_some, chk_true, Nat.reduceSub, Nat.reduceAdd, Bool.or_false, Bool.false_or, Bool.or_true, if_true, Bool.false_eq_true, if_false, he, it_book, l1, bnd_int, bnd_non, hc]

/-! ### without -/
def withoutF (b : List Deed) (o : Idd) : List Deed := b.filter fun d => !decide (d.id ∈ o :: leanF b o)
abbrev nNoDeed : Nm := [78, 111, 68, 101, 101, 100]
structure Wo (T : Tab) : Prop where
  sn : T nSignsNamed = some b_signs_named
  dn : T nDeedsNamed = some b_deeds_named
  bi : T n_by_id = some b_by_id
  le : T n_leaning_on = some b_leaning_on
  wo : T n_without = some b_without
theorem without_ev (k : Wo T) {b : List Deed} (hd : Dis b) (hs : ∀ d ∈ b, (sgn d).length ≤ 1000) (hl : b.length ≤ 1000) (o : Idd) :
    evF T (n + 4) n_without [eBook b, eId o] = if inB b o = true then .val (eBook (withoutF b o)) else .exc nNoDeed := by
  rw [evF_run k.wo rfl]
  have e1 := byId_ev (n := n + 2) k.bi hd
  have e2 := leanOn_ev (n := n) k.sn k.dn k.le hs hl o
  have hlen : (leanF b o).length ≤ 1000 := by
    unfold leanF leanG
    have := leanG_len b [o]
    simp at this ⊢
    omega
  have e3 : dAdd (.lst [eId o]) (.lst ((leanF b o).map eId)) = .val (.lst ((o :: leanF b o).map eId)) := by
    rw [cat_lstZ (by simp; omega)]
    rfl
  cases hi : inB b o with
  | false =>
    rw [if_neg (by decide)]
    simp -implicitDefEqProofs only [b_without, exs, ex, ev, evs, evIt, get_0, get_1, get_2, get_3, get_4, get_5, get_6, get_7, get_8, get_9, get_10, get_11, get_12, get_13, setE_0, setE_1, setE_2, setE_3, setE_4, setE_5, setE_6, setE_7, setE_8, setE_9, setE_10, setE_11, setE_12, setE_13, d_sh, d_ow, v_sh, f_sh, f_ow, o_sh, o_ow, frz_nil, frz_cons, nxt_nx, nxt_rt, startE_nil, startE_cons, uns_0, uns_1, uns_2, uns_3, uns_4, uns_5, uns_6, uns_7, uns_8, uns_9, uns_10, uns_11, uns_12, fin_rt, fin_nx, bor_nil, bor_v, bor_dnil, bor_c, bor_vv, bor_fn, bor_add, bor_sub, bor_mul, bor_dv, bor_md, bor_neg, bor_not, bor_and, bor_or, bor_ite, bor_cmp, bor_tup, bor_lst, bor_idx, bor_sl, bor_call, bor_bi1, bor_bi2, bor_me1, bor_me2, bor_comp, bor_compIf, ent_f, Out.bind_val, Out.pure_val, Out.bind_bad, asB_bl, owned_ow, lstOf_lst, immIf_false, noExc_val, orBad_some, chk_true, Nat.reduceSub, Nat.reduceAdd, Bool.or_false, Bool.false_or, Bool.or_true, if_true, Bool.false_eq_true, if_false, e1, nmem_kvs, hi, Bool.not_false, bind_exc', fin_exc]
  | true =>
    rw [if_pos rfl]
    have hm : mapIfD (stepOf [3] (.one 3) (fun δ' => ev (evF T (n + 3)) without_c1 δ' >>= asB) (fun δ' => ev (evF T (n + 3)) without_e1 δ') [.sh (eBook b), .sh (eId o), .sh (.lst ((o :: leanF b o).map eId)), .un]) (b.map eDeed) = .val ((withoutF b o).map eDeed) := filt_map b fun d _ => by
      simp -implicitDefEqProofs only [without_e1, without_c1, stepOf, wipe_nil, wipe_cons, bind_one, exs, ex, ev, evs, evIt, get_0, get_1, get_2, get_3, get_4, get_5, get_6, get_7, get_8, get_9, get_10, get_11, get_12, get_13, setE_0, setE_1, setE_2, setE_3, setE_4, setE_5, setE_6, setE_7, setE_8, setE_9, setE_10, setE_11, setE_12, setE_13, d_sh, d_ow, v_sh, f_sh, f_ow, o_sh, o_ow, frz_nil, frz_cons, nxt_nx, nxt_rt, startE_nil, startE_cons, uns_0, uns_1, uns_2, uns_3, uns_4, uns_5, uns_6, uns_7, uns_8, uns_9, uns_10, uns_11, uns_12, fin_rt, fin_nx, bor_nil, bor_v, bor_dnil, bor_c, bor_vv, bor_fn, bor_add, bor_sub, bor_mul, bor_dv, bor_md, bor_neg, bor_not, bor_and, bor_or, bor_ite, bor_cmp, bor_tup, bor_lst, bor_idx, bor_sl, bor_call, bor_bi1, bor_bi2, bor_me1, bor_me2, bor_comp, bor_compIf, ent_f, Out.bind_val, Out.pure_val, Out.bind_bad, asB_bl, owned_ow, lstOf_lst, immIf_false, noExc_val, orBad_some, chk_true, Nat.reduceSub, Nat.reduceAdd, Bool.or_false, Bool.false_or, Bool.or_true, if_true, Bool.false_eq_true, if_false, id_at, nmem_ids]
      cases decide (d.id ∈ o :: leanF b o) <;> rfl
    simp -implicitDefEqProofs only [b_without, exs, ex, ev, evs, evIt, get_0, get_1, get_2, get_3, get_4, get_5, get_6, get_7, get_8, get_9, get_10, get_11, get_12, get_13, setE_0, setE_1, setE_2, setE_3, setE_4, setE_5, setE_6, setE_7, setE_8, setE_9, setE_10, setE_11, setE_12, setE_13, d_sh, d_ow, v_sh, f_sh, f_ow, o_sh, o_ow, frz_nil, frz_cons, nxt_nx, nxt_rt, startE_nil, startE_cons, uns_0, uns_1, uns_2, uns_3, uns_4, uns_5, uns_6, uns_7, uns_8, uns_9, uns_10, uns_11, uns_12, fin_rt, fin_nx, bor_nil, bor_v, bor_dnil, bor_c, bor_vv, bor_fn, bor_add, bor_sub, bor_mul, bor_dv, bor_md, bor_neg, bor_not, bor_and, bor_or, bor_ite, bor_cmp, bor_tup, bor_lst, bor_idx, bor_sl, bor_call, bor_bi1, bor_bi2, bor_me1, bor_me2, bor_comp, bor_compIf, ent_f, Out.bind_val, Out.pure_val, Out.bind_bad, asB_bl, owned_ow, lstOf_lst, immIf_false, noExc_val, orBad_some, chk_true, Nat.reduceSub, Nat.reduceAdd, Bool.or_false, Bool.false_or, Bool.or_true, if_true, Bool.false_eq_true, if_false, e1, nmem_kvs, hi, Bool.not_true, e2, e3, it_book, hm, tup_lst]
    rfl
end
end Py
end
section
set_option autoImplicit false
set_option linter.all false
set_option maxRecDepth 100000
set_option maxHeartbeats 4000000
/-! QB: depths, layers, what is named: mirrors. -/
namespace Py
def b_need_deed : FD := ⟨2, 2, (.cons (.ifS (.cmp .nmem (.v 1) (.call [98, 121, 95, 105, 100] (.cons (.v 0) .nil))) (.cons (.raise [78, 111, 68, 101, 101, 100]) .nil) .nil) .nil)⟩
abbrev n_need_deed : Nm := [110, 101, 101, 100, 95, 100, 101, 101, 100]
def depths_of_e1 : E := (.add (.c (.int 1)) (.idx (.v 1) (.v 3)))
def depths_of_l1 : Ss := (.cons (.setIdx 1 (.idx (.v 2) (.c (.int 1))) (.bi2 .maxd (.comp depths_of_e1 (.one 3) [3] (.e (.call [100, 101, 101, 100, 115, 95, 110, 97, 109, 101, 100] (.cons (.v 2) .nil)))) (.c (.int 0)))) .nil)
def b_depths_of : FD := ⟨1, 4, (.cons (.set 1 .dnil true []) (.cons (.forS (.one 2) (.e (.vv 0)) [] depths_of_l1) (.cons (.ret (.vv 1) [1]) .nil)))⟩
abbrev n_depths_of : Nm := [100, 101, 112, 116, 104, 115, 95, 111, 102]
def b_depth : FD := ⟨2, 2, (.cons (.ex (.call [110, 101, 101, 100, 95, 100, 101, 101, 100] (.cons (.v 0) (.cons (.v 1) .nil)))) (.cons (.ret (.idx (.call [100, 101, 112, 116, 104, 115, 95, 111, 102] (.cons (.v 0) .nil)) (.v 1)) []) .nil))⟩
abbrev n_depth : Nm := [100, 101, 112, 116, 104]
def layers_e1 : E := (.idx (.v 1) (.v 4))
def layers_e2 : E := (.vv 4)
def layers_c1 : E := (.cmp .eq (.idx (.v 1) (.v 4)) (.v 3))
def layers_l1 : Ss := (.cons (.app 2 (.bi1 .sorted (.compIf layers_e2 (.one 4) [4] (.e (.v 1)) layers_c1))) .nil)
def b_layers : FD := ⟨1, 5, (.cons (.set 1 (.call [100, 101, 112, 116, 104, 115, 95, 111, 102] (.cons (.v 0) .nil)) false []) (.cons (.set 2 (.lst .nil) true []) (.cons (.forS (.one 3) (.range1 (.add (.bi2 .maxd (.comp layers_e1 (.one 4) [4] (.e (.v 1))) (.neg (.c (.int 1)))) (.c (.int 1)))) [] layers_l1) (.cons (.ret (.vv 2) [2]) .nil))))⟩
abbrev n_layers : Nm := [108, 97, 121, 101, 114, 115]
def named_in_c1 : E := (.cmp .ne (.v 4) (.lst .nil))
def named_in_e1 : E := (.vv 7)
def named_in_c2 : E := (.cmp .nmem (.v 7) (.add (.v 3) (.v 5)))
def named_in_l1 : Ss := (.cons (.set 5 (.add (.v 5) (.compIf named_in_e1 (.one 7) [7] (.e (.call [100, 101, 101, 100, 115, 95, 110, 97, 109, 101, 100] (.cons (.idx (.v 2) (.v 6)) .nil))) named_in_c2)) false []) .nil)
def named_in_l2 : Ss := (.cons (.set 5 (.lst .nil) false []) (.cons (.forS (.one 6) (.e (.vv 4)) [] named_in_l1) (.cons (.set 4 (.bi1 .sortset (.v 5)) false []) (.cons (.set 3 (.add (.v 3) (.v 4)) false []) .nil))))
def b_named_in : FD := ⟨2, 8, (.cons (.ex (.call [110, 101, 101, 100, 95, 100, 101, 101, 100] (.cons (.v 0) (.cons (.v 1) .nil)))) (.cons (.set 2 (.call [98, 121, 95, 105, 100] (.cons (.v 0) .nil)) false []) (.cons (.set 3 (.lst .nil) false []) (.cons (.set 4 (.lst (.cons (.vv 1) .nil)) false []) (.cons (.whileS named_in_c1 named_in_l2) (.cons (.ret (.bi1 .sorted (.v 3)) []) .nil))))))⟩
abbrev n_named_in : Nm := [110, 97, 109, 101, 100, 95, 105, 110]

/-! ### what a drawn deed names -/
theorem Dv.nm {known : List Deed} {names : List (List Nat)} {one : Idd} {d : Deed} (h : Dv known names one d) : ∀ o ∈ dnm d, o ∈ known.map Deed.id := by
  intro o ho
  unfold dnm at ho
  rcases List.mem_append.mp ho with ho | ho
  · obtain ⟨s, hs, rfl⟩ := List.mem_map.mp ho
    obtain ⟨i, bb, t, h1, h2, _⟩ := mem_signs (h.sgn s hs)
    rw [h2]
    exact List.mem_map.mpr ⟨_, h1, rfl⟩
  · cases d <;> simp at ho
    subst ho
    exact h.2
theorem Bk.nm {names : List (List Nat)} {b : List Deed} {d : Deed} (h : Bk names b) (hd : d ∈ b) : ∀ o ∈ dnm d, ∃ e ∈ b, e.id = o ∧ e.id.1 < d.id.1 := fun o ho => by
  obtain ⟨e, he, rfl⟩ := List.mem_map.mp ((h.fits d hd).nm o ho)
  obtain ⟨h1, h2⟩ := List.mem_filter.mp he
  exact ⟨e, h1, rfl, of_decide_eq_true h2⟩
/-- each deed names deeds ahead of it alone -/
def Nmd (b : List Deed) : Prop := ∀ pre d post, b = pre ++ d :: post → ∀ o ∈ dnm d, o ∈ pre.map Deed.id
theorem Bk.nmd {names : List (List Nat)} {b : List Deed} (h : Bk names b) : Nmd b := fun pre d post e o ho => by
  have hd : d ∈ b := by rw [e]; simp
  obtain ⟨x, h1, h2, h3⟩ := h.nm hd o ho
  rw [e] at h1
  rcases List.mem_append.mp h1 with h1 | h1
  · exact List.mem_map.mpr ⟨x, h1, h2⟩
  · exfalso
    have up := h.up
    rw [e, List.pairwise_append] at up
    rcases List.mem_cons.mp h1 with h1 | h1
    · rw [h1] at h3; omega
    · have := (List.pairwise_cons.mp up.2.1).1 x h1
      unfold idLt at this
      omega

/-! ### dicts of numbers by ids -/
def kvI (K : List (Idd × Int)) : List (D × D) := K.map fun p => (eId p.1, .int p.2)
def lk : List (Idd × Int) → Idd → Int
  | [], _ => 0
  | p :: r, o => if p.1 = o then p.2 else lk r o
theorem look_kvI {o : Idd} : ∀ {K : List (Idd × Int)}, o ∈ K.map (·.1) → look (kvI K) (eId o) = some (.int (lk K o))
  | [], h => by simp at h
  | p :: r, h => by
    show (if D.eqv (eId p.1) (eId o) = true then some (D.int p.2) else look (kvI r) (eId o)) = _
    rw [id_eqv]
    unfold lk
    by_cases e : p.1 = o
    · rw [if_pos (by simpa using e), if_pos e]
    · rw [if_neg (by simpa using e), if_neg e]
      refine look_kvI ?_
      rcases List.mem_cons.mp h with h | h
      · exact absurd h.symm e
      · exact h
theorem look_kvN {x : D} : ∀ {K : List (Idd × Int)}, (∀ i ∈ K.map (·.1), D.eqv (eId i) x = false) → look (kvI K) x = none
  | [], _ => rfl
  | p :: r, h => by
    show (if D.eqv (eId p.1) x = true then some (D.int p.2) else look (kvI r) x) = _
    rw [h p.1 (by simp), if_neg (by decide)]
    exact look_kvN fun i hi => h i (List.mem_cons_of_mem _ hi)
theorem put_kvI {i : Idd} {v : Int} : ∀ {K : List (Idd × Int)}, i ∉ K.map (·.1) → put (kvI K) (eId i) (.int v) = kvI (K ++ [(i, v)])
  | [], _ => rfl
  | p :: r, h => by
    have h1 : p.1 ≠ i := fun e => h (by rw [← e]; simp)
    show (if D.eqv (eId p.1) (eId i) = true then (eId p.1, D.int v) :: kvI r else (eId p.1, D.int p.2) :: put (kvI r) (eId i) (.int v)) = _
    rw [id_eqv, if_neg (by simpa using h1), put_kvI fun z => h (List.mem_cons_of_mem _ z)]
    rfl
theorem idx_kvI {o : Idd} {K : List (Idd × Int)} (h : o ∈ K.map (·.1)) : dIdx (.dct (kvI K)) (eId o) = .val (.int (lk K o)) := by
  show (if D.hkey (eId o) = true then orBad (look (kvI K) (eId o)) else .bad) = _
  rw [show D.hkey (eId o) = true from rfl, if_pos rfl, look_kvI h]
  rfl
theorem set_kvI {i : Idd} {v : Int} {K : List (Idd × Int)} (h : i ∉ K.map (·.1)) (hl : K.length ≤ 1000) : dSet (.dct (kvI K)) (eId i) (.int v) = .val (.dct (kvI (K ++ [(i, v)]))) := by
  show chk (D.hkey (eId i) && decide ((kvI K).length < LIM)) (D.dct (put (kvI K) (eId i) (.int v))) = _
  rw [put_kvI h]
  have : ((kvI K).length < LIM) := by
    unfold kvI LIM
    rw [List.length_map]
    omega
  rw [decide_eq_true this]
  rfl
theorem it_kvI (K : List (Idd × Int)) : items (.dct (kvI K)) = .val ((K.map (·.1)).map eId) := by
  show Out.val (keysOf (kvI K)) = _
  congr 1
  induction K with
  | nil => rfl
  | cons p r ih =>
    show eId p.1 :: keysOf (kvI r) = _
    rw [ih]
    rfl

/-! ### depths -/
def dvF (K : List (Idd × Int)) (d : Deed) : Int := maxI 0 ((dnm d).map fun o => 1 + lk K o)
def depS (K : List (Idd × Int)) (d : Deed) : List (Idd × Int) := K ++ [(d.id, dvF K d)]
def depF (b : List Deed) : List (Idd × Int) := b.foldl depS []
def Pos (K : List (Idd × Int)) : Prop := ∀ p ∈ K, 0 ≤ p.2
theorem Pos.lk {K : List (Idd × Int)} (h : Pos K) (o : Idd) : 0 ≤ lk K o := by
  induction K with
  | nil => exact Int.le_refl _
  | cons p r ih =>
    unfold Py.lk
    split
    · exact h p List.mem_cons_self
    · exact ih fun x hx => h x (List.mem_cons_of_mem _ hx)
theorem Pos.step {K : List (Idd × Int)} (h : Pos K) (d : Deed) : Pos (depS K d) := fun p hp => by
  rcases List.mem_append.mp hp with hp | hp
  · exact h p hp
  · rw [List.mem_singleton.mp hp]
    exact (maxI_spec _ 0).2 0 List.mem_cons_self
theorem intsOf_map : ∀ ys : List Int, intsOf (ys.map .int) = some ys
  | [] => rfl
  | y :: r => by
    show (intsOf (r.map .int)).map (y :: ·) = _
    rw [intsOf_map r]
    rfl
theorem maxd_pos {ys : List Int} (h : ∀ y ∈ ys, 0 ≤ y) : bi2 .maxd (.lst (ys.map .int)) (.int 0) = .val (.int (maxI 0 ys)) := by
  show (match intsOf (ys.map .int) with
    | some (i :: is) => Out.val (D.int (maxI i is))
    | some [] => .val (.int 0)
    | none => .bad) = _
  rw [intsOf_map]
  cases ys with
  | nil => rfl
  | cons y r =>
    show Out.val (D.int (maxI y r)) = .val (.int (maxI (max 0 y) r))
    rw [Int.max_eq_right (h y List.mem_cons_self)]
theorem maxd_neg (ys : List Int) (h : ∀ y ∈ ys, -1 ≤ y) : bi2 .maxd (.lst (ys.map .int)) (.int (-1)) = .val (.int (maxI (-1) ys)) := by
  show (match intsOf (ys.map .int) with
    | some (i :: is) => Out.val (D.int (maxI i is))
    | some [] => .val (.int (-1))
    | none => .bad) = _
  rw [intsOf_map]
  cases ys with
  | nil => rfl
  | cons y r =>
    show Out.val (D.int (maxI y r)) = .val (.int (maxI (max (-1) y) r))
    rw [Int.max_eq_right (h y List.mem_cons_self)]
theorem max1_cons (i : Int) (ys : List Int) : bi1 .max1 (.lst ((i :: ys).map .int)) = .val (.int (maxI i ys)) := by
  show (match intsOf ((i :: ys).map .int) with
    | some (i :: is) => Out.val (D.int (maxI i is))
    | _ => .bad) = _
  rw [intsOf_map]
theorem add_int (a b : Int) : dAdd (.int a) (.int b) = .val (.int (a + b)) := rfl
section
variable {T : Tab} {n : Nat}
theorem depStep (F : Nm → List D → Out D) (x0 u3 : Ent) {d : Deed} {K : List (Idd × Int)} (h1 : F nDeedsNamed [eDeed d] = .val (.lst ((dnm d).map eId))) (hn : ∀ o ∈ dnm d, o ∈ K.map (·.1)) (hi : d.id ∉ K.map (·.1)) (hp : Pos K) (hl : K.length ≤ 1000) :
    exs F depths_of_l1 [x0, .ow (.dct (kvI K)), .sh (eDeed d), u3] = .val (.nx, [x0, .ow (.dct (kvI (depS K d))), .sh (eDeed d), u3]) := by
  have hm : mapIfD (stepOf [3] (.one 3) (fun _ => .val true) (fun δ' => ev F depths_of_e1 δ') [x0, .ow (.dct (kvI K)), .sh (eDeed d), u3]) ((dnm d).map eId) = .val (((dnm d).map fun o => 1 + lk K o).map .int) := by
    rw [List.map_map]
    exact mapAll_map fun o ho => by
      simp -implicitDefEqProofs only [depths_of_e1, stepOf, wipe_nil, wipe_cons, bind_one, exs, ex, ev, evs, evIt, get_0, get_1, get_2, get_3, get_4, get_5, get_6, get_7, get_8, get_9, get_10, get_11, get_12, get_13, setE_0, setE_1, setE_2, setE_3, setE_4, setE_5, setE_6, setE_7, setE_8, setE_9, setE_10, setE_11, setE_12, setE_13, d_sh, d_ow, v_sh, f_sh, f_ow, o_sh, o_ow, frz_nil, frz_cons, nxt_nx, nxt_rt, startE_nil, startE_cons, uns_0, uns_1, uns_2, uns_3, uns_4, uns_5, uns_6, uns_7, uns_8, uns_9, uns_10, uns_11, uns_12, fin_rt, fin_nx, bor_nil, bor_v, bor_dnil, bor_c, bor_vv, bor_fn, bor_add, bor_sub, bor_mul, bor_dv, bor_md, bor_neg, bor_not, bor_and, bor_or, bor_ite, bor_cmp, bor_tup, bor_lst, bor_idx, bor_sl, bor_call, bor_bi1, bor_bi2, bor_me1, bor_me2, bor_comp, bor_compIf, ent_f, Out.bind_val, Out.pure_val, Out.bind_bad, asB_bl, owned_ow, lstOf_lst, immIf_false, noExc_val, orBad_some, chk_true, Nat.reduceSub, Nat.reduceAdd, Bool.or_false, Bool.false_or, Bool.or_true, if_true, Bool.false_eq_true, if_false, idx_kvI (hn o ho), add_int]
      rfl
  have hx : bi2 .maxd (.lst (((dnm d).map fun o => 1 + lk K o).map .int)) (.int 0) = .val (.int (dvF K d)) := maxd_pos fun y hy => by
    obtain ⟨o, _, rfl⟩ := List.mem_map.mp hy
    have := hp.lk o
    omega
  simp -implicitDefEqProofs only [depths_of_l1, exs, ex, ev, evs, evIt, get_0, get_1, get_2, get_3, get_4, get_5, get_6, get_7, get_8, get_9, get_10, get_11, get_12, get_13, setE_0, setE_1, setE_2, setE_3, setE_4, setE_5, setE_6, setE_7, setE_8, setE_9, setE_10, setE_11, setE_12, setE_13, d_sh, d_ow, v_sh, f_sh, f_ow, o_sh, o_ow, frz_nil, frz_cons, nxt_nx, nxt_rt, startE_nil, startE_cons, uns_0, uns_1, uns_2, uns_3, uns_4, uns_5, uns_6, uns_7, uns_8, uns_9, uns_10, uns_11, uns_12, fin_rt, fin_nx, bor_nil, bor_v, bor_dnil, bor_c, bor_vv, bor_fn, bor_add, bor_sub, bor_mul, bor_dv, bor_md, bor_neg, bor_not, bor_and, bor_or, bor_ite, bor_cmp, bor_tup, bor_lst, bor_idx, bor_sl, bor_call, bor_bi1, bor_bi2, bor_me1, bor_me2, bor_comp, bor_compIf, ent_f, Out.bind_val, Out.pure_val, Out.bind_bad, asB_bl, owned_ow, lstOf_lst, immIf_false, noExc_val, orBad_some, chk_true, Nat.reduceSub, Nat.reduceAdd, Bool.or_false, Bool.false_or, Bool.or_true, if_true, Bool.false_eq_true, if_false, h1, it_lstZ, hm, hx, id_at, set_kvI hi hl]
  rfl
theorem depths_ev (h1 : T nSignsNamed = some b_signs_named) (h2 : T nDeedsNamed = some b_deeds_named) (h : T n_depths_of = some b_depths_of) {b : List Deed} (hs : ∀ d ∈ b, (sgn d).length ≤ 1000) (hl : b.length ≤ 1000) (hd : Dis b) (hn : Nmd b) :
    evF T (n + 3) n_depths_of [eBook b] = .val (.dct (kvI (depF b))) ∧ Pos (depF b) ∧ (depF b).map (·.1) = b.map Deed.id := by
  have loop := forD_ex (enc := eDeed) (xs := b) (P := fun r δ => ∃ (pre : List Deed) (K : List (Idd × Int)) (u2 : Ent), δ = [.sh (eBook b), .ow (.dct (kvI K)), u2, .un] ∧ b = pre ++ r ∧ K.map (·.1) = pre.map Deed.id ∧ Pos K ∧ r.foldl depS K = depF b) (f := fun x δ => do
    let δ' ← bindT δ (.one 2) x
    exs (evF T (n + 2)) depths_of_l1 δ') (δ := [.sh (eBook b), .ow (.dct (kvI [])), .un, .un])
    ⟨[], [], .un, rfl, rfl, rfl, fun _ h => (nomatch h), rfl⟩ (fun d r δ ⟨pre, K, u2, hδ, hb, hk, hp, hf⟩ => by
      subst hδ
      have hdb : d ∈ b := by rw [hb]; simp
      have e1 := deedsNamed_ev (n := n) h1 h2 d (hs d hdb)
      have hi : d.id ∉ K.map (·.1) := by
        rw [hk]
        unfold Dis at hd
        rw [hb, List.map_append, List.nodup_append] at hd
        exact fun z => hd.2.2 d.id z d.id (by simp) rfl
      have hlen : K.length ≤ 1000 := by
        have a1 := congrArg List.length hk
        have a2 := congrArg List.length hb
        simp at a1 a2
        omega
      have st := depStep (evF T (n + 2)) (.sh (eBook b)) .un e1 (K := K) (by rw [hk]; exact hn pre d r hb) hi hp hlen
      refine ⟨_, ?_, pre ++ [d], depS K d, .sh (eDeed d), rfl, by rw [hb]; simp, by simp [depS, hk], hp.step d, hf⟩
      simp -implicitDefEqProofs only [bind_one, exs, ex, ev, evs, evIt, get_0, get_1, get_2, get_3, get_4, get_5, get_6, get_7, get_8, get_9, get_10, get_11, get_12, get_13, setE_0, setE_1, setE_2, setE_3, setE_4, setE_5, setE_6, setE_7, setE_8, setE_9, setE_10, setE_11, setE_12, setE_13, d_sh, d_ow, v_sh, f_sh, f_ow, o_sh, o_ow, frz_nil, frz_cons, nxt_nx, nxt_rt, startE_nil, startE_cons, uns_0, uns_1, uns_2, uns_3, uns_4, uns_5, uns_6, uns_7, uns_8, uns_9, uns_10, uns_11, uns_12, fin_rt, fin_nx, bor_nil, bor_v, bor_dnil, bor_c, bor_vv, bor_fn, bor_add, bor_sub, bor_mul, bor_dv, bor_md, bor_neg, bor_not, bor_and, bor_or, bor_ite, bor_cmp, bor_tup, bor_lst, bor_idx, bor_sl, bor_call, bor_bi1, bor_bi2, bor_me1, bor_me2, bor_comp, bor_compIf, ent_f, Out.bind_val, Out.pure_val, Out.bind_bad, asB_bl, owned_ow, lstOf_lst, immIf_false, noExc_val, orBad_some, chk_true, Nat.reduceSub, Nat.reduceAdd, Bool.or_false, Bool.false_or, Bool.or_true, if_true, Bool.false_eq_true, if_false, st])
  obtain ⟨δ', l1, pre, K, u2, rfl, hb, hk, hp, hf⟩ := loop
  have hf : K = depF b := hf
  subst hf
  rw [List.append_nil] at hb
  subst hb
  refine ⟨?_, hp, hk⟩
  rw [evF_run h rfl]
  have he : entOf true (fresh .dnil) (.dct []) = .ow (.dct (kvI [])) := rfl
  simp -implicitDefEqProofs only [b_depths_of, exs, ex, ev, evs, evIt, get_0, get_1, get_2, get_3, get_4, get_5, get_6, get_7, get_8, get_9, get_10, get_11, get_12, get_13, setE_0, setE_1, setE_2, setE_3, setE_4, setE_5, setE_6, setE_7, setE_8, setE_9, setE_10, setE_11, setE_12, setE_13, d_sh, d_ow, v_sh, f_sh, f_ow, o_sh, o_ow, frz_nil, frz_cons, nxt_nx, nxt_rt, startE_nil, startE_cons, uns_0, uns_1, uns_2, uns_3, uns_4, uns_5, uns_6, uns_7, uns_8, uns_9, uns_10, uns_11, uns_12, fin_rt, fin_nx, bor_nil, bor_v, bor_dnil, bor_c, bor_vv, bor_fn, bor_add, bor_sub, bor_mul, bor_dv, bor_md, bor_neg, bor_not, bor_and, bor_or, bor_ite, bor_cmp, bor_tup, bor_lst, bor_idx, bor_sl, bor_call, bor_bi1, bor_bi2, bor_me1, bor_me2, bor_comp, bor_compIf, ent_f, Out.bind_val, Out.pure_val, Out.bind_bad, asB_bl, owned_ow, lstOf_lst, immIf_false, noExc_val, orBad_some, chk_true, Nat.reduceSub, Nat.reduceAdd, Bool.or_false, Bool.false_or, Bool.or_true, if_true, Bool.false_eq_true, if_false, he, it_book, l1]
theorem ex_val {F : Nm → List D → Out D} {e : E} {δ : Env} {d : D} (h : ev F e δ = .val d) : ex F (.ex e) δ = .val (.nx, δ) := by
  simp only [ex, h, Out.bind_val]
  rfl
theorem ex_exc {F : Nm → List D → Out D} {e : E} {δ : Env} {c : Nm} (h : ev F e δ = .exc c) : ex F (.ex e) δ = .exc c := by
  simp only [ex, h]
  rfl
end

/-! ### sorted lists of ids -/
def idLe (a b : Idd) : Bool := le (eId a) (eId b)
def srt (xs : List Idd) : List Idd := xs.mergeSort idLe
theorem sortD_ids (xs : List Idd) : sortD (xs.map eId) = (srt xs).map eId := (PySem.W.sort_maps (r := idLe) (s := le) eId fun _ _ _ _ => rfl).symm
theorem srt_perm (xs : List Idd) : (srt xs).Perm xs := List.mergeSort_perm _ _
theorem id_alike (a b : Idd) : D.alike (eId a) (eId b) = true := rfl
theorem ids_alikes (xs : List Idd) : alikes (xs.map eId) = true := by
  unfold alikes
  simp only [List.all_eq_true, List.mem_map, Bool.and_eq_true]
  rintro x ⟨a, _, rfl⟩
  refine ⟨rfl, ?_⟩
  rintro y ⟨b, _, rfl⟩
  rfl
theorem ids_tup1 (xs : List Idd) : (xs.map eId).all isTup1 = true := by
  simp only [List.all_eq_true, List.mem_map]
  rintro x ⟨a, _, rfl⟩
  rfl
theorem ids_hkey (xs : List Idd) : (xs.map eId).all D.hkey = true := by
  simp only [List.all_eq_true, List.mem_map]
  rintro x ⟨a, _, rfl⟩
  rfl
theorem ids_sortable (xs : List Idd) : sortable (xs.map eId) = true := by
  unfold sortable
  rw [ids_alikes, ids_tup1]
  rfl
theorem sorted_ids (xs : List Idd) : bi1 .sorted (.lst (xs.map eId)) = .val (.lst ((srt xs).map eId)) := by
  show chk (sortable (xs.map eId)) (D.lst (sortD (xs.map eId))) = _
  rw [ids_sortable, sortD_ids]
  rfl
theorem eId_inj {a b : Idd} (h : eId a = eId b) : a = b := by
  obtain ⟨a1, a2⟩ := a
  obtain ⟨b1, b2⟩ := b
  simp [eId] at h
  rw [h.1, h.2]
theorem map_eId_inj : ∀ {xs ys : List Idd}, xs.map eId = ys.map eId → xs = ys
  | [], [], _ => rfl
  | [], _ :: _, h => by cases h
  | _ :: _, [], h => by cases h
  | x :: xs, y :: ys, h => by
    simp only [List.map_cons, List.cons.injEq] at h
    rw [eId_inj h.1, map_eId_inj h.2]
/-- two lists with the same ids are sorted alike -/
theorem srt_congr {xs ys : List Idd} (h : xs.Perm ys) : srt xs = srt ys := by
  have := sortD_perm (ids_alikes xs) (h.map eId)
  rw [sortD_ids, sortD_ids] at this
  exact map_eId_inj this
theorem idLe_of {a b : Idd} (h : idLt a b) : idLe a b = true := by
  show (!D.lt (eId b) (eId a)) = true
  have e : D.lt (eId b) (eId a) = (if D.eqv (.int b.1) (.int a.1) then D.ltAll [.str [b.2]] [.str [a.2]] else decide (b.1 < a.1)) := by
    unfold eId
    simp only [D.lt, D.ltAll]
  rw [e]
  unfold idLt at h
  by_cases c : b.1 = a.1
  · have c1 : D.eqv (.int b.1) (.int a.1) = true := by simp [D.eqv, c]
    rw [if_pos c1]
    have h2 : a.2 < b.2 := by omega
    simp [D.ltAll, D.lt, D.ltS, D.eqv]
    omega
  · have c1 : ¬ D.eqv (.int b.1) (.int a.1) = true := by simp [D.eqv, c]
    rw [if_neg c1]
    simp
    omega
theorem srt_up {xs : List Idd} (h : xs.Pairwise idLt) : srt xs = xs := List.mergeSort_of_pairwise (h.imp idLe_of)
/-- the ids of a book rise -/
def Up (b : List Deed) : Prop := b.Pairwise fun x y => idLt x.id y.id
theorem Up.ids {b : List Deed} (h : Up b) : (b.map Deed.id).Pairwise idLt := List.pairwise_map.mpr h

/-! ### a deed asked for -/
section
variable {T : Tab} {n : Nat}
theorem need_ev (h1 : T n_by_id = some b_by_id) (h : T n_need_deed = some b_need_deed) {b : List Deed} (hd : Dis b) {x : D} {c : Bool} (hx : dCmp .nmem x (.dct (kvsF b)) = .val c) : evF T (n + 2) n_need_deed [eBook b, x] = if c = true then .exc nNoDeed else .val .non := by
  rw [evF_run h rfl]
  have e1 := byId_ev (n := n) h1 hd
  cases c with
  | true => simp -implicitDefEqProofs only [b_need_deed, exs, ex, ev, evs, evIt, get_0, get_1, get_2, get_3, get_4, get_5, get_6, get_7, get_8, get_9, get_10, get_11, get_12, get_13, setE_0, setE_1, setE_2, setE_3, setE_4, setE_5, setE_6, setE_7, setE_8, setE_9, setE_10, setE_11, setE_12, setE_13, d_sh, d_ow, v_sh, f_sh, f_ow, o_sh, o_ow, frz_nil, frz_cons, nxt_nx, nxt_rt, startE_nil, startE_cons, uns_0, uns_1, uns_2, uns_3, uns_4, uns_5, uns_6, uns_7, uns_8, uns_9, uns_10, uns_11, uns_12, fin_rt, fin_nx, bor_nil, bor_v, bor_dnil, bor_c, bor_vv, bor_fn, bor_add, bor_sub, bor_mul, bor_dv, bor_md, bor_neg, bor_not, bor_and, bor_or, bor_ite, bor_cmp, bor_tup, bor_lst, bor_idx, bor_sl, bor_call, bor_bi1, bor_bi2, bor_me1, bor_me2, bor_comp, bor_compIf, ent_f, Out.bind_val, Out.pure_val, Out.bind_bad, asB_bl, owned_ow, lstOf_lst, immIf_false, noExc_val, orBad_some, chk_true, Nat.reduceSub, Nat.reduceAdd, Bool.or_false, Bool.false_or, Bool.or_true, if_true, Bool.false_eq_true, if_false, e1, hx, bind_exc', fin_exc]
  | false => simp -implicitDefEqProofs only [b_need_deed, exs, ex, ev, evs, evIt, get_0, get_1, get_2, get_3, get_4, get_5, get_6, get_7, get_8, get_9, get_10, get_11, get_12, get_13, setE_0, setE_1, setE_2, setE_3, setE_4, setE_5, setE_6, setE_7, setE_8, setE_9, setE_10, setE_11, setE_12, setE_13, d_sh, d_ow, v_sh, f_sh, f_ow, o_sh, o_ow, frz_nil, frz_cons, nxt_nx, nxt_rt, startE_nil, startE_cons, uns_0, uns_1, uns_2, uns_3, uns_4, uns_5, uns_6, uns_7, uns_8, uns_9, uns_10, uns_11, uns_12, fin_rt, fin_nx, bor_nil, bor_v, bor_dnil, bor_c, bor_vv, bor_fn, bor_add, bor_sub, bor_mul, bor_dv, bor_md, bor_neg, bor_not, bor_and, bor_or, bor_ite, bor_cmp, bor_tup, bor_lst, bor_idx, bor_sl, bor_call, bor_bi1, bor_bi2, bor_me1, bor_me2, bor_comp, bor_compIf, ent_f, Out.bind_val, Out.pure_val, Out.bind_bad, asB_bl, owned_ow, lstOf_lst, immIf_false, noExc_val, orBad_some, chk_true, Nat.reduceSub, Nat.reduceAdd, Bool.or_false, Bool.false_or, Bool.or_true, if_true, Bool.false_eq_true, if_false, e1, hx]
structure De (T : Tab) : Prop where
  sn : T nSignsNamed = some b_signs_named
  dn : T nDeedsNamed = some b_deeds_named
  bi : T n_by_id = some b_by_id
  nd : T n_need_deed = some b_need_deed
  ds : T n_depths_of = some b_depths_of
  de : T n_depth = some b_depth
  la : T n_layers = some b_layers
  ni : T n_named_in = some b_named_in
theorem depth_no (k : De T) {b : List Deed} (hd : Dis b) {x : D} (hx : dCmp .nmem x (.dct (kvsF b)) = .val true) : evF T (n + 4) n_depth [eBook b, x] = .exc nNoDeed := by
  rw [evF_run k.de rfl]
  have e1 := need_ev (n := n + 1) k.bi k.nd hd hx
  rw [if_pos rfl] at e1
  simp -implicitDefEqProofs only [b_depth, exs, ex, ev, evs, evIt, get_0, get_1, get_2, get_3, get_4, get_5, get_6, get_7, get_8, get_9, get_10, get_11, get_12, get_13, setE_0, setE_1, setE_2, setE_3, setE_4, setE_5, setE_6, setE_7, setE_8, setE_9, setE_10, setE_11, setE_12, setE_13, d_sh, d_ow, v_sh, f_sh, f_ow, o_sh, o_ow, frz_nil, frz_cons, nxt_nx, nxt_rt, startE_nil, startE_cons, uns_0, uns_1, uns_2, uns_3, uns_4, uns_5, uns_6, uns_7, uns_8, uns_9, uns_10, uns_11, uns_12, fin_rt, fin_nx, bor_nil, bor_v, bor_dnil, bor_c, bor_vv, bor_fn, bor_add, bor_sub, bor_mul, bor_dv, bor_md, bor_neg, bor_not, bor_and, bor_or, bor_ite, bor_cmp, bor_tup, bor_lst, bor_idx, bor_sl, bor_call, bor_bi1, bor_bi2, bor_me1, bor_me2, bor_comp, bor_compIf, ent_f, Out.bind_val, Out.pure_val, Out.bind_bad, asB_bl, owned_ow, lstOf_lst, immIf_false, noExc_val, orBad_some, chk_true, Nat.reduceSub, Nat.reduceAdd, Bool.or_false, Bool.false_or, Bool.or_true, if_true, Bool.false_eq_true, if_false, e1, bind_exc', fin_exc]
theorem depth_ev (k : De T) {b : List Deed} (hs : ∀ d ∈ b, (sgn d).length ≤ 1000) (hl : b.length ≤ 1000) (hd : Dis b) (hn : Nmd b) {o : Idd} (ho : o ∈ b.map Deed.id) : evF T (n + 4) n_depth [eBook b, eId o] = .val (.int (lk (depF b) o)) := by
  rw [evF_run k.de rfl]
  have hb : inB b o = true := decide_eq_true ho
  have e1 := need_ev (n := n + 1) k.bi k.nd hd (nmem_kvs b o)
  rw [hb, if_neg (by decide)] at e1
  obtain ⟨e2, _, e3⟩ := depths_ev (n := n) k.sn k.dn k.ds hs hl hd hn
  have e4 := idx_kvI (o := o) (K := depF b) (by rw [e3]; exact ho)
  simp -implicitDefEqProofs only [b_depth, exs, ex, ev, evs, evIt, get_0, get_1, get_2, get_3, get_4, get_5, get_6, get_7, get_8, get_9, get_10, get_11, get_12, get_13, setE_0, setE_1, setE_2, setE_3, setE_4, setE_5, setE_6, setE_7, setE_8, setE_9, setE_10, setE_11, setE_12, setE_13, d_sh, d_ow, v_sh, f_sh, f_ow, o_sh, o_ow, frz_nil, frz_cons, nxt_nx, nxt_rt, startE_nil, startE_cons, uns_0, uns_1, uns_2, uns_3, uns_4, uns_5, uns_6, uns_7, uns_8, uns_9, uns_10, uns_11, uns_12, fin_rt, fin_nx, bor_nil, bor_v, bor_dnil, bor_c, bor_vv, bor_fn, bor_add, bor_sub, bor_mul, bor_dv, bor_md, bor_neg, bor_not, bor_and, bor_or, bor_ite, bor_cmp, bor_tup, bor_lst, bor_idx, bor_sl, bor_call, bor_bi1, bor_bi2, bor_me1, bor_me2, bor_comp, bor_compIf, ent_f, Out.bind_val, Out.pure_val, Out.bind_bad, asB_bl, owned_ow, lstOf_lst, immIf_false, noExc_val, orBad_some, chk_true, Nat.reduceSub, Nat.reduceAdd, Bool.or_false, Bool.false_or, Bool.or_true, if_true, Bool.false_eq_true, if_false, e1, e2, e4]

/-! ### layers -/
def rowF (b : List Deed) (k : Int) : List Idd := (b.map Deed.id).filter fun o => decide (lk (depF b) o = k)
def topF (b : List Deed) : Int := maxI (-1) ((b.map Deed.id).map (lk (depF b)))
def rowsF (b : List Deed) : List (List Idd) := (List.range (topF b + 1).toNat).map fun k : Nat => rowF b k
def eRows (rs : List (List Idd)) : D := .lst (rs.map fun r => .lst (r.map eId))
theorem row_up {b : List Deed} (h : Up b) (k : Int) : srt (rowF b k) = rowF b k := srt_up (h.ids.filter _)
theorem maxI_le {m : Int} : ∀ (ys : List Int) (i : Int), i ≤ m → (∀ y ∈ ys, y ≤ m) → maxI i ys ≤ m := fun ys i h1 h2 => by
  obtain ⟨a, _⟩ := maxI_spec ys i
  rcases List.mem_cons.mp a with e | e
  · rw [e]; exact h1
  · exact h2 _ e
theorem lk_of {m : Int} (h0 : 1 ≤ m) (o : Idd) : ∀ {K : List (Idd × Int)}, (∀ p ∈ K, p.2 < m) → lk K o < m
  | [], _ => by
    show (0 : Int) < m
    omega
  | q :: K, h => by
    unfold lk
    split
    · exact h q List.mem_cons_self
    · exact lk_of h0 o fun x hx => h x (List.mem_cons_of_mem _ hx)
theorem lk_lt : ∀ (r : List Deed) (K : List (Idd × Int)) (m : Int), (∀ p ∈ K, p.2 < m) → 1 ≤ m → ∀ p ∈ r.foldl depS K, p.2 < m + r.length
  | [], K, m, h, _ => fun p hp => by
    have := h p hp
    simp
    omega
  | d :: r, K, m, h, h0 => fun p hp => by
    have := lk_lt r (depS K d) (m + 1) (fun q hq => by
      rcases List.mem_append.mp hq with hq | hq
      · have := h q hq
        omega
      · rw [List.mem_singleton.mp hq]
        show dvF K d < m + 1
        have : dvF K d ≤ m := maxI_le _ _ (by omega) fun y hy => by
          obtain ⟨o, _, rfl⟩ := List.mem_map.mp hy
          have := lk_of h0 o h
          omega
        omega) (by omega) p hp
    simp only [List.length_cons]
    omega
theorem top_bd (b : List Deed) : -1 ≤ topF b ∧ topF b ≤ b.length := by
  have h : ∀ o, lk (depF b) o < 1 + b.length := fun o => lk_of (by omega) o (lk_lt b [] 1 (fun _ h => (nomatch h)) (by omega))
  refine ⟨(maxI_spec _ _).2 _ List.mem_cons_self, maxI_le _ _ (by omega) fun y hy => ?_⟩
  obtain ⟨o, _, rfl⟩ := List.mem_map.mp hy
  have := h o
  omega
theorem eRows_snoc (rs : List (List Idd)) (r : List Idd) : D.lst (rs.map (fun r => D.lst (r.map eId)) ++ [.lst (r.map eId)]) = eRows (rs ++ [r]) := by simp [eRows]
theorem layers_ev (k : De T) {b : List Deed} (hs : ∀ d ∈ b, (sgn d).length ≤ 1000) (hl : b.length ≤ 1000) (hd : Dis b) (hn : Nmd b) (hu : Up b) : evF T (n + 4) n_layers [eBook b] = .val (eRows (rowsF b)) := by
  rw [evF_run k.la rfl]
  obtain ⟨e2, hp, e3⟩ := depths_ev (n := n) k.sn k.dn k.ds hs hl hd hn
  obtain ⟨t1, t2⟩ := top_bd b
  have ik : ∀ o ∈ b.map Deed.id, dIdx (.dct (kvI (depF b))) (eId o) = .val (.int (lk (depF b) o)) := fun o ho => idx_kvI (by rw [e3]; exact ho)
  have it : items (.dct (kvI (depF b))) = .val ((b.map Deed.id).map eId) := by rw [it_kvI, e3]
  have m1 : mapIfD (stepOf [4] (.one 4) (fun _ => .val true) (fun δ' => ev (evF T (n + 3)) layers_e1 δ') [.sh (eBook b), .sh (.dct (kvI (depF b))), .ow (eRows []), .un, .un]) ((b.map Deed.id).map eId) = .val (((b.map Deed.id).map (lk (depF b))).map .int) := by
    rw [List.map_map (f := lk (depF b))]
    exact mapAll_map fun o ho => by
      simp -implicitDefEqProofs only [layers_e1, stepOf, wipe_nil, wipe_cons, bind_one, exs, ex, ev, evs, evIt, get_0, get_1, get_2, get_3, get_4, get_5, get_6, get_7, get_8, get_9, get_10, get_11, get_12, get_13, setE_0, setE_1, setE_2, setE_3, setE_4, setE_5, setE_6, setE_7, setE_8, setE_9, setE_10, setE_11, setE_12, setE_13, d_sh, d_ow, v_sh, f_sh, f_ow, o_sh, o_ow, frz_nil, frz_cons, nxt_nx, nxt_rt, startE_nil, startE_cons, uns_0, uns_1, uns_2, uns_3, uns_4, uns_5, uns_6, uns_7, uns_8, uns_9, uns_10, uns_11, uns_12, fin_rt, fin_nx, bor_nil, bor_v, bor_dnil, bor_c, bor_vv, bor_fn, bor_add, bor_sub, bor_mul, bor_dv, bor_md, bor_neg, bor_not, bor_and, bor_or, bor_ite, bor_cmp, bor_tup, bor_lst, bor_idx, bor_sl, bor_call, bor_bi1, bor_bi2, bor_me1, bor_me2, bor_comp, bor_compIf, ent_f, Out.bind_val, Out.pure_val, Out.bind_bad, asB_bl, owned_ow, lstOf_lst, immIf_false, noExc_val, orBad_some, chk_true, Nat.reduceSub, Nat.reduceAdd, Bool.or_false, Bool.false_or, Bool.or_true, if_true, Bool.false_eq_true, if_false, ik o ho]
      rfl
  have m2 : bi2 .maxd (.lst (((b.map Deed.id).map (lk (depF b))).map .int)) (.int (-1)) = .val (.int (topF b)) := maxd_neg _ fun y hy => by
    obtain ⟨o, _, rfl⟩ := List.mem_map.mp hy
    have := hp.lk o
    omega
  have hr := range_int (topF b + 1) (by omega) (by omega)
  have loop := forD_ex (enc := fun k : Nat => D.int (k : Int)) (xs := List.range (topF b + 1).toNat) (P := fun r δ => ∃ (pre : List Nat) (u3 : Ent), δ = [.sh (eBook b), .sh (.dct (kvI (depF b))), .ow (eRows (pre.map fun k : Nat => rowF b k)), u3, .un] ∧ List.range (topF b + 1).toNat = pre ++ r) (f := fun x δ => do
    let δ' ← bindT δ (.one 3) x
    exs (evF T (n + 3)) layers_l1 δ') (δ := [.sh (eBook b), .sh (.dct (kvI (depF b))), .ow (eRows []), .un, .un])
    ⟨[], .un, rfl, rfl⟩ (fun c r δ ⟨pre, u3, hδ, hpr⟩ => by
      subst hδ
      have m3 : mapIfD (stepOf [4] (.one 4) (fun δ' => ev (evF T (n + 3)) layers_c1 δ' >>= asB) (fun δ' => ev (evF T (n + 3)) layers_e2 δ') [.sh (eBook b), .sh (.dct (kvI (depF b))), .ow (eRows (pre.map fun k : Nat => rowF b k)), .sh (.int (c : Int)), .un]) ((b.map Deed.id).map eId) = .val ((rowF b c).map eId) := filtZ _ fun o ho => by
        have q := encInt.cEq (lk (depF b) o) (c : Int)
        simp -implicitDefEqProofs only [layers_c1, layers_e2, stepOf, wipe_nil, wipe_cons, bind_one, exs, ex, ev, evs, evIt, get_0, get_1, get_2, get_3, get_4, get_5, get_6, get_7, get_8, get_9, get_10, get_11, get_12, get_13, setE_0, setE_1, setE_2, setE_3, setE_4, setE_5, setE_6, setE_7, setE_8, setE_9, setE_10, setE_11, setE_12, setE_13, d_sh, d_ow, v_sh, f_sh, f_ow, o_sh, o_ow, frz_nil, frz_cons, nxt_nx, nxt_rt, startE_nil, startE_cons, uns_0, uns_1, uns_2, uns_3, uns_4, uns_5, uns_6, uns_7, uns_8, uns_9, uns_10, uns_11, uns_12, fin_rt, fin_nx, bor_nil, bor_v, bor_dnil, bor_c, bor_vv, bor_fn, bor_add, bor_sub, bor_mul, bor_dv, bor_md, bor_neg, bor_not, bor_and, bor_or, bor_ite, bor_cmp, bor_tup, bor_lst, bor_idx, bor_sl, bor_call, bor_bi1, bor_bi2, bor_me1, bor_me2, bor_comp, bor_compIf, ent_f, Out.bind_val, Out.pure_val, Out.bind_bad, asB_bl, owned_ow, lstOf_lst, immIf_false, noExc_val, orBad_some, chk_true, Nat.reduceSub, Nat.reduceAdd, Bool.or_false, Bool.false_or, Bool.or_true, if_true, Bool.false_eq_true, if_false, ik o ho, q]
        cases decide (lk (depF b) o = (c : Int)) <;> rfl
      have hc : c ≤ 1001 := by
        have : c ∈ List.range (topF b + 1).toNat := by rw [hpr]; simp
        rw [List.mem_range] at this
        omega
      have hlen : pre.length ≤ 1001 := by
        have := congrArg List.length hpr
        simp at this
        omega
      have ap : dApp (.lst ((pre.map fun k : Nat => rowF b k).map fun r => .lst (r.map eId))) (.lst ((rowF b c).map eId)) = .val (eRows ((pre ++ [c]).map fun k : Nat => rowF b k)) := by
        rw [app_lst (by simp; omega), eRows_snoc]
        simp
      have so := sorted_ids (rowF b c)
      rw [row_up hu] at so
      refine ⟨_, ?_, pre ++ [c], .sh (.int (c : Int)), rfl, by rw [hpr]; simp⟩
      have un : eRows (pre.map fun k : Nat => rowF b k) = .lst ((pre.map fun k : Nat => rowF b k).map fun r => .lst (r.map eId)) := rfl
      rw [un] at m3 ⊢
      simp -implicitDefEqProofs only [layers_l1, bind_one, exs, ex, ev, evs, evIt, get_0, get_1, get_2, get_3, get_4, get_5, get_6, get_7, get_8, get_9, get_10, get_11, get_12, get_13, setE_0, setE_1, setE_2, setE_3, setE_4, setE_5, setE_6, setE_7, setE_8, setE_9, setE_10, setE_11, setE_12, setE_13, d_sh, d_ow, v_sh, f_sh, f_ow, o_sh, o_ow, frz_nil, frz_cons, nxt_nx, nxt_rt, startE_nil, startE_cons, uns_0, uns_1, uns_2, uns_3, uns_4, uns_5, uns_6, uns_7, uns_8, uns_9, uns_10, uns_11, uns_12, fin_rt, fin_nx, bor_nil, bor_v, bor_dnil, bor_c, bor_vv, bor_fn, bor_add, bor_sub, bor_mul, bor_dv, bor_md, bor_neg, bor_not, bor_and, bor_or, bor_ite, bor_cmp, bor_tup, bor_lst, bor_idx, bor_sl, bor_call, bor_bi1, bor_bi2, bor_me1, bor_me2, bor_comp, bor_compIf, ent_f, Out.bind_val, Out.pure_val, Out.bind_bad, asB_bl, owned_ow, lstOf_lst, immIf_false, noExc_val, orBad_some, chk_true, Nat.reduceSub, Nat.reduceAdd, Bool.or_false, Bool.false_or, Bool.or_true, if_true, Bool.false_eq_true, if_false, it, m3, so, ap])
  obtain ⟨δ', l1, pre, u3, rfl, hpr⟩ := loop
  rw [List.append_nil] at hpr
  have he : entOf true (fresh (.lst .nil)) (.lst []) = .ow (eRows []) := rfl
  have ng : dNeg (.int 1) = .val (.int (-1)) := rfl
  simp -implicitDefEqProofs only [b_layers, exs, ex, ev, evs, evIt, get_0, get_1, get_2, get_3, get_4, get_5, get_6, get_7, get_8, get_9, get_10, get_11, get_12, get_13, setE_0, setE_1, setE_2, setE_3, setE_4, setE_5, setE_6, setE_7, setE_8, setE_9, setE_10, setE_11, setE_12, setE_13, d_sh, d_ow, v_sh, f_sh, f_ow, o_sh, o_ow, frz_nil, frz_cons, nxt_nx, nxt_rt, startE_nil, startE_cons, uns_0, uns_1, uns_2, uns_3, uns_4, uns_5, uns_6, uns_7, uns_8, uns_9, uns_10, uns_11, uns_12, fin_rt, fin_nx, bor_nil, bor_v, bor_dnil, bor_c, bor_vv, bor_fn, bor_add, bor_sub, bor_mul, bor_dv, bor_md, bor_neg, bor_not, bor_and, bor_or, bor_ite, bor_cmp, bor_tup, bor_lst, bor_idx, bor_sl, bor_call, bor_bi1, bor_bi2, bor_me1, bor_me2, bor_comp, bor_compIf, ent_f, Out.bind_val, Out.pure_val, Out.bind_bad, asB_bl, owned_ow, lstOf_lst, immIf_false, noExc_val, orBad_some, chk_true, Nat.reduceSub, Nat.reduceAdd, Bool.or_false, Bool.false_or, Bool.or_true, if_true, Bool.false_eq_true, if_false, he, e2, it, m1, m2, ng, add_int, hr, l1]
  unfold rowsF
  rw [hpr]
end

/-! ### what is named, over others perhaps -/
def nmB (b : List Deed) (i : Idd) : List Idd := match b.find? fun d => decide (d.id = i) with
  | some d => dnm d
  | none => []
inductive Rch (b : List Deed) (o : Idd) : Idd → Prop where
  | one {j : Idd} : j ∈ nmB b o → Rch b o j
  | more {k j : Idd} : Rch b o k → j ∈ nmB b k → Rch b o j
theorem nmB_mem {b : List Deed} {i j : Idd} (h : j ∈ nmB b i) : ∃ d ∈ b, d.id = i ∧ j ∈ dnm d := by
  unfold nmB at h
  split at h
  · rename_i d hd
    exact ⟨d, List.mem_of_find?_eq_some hd, by simpa using List.find?_some hd, h⟩
  · cases h
theorem nmB_at {b : List Deed} (hd : Dis b) {d : Deed} (h : d ∈ b) : (b.find? fun e => decide (e.id = d.id)) = some d ∧ nmB b d.id = dnm d := by
  have key : (b.find? fun e => decide (e.id = d.id)) = some d := by
    unfold Dis at hd
    induction b with
    | nil => cases h
    | cons e r ih =>
      rw [List.map_cons, List.nodup_cons] at hd
      rw [List.find?_cons]
      by_cases c : e.id = d.id
      · rw [decide_eq_true c]
        rcases List.mem_cons.mp h with h | h
        · rw [h]
        · exact absurd (List.mem_map.mpr ⟨d, h, c.symm⟩) hd.1
      · rw [decide_eq_false c]
        rcases List.mem_cons.mp h with h | h
        · exact absurd (by rw [h]) c
        · exact ih hd.2 h
  refine ⟨key, ?_⟩
  unfold nmB
  rw [key]
/-- all that is named is there -/
def In (b : List Deed) : Prop := ∀ d ∈ b, ∀ o ∈ dnm d, o ∈ b.map Deed.id
theorem Nmd.in {b : List Deed} (h : Nmd b) : In b := fun d hd o ho => by
  obtain ⟨pre, post, rfl⟩ := List.append_of_mem hd
  have := h pre d post rfl o ho
  rw [List.map_append]
  exact List.mem_append_left _ this
theorem Rch.in {b : List Deed} (h : In b) {o j : Idd} (r : Rch b o j) : j ∈ b.map Deed.id := by
  cases r with
  | one q => obtain ⟨d, h1, _, h2⟩ := nmB_mem q; exact h d h1 _ h2
  | more _ q => obtain ⟨d, h1, _, h2⟩ := nmB_mem q; exact h d h1 _ h2
theorem sortset_ids {xs ys : List Idd} (h : ∀ x ∈ xs, x ∈ ys) (hl : ys.length < 64) : ∃ zs : List Idd, bi1 .sortset (.lst (xs.map eId)) = .val (.lst (zs.map eId)) ∧ zs.Nodup ∧ ∀ i, i ∈ zs ↔ i ∈ xs := by
  obtain ⟨dn, dm⟩ := dedup_spec (xs.map eId) [] (fun x hx y hy => (alikes_at (ids_alikes xs) (by simpa using hx) (by simpa using hy)).2) List.nodup_nil
  have dec : ∀ l : List D, (∀ x ∈ l, ∃ i ∈ xs, x = eId i) → ∃ zs : List Idd, l = zs.map eId ∧ ∀ i ∈ zs, i ∈ xs := fun l => by
    induction l with
    | nil => intro _; exact ⟨[], rfl, fun _ h => (nomatch h)⟩
    | cons x l ih =>
      intro hx
      obtain ⟨zs, e, hz⟩ := ih fun y hy => hx y (List.mem_cons_of_mem _ hy)
      obtain ⟨i, hi, e2⟩ := hx x List.mem_cons_self
      refine ⟨i :: zs, by rw [e, e2]; rfl, fun j hj => ?_⟩
      rcases List.mem_cons.mp hj with q | q
      · rw [q]; exact hi
      · exact hz j q
  obtain ⟨zs, e, hz⟩ := dec (dedup [] (xs.map eId)) fun x hx => by
    rcases (dm x).mp hx with q | q
    · cases q
    · obtain ⟨i, hi, e⟩ := List.mem_map.mp q
      exact ⟨i, hi, e.symm⟩
  have zn : zs.Nodup := by
    rw [e] at dn
    exact List.Pairwise.of_map eId (fun _ _ h q => h (congrArg eId q)) dn
  have zm : ∀ i, i ∈ zs ↔ i ∈ xs := fun i => ⟨hz i, fun hi => by
    have : eId i ∈ dedup [] (xs.map eId) := (dm _).mpr (.inr (List.mem_map.mpr ⟨i, hi, rfl⟩))
    rw [e] at this
    obtain ⟨j, hj, q⟩ := List.mem_map.mp this
    rw [← eId_inj q]
    exact hj⟩
  have few : (dedup [] (xs.map eId)).length < 64 := by
    have := nodup_len zs ys zn fun x hx => h x ((zm x).mp hx)
    rw [e, List.length_map]
    omega
  refine ⟨srt zs, ?_, (srt_perm zs).nodup_iff.mpr zn, fun i => (srt_perm zs).mem_iff.trans (zm i)⟩
  show chk (sortable (xs.map eId) && (xs.map eId).all D.hkey && (xs.map eId).all isTup1 && decide ((dedup [] (xs.map eId)).length < 64)) (D.lst (sortD (dedup [] (xs.map eId)))) = _
  rw [ids_sortable, ids_hkey, ids_tup1, decide_eq_true few, e, sortD_ids]
  rfl
def moreS (b : List Deed) (found more : List Idd) (o : Idd) : List Idd := more ++ (nmB b o).filter fun h => !has h (found ++ more)
theorem moreF_spec (b : List Deed) (found : List Idd) : ∀ (fresh more : List Idd), (∀ j ∈ more, j ∉ found) → (∀ j ∈ fresh.foldl (moreS b found) more, j ∉ found ∧ (j ∈ more ∨ ∃ x ∈ fresh, j ∈ nmB b x)) ∧ (∀ j ∈ more, j ∈ fresh.foldl (moreS b found) more) ∧ ∀ x ∈ fresh, ∀ j ∈ nmB b x, j ∈ found ∨ j ∈ fresh.foldl (moreS b found) more
  | [], more, h => ⟨fun j hj => ⟨h j hj, .inl hj⟩, fun j hj => hj, fun x hx => (nomatch hx)⟩
  | x :: r, more, h => by
    have hm : ∀ j, j ∈ moreS b found more x ↔ j ∈ more ∨ (j ∈ nmB b x ∧ j ∉ found ∧ j ∉ more) := fun j => by
      unfold moreS
      rw [List.mem_append, List.mem_filter, Bool.not_eq_true', ← Bool.not_eq_true, has_iff, List.mem_append, not_or]
    obtain ⟨a, b', c⟩ := moreF_spec b found r (moreS b found more x) fun j hj => by
      rcases (hm j).mp hj with q | q
      · exact h j q
      · exact q.2.1
    refine ⟨fun j hj => ?_, fun j hj => b' j ((hm j).mpr (.inl hj)), fun y hy j hj => ?_⟩
    · obtain ⟨a1, a2⟩ := a j hj
      refine ⟨a1, ?_⟩
      rcases a2 with q | ⟨y, hy, q⟩
      · rcases (hm j).mp q with q | q
        · exact .inl q
        · exact .inr ⟨x, List.mem_cons_self, q.1⟩
      · exact .inr ⟨y, List.mem_cons_of_mem _ hy, q⟩
    · rcases List.mem_cons.mp hy with e | hy
      · subst e
        by_cases c1 : j ∈ found
        · exact .inl c1
        · refine .inr (b' j ((hm j).mpr ?_))
          by_cases c2 : j ∈ more
          · exact .inl c2
          · exact .inr ⟨hj, c1, c2⟩
      · exact c y hy j hj
theorem whileD_no {c : Env → Out D} {f : Env → Out (Ctl × Env)} {n : Nat} {δ : Env} (h : c δ = .val (.bl false)) : whileD c f (n + 1) δ = .val (.nx, δ) := by
  simp only [whileD, h, Out.bind_val, asB_bl, Bool.false_eq_true, if_false]
theorem whileD_yes {c : Env → Out D} {f : Env → Out (Ctl × Env)} {n : Nat} {δ δ1 : Env} (h : c δ = .val (.bl true)) (h1 : f δ = .val (.nx, δ1)) : whileD c f (n + 1) δ = whileD c f n δ1 := by
  simp only [whileD, h, Out.bind_val, asB_bl, if_true, h1, nxt_nx]
structure Bfs (b : List Deed) (o : Idd) (found fresh : List Idd) : Prop where
  nd : found.Nodup
  rc : ∀ x ∈ found, Rch b o x
  fr : ∀ x ∈ fresh, x = o ∨ x ∈ found
  cl : ∀ x, (x = o ∨ x ∈ found) → x ∉ fresh → ∀ j ∈ nmB b x, j ∈ found
theorem Bfs.next {b : List Deed} {o : Idd} {found fresh zs : List Idd} (h : Bfs b o found fresh) (hn : zs.Nodup) (hz : ∀ i, i ∈ zs ↔ i ∈ fresh.foldl (moreS b found) []) : Bfs b o (found ++ zs) zs := by
  obtain ⟨a, _, c⟩ := moreF_spec b found fresh [] fun _ h => (nomatch h)
  have a' : ∀ j ∈ zs, j ∉ found ∧ ∃ x ∈ fresh, j ∈ nmB b x := fun j hj => by
    obtain ⟨a1, a2⟩ := a j ((hz j).mp hj)
    exact ⟨a1, a2.resolve_left fun z => (nomatch z)⟩
  refine ⟨List.nodup_append.mpr ⟨h.nd, hn, fun x hx y hy e => (a' y hy).1 (e ▸ hx)⟩, fun x hx => ?_, fun x hx => .inr (List.mem_append_right _ hx), fun x hx hnx j hj => ?_⟩
  · rcases List.mem_append.mp hx with hx | hx
    · exact h.rc x hx
    · obtain ⟨_, y, hy, q⟩ := a' x hx
      rcases h.fr y hy with e | e
      · subst e; exact .one q
      · exact .more (h.rc y e) q
  · have hx' : x = o ∨ x ∈ found := by
      rcases hx with e | e
      · exact .inl e
      · exact .inr ((List.mem_append.mp e).resolve_right hnx)
    rw [List.mem_append]
    by_cases f : x ∈ fresh
    · exact (c x f j hj).imp id fun q => (hz j).mpr q
    · exact .inl (h.cl x hx' f j hj)
theorem Bfs.done {b : List Deed} {o : Idd} {found : List Idd} (h : Bfs b o found []) : ∀ x, x ∈ found ↔ Rch b o x := fun x => ⟨h.rc x, fun r => by
  induction r with
  | one q => exact h.cl o (.inl rfl) (fun z => nomatch z) _ q
  | more _ q ih => exact h.cl _ (.inr ih) (fun z => nomatch z) _ q⟩
theorem cat_big {a b : List D} (h : a.length + b.length ≤ 1000000) : dAdd (.lst a) (.lst b) = .val (.lst (a ++ b)) := by
  show chk _ _ = _
  unfold chk
  rw [if_pos]
  have : (1000000 : Nat) ≤ LIM := by decide
  exact decide_eq_true (by omega)
theorem cat_ids {a b : List Idd} (h : a.length + b.length ≤ 1000000) : dAdd (.lst (a.map eId)) (.lst (b.map eId)) = .val (.lst ((a ++ b).map eId)) := by
  rw [cat_big (by simpa using h), List.map_append]
section
variable {T : Tab} {n : Nat}
theorem nmB_len {b : List Deed} (hs : ∀ d ∈ b, (sgn d).length ≤ 1000) (x : Idd) : (nmB b x).length ≤ 1001 := by
  unfold nmB
  split
  · rename_i d hd
    have := hs d (List.mem_of_find?_eq_some hd)
    unfold dnm
    cases d <;> simp at this ⊢ <;> omega
  · simp
theorem niStep (F : Nm → List D → Out D) (x0 x1 x4 u7 : Ent) {b : List Deed} (hd : Dis b) (h1 : ∀ d ∈ b, F nDeedsNamed [eDeed d] = .val (.lst ((dnm d).map eId))) {x : Idd} (hx : x ∈ b.map Deed.id) {found more : List Idd} (hs : ∀ d ∈ b, (sgn d).length ≤ 1000) (hl : found.length + more.length ≤ 100000) :
    exs F named_in_l1 [x0, x1, .sh (.dct (kvsF b)), .sh (.lst (found.map eId)), x4, .sh (.lst (more.map eId)), .sh (eId x), u7] = .val (.nx, [x0, x1, .sh (.dct (kvsF b)), .sh (.lst (found.map eId)), x4, .sh (.lst ((moreS b found more x).map eId)), .sh (eId x), u7]) := by
  obtain ⟨d, hdb, rfl⟩ := List.mem_map.mp hx
  obtain ⟨f1, f2⟩ := nmB_at hd hdb
  have e1 := idx_kvs f1
  have e2 := h1 d hdb
  have len := nmB_len hs d.id
  rw [f2] at len
  have e3 := cat_ids (a := found) (b := more) (by omega)
  have hm : mapIfD (stepOf [7] (.one 7) (fun δ' => ev F named_in_c2 δ' >>= asB) (fun δ' => ev F named_in_e1 δ') [x0, x1, .sh (.dct (kvsF b)), .sh (.lst (found.map eId)), x4, .sh (.lst (more.map eId)), .sh (eId d.id), u7]) ((dnm d).map eId) = .val (((dnm d).filter fun h => !has h (found ++ more)).map eId) := filtZ _ fun j _ => by
    have q := encId.cNmem j (found ++ more)
    simp -implicitDefEqProofs only [named_in_c2, named_in_e1, stepOf, wipe_nil, wipe_cons, bind_one, exs, ex, ev, evs, evIt, get_0, get_1, get_2, get_3, get_4, get_5, get_6, get_7, get_8, get_9, get_10, get_11, get_12, get_13, setE_0, setE_1, setE_2, setE_3, setE_4, setE_5, setE_6, setE_7, setE_8, setE_9, setE_10, setE_11, setE_12, setE_13, d_sh, d_ow, v_sh, f_sh, f_ow, o_sh, o_ow, frz_nil, frz_cons, nxt_nx, nxt_rt, startE_nil, startE_cons, uns_0, uns_1, uns_2, uns_3, uns_4, uns_5, uns_6, uns_7, uns_8, uns_9, uns_10, uns_11, uns_12, fin_rt, fin_nx, bor_nil, bor_v, bor_dnil, bor_c, bor_vv, bor_fn, bor_add, bor_sub, bor_mul, bor_dv, bor_md, bor_neg, bor_not, bor_and, bor_or, bor_ite, bor_cmp, bor_tup, bor_lst, bor_idx, bor_sl, bor_call, bor_bi1, bor_bi2, bor_me1, bor_me2, bor_comp, bor_compIf, ent_f, Out.bind_val, Out.pure_val, Out.bind_bad, asB_bl, owned_ow, lstOf_lst, immIf_false, noExc_val, orBad_some, chk_true, Nat.reduceSub, Nat.reduceAdd, Bool.or_false, Bool.false_or, Bool.or_true, if_true, Bool.false_eq_true, if_false, e3, q]
    cases has j (found ++ more) <;> rfl
  have len2 := List.length_filter_le (fun h => !has h (found ++ more)) (dnm d)
  have e4 := cat_ids (a := more) (b := (dnm d).filter fun h => !has h (found ++ more)) (by omega)
  have e5 : moreS b found more d.id = more ++ (dnm d).filter fun h => !has h (found ++ more) := by unfold moreS; rw [f2]
  have ef : ∀ (e : E) (x : D), entOf false (fresh e) x = .sh x := fun e x => rfl
  simp -implicitDefEqProofs only [named_in_l1, exs, ex, ev, evs, evIt, get_0, get_1, get_2, get_3, get_4, get_5, get_6, get_7, get_8, get_9, get_10, get_11, get_12, get_13, setE_0, setE_1, setE_2, setE_3, setE_4, setE_5, setE_6, setE_7, setE_8, setE_9, setE_10, setE_11, setE_12, setE_13, d_sh, d_ow, v_sh, f_sh, f_ow, o_sh, o_ow, frz_nil, frz_cons, nxt_nx, nxt_rt, startE_nil, startE_cons, uns_0, uns_1, uns_2, uns_3, uns_4, uns_5, uns_6, uns_7, uns_8, uns_9, uns_10, uns_11, uns_12, fin_rt, fin_nx, bor_nil, bor_v, bor_dnil, bor_c, bor_vv, bor_fn, bor_add, bor_sub, bor_mul, bor_dv, bor_md, bor_neg, bor_not, bor_and, bor_or, bor_ite, bor_cmp, bor_tup, bor_lst, bor_idx, bor_sl, bor_call, bor_bi1, bor_bi2, bor_me1, bor_me2, bor_comp, bor_compIf, ent_f, Out.bind_val, Out.pure_val, Out.bind_bad, asB_bl, owned_ow, lstOf_lst, immIf_false, noExc_val, orBad_some, chk_true, Nat.reduceSub, Nat.reduceAdd, Bool.or_false, Bool.false_or, Bool.or_true, if_true, Bool.false_eq_true, if_false, e1, e2, it_lstZ, hm, e4, ef]
  rw [e5]
theorem named_ev (k : De T) {b : List Deed} (hs : ∀ d ∈ b, (sgn d).length ≤ 1000) (hl : b.length ≤ 50) (hd : Dis b) (hn : Nmd b) {o : Idd} (ho : o ∈ b.map Deed.id) : ∃ fs, evF T (n + 4) n_named_in [eBook b, eId o] = .val (.lst ((srt fs).map eId)) ∧ fs.Nodup ∧ ∀ x, x ∈ fs ↔ Rch b o x := by
  have hin := hn.in
  have dn : ∀ d ∈ b, evF T (n + 3) nDeedsNamed [eDeed d] = .val (.lst ((dnm d).map eId)) := fun d hdb => deedsNamed_ev (n := n + 1) k.sn k.dn d (hs d hdb)
  have ef : ∀ (e : E) (x : D), entOf false (fresh e) x = .sh x := fun e x => rfl
  have ids : ∀ {found fresh : List Idd}, Bfs b o found fresh → (∀ x ∈ found, x ∈ b.map Deed.id) ∧ (∀ x ∈ fresh, x ∈ b.map Deed.id) ∧ found.length ≤ b.length := fun {found fresh} J => by
    have q : ∀ x ∈ found, x ∈ b.map Deed.id := fun x hx => (J.rc x hx).in hin
    refine ⟨q, fun x hx => ?_, ?_⟩
    · rcases J.fr x hx with e | e
      · rw [e]; exact ho
      · exact q x e
    · have := nodup_len found (b.map Deed.id) J.nd q
      simpa using this
  -- one turn of the outer loop
  have body : ∀ (found fresh : List Idd) (u5 u6 u7 : Ent), Bfs b o found fresh → fresh.length ≤ 50 → ∃ (zs : List Idd) (v5 v6 : Ent), Bfs b o (found ++ zs) zs ∧ zs.length ≤ 50 ∧
      exs (evF T (n + 3)) named_in_l2 [.sh (eBook b), .sh (eId o), .sh (.dct (kvsF b)), .sh (.lst (found.map eId)), .sh (.lst (fresh.map eId)), u5, u6, u7] = .val (.nx, [.sh (eBook b), .sh (eId o), .sh (.dct (kvsF b)), .sh (.lst ((found ++ zs).map eId)), .sh (.lst (zs.map eId)), v5, v6, u7]) := fun found fresh u5 u6 u7 J hf => by
    obtain ⟨i1, i2, i3⟩ := ids J
    have loop := forD_ex (enc := eId) (xs := fresh) (P := fun r δ => ∃ (more : List Idd) (u6 : Ent), δ = [.sh (eBook b), .sh (eId o), .sh (.dct (kvsF b)), .sh (.lst (found.map eId)), .sh (.lst (fresh.map eId)), .sh (.lst (more.map eId)), u6, u7] ∧ (∀ x ∈ r, x ∈ b.map Deed.id) ∧ more.length + 1001 * r.length ≤ 1001 * fresh.length ∧ r.foldl (moreS b found) more = fresh.foldl (moreS b found) []) (f := fun x δ => do
      let δ' ← bindT δ (.one 6) x
      exs (evF T (n + 3)) named_in_l1 δ') (δ := [.sh (eBook b), .sh (eId o), .sh (.dct (kvsF b)), .sh (.lst (found.map eId)), .sh (.lst (fresh.map eId)), .sh (.lst (([] : List Idd).map eId)), u6, u7])
      ⟨[], u6, rfl, i2, by simp, rfl⟩ (fun x r δ ⟨more, w6, hδ, hr, hlen, hfo⟩ => by
        subst hδ
        simp only [List.length_cons] at hlen
        have st := niStep (evF T (n + 3)) (.sh (eBook b)) (.sh (eId o)) (.sh (.lst (fresh.map eId))) u7 hd dn (hr x List.mem_cons_self) (found := found) (more := more) hs (by omega)
        refine ⟨_, ?_, moreS b found more x, .sh (eId x), rfl, fun y hy => hr y (List.mem_cons_of_mem _ hy), ?_, hfo⟩
        · simp -implicitDefEqProofs only [bind_one, exs, ex, ev, evs, evIt, get_0, get_1, get_2, get_3, get_4, get_5, get_6, get_7, get_8, get_9, get_10, get_11, get_12, get_13, setE_0, setE_1, setE_2, setE_3, setE_4, setE_5, setE_6, setE_7, setE_8, setE_9, setE_10, setE_11, setE_12, setE_13, d_sh, d_ow, v_sh, f_sh, f_ow, o_sh, o_ow, frz_nil, frz_cons, nxt_nx, nxt_rt, startE_nil, startE_cons, uns_0, uns_1, uns_2, uns_3, uns_4, uns_5, uns_6, uns_7, uns_8, uns_9, uns_10, uns_11, uns_12, fin_rt, fin_nx, bor_nil, bor_v, bor_dnil, bor_c, bor_vv, bor_fn, bor_add, bor_sub, bor_mul, bor_dv, bor_md, bor_neg, bor_not, bor_and, bor_or, bor_ite, bor_cmp, bor_tup, bor_lst, bor_idx, bor_sl, bor_call, bor_bi1, bor_bi2, bor_me1, bor_me2, bor_comp, bor_compIf, ent_f, Out.bind_val, Out.pure_val, Out.bind_bad, asB_bl, owned_ow, lstOf_lst, immIf_false, noExc_val, orBad_some, chk_true, Nat.reduceSub, Nat.reduceAdd, Bool.or_false, Bool.false_or, Bool.or_true, if_true, Bool.false_eq_true, if_false, st]
        · have l1 := nmB_len hs x
          have l2 := List.length_filter_le (fun h => !has h (found ++ more)) (nmB b x)
          unfold moreS
          rw [List.length_append]
          omega)
    obtain ⟨δ', l1, more, v6, rfl, _, _, hfo⟩ := loop
    have hfo : more = fresh.foldl (moreS b found) [] := hfo
    subst hfo
    obtain ⟨a, _, _⟩ := moreF_spec b found fresh [] fun _ h => (nomatch h)
    obtain ⟨zs, z1, z2, z3⟩ := sortset_ids (xs := fresh.foldl (moreS b found) []) (ys := b.map Deed.id) (fun x hx => by
      obtain ⟨_, q⟩ := a x hx
      obtain ⟨y, hy, q⟩ := q.resolve_left fun z => (nomatch z)
      obtain ⟨d, h1, _, h2⟩ := nmB_mem q
      exact hin d h1 _ h2) (by rw [List.length_map]; omega)
    have J2 := J.next z2 z3
    obtain ⟨j1, j2, j3⟩ := ids J2
    rw [List.length_append] at j3
    have e5 := cat_ids (a := found) (b := zs) (by omega)
    refine ⟨zs, .sh (.lst ((fresh.foldl (moreS b found) []).map eId)), v6, J2, by omega, ?_⟩
    have hnil : Ent.sh (D.lst []) = .sh (.lst (([] : List Idd).map eId)) := rfl
    simp -implicitDefEqProofs only [named_in_l2, exs, ex, ev, evs, evIt, get_0, get_1, get_2, get_3, get_4, get_5, get_6, get_7, get_8, get_9, get_10, get_11, get_12, get_13, setE_0, setE_1, setE_2, setE_3, setE_4, setE_5, setE_6, setE_7, setE_8, setE_9, setE_10, setE_11, setE_12, setE_13, d_sh, d_ow, v_sh, f_sh, f_ow, o_sh, o_ow, frz_nil, frz_cons, nxt_nx, nxt_rt, startE_nil, startE_cons, uns_0, uns_1, uns_2, uns_3, uns_4, uns_5, uns_6, uns_7, uns_8, uns_9, uns_10, uns_11, uns_12, fin_rt, fin_nx, bor_nil, bor_v, bor_dnil, bor_c, bor_vv, bor_fn, bor_add, bor_sub, bor_mul, bor_dv, bor_md, bor_neg, bor_not, bor_and, bor_or, bor_ite, bor_cmp, bor_tup, bor_lst, bor_idx, bor_sl, bor_call, bor_bi1, bor_bi2, bor_me1, bor_me2, bor_comp, bor_compIf, ent_f, Out.bind_val, Out.pure_val, Out.bind_bad, asB_bl, owned_ow, lstOf_lst, immIf_false, noExc_val, orBad_some, chk_true, Nat.reduceSub, Nat.reduceAdd, Bool.or_false, Bool.false_or, Bool.or_true, if_true, Bool.false_eq_true, if_false, ef, it_lstZ, hnil, l1, z1, e5]
  have cond : ∀ (found fresh : List Idd) (u5 u6 u7 : Ent), ev (evF T (n + 3)) named_in_c1 [.sh (eBook b), .sh (eId o), .sh (.dct (kvsF b)), .sh (.lst (found.map eId)), .sh (.lst (fresh.map eId)), u5, u6, u7] = .val (.bl (!fresh.isEmpty)) := fun found fresh u5 u6 u7 => by
    have q := encId.cNeNil fresh
    simp -implicitDefEqProofs only [named_in_c1, exs, ex, ev, evs, evIt, get_0, get_1, get_2, get_3, get_4, get_5, get_6, get_7, get_8, get_9, get_10, get_11, get_12, get_13, setE_0, setE_1, setE_2, setE_3, setE_4, setE_5, setE_6, setE_7, setE_8, setE_9, setE_10, setE_11, setE_12, setE_13, d_sh, d_ow, v_sh, f_sh, f_ow, o_sh, o_ow, frz_nil, frz_cons, nxt_nx, nxt_rt, startE_nil, startE_cons, uns_0, uns_1, uns_2, uns_3, uns_4, uns_5, uns_6, uns_7, uns_8, uns_9, uns_10, uns_11, uns_12, fin_rt, fin_nx, bor_nil, bor_v, bor_dnil, bor_c, bor_vv, bor_fn, bor_add, bor_sub, bor_mul, bor_dv, bor_md, bor_neg, bor_not, bor_and, bor_or, bor_ite, bor_cmp, bor_tup, bor_lst, bor_idx, bor_sl, bor_call, bor_bi1, bor_bi2, bor_me1, bor_me2, bor_comp, bor_compIf, ent_f, Out.bind_val, Out.pure_val, Out.bind_bad, asB_bl, owned_ow, lstOf_lst, immIf_false, noExc_val, orBad_some, chk_true, Nat.reduceSub, Nat.reduceAdd, Bool.or_false, Bool.false_or, Bool.or_true, if_true, Bool.false_eq_true, if_false, q]
  have run : ∀ (m fuel : Nat) (found fresh : List Idd) (u5 u6 u7 : Ent), Bfs b o found fresh → fresh.length ≤ 50 → b.length - found.length ≤ m → m + 2 ≤ fuel → ∃ (fs : List Idd) (v5 v6 : Ent), Bfs b o fs [] ∧
      whileD (fun δ => ev (evF T (n + 3)) named_in_c1 δ) (fun δ => exs (evF T (n + 3)) named_in_l2 δ) fuel [.sh (eBook b), .sh (eId o), .sh (.dct (kvsF b)), .sh (.lst (found.map eId)), .sh (.lst (fresh.map eId)), u5, u6, u7] = .val (.nx, [.sh (eBook b), .sh (eId o), .sh (.dct (kvsF b)), .sh (.lst (fs.map eId)), .sh (.lst []), v5, v6, u7]) := fun m => by
    induction m with
    | zero =>
      intro fuel found fresh u5 u6 u7 J hf hm hfu
      obtain ⟨f, rfl⟩ : ∃ f, fuel = f + 2 := ⟨fuel - 2, by omega⟩
      cases fresh with
      | nil => exact ⟨found, u5, u6, J, whileD_no (cond found [] u5 u6 u7)⟩
      | cons x r =>
        obtain ⟨zs, v5, v6, J2, z1, run⟩ := body found (x :: r) u5 u6 u7 J hf
        obtain ⟨_, _, j3⟩ := ids J2
        rw [List.length_append] at j3
        obtain rfl : zs = [] := List.eq_nil_of_length_eq_zero (by omega)
        refine ⟨found ++ [], v5, v6, J2, ?_⟩
        rw [whileD_yes (cond found (x :: r) u5 u6 u7) run]
        exact whileD_no (cond (found ++ []) [] v5 v6 u7)
    | succ m ih =>
      intro fuel found fresh u5 u6 u7 J hf hm hfu
      obtain ⟨f, rfl⟩ : ∃ f, fuel = f + 2 := ⟨fuel - 2, by omega⟩
      cases fresh with
      | nil => exact ⟨found, u5, u6, J, whileD_no (cond found [] u5 u6 u7)⟩
      | cons x r =>
        obtain ⟨zs, v5, v6, J2, z1, run⟩ := body found (x :: r) u5 u6 u7 J hf
        obtain ⟨_, _, j3⟩ := ids J2
        rw [List.length_append] at j3
        rw [whileD_yes (cond found (x :: r) u5 u6 u7) run]
        cases zs with
        | nil => exact ⟨found ++ [], v5, v6, J2, whileD_no (cond (found ++ []) [] v5 v6 u7)⟩
        | cons y zs =>
          refine ih (f + 1) _ _ v5 v6 u7 J2 z1 ?_ (by omega)
          simp only [List.length_append, List.length_cons] at j3 ⊢
          omega
  have J0 : Bfs b o [] [o] := ⟨List.nodup_nil, fun _ h => (nomatch h), fun x hx => .inl (List.mem_singleton.mp hx), fun x hx hnx => by
    rcases hx with e | e
    · exact absurd (List.mem_singleton.mpr e) hnx
    · cases e⟩
  obtain ⟨fs, v5, v6, J, w⟩ := run b.length wFuel [] [o] .un .un .un J0 (by simp) (by simp) (by unfold wFuel; omega)
  refine ⟨fs, ?_, J.nd, J.done⟩
  rw [evF_run k.ni rfl]
  have hb : inB b o = true := decide_eq_true ho
  have e1 := need_ev (n := n + 1) k.bi k.nd hd (nmem_kvs b o)
  rw [hb, if_neg (by decide)] at e1
  have e2 := byId_ev (n := n + 2) k.bi hd
  have so := sorted_ids fs
  have w' : whileD (fun δ => ev (evF T (n + 3)) named_in_c1 δ) (fun δ => exs (evF T (n + 3)) named_in_l2 δ) wFuel [.sh (eBook b), .sh (eId o), .sh (.dct (kvsF b)), .sh (.lst []), .sh (.lst [eId o]), .un, .un, .un] = _ := w
  simp -implicitDefEqProofs only [b_named_in, exs, ex, ev, evs, evIt, get_0, get_1, get_2, get_3, get_4, get_5, get_6, get_7, get_8, get_9, get_10, get_11, get_12, get_13, setE_0, setE_1, setE_2, setE_3, setE_4, setE_5, setE_6, setE_7, setE_8, setE_9, setE_10, setE_11, setE_12, setE_13, d_sh, d_ow, v_sh, f_sh, f_ow, o_sh, o_ow, frz_nil, frz_cons, nxt_nx, nxt_rt, startE_nil, startE_cons, uns_0, uns_1, uns_2, uns_3, uns_4, uns_5, uns_6, uns_7, uns_8, uns_9, uns_10, uns_11, uns_12, fin_rt, fin_nx, bor_nil, bor_v, bor_dnil, bor_c, bor_vv, bor_fn, bor_add, bor_sub, bor_mul, bor_dv, bor_md, bor_neg, bor_not, bor_and, bor_or, bor_ite, bor_cmp, bor_tup, bor_lst, bor_idx, bor_sl, bor_call, bor_bi1, bor_bi2, bor_me1, bor_me2, bor_comp, bor_compIf, ent_f, Out.bind_val, Out.pure_val, Out.bind_bad, asB_bl, owned_ow, lstOf_lst, immIf_false, noExc_val, orBad_some, chk_true, Nat.reduceSub, Nat.reduceAdd, Bool.or_false, Bool.false_or, Bool.or_true, if_true, Bool.false_eq_true, if_false, ef, e1, e2, w', so]
theorem named_no (k : De T) {b : List Deed} (hd : Dis b) {x : D} (hx : dCmp .nmem x (.dct (kvsF b)) = .val true) : evF T (n + 4) n_named_in [eBook b, x] = .exc nNoDeed := by
  rw [evF_run k.ni rfl]
  have e1 := need_ev (n := n + 1) k.bi k.nd hd hx
  rw [if_pos rfl] at e1
  simp -implicitDefEqProofs only [b_named_in, exs, ex, ev, evs, evIt, get_0, get_1, get_2, get_3, get_4, get_5, get_6, get_7, get_8, get_9, get_10, get_11, get_12, get_13, setE_0, setE_1, setE_2, setE_3, setE_4, setE_5, setE_6, setE_7, setE_8, setE_9, setE_10, setE_11, setE_12, setE_13, d_sh, d_ow, v_sh, f_sh, f_ow, o_sh, o_ow, frz_nil, frz_cons, nxt_nx, nxt_rt, startE_nil, startE_cons, uns_0, uns_1, uns_2, uns_3, uns_4, uns_5, uns_6, uns_7, uns_8, uns_9, uns_10, uns_11, uns_12, fin_rt, fin_nx, bor_nil, bor_v, bor_dnil, bor_c, bor_vv, bor_fn, bor_add, bor_sub, bor_mul, bor_dv, bor_md, bor_neg, bor_not, bor_and, bor_or, bor_ite, bor_cmp, bor_tup, bor_lst, bor_idx, bor_sl, bor_call, bor_bi1, bor_bi2, bor_me1, bor_me2, bor_comp, bor_compIf, ent_f, Out.bind_val, Out.pure_val, Out.bind_bad, asB_bl, owned_ow, lstOf_lst, immIf_false, noExc_val, orBad_some, chk_true, Nat.reduceSub, Nat.reduceAdd, Bool.or_false, Bool.false_or, Bool.or_true, if_true, Bool.false_eq_true, if_false, e1, bind_exc', fin_exc]
end
end Py
end
section
set_option autoImplicit false
set_option linter.all false
set_option maxRecDepth 100000
set_option maxHeartbeats 4000000
/-! QC: what is a book, of books that are. -/
namespace Py
def b_is_count : FD := ⟨2, 2, (.cons (.ret (.and (.isi (.v 0) .int) (.and (.not (.isi (.v 0) .bool)) (.cmp .ge (.v 0) (.v 1)))) []) .nil)⟩
abbrev n_is_count : Nm := [105, 115, 95, 99, 111, 117, 110, 116]
def b_is_id : FD := ⟨1, 1, (.cons (.ifS (.or (.not (.isi (.v 0) .tuple)) (.or (.cmp .ne (.bi1 .len (.v 0)) (.c (.int 2))) (.not (.call [105, 115, 95, 99, 111, 117, 110, 116] (.cons (.idx (.v 0) (.c (.int 0))) (.cons (.c (.int 1)) .nil)))))) (.cons (.ret (.c (.bl false)) []) .nil) .nil) (.cons (.ret (.and (.isi (.idx (.v 0) (.c (.int 1))) .str) (.and (.cmp .eq (.bi1 .len (.idx (.v 0) (.c (.int 1)))) (.c (.int 1))) (.cmp .mem (.idx (.v 0) (.c (.int 1))) (.c (.str [97, 98, 99, 100, 101, 102, 103, 104]))))) []) .nil))⟩
abbrev n_is_id : Nm := [105, 115, 95, 105, 100]
def b_is_sign_id : FD := ⟨1, 1, (.cons (.ret (.and (.isi (.v 0) .tuple) (.and (.cmp .eq (.bi1 .len (.v 0)) (.c (.int 2))) (.and (.call [105, 115, 95, 105, 100] (.cons (.idx (.v 0) (.c (.int 0))) .nil)) (.call [105, 115, 95, 99, 111, 117, 110, 116] (.cons (.idx (.v 0) (.c (.int 1))) (.cons (.c (.int 0)) .nil)))))) []) .nil)⟩
abbrev n_is_sign_id : Nm := [105, 115, 95, 115, 105, 103, 110, 95, 105, 100]
def is_words_e1 : E := (.cmp2 .le .le (.c (.str [32])) (.v 1) (.c (.str [126])))
def b_is_words : FD := ⟨1, 2, (.cons (.ifS (.or (.not (.isi (.v 0) .str)) (.not (.cmp2 .le .le (.c (.int 1)) (.bi1 .len (.v 0)) (.c (.int 20))))) (.cons (.ret (.c (.bl false)) []) .nil) .nil) (.cons (.ret (.bi1 .all (.comp is_words_e1 (.one 1) [1] (.e (.v 0)))) []) .nil))⟩
abbrev n_is_words : Nm := [105, 115, 95, 119, 111, 114, 100, 115]
def is_name_e1 : E := (.cmp .mem (.v 1) (.c (.str [97, 98, 99, 100, 101, 102, 103, 104, 105, 106, 107, 108, 109, 110, 111, 112, 113, 114, 115, 116,
                      117, 118, 119, 120, 121, 122])))
def b_is_name : FD := ⟨1, 2, (.cons (.ret (.and (.isi (.v 0) .str) (.and (.cmp2 .le .le (.c (.int 1)) (.bi1 .len (.v 0)) (.c (.int 6))) (.bi1 .all (.comp is_name_e1 (.one 1) [1] (.e (.v 0)))))) []) .nil)⟩
abbrev n_is_name : Nm := [105, 115, 95, 110, 97, 109, 101]
def b_is_anchor : FD := ⟨1, 1, (.cons (.ifS (.or (.not (.isi (.v 0) .tuple)) (.or (.cmp .ne (.bi1 .len (.v 0)) (.c (.int 2))) (.or (.not (.isi (.idx (.v 0) (.c (.int 1))) .str)) (.cmp .nmem (.idx (.v 0) (.c (.int 1))) (.c (.tup [.str [108], .str [114]])))))) (.cons (.ret (.c (.bl false)) []) .nil) .nil) (.cons (.ret (.or (.cmp .isN (.idx (.v 0) (.c (.int 0))) (.c .non)) (.call [105, 115, 95, 115, 105, 103, 110, 95, 105, 100] (.cons (.idx (.v 0) (.c (.int 0))) .nil))) []) .nil))⟩
abbrev n_is_anchor : Nm := [105, 115, 95, 97, 110, 99, 104, 111, 114]
def are_signs_e1 : E := (.call [105, 115, 95, 115, 105, 103, 110, 95, 105, 100] (.cons (.v 1) .nil))
def are_signs_e2 : E := (.cmp .lt (.v 1) (.v 2))
def b_are_signs : FD := ⟨1, 3, (.cons (.ifS (.or (.not (.isi (.v 0) .tuple)) (.not (.cmp2 .le .le (.c (.int 1)) (.bi1 .len (.v 0)) (.c (.int 400))))) (.cons (.ret (.c (.bl false)) []) .nil) .nil) (.cons (.ifS (.not (.bi1 .all (.comp are_signs_e1 (.one 1) [1] (.e (.v 0))))) (.cons (.ret (.c (.bl false)) []) .nil) .nil) (.cons (.ret (.bi1 .all (.comp are_signs_e2 (.many [1, 2]) [1, 2] (.zip (.v 0) (.sl (.v 0) (.c (.int 1)) (.c .non))))) []) .nil)))⟩
abbrev n_are_signs : Nm := [97, 114, 101, 95, 115, 105, 103, 110, 115]
def b_has_form : FD := ⟨1, 1, (.cons (.ifS (.cmp .eq (.idx (.v 0) (.c (.int 0))) (.c (.str [97, 100, 100]))) (.cons (.ret (.and (.cmp .eq (.bi1 .len (.v 0)) (.c (.int 4))) (.and (.or (.cmp .isN (.idx (.v 0) (.c (.int 2))) (.c .non)) (.call [105, 115, 95, 115, 105, 103, 110, 95, 105, 100] (.cons (.idx (.v 0) (.c (.int 2))) .nil))) (.call [105, 115, 95, 119, 111, 114, 100, 115] (.cons (.idx (.v 0) (.c (.int 3))) .nil)))) []) .nil) .nil) (.cons (.ifS (.cmp .eq (.idx (.v 0) (.c (.int 0))) (.c (.str [100, 114, 111, 112]))) (.cons (.ret (.and (.cmp .eq (.bi1 .len (.v 0)) (.c (.int 3))) (.call [97, 114, 101, 95, 115, 105, 103, 110, 115] (.cons (.idx (.v 0) (.c (.int 2))) .nil))) []) .nil) .nil) (.cons (.ifS (.cmp .eq (.idx (.v 0) (.c (.int 0))) (.c (.str [109, 97, 114, 107]))) (.cons (.ret (.and (.cmp .eq (.bi1 .len (.v 0)) (.c (.int 5))) (.and (.call [105, 115, 95, 110, 97, 109, 101] (.cons (.idx (.v 0) (.c (.int 2))) .nil)) (.and (.call [105, 115, 95, 97, 110, 99, 104, 111, 114] (.cons (.idx (.v 0) (.c (.int 3))) .nil)) (.call [105, 115, 95, 97, 110, 99, 104, 111, 114] (.cons (.idx (.v 0) (.c (.int 4))) .nil))))) []) .nil) .nil) (.cons (.ifS (.cmp .eq (.idx (.v 0) (.c (.int 0))) (.c (.str [117, 110, 109, 97, 114, 107]))) (.cons (.ret (.and (.cmp .eq (.bi1 .len (.v 0)) (.c (.int 3))) (.call [105, 115, 95, 110, 97, 109, 101] (.cons (.idx (.v 0) (.c (.int 2))) .nil))) []) .nil) .nil) (.cons (.ret (.and (.cmp .eq (.idx (.v 0) (.c (.int 0))) (.c (.str [117, 110, 100, 111]))) (.and (.cmp .eq (.bi1 .len (.v 0)) (.c (.int 3))) (.call [105, 115, 95, 105, 100] (.cons (.idx (.v 0) (.c (.int 2))) .nil)))) []) .nil)))))⟩
abbrev n_has_form : Nm := [104, 97, 115, 95, 102, 111, 114, 109]
def is_deed_e1 : E := (.cmp .lt (.idx (.v 1) (.c (.int 0))) (.idx (.idx (.v 0) (.c (.int 1))) (.c (.int 0))))
def b_is_deed : FD := ⟨1, 2, (.cons (.ifS (.or (.not (.isi (.v 0) .tuple)) (.or (.cmp .lt (.bi1 .len (.v 0)) (.c (.int 3))) (.or (.not (.isi (.idx (.v 0) (.c (.int 0))) .str)) (.not (.call [105, 115, 95, 105, 100] (.cons (.idx (.v 0) (.c (.int 1))) .nil)))))) (.cons (.ret (.c (.bl false)) []) .nil) .nil) (.cons (.ret (.and (.call [104, 97, 115, 95, 102, 111, 114, 109] (.cons (.v 0) .nil)) (.bi1 .all (.comp is_deed_e1 (.one 1) [1] (.e (.call [100, 101, 101, 100, 115, 95, 110, 97, 109, 101, 100] (.cons (.v 0) .nil)))))) []) .nil))⟩
abbrev n_is_deed : Nm := [105, 115, 95, 100, 101, 101, 100]
def is_book_e1 : E := (.call [105, 115, 95, 100, 101, 101, 100] (.cons (.v 2) .nil))
def is_book_e2 : E := (.cmp .lt (.idx (.v 3) (.c (.int 1))) (.idx (.v 4) (.c (.int 1))))
def is_book_e3 : E := (.call [110, 97, 109, 101, 115, 95, 114, 105, 103, 104, 116] (.cons (.v 2) (.cons (.v 1) .nil)))
def b_is_book : FD := ⟨1, 5, (.cons (.ifS (.or (.not (.isi (.v 0) .tuple)) (.not (.bi1 .all (.comp is_book_e1 (.one 2) [2] (.e (.v 0)))))) (.cons (.ret (.c (.bl false)) []) .nil) .nil) (.cons (.ifS (.not (.bi1 .all (.comp is_book_e2 (.many [3, 4]) [3, 4] (.zip (.v 0) (.sl (.v 0) (.c (.int 1)) (.c .non)))))) (.cons (.ret (.c (.bl false)) []) .nil) .nil) (.cons (.set 1 (.call [98, 121, 95, 105, 100] (.cons (.v 0) .nil)) false []) (.cons (.ret (.bi1 .all (.comp is_book_e3 (.one 2) [2] (.e (.v 0)))) []) .nil))))⟩
abbrev n_is_book : Nm := [105, 115, 95, 98, 111, 111, 107]

/-! ### deeds that are right -/
def idV (i : Idd) : Prop := 1 ≤ i.1 ∧ 97 ≤ i.2 ∧ i.2 ≤ 104
def sgV (s : Sg) : Prop := idV s.1 ∧ 0 ≤ s.2
def anV (a : An) : Prop := (∀ s, a.1 = some s → sgV s) ∧ (a.2 = 108 ∨ a.2 = 114)
def nmV (t : List Nat) : Prop := 1 ≤ t.length ∧ t.length ≤ 6 ∧ ∀ c ∈ t, 97 ≤ c ∧ c ≤ 122
def wdV (t : List Nat) : Prop := 1 ≤ t.length ∧ t.length ≤ 20 ∧ ∀ c ∈ t, 32 ≤ c ∧ c ≤ 126
def sgLt (a b : Sg) : Prop := idLt a.1 b.1 ∨ (a.1 = b.1 ∧ a.2 < b.2)
def DeedV : Deed → Prop
  | .add i b t => idV i ∧ (∀ s, b = some s → sgV s) ∧ wdV t
  | .drop i ss => idV i ∧ 1 ≤ ss.length ∧ ss.length ≤ 400 ∧ (∀ s ∈ ss, sgV s) ∧ ss.Pairwise sgLt
  | .mark i nm a b => idV i ∧ nmV nm ∧ anV a ∧ anV b
  | .unmark i nm => idV i ∧ nmV nm
  | .undo i o => idV i ∧ idV o
theorem DeedV.id {d : Deed} (h : DeedV d) : idV d.id := by cases d <;> exact h.1

/-! ### order -/
theorem lt_idT {a b : Idd} (h : idLt a b) : D.lt (eId a) (eId b) = true := by
  have e : D.lt (eId a) (eId b) = (if D.eqv (.int a.1) (.int b.1) then D.ltAll [.str [a.2]] [.str [b.2]] else decide (a.1 < b.1)) := by
    unfold eId
    simp only [D.lt, D.ltAll]
  rw [e]
  unfold idLt at h
  by_cases c : a.1 = b.1
  · have c1 : D.eqv (.int a.1) (.int b.1) = true := by simp [D.eqv, c]
    rw [if_pos c1]
    have h2 : a.2 < b.2 := by omega
    have h3 : a.2 ≠ b.2 := by omega
    simp [D.ltAll, D.lt, D.ltS, D.eqv, h2, h3]
  · have c1 : ¬ D.eqv (.int a.1) (.int b.1) = true := by simp [D.eqv, c]
    rw [if_neg c1]
    simp
    omega
theorem cLt_id {a b : Idd} (h : idLt a b) : dCmp .lt (eId a) (eId b) = .val true := by
  show chk (D.ok (eId a) && D.ok (eId b) && D.alike (eId a) (eId b)) (D.lt (eId a) (eId b)) = _
  rw [lt_idT h]
  rfl
theorem cLt_sg {a b : Sg} (h : sgLt a b) : dCmp .lt (eSg a) (eSg b) = .val true := by
  show chk (D.ok (eSg a) && D.ok (eSg b) && D.alike (eSg a) (eSg b)) (D.lt (eSg a) (eSg b)) = _
  have e : D.lt (eSg a) (eSg b) = true := by
    have e : D.lt (eSg a) (eSg b) = (if D.eqv (eId a.1) (eId b.1) then D.ltAll [.int a.2] [.int b.2] else D.lt (eId a.1) (eId b.1)) := by
      unfold eSg
      simp only [D.lt, D.ltAll]
    rw [e, id_eqv]
    rcases h with h | ⟨h1, h2⟩
    · have : a.1 ≠ b.1 := fun z => idLt_irr _ (z ▸ h)
      rw [if_neg (by simpa using this)]
      exact lt_idT h
    · have h3 : a.2 ≠ b.2 := by omega
      rw [if_pos (by simpa using h1)]
      simp [D.ltAll, D.lt, D.eqv, h2, h3]
  rw [e]
  rfl
theorem le_int (i j : Int) : dCmp .le (.int i) (.int j) = .val (!decide (j < i)) := rfl
theorem le_ch (a c : Nat) (h : a ≤ c) : dCmp .le (.str [a]) (.str [c]) = .val true := by
  show chk (D.ok (.str [a]) && D.ok (.str [c]) && D.alike (.str [a]) (.str [c])) (!D.lt (.str [c]) (.str [a])) = _
  have e : D.lt (.str [c]) (.str [a]) = false := by
    simp [D.lt, D.ltS]
    omega
  rw [e]
  rfl

/-! ### all of some -/
theorem signs_map : ∀ t : List Nat, signs t = t.map fun c => .str [c]
  | [] => rfl
  | c :: r => by
    show D.str [c] :: signs r = _
    rw [signs_map r]
    rfl
theorem it_str (t : List Nat) : items (.str t) = .val (t.map fun c => .str [c]) := by
  show Out.val (signs t) = _
  rw [signs_map]
theorem it_tup (xs : List D) : items (.tup xs) = .val xs := rfl
theorem all_yes {α : Type} (xs : List α) : bi1 .all (.lst (xs.map fun _ => D.bl true)) = .val (.bl true) := by
  have e : xs.map (fun _ => D.bl true) = (xs.map fun _ => true).map .bl := by rw [List.map_map]; rfl
  rw [e, all_bools]
  congr 2
  simp
theorem zip_mapE {α : Type} {enc : α → D} : ∀ xs ys : List α, zipD (xs.map enc) (ys.map enc) = (xs.zip ys).map fun p => .tup [enc p.1, enc p.2]
  | [], _ => by simp [zipD]
  | _ :: _, [] => by simp [zipD]
  | x :: xs, y :: ys => by
    simp only [List.map_cons, zipD, List.zip_cons_cons, zip_mapE xs ys]
theorem zip_next {α : Type} {R : α → α → Prop} : ∀ {xs : List α}, xs.Pairwise R → ∀ p ∈ xs.zip (xs.drop 1), R p.1 p.2
  | [], _, p, h => by simp at h
  | [x], _, p, h => by simp at h
  | x :: y :: r, hp, p, h => by
    rw [List.drop_one, List.tail_cons, List.zip_cons_cons] at h
    rcases List.mem_cons.mp h with e | h
    · rw [e]
      exact (List.pairwise_cons.mp hp).1 y List.mem_cons_self
    · exact zip_next (List.pairwise_cons.mp hp).2 p (by simpa using h)
theorem cut1_tup (xs : List D) : dCut (.tup xs) (some 1) none = .val (.tup (xs.drop 1)) := by
  show Out.val (D.tup (cut xs (some 1) none)) = _
  rw [cut_1]
theorem zipQ_tup (xs ys : List D) : zipQ (.tup xs) (.tup ys) = .val (zipD xs ys) := rfl
theorem many2 (δ : Env) (i j : Nat) (x y : D) : bindT δ (.many [i, j]) (.tup [x, y]) = .val (setE (setE δ i (.sh x)) j (.sh y)) := rfl
section
variable {T : Tab} {n : Nat}
structure Bo (T : Tab) : Prop where
  sn : T nSignsNamed = some b_signs_named
  dn : T nDeedsNamed = some b_deeds_named
  bi : T n_by_id = some b_by_id
  nr : T nNamesRight = some b_names_right
  ct : T n_is_count = some b_is_count
  id : T n_is_id = some b_is_id
  sg : T n_is_sign_id = some b_is_sign_id
  wd : T n_is_words = some b_is_words
  nm : T n_is_name = some b_is_name
  an : T n_is_anchor = some b_is_anchor
  sgs : T n_are_signs = some b_are_signs
  fm : T n_has_form = some b_has_form
  dd : T n_is_deed = some b_is_deed
  bk : T n_is_book = some b_is_book
theorem isTup (xs : List D) : isTy marks (.tup xs) .tuple = .val true := rfl
theorem isStr (s : List Nat) : isTy marks (.str s) .str = .val true := rfl
theorem not_t : dNot (.bl true) = .val (.bl false) := rfl
theorem not_f : dNot (.bl false) = .val (.bl true) := rfl
theorem count_ev (k : Bo T) (i lo : Int) (h : lo ≤ i) : evF T (n + 1) n_is_count [.int i, .int lo] = .val (.bl true) := by
  rw [evF_run k.ct rfl]
  have e1 : isTy marks (.int i) .int = .val true := rfl
  have e2 : isTy marks (.int i) .bool = .val false := rfl
  have e3 : dCmp .ge (.int i) (.int lo) = .val true := by
    rw [ge_int, decide_eq_false (by omega)]
    rfl
  simp -implicitDefEqProofs only [b_is_count, exs, ex, ev, evs, evIt, get_0, get_1, get_2, get_3, get_4, get_5, get_6, get_7, get_8, get_9, get_10, get_11, get_12, get_13, setE_0, setE_1, setE_2, setE_3, setE_4, setE_5, setE_6, setE_7, setE_8, setE_9, setE_10, setE_11, setE_12, setE_13, d_sh, d_ow, v_sh, f_sh, f_ow, o_sh, o_ow, frz_nil, frz_cons, nxt_nx, nxt_rt, startE_nil, startE_cons, uns_0, uns_1, uns_2, uns_3, uns_4, uns_5, uns_6, uns_7, uns_8, uns_9, uns_10, uns_11, uns_12, fin_rt, fin_nx, bor_nil, bor_v, bor_dnil, bor_c, bor_vv, bor_fn, bor_add, bor_sub, bor_mul, bor_dv, bor_md, bor_neg, bor_not, bor_and, bor_or, bor_ite, bor_cmp, bor_tup, bor_lst, bor_idx, bor_sl, bor_call, bor_bi1, bor_bi2, bor_me1, bor_me2, bor_comp, bor_compIf, ent_f, Out.bind_val, Out.pure_val, Out.bind_bad, asB_bl, owned_ow, lstOf_lst, immIf_false, noExc_val, orBad_some, chk_true, Nat.reduceSub, Nat.reduceAdd, Bool.or_false, Bool.false_or, Bool.or_true, if_true, Bool.false_eq_true, if_false, e1, e2, e3, not_f]
theorem hand_in (c : Nat) (h : 97 ≤ c ∧ c ≤ 104) : dCmp .mem (.str [c]) (.str [97, 98, 99, 100, 101, 102, 103, 104]) = .val true := by
  have key : ∀ c ∈ List.range' 97 8, sub [c] [97, 98, 99, 100, 101, 102, 103, 104] = true := by decide
  show Out.val (sub [c] [97, 98, 99, 100, 101, 102, 103, 104]) = _
  rw [key c (by simp [List.mem_range']; exact ⟨c - 97, by omega, by omega⟩)]
theorem letter_in (c : Nat) (h : 97 ≤ c ∧ c ≤ 122) : dCmp .mem (.str [c]) (.str [97, 98, 99, 100, 101, 102, 103, 104, 105, 106, 107, 108, 109, 110, 111, 112, 113, 114, 115, 116, 117, 118, 119, 120, 121, 122]) = .val true := by
  have key : ∀ c ∈ List.range' 97 26, sub [c] [97, 98, 99, 100, 101, 102, 103, 104, 105, 106, 107, 108, 109, 110, 111, 112, 113, 114, 115, 116, 117, 118, 119, 120, 121, 122] = true := by decide
  show Out.val (sub [c] _) = _
  rw [key c (by simp [List.mem_range']; exact ⟨c - 97, by omega, by omega⟩)]
theorem isId_ev (k : Bo T) {i : Idd} (h : idV i) : evF T (n + 2) n_is_id [eId i] = .val (.bl true) := by
  rw [evF_run k.id rfl]
  obtain ⟨h1, h2, h3⟩ := h
  have e1 : isTy marks (eId i) .tuple = .val true := rfl
  have e2 : bi1 .len (eId i) = .val (.int 2) := rfl
  have e3 : dCmp .ne (.int 2) (.int 2) = .val false := rfl
  have e4 := count_ev (n := n) k i.1 1 h1
  have e5 : bi1 .len (.str [i.2]) = .val (.int 1) := rfl
  have e6 : dCmp .eq (.int 1) (.int 1) = .val true := rfl
  simp -implicitDefEqProofs only [b_is_id, exs, ex, ev, evs, evIt, get_0, get_1, get_2, get_3, get_4, get_5, get_6, get_7, get_8, get_9, get_10, get_11, get_12, get_13, setE_0, setE_1, setE_2, setE_3, setE_4, setE_5, setE_6, setE_7, setE_8, setE_9, setE_10, setE_11, setE_12, setE_13, d_sh, d_ow, v_sh, f_sh, f_ow, o_sh, o_ow, frz_nil, frz_cons, nxt_nx, nxt_rt, startE_nil, startE_cons, uns_0, uns_1, uns_2, uns_3, uns_4, uns_5, uns_6, uns_7, uns_8, uns_9, uns_10, uns_11, uns_12, fin_rt, fin_nx, bor_nil, bor_v, bor_dnil, bor_c, bor_vv, bor_fn, bor_add, bor_sub, bor_mul, bor_dv, bor_md, bor_neg, bor_not, bor_and, bor_or, bor_ite, bor_cmp, bor_tup, bor_lst, bor_idx, bor_sl, bor_call, bor_bi1, bor_bi2, bor_me1, bor_me2, bor_comp, bor_compIf, ent_f, Out.bind_val, Out.pure_val, Out.bind_bad, asB_bl, owned_ow, lstOf_lst, immIf_false, noExc_val, orBad_some, chk_true, Nat.reduceSub, Nat.reduceAdd, Bool.or_false, Bool.false_or, Bool.or_true, if_true, Bool.false_eq_true, if_false, e1, e2, e3, t_at, h_at, e4, not_t, isStr, e5, e6, hand_in i.2 ⟨h2, h3⟩]
theorem isSg_ev (k : Bo T) {s : Sg} (h : sgV s) : evF T (n + 3) n_is_sign_id [eSg s] = .val (.bl true) := by
  rw [evF_run k.sg rfl]
  have e1 : isTy marks (eSg s) .tuple = .val true := rfl
  have e2 : bi1 .len (eSg s) = .val (.int 2) := rfl
  have e3 : dCmp .eq (.int 2) (.int 2) = .val true := rfl
  have e4 := isId_ev (n := n) k h.1
  have e5 := count_ev (n := n + 1) k s.2 0 h.2
  have i0 : dIdx (eSg s) (.int 0) = .val (eId s.1) := rfl
  have i1 : dIdx (eSg s) (.int 1) = .val (.int s.2) := rfl
  simp -implicitDefEqProofs only [b_is_sign_id, exs, ex, ev, evs, evIt, get_0, get_1, get_2, get_3, get_4, get_5, get_6, get_7, get_8, get_9, get_10, get_11, get_12, get_13, setE_0, setE_1, setE_2, setE_3, setE_4, setE_5, setE_6, setE_7, setE_8, setE_9, setE_10, setE_11, setE_12, setE_13, d_sh, d_ow, v_sh, f_sh, f_ow, o_sh, o_ow, frz_nil, frz_cons, nxt_nx, nxt_rt, startE_nil, startE_cons, uns_0, uns_1, uns_2, uns_3, uns_4, uns_5, uns_6, uns_7, uns_8, uns_9, uns_10, uns_11, uns_12, fin_rt, fin_nx, bor_nil, bor_v, bor_dnil, bor_c, bor_vv, bor_fn, bor_add, bor_sub, bor_mul, bor_dv, bor_md, bor_neg, bor_not, bor_and, bor_or, bor_ite, bor_cmp, bor_tup, bor_lst, bor_idx, bor_sl, bor_call, bor_bi1, bor_bi2, bor_me1, bor_me2, bor_comp, bor_compIf, ent_f, Out.bind_val, Out.pure_val, Out.bind_bad, asB_bl, owned_ow, lstOf_lst, immIf_false, noExc_val, orBad_some, chk_true, Nat.reduceSub, Nat.reduceAdd, Bool.or_false, Bool.false_or, Bool.or_true, if_true, Bool.false_eq_true, if_false, e1, e2, e3, i0, i1, e4, e5]
theorem isWords_ev (k : Bo T) {t : List Nat} (h : wdV t) : evF T (n + 1) n_is_words [.str t] = .val (.bl true) := by
  rw [evF_run k.wd rfl]
  obtain ⟨h1, h2, h3⟩ := h
  have e1 : bi1 .len (.str t) = .val (.int t.length) := rfl
  have e2 : dCmp .le (.int 1) (.int t.length) = .val true := by rw [le_int, decide_eq_false (by omega)]; rfl
  have e3 : dCmp .le (.int t.length) (.int 20) = .val true := by rw [le_int, decide_eq_false (by omega)]; rfl
  have hm : mapIfD (stepOf [1] (.one 1) (fun _ => .val true) (fun δ' => ev (evF T n) is_words_e1 δ') [.sh (.str t), .un]) (t.map fun c => .str [c]) = .val (t.map fun _ => D.bl true) := mapAll_map fun c hc => by
    simp -implicitDefEqProofs only [is_words_e1, stepOf, wipe_nil, wipe_cons, bind_one, exs, ex, ev, evs, evIt, get_0, get_1, get_2, get_3, get_4, get_5, get_6, get_7, get_8, get_9, get_10, get_11, get_12, get_13, setE_0, setE_1, setE_2, setE_3, setE_4, setE_5, setE_6, setE_7, setE_8, setE_9, setE_10, setE_11, setE_12, setE_13, d_sh, d_ow, v_sh, f_sh, f_ow, o_sh, o_ow, frz_nil, frz_cons, nxt_nx, nxt_rt, startE_nil, startE_cons, uns_0, uns_1, uns_2, uns_3, uns_4, uns_5, uns_6, uns_7, uns_8, uns_9, uns_10, uns_11, uns_12, fin_rt, fin_nx, bor_nil, bor_v, bor_dnil, bor_c, bor_vv, bor_fn, bor_add, bor_sub, bor_mul, bor_dv, bor_md, bor_neg, bor_not, bor_and, bor_or, bor_ite, bor_cmp, bor_tup, bor_lst, bor_idx, bor_sl, bor_call, bor_bi1, bor_bi2, bor_me1, bor_me2, bor_comp, bor_compIf, ent_f, Out.bind_val, Out.pure_val, Out.bind_bad, asB_bl, owned_ow, lstOf_lst, immIf_false, noExc_val, orBad_some, chk_true, Nat.reduceSub, Nat.reduceAdd, Bool.or_false, Bool.false_or, Bool.or_true, if_true, Bool.false_eq_true, if_false, le_ch 32 c (h3 c hc).1, le_ch c 126 (h3 c hc).2]
  simp -implicitDefEqProofs only [b_is_words, exs, ex, ev, evs, evIt, get_0, get_1, get_2, get_3, get_4, get_5, get_6, get_7, get_8, get_9, get_10, get_11, get_12, get_13, setE_0, setE_1, setE_2, setE_3, setE_4, setE_5, setE_6, setE_7, setE_8, setE_9, setE_10, setE_11, setE_12, setE_13, d_sh, d_ow, v_sh, f_sh, f_ow, o_sh, o_ow, frz_nil, frz_cons, nxt_nx, nxt_rt, startE_nil, startE_cons, uns_0, uns_1, uns_2, uns_3, uns_4, uns_5, uns_6, uns_7, uns_8, uns_9, uns_10, uns_11, uns_12, fin_rt, fin_nx, bor_nil, bor_v, bor_dnil, bor_c, bor_vv, bor_fn, bor_add, bor_sub, bor_mul, bor_dv, bor_md, bor_neg, bor_not, bor_and, bor_or, bor_ite, bor_cmp, bor_tup, bor_lst, bor_idx, bor_sl, bor_call, bor_bi1, bor_bi2, bor_me1, bor_me2, bor_comp, bor_compIf, ent_f, Out.bind_val, Out.pure_val, Out.bind_bad, asB_bl, owned_ow, lstOf_lst, immIf_false, noExc_val, orBad_some, chk_true, Nat.reduceSub, Nat.reduceAdd, Bool.or_false, Bool.false_or, Bool.or_true, if_true, Bool.false_eq_true, if_false, isStr, not_t, e1, e2, e3, it_str, hm, all_yes]
theorem isName_ev (k : Bo T) {t : List Nat} (h : nmV t) : evF T (n + 1) n_is_name [.str t] = .val (.bl true) := by
  rw [evF_run k.nm rfl]
  obtain ⟨h1, h2, h3⟩ := h
  have e1 : bi1 .len (.str t) = .val (.int t.length) := rfl
  have e2 : dCmp .le (.int 1) (.int t.length) = .val true := by rw [le_int, decide_eq_false (by omega)]; rfl
  have e3 : dCmp .le (.int t.length) (.int 6) = .val true := by rw [le_int, decide_eq_false (by omega)]; rfl
  have hm : mapIfD (stepOf [1] (.one 1) (fun _ => .val true) (fun δ' => ev (evF T n) is_name_e1 δ') [.sh (.str t), .un]) (t.map fun c => .str [c]) = .val (t.map fun _ => D.bl true) := mapAll_map fun c hc => by
    simp -implicitDefEqProofs only [is_name_e1, stepOf, wipe_nil, wipe_cons, bind_one, exs, ex, ev, evs, evIt, get_0, get_1, get_2, get_3, get_4, get_5, get_6, get_7, get_8, get_9, get_10, get_11, get_12, get_13, setE_0, setE_1, setE_2, setE_3, setE_4, setE_5, setE_6, setE_7, setE_8, setE_9, setE_10, setE_11, setE_12, setE_13, d_sh, d_ow, v_sh, f_sh, f_ow, o_sh, o_ow, frz_nil, frz_cons, nxt_nx, nxt_rt, startE_nil, startE_cons, uns_0, uns_1, uns_2, uns_3, uns_4, uns_5, uns_6, uns_7, uns_8, uns_9, uns_10, uns_11, uns_12, fin_rt, fin_nx, bor_nil, bor_v, bor_dnil, bor_c, bor_vv, bor_fn, bor_add, bor_sub, bor_mul, bor_dv, bor_md, bor_neg, bor_not, bor_and, bor_or, bor_ite, bor_cmp, bor_tup, bor_lst, bor_idx, bor_sl, bor_call, bor_bi1, bor_bi2, bor_me1, bor_me2, bor_comp, bor_compIf, ent_f, Out.bind_val, Out.pure_val, Out.bind_bad, asB_bl, owned_ow, lstOf_lst, immIf_false, noExc_val, orBad_some, chk_true, Nat.reduceSub, Nat.reduceAdd, Bool.or_false, Bool.false_or, Bool.or_true, if_true, Bool.false_eq_true, if_false, letter_in c (h3 c hc)]
  simp -implicitDefEqProofs only [b_is_name, exs, ex, ev, evs, evIt, get_0, get_1, get_2, get_3, get_4, get_5, get_6, get_7, get_8, get_9, get_10, get_11, get_12, get_13, setE_0, setE_1, setE_2, setE_3, setE_4, setE_5, setE_6, setE_7, setE_8, setE_9, setE_10, setE_11, setE_12, setE_13, d_sh, d_ow, v_sh, f_sh, f_ow, o_sh, o_ow, frz_nil, frz_cons, nxt_nx, nxt_rt, startE_nil, startE_cons, uns_0, uns_1, uns_2, uns_3, uns_4, uns_5, uns_6, uns_7, uns_8, uns_9, uns_10, uns_11, uns_12, fin_rt, fin_nx, bor_nil, bor_v, bor_dnil, bor_c, bor_vv, bor_fn, bor_add, bor_sub, bor_mul, bor_dv, bor_md, bor_neg, bor_not, bor_and, bor_or, bor_ite, bor_cmp, bor_tup, bor_lst, bor_idx, bor_sl, bor_call, bor_bi1, bor_bi2, bor_me1, bor_me2, bor_comp, bor_compIf, ent_f, Out.bind_val, Out.pure_val, Out.bind_bad, asB_bl, owned_ow, lstOf_lst, immIf_false, noExc_val, orBad_some, chk_true, Nat.reduceSub, Nat.reduceAdd, Bool.or_false, Bool.false_or, Bool.or_true, if_true, Bool.false_eq_true, if_false, isStr, e1, e2, e3, it_str, hm, all_yes]
theorem isAnchor_ev (k : Bo T) {a : An} (h : anV a) : evF T (n + 4) n_is_anchor [eAn a] = .val (.bl true) := by
  rw [evF_run k.an rfl]
  have e1 : isTy marks (eAn a) .tuple = .val true := rfl
  have e2 : bi1 .len (eAn a) = .val (.int 2) := rfl
  have e3 : dCmp .ne (.int 2) (.int 2) = .val false := rfl
  have i0 : dIdx (eAn a) (.int 0) = .val (eOS a.1) := rfl
  have i1 : dIdx (eAn a) (.int 1) = .val (.str [a.2]) := rfl
  have e4 : dCmp .nmem (.str [a.2]) (.tup [.str [108], .str [114]]) = .val false := by
    rcases h.2 with e | e <;> rw [e] <;> rfl
  obtain ⟨s, c⟩ := a
  cases s with
  | none =>
    have e5 : dCmp .isN (eOS none) .non = .val true := rfl
    simp -implicitDefEqProofs only [b_is_anchor, exs, ex, ev, evs, evIt, get_0, get_1, get_2, get_3, get_4, get_5, get_6, get_7, get_8, get_9, get_10, get_11, get_12, get_13, setE_0, setE_1, setE_2, setE_3, setE_4, setE_5, setE_6, setE_7, setE_8, setE_9, setE_10, setE_11, setE_12, setE_13, d_sh, d_ow, v_sh, f_sh, f_ow, o_sh, o_ow, frz_nil, frz_cons, nxt_nx, nxt_rt, startE_nil, startE_cons, uns_0, uns_1, uns_2, uns_3, uns_4, uns_5, uns_6, uns_7, uns_8, uns_9, uns_10, uns_11, uns_12, fin_rt, fin_nx, bor_nil, bor_v, bor_dnil, bor_c, bor_vv, bor_fn, bor_add, bor_sub, bor_mul, bor_dv, bor_md, bor_neg, bor_not, bor_and, bor_or, bor_ite, bor_cmp, bor_tup, bor_lst, bor_idx, bor_sl, bor_call, bor_bi1, bor_bi2, bor_me1, bor_me2, bor_comp, bor_compIf, ent_f, Out.bind_val, Out.pure_val, Out.bind_bad, asB_bl, owned_ow, lstOf_lst, immIf_false, noExc_val, orBad_some, chk_true, Nat.reduceSub, Nat.reduceAdd, Bool.or_false, Bool.false_or, Bool.or_true, if_true, Bool.false_eq_true, if_false, e1, e2, e3, i0, i1, isStr, not_t, e4, e5]
  | some s =>
    have e5 : dCmp .isN (eOS (some s)) .non = .val false := rfl
    have e6 : evF T (n + 3) n_is_sign_id [eOS (some s)] = .val (.bl true) := isSg_ev (n := n) k (h.1 s rfl)
    simp -implicitDefEqProofs only [b_is_anchor, exs, ex, ev, evs, evIt, get_0, get_1, get_2, get_3, get_4, get_5, get_6, get_7, get_8, get_9, get_10, get_11, get_12, get_13, setE_0, setE_1, setE_2, setE_3, setE_4, setE_5, setE_6, setE_7, setE_8, setE_9, setE_10, setE_11, setE_12, setE_13, d_sh, d_ow, v_sh, f_sh, f_ow, o_sh, o_ow, frz_nil, frz_cons, nxt_nx, nxt_rt, startE_nil, startE_cons, uns_0, uns_1, uns_2, uns_3, uns_4, uns_5, uns_6, uns_7, uns_8, uns_9, uns_10, uns_11, uns_12, fin_rt, fin_nx, bor_nil, bor_v, bor_dnil, bor_c, bor_vv, bor_fn, bor_add, bor_sub, bor_mul, bor_dv, bor_md, bor_neg, bor_not, bor_and, bor_or, bor_ite, bor_cmp, bor_tup, bor_lst, bor_idx, bor_sl, bor_call, bor_bi1, bor_bi2, bor_me1, bor_me2, bor_comp, bor_compIf, ent_f, Out.bind_val, Out.pure_val, Out.bind_bad, asB_bl, owned_ow, lstOf_lst, immIf_false, noExc_val, orBad_some, chk_true, Nat.reduceSub, Nat.reduceAdd, Bool.or_false, Bool.false_or, Bool.or_true, if_true, Bool.false_eq_true, if_false, e1, e2, e3, i0, i1, isStr, not_t, e4, e5, e6]
theorem areSigns_ev (k : Bo T) {ss : List Sg} (h1 : 1 ≤ ss.length) (h2 : ss.length ≤ 400) (h3 : ∀ s ∈ ss, sgV s) (h4 : ss.Pairwise sgLt) : evF T (n + 4) n_are_signs [.tup (ss.map eSg)] = .val (.bl true) := by
  rw [evF_run k.sgs rfl]
  have e1 : bi1 .len (.tup (ss.map eSg)) = .val (.int ss.length) := by
    show Out.val (D.int ((ss.map eSg).length : Int)) = _
    rw [List.length_map]
  have e2 : dCmp .le (.int 1) (.int ss.length) = .val true := by rw [le_int, decide_eq_false (by omega)]; rfl
  have e3 : dCmp .le (.int ss.length) (.int 400) = .val true := by rw [le_int, decide_eq_false (by omega)]; rfl
  have hm : mapIfD (stepOf [1] (.one 1) (fun _ => .val true) (fun δ' => ev (evF T (n + 3)) are_signs_e1 δ') [.sh (.tup (ss.map eSg)), .un, .un]) (ss.map eSg) = .val (ss.map fun _ => D.bl true) := mapAll_map fun s hs => by
    simp -implicitDefEqProofs only [are_signs_e1, stepOf, wipe_nil, wipe_cons, bind_one, exs, ex, ev, evs, evIt, get_0, get_1, get_2, get_3, get_4, get_5, get_6, get_7, get_8, get_9, get_10, get_11, get_12, get_13, setE_0, setE_1, setE_2, setE_3, setE_4, setE_5, setE_6, setE_7, setE_8, setE_9, setE_10, setE_11, setE_12, setE_13, d_sh, d_ow, v_sh, f_sh, f_ow, o_sh, o_ow, frz_nil, frz_cons, nxt_nx, nxt_rt, startE_nil, startE_cons, uns_0, uns_1, uns_2, uns_3, uns_4, uns_5, uns_6, uns_7, uns_8, uns_9, uns_10, uns_11, uns_12, fin_rt, fin_nx, bor_nil, bor_v, bor_dnil, bor_c, bor_vv, bor_fn, bor_add, bor_sub, bor_mul, bor_dv, bor_md, bor_neg, bor_not, bor_and, bor_or, bor_ite, bor_cmp, bor_tup, bor_lst, bor_idx, bor_sl, bor_call, bor_bi1, bor_bi2, bor_me1, bor_me2, bor_comp, bor_compIf, ent_f, Out.bind_val, Out.pure_val, Out.bind_bad, asB_bl, owned_ow, lstOf_lst, immIf_false, noExc_val, orBad_some, chk_true, Nat.reduceSub, Nat.reduceAdd, Bool.or_false, Bool.false_or, Bool.or_true, if_true, Bool.false_eq_true, if_false, isSg_ev (n := n) k (h3 s hs)]
  have hz : zipD (ss.map eSg) ((ss.map eSg).drop 1) = (ss.zip (ss.drop 1)).map fun p => .tup [eSg p.1, eSg p.2] := by rw [← List.map_drop, zip_mapE]
  have hm2 : mapIfD (stepOf [1, 2] (.many [1, 2]) (fun _ => .val true) (fun δ' => ev (evF T (n + 3)) are_signs_e2 δ') [.sh (.tup (ss.map eSg)), .un, .un]) ((ss.zip (ss.drop 1)).map fun p => .tup [eSg p.1, eSg p.2]) = .val ((ss.zip (ss.drop 1)).map fun _ => D.bl true) := mapAll_map (enc := fun p : Sg × Sg => .tup [eSg p.1, eSg p.2]) fun p hp => by
    simp -implicitDefEqProofs only [are_signs_e2, stepOf, wipe_nil, wipe_cons, many2, exs, ex, ev, evs, evIt, get_0, get_1, get_2, get_3, get_4, get_5, get_6, get_7, get_8, get_9, get_10, get_11, get_12, get_13, setE_0, setE_1, setE_2, setE_3, setE_4, setE_5, setE_6, setE_7, setE_8, setE_9, setE_10, setE_11, setE_12, setE_13, d_sh, d_ow, v_sh, f_sh, f_ow, o_sh, o_ow, frz_nil, frz_cons, nxt_nx, nxt_rt, startE_nil, startE_cons, uns_0, uns_1, uns_2, uns_3, uns_4, uns_5, uns_6, uns_7, uns_8, uns_9, uns_10, uns_11, uns_12, fin_rt, fin_nx, bor_nil, bor_v, bor_dnil, bor_c, bor_vv, bor_fn, bor_add, bor_sub, bor_mul, bor_dv, bor_md, bor_neg, bor_not, bor_and, bor_or, bor_ite, bor_cmp, bor_tup, bor_lst, bor_idx, bor_sl, bor_call, bor_bi1, bor_bi2, bor_me1, bor_me2, bor_comp, bor_compIf, ent_f, Out.bind_val, Out.pure_val, Out.bind_bad, asB_bl, owned_ow, lstOf_lst, immIf_false, noExc_val, orBad_some, chk_true, Nat.reduceSub, Nat.reduceAdd, Bool.or_false, Bool.false_or, Bool.or_true, if_true, Bool.false_eq_true, if_false, cLt_sg (zip_next h4 p hp)]
  simp -implicitDefEqProofs only [b_are_signs, exs, ex, ev, evs, evIt, get_0, get_1, get_2, get_3, get_4, get_5, get_6, get_7, get_8, get_9, get_10, get_11, get_12, get_13, setE_0, setE_1, setE_2, setE_3, setE_4, setE_5, setE_6, setE_7, setE_8, setE_9, setE_10, setE_11, setE_12, setE_13, d_sh, d_ow, v_sh, f_sh, f_ow, o_sh, o_ow, frz_nil, frz_cons, nxt_nx, nxt_rt, startE_nil, startE_cons, uns_0, uns_1, uns_2, uns_3, uns_4, uns_5, uns_6, uns_7, uns_8, uns_9, uns_10, uns_11, uns_12, fin_rt, fin_nx, bor_nil, bor_v, bor_dnil, bor_c, bor_vv, bor_fn, bor_add, bor_sub, bor_mul, bor_dv, bor_md, bor_neg, bor_not, bor_and, bor_or, bor_ite, bor_cmp, bor_tup, bor_lst, bor_idx, bor_sl, bor_call, bor_bi1, bor_bi2, bor_me1, bor_me2, bor_comp, bor_compIf, ent_f, Out.bind_val, Out.pure_val, Out.bind_bad, asB_bl, owned_ow, lstOf_lst, immIf_false, noExc_val, orBad_some, chk_true, Nat.reduceSub, Nat.reduceAdd, Bool.or_false, Bool.false_or, Bool.or_true, if_true, Bool.false_eq_true, if_false, isTup, not_t, e1, e2, e3, it_tup, hm, all_yes, bnd_int, bnd_non, cut1_tup, zipQ_tup, hz, hm2]
theorem form_ev (k : Bo T) {d : Deed} (h : DeedV d) : evF T (n + 5) n_has_form [eDeed d] = .val (.bl true) := by
  rw [evF_run k.fm rfl]
  cases d with
  | add i b t =>
    obtain ⟨h1, h2, h3⟩ := h
    have i0 : dIdx (eDeed (.add i b t)) (.int 0) = .val (.str [97, 100, 100]) := rfl
    have i2 : dIdx (eDeed (.add i b t)) (.int 2) = .val (eOS b) := rfl
    have i3 : dIdx (eDeed (.add i b t)) (.int 3) = .val (.str t) := rfl
    have e0 : dCmp .eq (.str [97, 100, 100]) (.str [97, 100, 100]) = .val true := rfl
    have e1 : bi1 .len (eDeed (.add i b t)) = .val (.int 4) := rfl
    have e2 : dCmp .eq (.int 4) (.int 4) = .val true := rfl
    have e3 := isWords_ev (n := n + 3) k h3
    cases b with
    | none =>
      have e4 : dCmp .isN (eOS none) .non = .val true := rfl
      simp -implicitDefEqProofs only [b_has_form, exs, ex, ev, evs, evIt, get_0, get_1, get_2, get_3, get_4, get_5, get_6, get_7, get_8, get_9, get_10, get_11, get_12, get_13, setE_0, setE_1, setE_2, setE_3, setE_4, setE_5, setE_6, setE_7, setE_8, setE_9, setE_10, setE_11, setE_12, setE_13, d_sh, d_ow, v_sh, f_sh, f_ow, o_sh, o_ow, frz_nil, frz_cons, nxt_nx, nxt_rt, startE_nil, startE_cons, uns_0, uns_1, uns_2, uns_3, uns_4, uns_5, uns_6, uns_7, uns_8, uns_9, uns_10, uns_11, uns_12, fin_rt, fin_nx, bor_nil, bor_v, bor_dnil, bor_c, bor_vv, bor_fn, bor_add, bor_sub, bor_mul, bor_dv, bor_md, bor_neg, bor_not, bor_and, bor_or, bor_ite, bor_cmp, bor_tup, bor_lst, bor_idx, bor_sl, bor_call, bor_bi1, bor_bi2, bor_me1, bor_me2, bor_comp, bor_compIf, ent_f, Out.bind_val, Out.pure_val, Out.bind_bad, asB_bl, owned_ow, lstOf_lst, immIf_false, noExc_val, orBad_some, chk_true, Nat.reduceSub, Nat.reduceAdd, Bool.or_false, Bool.false_or, Bool.or_true, if_true, Bool.false_eq_true, if_false, i0, i2, i3, e0, e1, e2, e3, e4]
    | some s =>
      have e4 : dCmp .isN (eOS (some s)) .non = .val false := rfl
      have e5 : evF T (n + 4) n_is_sign_id [eOS (some s)] = .val (.bl true) := isSg_ev (n := n + 1) k (h2 s rfl)
      simp -implicitDefEqProofs only [b_has_form, exs, ex, ev, evs, evIt, get_0, get_1, get_2, get_3, get_4, get_5, get_6, get_7, get_8, get_9, get_10, get_11, get_12, get_13, setE_0, setE_1, setE_2, setE_3, setE_4, setE_5, setE_6, setE_7, setE_8, setE_9, setE_10, setE_11, setE_12, setE_13, d_sh, d_ow, v_sh, f_sh, f_ow, o_sh, o_ow, frz_nil, frz_cons, nxt_nx, nxt_rt, startE_nil, startE_cons, uns_0, uns_1, uns_2, uns_3, uns_4, uns_5, uns_6, uns_7, uns_8, uns_9, uns_10, uns_11, uns_12, fin_rt, fin_nx, bor_nil, bor_v, bor_dnil, bor_c, bor_vv, bor_fn, bor_add, bor_sub, bor_mul, bor_dv, bor_md, bor_neg, bor_not, bor_and, bor_or, bor_ite, bor_cmp, bor_tup, bor_lst, bor_idx, bor_sl, bor_call, bor_bi1, bor_bi2, bor_me1, bor_me2, bor_comp, bor_compIf, ent_f, Out.bind_val, Out.pure_val, Out.bind_bad, asB_bl, owned_ow, lstOf_lst, immIf_false, noExc_val, orBad_some, chk_true, Nat.reduceSub, Nat.reduceAdd, Bool.or_false, Bool.false_or, Bool.or_true, if_true, Bool.false_eq_true, if_false, i0, i2, i3, e0, e1, e2, e3, e4, e5]
  | drop i ss =>
    obtain ⟨h1, h2, h3, h4, h5⟩ := h
    have i0 : dIdx (eDeed (.drop i ss)) (.int 0) = .val (.str [100, 114, 111, 112]) := rfl
    have i2 : dIdx (eDeed (.drop i ss)) (.int 2) = .val (.tup (ss.map eSg)) := rfl
    have e0 : dCmp .eq (.str [100, 114, 111, 112]) (.str [97, 100, 100]) = .val false := rfl
    have e00 : dCmp .eq (.str [100, 114, 111, 112]) (.str [100, 114, 111, 112]) = .val true := rfl
    have e1 : bi1 .len (eDeed (.drop i ss)) = .val (.int 3) := rfl
    have e2 : dCmp .eq (.int 3) (.int 3) = .val true := rfl
    have e3 := areSigns_ev (n := n) k h2 h3 h4 h5
    simp -implicitDefEqProofs only [b_has_form, exs, ex, ev, evs, evIt, get_0, get_1, get_2, get_3, get_4, get_5, get_6, get_7, get_8, get_9, get_10, get_11, get_12, get_13, setE_0, setE_1, setE_2, setE_3, setE_4, setE_5, setE_6, setE_7, setE_8, setE_9, setE_10, setE_11, setE_12, setE_13, d_sh, d_ow, v_sh, f_sh, f_ow, o_sh, o_ow, frz_nil, frz_cons, nxt_nx, nxt_rt, startE_nil, startE_cons, uns_0, uns_1, uns_2, uns_3, uns_4, uns_5, uns_6, uns_7, uns_8, uns_9, uns_10, uns_11, uns_12, fin_rt, fin_nx, bor_nil, bor_v, bor_dnil, bor_c, bor_vv, bor_fn, bor_add, bor_sub, bor_mul, bor_dv, bor_md, bor_neg, bor_not, bor_and, bor_or, bor_ite, bor_cmp, bor_tup, bor_lst, bor_idx, bor_sl, bor_call, bor_bi1, bor_bi2, bor_me1, bor_me2, bor_comp, bor_compIf, ent_f, Out.bind_val, Out.pure_val, Out.bind_bad, asB_bl, owned_ow, lstOf_lst, immIf_false, noExc_val, orBad_some, chk_true, Nat.reduceSub, Nat.reduceAdd, Bool.or_false, Bool.false_or, Bool.or_true, if_true, Bool.false_eq_true, if_false, i0, i2, e0, e00, e1, e2, e3]
  | mark i nm a b =>
    obtain ⟨h1, h2, h3, h4⟩ := h
    have i0 : dIdx (eDeed (.mark i nm a b)) (.int 0) = .val (.str [109, 97, 114, 107]) := rfl
    have i2 : dIdx (eDeed (.mark i nm a b)) (.int 2) = .val (.str nm) := rfl
    have i3 : dIdx (eDeed (.mark i nm a b)) (.int 3) = .val (eAn a) := rfl
    have i4 : dIdx (eDeed (.mark i nm a b)) (.int 4) = .val (eAn b) := rfl
    have e0 : dCmp .eq (.str [109, 97, 114, 107]) (.str [97, 100, 100]) = .val false := rfl
    have e00 : dCmp .eq (.str [109, 97, 114, 107]) (.str [100, 114, 111, 112]) = .val false := rfl
    have e01 : dCmp .eq (.str [109, 97, 114, 107]) (.str [109, 97, 114, 107]) = .val true := rfl
    have e1 : bi1 .len (eDeed (.mark i nm a b)) = .val (.int 5) := rfl
    have e2 : dCmp .eq (.int 5) (.int 5) = .val true := rfl
    have e3 := isName_ev (n := n + 3) k h2
    have e4 := isAnchor_ev (n := n) k h3
    have e5 := isAnchor_ev (n := n) k h4
    simp -implicitDefEqProofs only [b_has_form, exs, ex, ev, evs, evIt, get_0, get_1, get_2, get_3, get_4, get_5, get_6, get_7, get_8, get_9, get_10, get_11, get_12, get_13, setE_0, setE_1, setE_2, setE_3, setE_4, setE_5, setE_6, setE_7, setE_8, setE_9, setE_10, setE_11, setE_12, setE_13, d_sh, d_ow, v_sh, f_sh, f_ow, o_sh, o_ow, frz_nil, frz_cons, nxt_nx, nxt_rt, startE_nil, startE_cons, uns_0, uns_1, uns_2, uns_3, uns_4, uns_5, uns_6, uns_7, uns_8, uns_9, uns_10, uns_11, uns_12, fin_rt, fin_nx, bor_nil, bor_v, bor_dnil, bor_c, bor_vv, bor_fn, bor_add, bor_sub, bor_mul, bor_dv, bor_md, bor_neg, bor_not, bor_and, bor_or, bor_ite, bor_cmp, bor_tup, bor_lst, bor_idx, bor_sl, bor_call, bor_bi1, bor_bi2, bor_me1, bor_me2, bor_comp, bor_compIf, ent_f, Out.bind_val, Out.pure_val, Out.bind_bad, asB_bl, owned_ow, lstOf_lst, immIf_false, noExc_val, orBad_some, chk_true, Nat.reduceSub, Nat.reduceAdd, Bool.or_false, Bool.false_or, Bool.or_true, if_true, Bool.false_eq_true, if_false, i0, i2, i3, i4, e0, e00, e01, e1, e2, e3, e4, e5]
  | unmark i nm =>
    obtain ⟨h1, h2⟩ := h
    have i0 : dIdx (eDeed (.unmark i nm)) (.int 0) = .val (.str [117, 110, 109, 97, 114, 107]) := rfl
    have i2 : dIdx (eDeed (.unmark i nm)) (.int 2) = .val (.str nm) := rfl
    have e0 : dCmp .eq (.str [117, 110, 109, 97, 114, 107]) (.str [97, 100, 100]) = .val false := rfl
    have e00 : dCmp .eq (.str [117, 110, 109, 97, 114, 107]) (.str [100, 114, 111, 112]) = .val false := rfl
    have e01 : dCmp .eq (.str [117, 110, 109, 97, 114, 107]) (.str [109, 97, 114, 107]) = .val false := rfl
    have e02 : dCmp .eq (.str [117, 110, 109, 97, 114, 107]) (.str [117, 110, 109, 97, 114, 107]) = .val true := rfl
    have e1 : bi1 .len (eDeed (.unmark i nm)) = .val (.int 3) := rfl
    have e2 : dCmp .eq (.int 3) (.int 3) = .val true := rfl
    have e3 := isName_ev (n := n + 3) k h2
    simp -implicitDefEqProofs only [b_has_form, exs, ex, ev, evs, evIt, get_0, get_1, get_2, get_3, get_4, get_5, get_6, get_7, get_8, get_9, get_10, get_11, get_12, get_13, setE_0, setE_1, setE_2, setE_3, setE_4, setE_5, setE_6, setE_7, setE_8, setE_9, setE_10, setE_11, setE_12, setE_13, d_sh, d_ow, v_sh, f_sh, f_ow, o_sh, o_ow, frz_nil, frz_cons, nxt_nx, nxt_rt, startE_nil, startE_cons, uns_0, uns_1, uns_2, uns_3, uns_4, uns_5, uns_6, uns_7, uns_8, uns_9, uns_10, uns_11, uns_12, fin_rt, fin_nx, bor_nil, bor_v, bor_dnil, bor_c, bor_vv, bor_fn, bor_add, bor_sub, bor_mul, bor_dv, bor_md, bor_neg, bor_not, bor_and, bor_or, bor_ite, bor_cmp, bor_tup, bor_lst, bor_idx, bor_sl, bor_call, bor_bi1, bor_bi2, bor_me1, bor_me2, bor_comp, bor_compIf, ent_f, Out.bind_val, Out.pure_val, Out.bind_bad, asB_bl, owned_ow, lstOf_lst, immIf_false, noExc_val, orBad_some, chk_true, Nat.reduceSub, Nat.reduceAdd, Bool.or_false, Bool.false_or, Bool.or_true, if_true, Bool.false_eq_true, if_false, i0, i2, e0, e00, e01, e02, e1, e2, e3]
  | undo i o =>
    obtain ⟨h1, h2⟩ := h
    have i0 : dIdx (eDeed (.undo i o)) (.int 0) = .val (.str [117, 110, 100, 111]) := rfl
    have i2 : dIdx (eDeed (.undo i o)) (.int 2) = .val (eId o) := rfl
    have e0 : dCmp .eq (.str [117, 110, 100, 111]) (.str [97, 100, 100]) = .val false := rfl
    have e00 : dCmp .eq (.str [117, 110, 100, 111]) (.str [100, 114, 111, 112]) = .val false := rfl
    have e01 : dCmp .eq (.str [117, 110, 100, 111]) (.str [109, 97, 114, 107]) = .val false := rfl
    have e02 : dCmp .eq (.str [117, 110, 100, 111]) (.str [117, 110, 109, 97, 114, 107]) = .val false := rfl
    have e03 : dCmp .eq (.str [117, 110, 100, 111]) (.str [117, 110, 100, 111]) = .val true := rfl
    have e1 : bi1 .len (eDeed (.undo i o)) = .val (.int 3) := rfl
    have e2 : dCmp .eq (.int 3) (.int 3) = .val true := rfl
    have e3 := isId_ev (n := n + 2) k h2
    simp -implicitDefEqProofs only [b_has_form, exs, ex, ev, evs, evIt, get_0, get_1, get_2, get_3, get_4, get_5, get_6, get_7, get_8, get_9, get_10, get_11, get_12, get_13, setE_0, setE_1, setE_2, setE_3, setE_4, setE_5, setE_6, setE_7, setE_8, setE_9, setE_10, setE_11, setE_12, setE_13, d_sh, d_ow, v_sh, f_sh, f_ow, o_sh, o_ow, frz_nil, frz_cons, nxt_nx, nxt_rt, startE_nil, startE_cons, uns_0, uns_1, uns_2, uns_3, uns_4, uns_5, uns_6, uns_7, uns_8, uns_9, uns_10, uns_11, uns_12, fin_rt, fin_nx, bor_nil, bor_v, bor_dnil, bor_c, bor_vv, bor_fn, bor_add, bor_sub, bor_mul, bor_dv, bor_md, bor_neg, bor_not, bor_and, bor_or, bor_ite, bor_cmp, bor_tup, bor_lst, bor_idx, bor_sl, bor_call, bor_bi1, bor_bi2, bor_me1, bor_me2, bor_comp, bor_compIf, ent_f, Out.bind_val, Out.pure_val, Out.bind_bad, asB_bl, owned_ow, lstOf_lst, immIf_false, noExc_val, orBad_some, chk_true, Nat.reduceSub, Nat.reduceAdd, Bool.or_false, Bool.false_or, Bool.or_true, if_true, Bool.false_eq_true, if_false, i0, i2, e0, e00, e01, e02, e03, e1, e2, e3]
theorem deed_facts (d : Deed) : isTy marks (eDeed d) .tuple = .val true ∧ (∃ m : Int, 3 ≤ m ∧ bi1 .len (eDeed d) = .val (.int m)) ∧ ∃ s, dIdx (eDeed d) (.int 0) = .val (.str s) := by
  cases d with
  | add i b t => exact ⟨rfl, ⟨4, by decide, rfl⟩, _, rfl⟩
  | drop i ss => exact ⟨rfl, ⟨3, by decide, rfl⟩, _, rfl⟩
  | mark i nm a b => exact ⟨rfl, ⟨5, by decide, rfl⟩, _, rfl⟩
  | unmark i nm => exact ⟨rfl, ⟨3, by decide, rfl⟩, _, rfl⟩
  | undo i o => exact ⟨rfl, ⟨3, by decide, rfl⟩, _, rfl⟩
theorem ltI (i j : Int) : dCmp .lt (.int i) (.int j) = .val (decide (i < j)) := rfl
theorem isDeed_ev (k : Bo T) {d : Deed} (h : DeedV d) (hl : (sgn d).length ≤ 1000) (ht : ∀ j ∈ dnm d, j.1 < d.id.1) : evF T (n + 6) n_is_deed [eDeed d] = .val (.bl true) := by
  rw [evF_run k.dd rfl]
  obtain ⟨e1, ⟨m, m1, e2⟩, s, e3⟩ := deed_facts d
  have e4 : dCmp .lt (.int m) (.int 3) = .val false := by rw [ltI, decide_eq_false (by omega)]
  have e5 := isId_ev (n := n + 3) k h.id
  have e6 := form_ev (n := n) k h
  have e7 := deedsNamed_ev (n := n + 3) k.sn k.dn d hl
  have hm : mapIfD (stepOf [1] (.one 1) (fun _ => .val true) (fun δ' => ev (evF T (n + 5)) is_deed_e1 δ') [.sh (eDeed d), .un]) ((dnm d).map eId) = .val ((dnm d).map fun _ => D.bl true) := mapAll_map fun j hj => by
    have q : dCmp .lt (.int j.1) (.int d.id.1) = .val true := by rw [ltI, decide_eq_true (ht j hj)]
    simp -implicitDefEqProofs only [is_deed_e1, stepOf, wipe_nil, wipe_cons, bind_one, exs, ex, ev, evs, evIt, get_0, get_1, get_2, get_3, get_4, get_5, get_6, get_7, get_8, get_9, get_10, get_11, get_12, get_13, setE_0, setE_1, setE_2, setE_3, setE_4, setE_5, setE_6, setE_7, setE_8, setE_9, setE_10, setE_11, setE_12, setE_13, d_sh, d_ow, v_sh, f_sh, f_ow, o_sh, o_ow, frz_nil, frz_cons, nxt_nx, nxt_rt, startE_nil, startE_cons, uns_0, uns_1, uns_2, uns_3, uns_4, uns_5, uns_6, uns_7, uns_8, uns_9, uns_10, uns_11, uns_12, fin_rt, fin_nx, bor_nil, bor_v, bor_dnil, bor_c, bor_vv, bor_fn, bor_add, bor_sub, bor_mul, bor_dv, bor_md, bor_neg, bor_not, bor_and, bor_or, bor_ite, bor_cmp, bor_tup, bor_lst, bor_idx, bor_sl, bor_call, bor_bi1, bor_bi2, bor_me1, bor_me2, bor_comp, bor_compIf, ent_f, Out.bind_val, Out.pure_val, Out.bind_bad, asB_bl, owned_ow, lstOf_lst, immIf_false, noExc_val, orBad_some, chk_true, Nat.reduceSub, Nat.reduceAdd, Bool.or_false, Bool.false_or, Bool.or_true, if_true, Bool.false_eq_true, if_false, id_at, t_at, q]
  simp -implicitDefEqProofs only [b_is_deed, exs, ex, ev, evs, evIt, get_0, get_1, get_2, get_3, get_4, get_5, get_6, get_7, get_8, get_9, get_10, get_11, get_12, get_13, setE_0, setE_1, setE_2, setE_3, setE_4, setE_5, setE_6, setE_7, setE_8, setE_9, setE_10, setE_11, setE_12, setE_13, d_sh, d_ow, v_sh, f_sh, f_ow, o_sh, o_ow, frz_nil, frz_cons, nxt_nx, nxt_rt, startE_nil, startE_cons, uns_0, uns_1, uns_2, uns_3, uns_4, uns_5, uns_6, uns_7, uns_8, uns_9, uns_10, uns_11, uns_12, fin_rt, fin_nx, bor_nil, bor_v, bor_dnil, bor_c, bor_vv, bor_fn, bor_add, bor_sub, bor_mul, bor_dv, bor_md, bor_neg, bor_not, bor_and, bor_or, bor_ite, bor_cmp, bor_tup, bor_lst, bor_idx, bor_sl, bor_call, bor_bi1, bor_bi2, bor_me1, bor_me2, bor_comp, bor_compIf, ent_f, Out.bind_val, Out.pure_val, Out.bind_bad, asB_bl, owned_ow, lstOf_lst, immIf_false, noExc_val, orBad_some, chk_true, Nat.reduceSub, Nat.reduceAdd, Bool.or_false, Bool.false_or, Bool.or_true, if_true, Bool.false_eq_true, if_false, e1, not_t, e2, e4, e3, isStr, id_at, e5, e6, e7, it_lstZ, hm, all_yes]
/-- a book that is one -/
structure BookV (c : List Deed) : Prop where
  up : Up c
  dv : ∀ d ∈ c, DeedV d
  tm : ∀ d ∈ c, ∀ j ∈ dnm d, j.1 < d.id.1
  inn : In c
  rt : ∀ d ∈ c, Right c (sgn d)
  sl : ∀ d ∈ c, (sgn d).length ≤ 1000
theorem Up.dis {b : List Deed} (h : Up b) : Dis b := by
  unfold Dis
  refine List.pairwise_map.mpr (h.imp fun {x y} q z => ?_)
  rw [z] at q
  exact idLt_irr _ q
theorem isBook_ev (k : Bo T) {c : List Deed} (h : BookV c) : evF T (n + 7) n_is_book [eBook c] = .val (.bl true) := by
  rw [evF_run k.bk rfl]
  have e1 : isTy marks (eBook c) .tuple = .val true := rfl
  have hm : mapIfD (stepOf [2] (.one 2) (fun _ => .val true) (fun δ' => ev (evF T (n + 6)) is_book_e1 δ') [.sh (eBook c), .un, .un, .un, .un]) (c.map eDeed) = .val (c.map fun _ => D.bl true) := mapAll_map fun d hd => by
    simp -implicitDefEqProofs only [is_book_e1, stepOf, wipe_nil, wipe_cons, bind_one, exs, ex, ev, evs, evIt, get_0, get_1, get_2, get_3, get_4, get_5, get_6, get_7, get_8, get_9, get_10, get_11, get_12, get_13, setE_0, setE_1, setE_2, setE_3, setE_4, setE_5, setE_6, setE_7, setE_8, setE_9, setE_10, setE_11, setE_12, setE_13, d_sh, d_ow, v_sh, f_sh, f_ow, o_sh, o_ow, frz_nil, frz_cons, nxt_nx, nxt_rt, startE_nil, startE_cons, uns_0, uns_1, uns_2, uns_3, uns_4, uns_5, uns_6, uns_7, uns_8, uns_9, uns_10, uns_11, uns_12, fin_rt, fin_nx, bor_nil, bor_v, bor_dnil, bor_c, bor_vv, bor_fn, bor_add, bor_sub, bor_mul, bor_dv, bor_md, bor_neg, bor_not, bor_and, bor_or, bor_ite, bor_cmp, bor_tup, bor_lst, bor_idx, bor_sl, bor_call, bor_bi1, bor_bi2, bor_me1, bor_me2, bor_comp, bor_compIf, ent_f, Out.bind_val, Out.pure_val, Out.bind_bad, asB_bl, owned_ow, lstOf_lst, immIf_false, noExc_val, orBad_some, chk_true, Nat.reduceSub, Nat.reduceAdd, Bool.or_false, Bool.false_or, Bool.or_true, if_true, Bool.false_eq_true, if_false, isDeed_ev (n := n) k (h.dv d hd) (h.sl d hd) (h.tm d hd)]
  have hz : zipD (c.map eDeed) ((c.map eDeed).drop 1) = (c.zip (c.drop 1)).map fun p => .tup [eDeed p.1, eDeed p.2] := by rw [← List.map_drop, zip_mapE]
  have hm2 : mapIfD (stepOf [3, 4] (.many [3, 4]) (fun _ => .val true) (fun δ' => ev (evF T (n + 6)) is_book_e2 δ') [.sh (eBook c), .un, .un, .un, .un]) ((c.zip (c.drop 1)).map fun p => .tup [eDeed p.1, eDeed p.2]) = .val ((c.zip (c.drop 1)).map fun _ => D.bl true) := mapAll_map (enc := fun p : Deed × Deed => .tup [eDeed p.1, eDeed p.2]) fun p hp => by
    simp -implicitDefEqProofs only [is_book_e2, stepOf, wipe_nil, wipe_cons, many2, exs, ex, ev, evs, evIt, get_0, get_1, get_2, get_3, get_4, get_5, get_6, get_7, get_8, get_9, get_10, get_11, get_12, get_13, setE_0, setE_1, setE_2, setE_3, setE_4, setE_5, setE_6, setE_7, setE_8, setE_9, setE_10, setE_11, setE_12, setE_13, d_sh, d_ow, v_sh, f_sh, f_ow, o_sh, o_ow, frz_nil, frz_cons, nxt_nx, nxt_rt, startE_nil, startE_cons, uns_0, uns_1, uns_2, uns_3, uns_4, uns_5, uns_6, uns_7, uns_8, uns_9, uns_10, uns_11, uns_12, fin_rt, fin_nx, bor_nil, bor_v, bor_dnil, bor_c, bor_vv, bor_fn, bor_add, bor_sub, bor_mul, bor_dv, bor_md, bor_neg, bor_not, bor_and, bor_or, bor_ite, bor_cmp, bor_tup, bor_lst, bor_idx, bor_sl, bor_call, bor_bi1, bor_bi2, bor_me1, bor_me2, bor_comp, bor_compIf, ent_f, Out.bind_val, Out.pure_val, Out.bind_bad, asB_bl, owned_ow, lstOf_lst, immIf_false, noExc_val, orBad_some, chk_true, Nat.reduceSub, Nat.reduceAdd, Bool.or_false, Bool.false_or, Bool.or_true, if_true, Bool.false_eq_true, if_false, id_at, cLt_id (zip_next h.up p hp)]
  have e2 := byId_ev (n := n + 5) k.bi h.up.dis
  have hm3 : mapIfD (stepOf [2] (.one 2) (fun _ => .val true) (fun δ' => ev (evF T (n + 6)) is_book_e3 δ') [.sh (eBook c), .sh (.dct (kvsF c)), .un, .un, .un]) (c.map eDeed) = .val (c.map fun _ => D.bl true) := mapAll_map fun d hd => by
    have q := namesRight_ev (n := n + 3) k.sn k.dn k.nr d c (h.sl d hd) (h.rt d hd)
    have q2 : (dnm d).all (inB c) = true := by
      rw [List.all_eq_true]
      intro o ho
      exact decide_eq_true (h.inn d hd o ho)
    rw [q2] at q
    simp -implicitDefEqProofs only [is_book_e3, stepOf, wipe_nil, wipe_cons, bind_one, exs, ex, ev, evs, evIt, get_0, get_1, get_2, get_3, get_4, get_5, get_6, get_7, get_8, get_9, get_10, get_11, get_12, get_13, setE_0, setE_1, setE_2, setE_3, setE_4, setE_5, setE_6, setE_7, setE_8, setE_9, setE_10, setE_11, setE_12, setE_13, d_sh, d_ow, v_sh, f_sh, f_ow, o_sh, o_ow, frz_nil, frz_cons, nxt_nx, nxt_rt, startE_nil, startE_cons, uns_0, uns_1, uns_2, uns_3, uns_4, uns_5, uns_6, uns_7, uns_8, uns_9, uns_10, uns_11, uns_12, fin_rt, fin_nx, bor_nil, bor_v, bor_dnil, bor_c, bor_vv, bor_fn, bor_add, bor_sub, bor_mul, bor_dv, bor_md, bor_neg, bor_not, bor_and, bor_or, bor_ite, bor_cmp, bor_tup, bor_lst, bor_idx, bor_sl, bor_call, bor_bi1, bor_bi2, bor_me1, bor_me2, bor_comp, bor_compIf, ent_f, Out.bind_val, Out.pure_val, Out.bind_bad, asB_bl, owned_ow, lstOf_lst, immIf_false, noExc_val, orBad_some, chk_true, Nat.reduceSub, Nat.reduceAdd, Bool.or_false, Bool.false_or, Bool.or_true, if_true, Bool.false_eq_true, if_false, q]
  have z1 : dCut (eBook c) (some 1) none = .val (.tup ((c.map eDeed).drop 1)) := cut1_tup _
  have z2 : zipQ (eBook c) (.tup ((c.map eDeed).drop 1)) = .val (zipD (c.map eDeed) ((c.map eDeed).drop 1)) := rfl
  have ef : ∀ (e : E) (x : D), entOf false (fresh e) x = .sh x := fun e x => rfl
  simp -implicitDefEqProofs only [b_is_book, exs, ex, ev, evs, evIt, get_0, get_1, get_2, get_3, get_4, get_5, get_6, get_7, get_8, get_9, get_10, get_11, get_12, get_13, setE_0, setE_1, setE_2, setE_3, setE_4, setE_5, setE_6, setE_7, setE_8, setE_9, setE_10, setE_11, setE_12, setE_13, d_sh, d_ow, v_sh, f_sh, f_ow, o_sh, o_ow, frz_nil, frz_cons, nxt_nx, nxt_rt, startE_nil, startE_cons, uns_0, uns_1, uns_2, uns_3, uns_4, uns_5, uns_6, uns_7, uns_8, uns_9, uns_10, uns_11, uns_12, fin_rt, fin_nx, bor_nil, bor_v, bor_dnil, bor_c, bor_vv, bor_fn, bor_add, bor_sub, bor_mul, bor_dv, bor_md, bor_neg, bor_not, bor_and, bor_or, bor_ite, bor_cmp, bor_tup, bor_lst, bor_idx, bor_sl, bor_call, bor_bi1, bor_bi2, bor_me1, bor_me2, bor_comp, bor_compIf, ent_f, Out.bind_val, Out.pure_val, Out.bind_bad, asB_bl, owned_ow, lstOf_lst, immIf_false, noExc_val, orBad_some, chk_true, Nat.reduceSub, Nat.reduceAdd, Bool.or_false, Bool.false_or, Bool.or_true, if_true, Bool.false_eq_true, if_false, e1, not_t, it_book, hm, all_yes, bnd_int, bnd_non, z1, z2, hz, hm2, ef, e2, hm3]
end
end Py
end
section
set_option autoImplicit false
set_option linter.all false
set_option maxRecDepth 100000
set_option maxHeartbeats 4000000
/-! QD: drawn books are books; parts of them; depths and what is named in parts. Plain lists. -/
namespace Py

/-! ### a drawn book is one -/
theorem getD_in {xs : List Nat} {i : Nat} {P : Nat → Prop} (h : ∀ c ∈ xs, P c) (hi : i < xs.length) : P (xs.getD i 0) := by
  rw [List.getD_eq_getElem?_getD, List.getElem?_eq_getElem hi]
  exact h _ (List.getElem_mem _)
theorem wsF_ok (sc : List Int) (p : Int) : wdV (wsF sc p) := by
  obtain ⟨h1, h2⟩ := ws_len (sc := sc) p
  refine ⟨h1, by omega, fun c hc => ?_⟩
  unfold wsF at hc
  obtain ⟨k, _, rfl⟩ := List.mem_map.mp hc
  have := drawn_pos (sc := sc) (p + k) 8 (by decide)
  exact getD_in (P := fun c => 32 ≤ c ∧ c ≤ 126) (by decide) (by simp; omega)
theorem azL_ok : ∀ c ∈ azL, 97 ≤ c ∧ c ≤ 122 := by decide
theorem nameF_ok (sc : List Int) (p k : Int) {x : Nat} (hx : 97 ≤ x ∧ x ≤ 122) : nmV (nameF sc p k x) := by
  have d1 := drawn_pos (sc := sc) (p + 2 * k) 26 (by decide)
  have d2 := drawn_pos (sc := sc) (p + 2 * k + 1) 2 (by decide)
  have w : (wordF sc p k).length ≤ 1 ∧ ∀ c ∈ wordF sc p k, 97 ≤ c ∧ c ≤ 122 := by
    have hc : 97 ≤ azL.getD (drawnF sc (p + 2 * k) 26).toNat 0 ∧ azL.getD (drawnF sc (p + 2 * k) 26).toNat 0 ≤ 122 := getD_in (P := fun c => 97 ≤ c ∧ c ≤ 122) azL_ok (by simp [azL]; omega)
    unfold wordF
    have two : (drawnF sc (p + 2 * k + 1) 2).toNat = 0 ∨ (drawnF sc (p + 2 * k + 1) 2).toNat = 1 := by omega
    rcases two with e | e <;> rw [e]
    · exact ⟨by simp [repL], fun c h => by simp [repL] at h⟩
    · refine ⟨by simp [repL], fun c h => ?_⟩
      have : c = azL.getD (drawnF sc (p + 2 * k) 26).toNat 0 := by simpa [repL] using h
      rw [this]
      exact hc
  unfold nameF
  split
  · refine ⟨by simp, by simp; omega, fun c hc => ?_⟩
    rcases List.mem_append.mp hc with h | h
    · exact w.2 c h
    · rw [List.mem_singleton.mp h]; exact hx
  · refine ⟨by simp, by simp; omega, fun c hc => ?_⟩
    rcases List.mem_append.mp hc with h | h
    · rw [List.mem_singleton.mp h]; exact hx
    · exact w.2 c h
theorem namesF_ok (sc : List Int) (p : Int) : ∀ t ∈ namesF sc p, nmV t := fun t ht => by
  simp only [namesF, List.mem_cons, List.not_mem_nil, or_false] at ht
  rcases ht with rfl | rfl | rfl <;> exact nameF_ok sc p _ (by decide)
theorem mem_signs' {b : List Deed} {s : Sg} (h : s ∈ signsF b) : ∃ e ∈ b, s.1 = e.id ∧ 0 ≤ s.2 := by
  obtain ⟨e, he, hs⟩ := List.mem_flatMap.mp h
  cases e with
  | add i bb t =>
    simp only [signs1, List.mem_map, List.mem_range] at hs
    obtain ⟨k, hk, rfl⟩ := hs
    exact ⟨_, he, rfl, by simp only; omega⟩
  | _ => cases hs
theorem signsF_up : ∀ {b : List Deed}, Up b → (signsF b).Pairwise sgLt
  | [], _ => List.Pairwise.nil
  | d :: r, h => by
    obtain ⟨h1, h2⟩ := List.pairwise_cons.mp h
    show (signs1 d ++ signsF r).Pairwise sgLt
    refine List.pairwise_append.mpr ⟨?_, signsF_up h2, fun s hs t ht => ?_⟩
    · cases d with
      | add i bb t =>
        show ((List.range t.length).map fun k : Nat => (i, (k : Int))).Pairwise sgLt
        refine List.pairwise_map.mpr (List.pairwise_lt_range.imp fun {x y} q => .inr ⟨rfl, ?_⟩)
        show (x : Int) < y
        omega
      | _ => exact List.Pairwise.nil
    · obtain ⟨e, he, hte, _⟩ := mem_signs' ht
      have hsd : s.1 = d.id := by
        cases d with
        | add i bb t =>
          simp only [signs1, List.mem_map] at hs
          obtain ⟨k, _, rfl⟩ := hs
          rfl
        | _ => cases hs
      refine .inl ?_
      rw [hsd, hte]
      exact h1 e he
theorem Bk.book {names : List (List Nat)} {b : List Deed} (h : Bk names b) (hn : ∀ t ∈ names, nmV t) (hl : b.length ≤ 50) : BookV b := by
  have idv : ∀ d ∈ b, idV d.id := fun d hd => by
    have h1 := h.time d hd
    have h2 := h.hand d hd
    exact ⟨h1, by omega, by omega⟩
  have sgv : ∀ (known : List Deed), (∀ e ∈ known, e ∈ b) → ∀ s ∈ signsF known, sgV s := fun known hk s hs => by
    obtain ⟨e, he, h1, h2⟩ := mem_signs' hs
    exact ⟨by rw [h1]; exact idv e (hk e he), h2⟩
  refine ⟨h.up, fun d hd => ?_, fun d hd j hj => ?_, h.nmd.in, fun d hd => h.right hd fun _ h => h, fun d hd => h.sgn_len hd hl⟩
  · have hf := h.fits d hd
    have hk : ∀ e ∈ b.filter (fun e => decide (e.id.1 < d.id.1)), e ∈ b := fun e he => (List.mem_filter.mp he).1
    have hs : Short (b.filter fun e => decide (e.id.1 < d.id.1)) := fun e he => h.short e (hk e he)
    have h1 := signsF_len hs
    have h2 := List.length_filter_le (fun e : Deed => decide (e.id.1 < d.id.1)) b
    have hu : Up (b.filter fun e => decide (e.id.1 < d.id.1)) := h.up.filter _
    have hid := idv d hd
    cases d with
    | add i bb t =>
      obtain ⟨_, f2, sc, p, rfl⟩ := hf
      exact ⟨hid, fun s e => sgv _ hk s (f2 s e), wsF_ok sc p⟩
    | drop i ss =>
      obtain ⟨_, f2, f3⟩ := hf
      have := f3.length_le
      exact ⟨hid, List.length_pos_iff.mpr f2, by omega, fun s hs => sgv _ hk s (f3.subset hs), (signsF_up hu).sublist f3⟩
    | mark i nm a c =>
      obtain ⟨_, f2, f3, f4⟩ := hf
      exact ⟨hid, hn nm f2, ⟨fun s e => sgv _ hk s (f3.1 s e), f3.2⟩, fun s e => sgv _ hk s (f4.1 s e), f4.2⟩
    | unmark i nm => exact ⟨hid, hn nm hf.2⟩
    | undo i o =>
      obtain ⟨_, f2⟩ := hf
      obtain ⟨e, he, rfl⟩ := List.mem_map.mp f2
      exact ⟨hid, idv e (hk e he)⟩
  · obtain ⟨e, _, h1, h2⟩ := h.nm hd j hj
    rw [← h1]
    exact h2
theorem BookV.nmd {b : List Deed} (h : BookV b) : Nmd b := fun pre d post e o ho => by
  have hd : d ∈ b := by rw [e]; simp
  obtain ⟨x, h1, h2⟩ := List.mem_map.mp (h.inn d hd o ho)
  have h3 := h.tm d hd o ho
  rw [← h2] at h3
  rw [e] at h1
  rcases List.mem_append.mp h1 with h1 | h1
  · exact List.mem_map.mpr ⟨x, h1, h2⟩
  · exfalso
    have up := h.up
    unfold Up at up
    rw [e, List.pairwise_append] at up
    rcases List.mem_cons.mp h1 with h1 | h1
    · rw [h1] at h3; omega
    · have := (List.pairwise_cons.mp up.2.1).1 x h1
      unfold idLt at this
      omega
/-- a part with all that its deeds name -/
def Whole (b : List Deed) (p : Deed → Bool) : Prop := ∀ d ∈ b, p d = true → ∀ e ∈ b, e.id ∈ dnm d → p e = true
theorem BookV.part {b : List Deed} (h : BookV b) {p : Deed → Bool} (hp : Whole b p) : BookV (b.filter p) := by
  have sub : ∀ d ∈ b.filter p, d ∈ b ∧ p d = true := fun d hd => List.mem_filter.mp hd
  refine ⟨h.up.filter _, fun d hd => h.dv d (sub d hd).1, fun d hd => h.tm d (sub d hd).1, fun d hd o ho => ?_, fun d hd s hs e he => h.rt d (sub d hd).1 s hs e (sub e he).1, fun d hd => h.sl d (sub d hd).1⟩
  obtain ⟨e, he, rfl⟩ := List.mem_map.mp (h.inn d (sub d hd).1 o ho)
  exact List.mem_map_of_mem (List.mem_filter.mpr ⟨he, hp d (sub d hd).1 (sub d hd).2 e he ho⟩)

/-! ### depths -/
def dep (b : List Deed) (o : Idd) : Int := lk (depF b) o
theorem lk_app {K : List (Idd × Int)} {o : Idd} (h : o ∈ K.map (·.1)) (L : List (Idd × Int)) : lk (K ++ L) o = lk K o := by
  induction K with
  | nil => simp at h
  | cons p K ih =>
    rw [List.cons_append]
    unfold lk
    split
    · rfl
    · rename_i hp
      refine ih ?_
      rcases List.mem_cons.mp h with e | h
      · exact absurd e.symm hp
      · exact h
theorem lk_new {K : List (Idd × Int)} {o : Idd} {v : Int} (h : o ∉ K.map (·.1)) : lk (K ++ [(o, v)]) o = v := by
  induction K with
  | nil => simp [lk]
  | cons p K ih =>
    rw [List.cons_append]
    unfold lk
    have h1 : p.1 ≠ o := fun e => h (by rw [← e]; simp)
    rw [if_neg h1]
    exact ih fun z => h (List.mem_cons_of_mem _ z)
theorem lk_keep : ∀ (r : List Deed) {K : List (Idd × Int)} {o : Idd}, o ∈ K.map (·.1) → lk (r.foldl depS K) o = lk K o
  | [], _, _, _ => rfl
  | d :: r, K, o, h => by
    rw [List.foldl_cons, lk_keep r (K := depS K d) (by unfold depS; rw [List.map_append]; exact List.mem_append_left _ h)]
    exact lk_app h _
theorem dep_keys : ∀ (r : List Deed) (K : List (Idd × Int)), (r.foldl depS K).map (·.1) = K.map (·.1) ++ r.map Deed.id
  | [], K => by simp
  | d :: r, K => by
    rw [List.foldl_cons, dep_keys r]
    simp [depS]
theorem dep_pos (b : List Deed) (o : Idd) : 0 ≤ dep b o := by
  have key : ∀ (r : List Deed) (K : List (Idd × Int)), Pos K → Pos (r.foldl depS K) := fun r => by
    induction r with
    | nil => exact fun _ h => h
    | cons d r ih => exact fun K h => ih _ (h.step d)
  exact (key b [] fun _ h => (nomatch h)).lk o
theorem dep_rec {b : List Deed} (h : BookV b) {d : Deed} (hd : d ∈ b) : dep b d.id = maxI 0 ((dnm d).map fun o => 1 + dep b o) := by
  obtain ⟨pre, post, e⟩ := List.append_of_mem hd
  have hk : (pre.foldl depS []).map (·.1) = pre.map Deed.id := by
    have := dep_keys pre []
    simpa using this
  have hf : depF b = post.foldl depS (depS (pre.foldl depS []) d) := by
    unfold depF
    rw [e, List.foldl_append, List.foldl_cons]
  have hi : d.id ∉ (pre.foldl depS []).map (·.1) := by
    rw [hk]
    have hdis := h.up.dis
    unfold Dis at hdis
    rw [e, List.map_append, List.nodup_append] at hdis
    exact fun z => hdis.2.2 d.id z d.id (by simp) rfl
  have names := h.nmd pre d post e
  have h1 : dep b d.id = dvF (pre.foldl depS []) d := by
    unfold dep
    rw [hf, lk_keep post (by simp [depS])]
    exact lk_new hi
  rw [h1]
  unfold dvF
  congr 1
  refine List.map_congr_left fun o ho => ?_
  have hm : o ∈ (pre.foldl depS []).map (·.1) := by rw [hk]; exact names o ho
  unfold dep
  rw [hf, lk_keep post (by unfold depS; rw [List.map_append]; exact List.mem_append_left _ hm)]
  exact congrArg (1 + ·) (lk_app hm _).symm
theorem dep_lt {b : List Deed} (h : BookV b) {d : Deed} (hd : d ∈ b) {o : Idd} (ho : o ∈ dnm d) : dep b o < dep b d.id := by
  have := (maxI_spec ((dnm d).map fun o => 1 + dep b o) 0).2 (1 + dep b o) (List.mem_cons_of_mem _ (List.mem_map.mpr ⟨o, ho, rfl⟩))
  rw [← dep_rec h hd] at this
  omega
theorem dep_pred {b : List Deed} (h : BookV b) {d : Deed} (hd : d ∈ b) (hp : dep b d.id ≠ 0) : ∃ o ∈ dnm d, dep b o = dep b d.id - 1 := by
  have := (maxI_spec ((dnm d).map fun o => 1 + dep b o) 0).1
  rw [← dep_rec h hd] at this
  rcases List.mem_cons.mp this with e | e
  · exact absurd e hp
  · obtain ⟨o, ho, e⟩ := List.mem_map.mp e
    exact ⟨o, ho, by omega⟩
theorem dep_nil {b : List Deed} (h : BookV b) {d : Deed} (hd : d ∈ b) : dep b d.id = 0 ↔ dnm d = [] := by
  constructor
  · intro e
    cases hn : dnm d with
    | nil => rfl
    | cons o r =>
      have := dep_lt h hd (o := o) (by rw [hn]; simp)
      have := dep_pos b o
      omega
  · intro e
    rw [dep_rec h hd, e]
    rfl
/-- in a whole part all are as deep -/
theorem dep_part {b : List Deed} (h : BookV b) {p : Deed → Bool} (hp : Whole b p) : ∀ (n : Nat) (d : Deed), d ∈ b.filter p → d.id.1 < n → dep (b.filter p) d.id = dep b d.id := fun n => by
  have hc := h.part hp
  induction n with
  | zero =>
    intro d hd ht
    have := ((hc.dv d hd).id).1
    omega
  | succ n ih =>
    intro d hd ht
    rw [dep_rec hc hd, dep_rec h (List.mem_filter.mp hd).1]
    congr 1
    refine List.map_congr_left fun o ho => ?_
    obtain ⟨e, he, rfl⟩ := List.mem_map.mp (hc.inn d hd o ho)
    have := hc.tm d hd _ ho
    rw [ih e he (by omega)]

/-! ### what is named -/
theorem Rch.head {b : List Deed} {i o : Idd} : Rch b i o ↔ ∃ j ∈ nmB b i, j = o ∨ Rch b j o := by
  constructor
  · intro r
    induction r with
    | one q => exact ⟨_, q, .inl rfl⟩
    | more r q ih =>
      obtain ⟨j, h1, h2⟩ := ih
      refine ⟨j, h1, .inr ?_⟩
      rcases h2 with e | e
      · subst e; exact .one q
      · exact .more e q
  · rintro ⟨j, h1, h2⟩
    rcases h2 with e | e
    · subst e; exact .one h1
    · have : ∀ x, Rch b j x → Rch b i x := fun x r => by
        induction r with
        | one q => exact .more (.one h1) q
        | more _ q ih => exact .more ih q
      exact this o e
theorem Rch.src {b : List Deed} {i o : Idd} (r : Rch b i o) : i ∈ b.map Deed.id := by
  obtain ⟨j, h1, _⟩ := Rch.head.mp r
  obtain ⟨d, h2, h3, _⟩ := nmB_mem h1
  exact List.mem_map.mpr ⟨d, h2, h3⟩
theorem Rch.dep {b : List Deed} (h : BookV b) {i o : Idd} (r : Rch b i o) : Py.dep b o < Py.dep b i := by
  induction r with
  | one q =>
    obtain ⟨d, h1, h2, h3⟩ := nmB_mem q
    rw [← h2]
    exact dep_lt h h1 h3
  | more _ q ih =>
    obtain ⟨d, h1, h2, h3⟩ := nmB_mem q
    have := dep_lt h h1 h3
    rw [h2] at this
    omega
theorem Rch.time {b : List Deed} (h : BookV b) {i o : Idd} (r : Rch b i o) : o.1 < i.1 := by
  induction r with
  | one q =>
    obtain ⟨d, h1, h2, h3⟩ := nmB_mem q
    rw [← h2]
    exact h.tm d h1 _ h3
  | more _ q ih =>
    obtain ⟨d, h1, h2, h3⟩ := nmB_mem q
    have := h.tm d h1 _ h3
    rw [h2] at this
    omega
theorem nmB_part {b : List Deed} (h : BookV b) {p : Deed → Bool} {i : Idd} (hi : i ∈ (b.filter p).map Deed.id) : nmB (b.filter p) i = nmB b i := by
  obtain ⟨d, hd, rfl⟩ := List.mem_map.mp hi
  rw [(nmB_at (b := b.filter p) (Up.dis (h.up.filter _)) hd).2, (nmB_at h.up.dis (List.mem_filter.mp hd).1).2]
theorem Rch.part {b : List Deed} (h : BookV b) {p : Deed → Bool} (hp : Whole b p) {i : Idd} (hi : i ∈ (b.filter p).map Deed.id) (o : Idd) : Rch (b.filter p) i o ↔ Rch b i o := by
  have hc := h.part hp
  constructor
  · intro r
    have : ∀ x, Rch (b.filter p) i x → Rch b i x ∧ x ∈ (b.filter p).map Deed.id := fun x r => by
      induction r with
      | one q =>
        refine ⟨.one (by rw [← nmB_part h hi]; exact q), ?_⟩
        obtain ⟨d, h1, _, h3⟩ := nmB_mem q
        exact hc.inn d h1 _ h3
      | more _ q ih =>
        refine ⟨.more ih.1 (by rw [← nmB_part h ih.2]; exact q), ?_⟩
        obtain ⟨d, h1, _, h3⟩ := nmB_mem q
        exact hc.inn d h1 _ h3
    exact (this o r).1
  · intro r
    have : ∀ x, Rch b i x → Rch (b.filter p) i x ∧ x ∈ (b.filter p).map Deed.id := fun x r => by
      induction r with
      | one q =>
        rw [← nmB_part h hi] at q
        refine ⟨.one q, ?_⟩
        obtain ⟨d, h1, _, h3⟩ := nmB_mem q
        exact hc.inn d h1 _ h3
      | more _ q ih =>
        rw [← nmB_part h ih.2] at q
        refine ⟨.more ih.1 q, ?_⟩
        obtain ⟨d, h1, _, h3⟩ := nmB_mem q
        exact hc.inn d h1 _ h3
    exact (this o r).1
/-- what leans is what names, over others perhaps -/
theorem lean_mem {b : List Deed} (h : BookV b) (o : Idd) : ∀ x, x ∈ leanF b o ↔ Rch b x o := by
  have key : ∀ (r pre : List Deed) (acc : List Idd), b = pre ++ r → (∃ t, acc = o :: t ∧ t.Nodup ∧ o ∉ t ∧ ∀ x, x ∈ t ↔ x ∈ pre.map Deed.id ∧ Rch b x o) → ∃ t, r.foldl leanS acc = o :: t ∧ t.Nodup ∧ o ∉ t ∧ ∀ x, x ∈ t ↔ x ∈ b.map Deed.id ∧ Rch b x o := fun r => by
    induction r with
    | nil =>
      intro pre acc e hacc
      rw [List.append_nil] at e
      rw [e] at hacc ⊢
      exact hacc
    | cons d r ih =>
      intro pre acc e ⟨t, h1, h2, h3, h4⟩
      have hd : d ∈ b := by rw [e]; simp
      rw [List.foldl_cons]
      refine ih (pre ++ [d]) (leanS acc d) (by rw [e]; simp) ?_
      have nm := (nmB_at h.up.dis hd).2
      have names := h.nmd pre d r e
      have hany : ((dnm d).any fun i => decide (i ∈ acc)) = true ↔ Rch b d.id o := by
        rw [Rch.head, nm, List.any_eq_true]
        constructor
        · rintro ⟨j, hj, q⟩
          have q := of_decide_eq_true q
          rw [h1] at q
          refine ⟨j, hj, ?_⟩
          rcases List.mem_cons.mp q with q | q
          · exact .inl q
          · exact .inr ((h4 j).mp q).2
        · rintro ⟨j, hj, q⟩
          refine ⟨j, hj, decide_eq_true ?_⟩
          rw [h1]
          rcases q with q | q
          · rw [q]; exact List.mem_cons_self
          · exact List.mem_cons_of_mem _ ((h4 j).mpr ⟨names j hj, q⟩)
      have fresh : d.id ∉ pre.map Deed.id := by
        have hdis := h.up.dis
        unfold Dis at hdis
        rw [e, List.map_append, List.nodup_append] at hdis
        exact fun z => hdis.2.2 d.id z d.id (by simp) rfl
      unfold leanS
      by_cases c : ((dnm d).any fun i => decide (i ∈ acc)) = true
      · rw [if_pos c]
        have rc := hany.mp c
        refine ⟨t ++ [d.id], by rw [h1]; rfl, List.nodup_append.mpr ⟨h2, by simp, fun x hx y hy q => ?_⟩, fun q => ?_, fun x => ?_⟩
        · rw [List.mem_singleton.mp hy] at q
          exact fresh (q ▸ ((h4 x).mp hx).1)
        · rcases List.mem_append.mp q with q | q
          · exact h3 q
          · have := rc.time h
            rw [← List.mem_singleton.mp q] at this
            omega
        · rw [List.mem_append, List.mem_singleton, h4 x, List.map_append, List.mem_append]
          constructor
          · rintro (q | q)
            · exact ⟨.inl q.1, q.2⟩
            · rw [q]; exact ⟨.inr (by simp), rc⟩
          · rintro ⟨q | q, q2⟩
            · exact .inl ⟨q, q2⟩
            · exact .inr (by simpa using q)
      · rw [if_neg c]
        refine ⟨t, h1, h2, h3, fun x => ?_⟩
        rw [h4 x, List.map_append, List.mem_append]
        constructor
        · rintro ⟨q, q2⟩
          exact ⟨.inl q, q2⟩
        · rintro ⟨q | q, q2⟩
          · exact ⟨q, q2⟩
          · have : x = d.id := by simpa using q
            rw [this] at q2
            exact absurd (hany.mpr q2) c
  obtain ⟨t, h1, _, _, h4⟩ := key b [] [o] rfl ⟨[], rfl, List.nodup_nil, by simp, fun x => by simp⟩
  intro x
  have e : leanF b o = t := by
    unfold leanF leanG
    rw [h1]
    rfl
  rw [e, h4 x]
  exact ⟨fun q => q.2, fun q => ⟨q.src, q⟩⟩
end Py
end
section
set_option autoImplicit false
set_option linter.all false
set_option maxRecDepth 100000
set_option maxHeartbeats 4000000
/-! K47: the law over the whole of depths. -/
namespace Py
namespace K47
def law_e1 : E := (.idx (.v 12) (.c (.int 1)))
def law_l1 : Ss := (.cons (.set 4 (.add (.v 4) (.v 5)) false []) .nil)
def law_e2 : E := (.vv 12)
def law_c1 : E := (.cmp .le (.call [100, 101, 112, 116, 104] (.cons (.v 1) (.cons (.idx (.v 12) (.c (.int 1))) .nil))) (.v 7))
def law_e3 : E := (.vv 6)
def law_c2 : E := (.cmp .ne (.call [100, 101, 112, 116, 104] (.cons (.v 1) (.cons (.v 6) .nil))) (.v 7))
def law_l2 : Ss := (.cons (.set 8 (.compIf law_e2 (.one 12) [12] (.e (.v 1)) law_c1) false []) (.cons (.ifS (.not (.call [105, 115, 95, 98, 111, 111, 107] (.cons (.bi1 .tuple (.v 8)) .nil))) (.cons (.ret (.c (.bl false)) []) .nil) .nil) (.cons (.ifS (.cmp .ne (.compIf law_e3 (.one 6) [6] (.e (.v 5)) law_c2) (.lst .nil)) (.cons (.ret (.c (.bl false)) []) .nil) .nil) .nil)))
def law_e4 : E := (.vv 13)
def law_c3 : E := (.cmp .mem (.v 6) (.call [108, 101, 97, 110, 105, 110, 103, 95, 111, 110] (.cons (.v 1) (.cons (.v 13) .nil))))
def law_e5 : E := (.call [100, 101, 112, 116, 104] (.cons (.v 1) (.cons (.v 13) .nil)))
def law_e6 : E := (.vv 12)
def law_c4 : E := (.cmp .ne (.call [100, 101, 112, 116, 104] (.cons (.v 11) (.cons (.idx (.v 12) (.c (.int 1))) .nil))) (.call [100, 101, 112, 116, 104] (.cons (.v 1) (.cons (.idx (.v 12) (.c (.int 1))) .nil))))
def law_e7 : E := (.vv 12)
def law_c5 : E := (.cmp .ne (.call [110, 97, 109, 101, 100, 95, 105, 110] (.cons (.v 11) (.cons (.idx (.v 12) (.c (.int 1))) .nil))) (.call [110, 97, 109, 101, 100, 95, 105, 110] (.cons (.v 1) (.cons (.idx (.v 12) (.c (.int 1))) .nil))))
def law_l3 : Ss := (.cons (.set 9 (.call [110, 97, 109, 101, 100, 95, 105, 110] (.cons (.v 1) (.cons (.v 6) .nil))) false []) (.cons (.ifS (.cmp .ne (.v 9) (.compIf law_e4 (.one 13) [13] (.e (.v 2)) law_c3)) (.cons (.ret (.c (.bl false)) []) .nil) .nil) (.cons (.set 10 (.comp law_e5 (.one 13) [13] (.e (.v 9))) false []) (.cons (.ifS (.cmp .ne (.bi1 .max1 (.add (.lst (.cons (.neg (.c (.int 1))) .nil)) (.v 10))) (.sub (.call [100, 101, 112, 116, 104] (.cons (.v 1) (.cons (.v 6) .nil))) (.c (.int 1)))) (.cons (.ret (.c (.bl false)) []) .nil) .nil) (.cons (.ifS (.cmp .ne (.cmp .eq (.v 9) (.lst .nil)) (.cmp .eq (.call [100, 101, 112, 116, 104] (.cons (.v 1) (.cons (.v 6) .nil))) (.c (.int 0)))) (.cons (.ret (.c (.bl false)) []) .nil) .nil) (.cons (.set 11 (.call [119, 105, 116, 104, 111, 117, 116] (.cons (.v 1) (.cons (.v 6) .nil))) false []) (.cons (.ifS (.cmp .ne (.compIf law_e6 (.one 12) [12] (.e (.v 11)) law_c4) (.lst .nil)) (.cons (.ret (.c (.bl false)) []) .nil) .nil) (.cons (.ifS (.cmp .ne (.compIf law_e7 (.one 12) [12] (.e (.v 11)) law_c5) (.lst .nil)) (.cons (.ret (.c (.bl false)) []) .nil) .nil) .nil))))))))
def b_law : FD := ⟨1, 14, (.cons (.set 1 (.call [95, 108, 97, 119, 95, 98, 111, 111, 107] (.cons (.v 0) (.cons (.c (.int 10)) (.cons (.c (.int 9)) (.cons (.call [95, 108, 97, 119, 95, 110, 97, 109, 101, 115] (.cons (.v 0) (.cons (.c (.int 0)) .nil))) .nil))))) false []) (.cons (.set 2 (.comp law_e1 (.one 12) [12] (.e (.v 1))) false []) (.cons (.set 3 (.call [108, 97, 121, 101, 114, 115] (.cons (.v 1) .nil)) false []) (.cons (.set 4 (.lst .nil) false []) (.cons (.forS (.one 5) (.e (.vv 3)) [] law_l1) (.cons (.ifS (.or (.cmp .ne (.bi1 .sorted (.v 4)) (.v 2)) (.cmp .mem (.lst .nil) (.v 3))) (.cons (.ret (.c (.bl false)) []) .nil) .nil) (.cons (.forS (.many [7, 5]) (.enum (.vv 3)) [] law_l2) (.cons (.forS (.one 6) (.e (.vv 2)) [] law_l3) (.cons (.ret (.c (.bl true)) []) .nil)))))))))⟩
abbrev n_law : Nm := [108, 97, 119]

/-! ### layers -/
theorem mem_row {b : List Deed} {k : Int} {o : Idd} : o ∈ rowF b k ↔ o ∈ b.map Deed.id ∧ dep b o = k := by
  unfold rowF dep
  rw [List.mem_filter, decide_eq_true_iff]
theorem rows_nd {b : List Deed} (hd : Dis b) : ∀ m : Nat, ((List.range m).map fun k : Nat => rowF b k).flatten.Nodup ∧ ∀ o ∈ ((List.range m).map fun k : Nat => rowF b k).flatten, dep b o < m
  | 0 => by simp
  | m + 1 => by
    obtain ⟨h1, h2⟩ := rows_nd hd m
    have e : ((List.range (m + 1)).map fun k : Nat => rowF b k).flatten = ((List.range m).map fun k : Nat => rowF b k).flatten ++ rowF b m := by
      rw [List.range_succ, List.map_append, List.flatten_append]
      simp
    rw [e]
    refine ⟨List.nodup_append.mpr ⟨h1, ?_, fun x hx y hy q => ?_⟩, fun o ho => ?_⟩
    · unfold rowF
      exact List.Pairwise.filter _ hd
    · have a := h2 x hx
      have c := (mem_row.mp hy).2
      rw [q] at a
      omega
    · rcases List.mem_append.mp ho with h | h
      · have := h2 o h
        omega
      · have := (mem_row.mp h).2
        omega
theorem dep_top {b : List Deed} {o : Idd} (h : o ∈ b.map Deed.id) : dep b o ≤ topF b := (maxI_spec _ _).2 _ (List.mem_cons_of_mem _ (List.mem_map.mpr ⟨o, h, rfl⟩))
theorem flat_perm {b : List Deed} (hd : Dis b) : (rowsF b).flatten.Perm (b.map Deed.id) := by
  refine (List.perm_ext_iff_of_nodup (rows_nd hd _).1 hd).mpr fun o => ?_
  rw [List.mem_flatten]
  constructor
  · rintro ⟨r, hr, ho⟩
    obtain ⟨k, _, rfl⟩ := List.mem_map.mp hr
    exact (mem_row.mp ho).1
  · intro h
    have h1 := dep_top h
    have h2 := dep_pos b o
    refine ⟨rowF b (dep b o), List.mem_map.mpr ⟨(dep b o).toNat, List.mem_range.mpr (by omega), ?_⟩, mem_row.mpr ⟨h, rfl⟩⟩
    rw [show (((dep b o).toNat : Nat) : Int) = dep b o by omega]
theorem row_full {b : List Deed} (h : BookV b) : ∀ m : Nat, (m : Int) ≤ topF b → ∃ o ∈ b.map Deed.id, dep b o = topF b - m
  | 0, hm => by
    rcases List.mem_cons.mp (maxI_spec ((b.map Deed.id).map (lk (depF b))) (-1)).1 with e | e
    · have : topF b = -1 := e
      omega
    · obtain ⟨o, ho, e⟩ := List.mem_map.mp e
      refine ⟨o, ho, ?_⟩
      show lk (depF b) o = topF b - 0
      rw [e, Int.sub_zero]
      rfl
  | m + 1, hm => by
    obtain ⟨o, ho, e⟩ := row_full h m (by omega)
    obtain ⟨d, hd, rfl⟩ := List.mem_map.mp ho
    obtain ⟨j, hj, e2⟩ := dep_pred h hd (by omega)
    exact ⟨j, h.inn d hd j hj, by omega⟩
theorem no_empty {b : List Deed} (h : BookV b) : has ([] : List Idd) (rowsF b) = false := by
  cases c : has ([] : List Idd) (rowsF b) with
  | false => rfl
  | true =>
    exfalso
    obtain ⟨k, hk, e⟩ := List.mem_map.mp (has_iff.mp c)
    have hk := List.mem_range.mp hk
    obtain ⟨o, ho, e2⟩ := row_full h (topF b - k).toNat (by omega)
    have : o ∈ rowF b k := mem_row.mpr ⟨ho, by omega⟩
    rw [e] at this
    cases this
theorem whole_dep {b : List Deed} (h : BookV b) (k : Int) : Whole b fun d => decide (dep b d.id ≤ k) := fun d hd hp e _ he => by
  have := dep_lt h hd he
  have := of_decide_eq_true hp
  exact decide_eq_true (by omega)
theorem whole_without {b : List Deed} (h : BookV b) (o : Idd) : Whole b fun d => !decide (d.id ∈ o :: leanF b o) := fun d hd hp e _ hj => by
  have hp : d.id ∉ o :: leanF b o := by simpa using hp
  have nm := (nmB_at h.up.dis hd).2
  have : e.id ∉ o :: leanF b o := fun z => hp (List.mem_cons_of_mem _ ((lean_mem h o d.id).mpr (Rch.head.mpr ⟨e.id, by rw [nm]; exact hj, by
    rcases List.mem_cons.mp z with q | q
    · exact .inl q
    · exact .inr ((lean_mem h o e.id).mp q)⟩)))
  simpa using this

/-! ### what is named, asked in two ways -/
theorem named_lean {b : List Deed} (h : BookV b) {o : Idd} {fs : List Idd} (h1 : fs.Nodup) (h2 : ∀ x, x ∈ fs ↔ Rch b o x) : srt fs = (b.map Deed.id).filter fun x => has o (leanF b x) := by
  have up : ((b.map Deed.id).filter fun x => has o (leanF b x)).Pairwise idLt := (Up.ids h.up).filter _
  rw [← srt_up up]
  refine srt_congr ((List.perm_ext_iff_of_nodup h1 (List.Pairwise.filter _ h.up.dis)).mpr fun x => ?_)
  rw [List.mem_filter, has_iff, lean_mem h x o, h2 x]
  exact ⟨fun r => ⟨r.in h.inn, r⟩, fun r => r.2⟩
theorem deep_max {b : List Deed} (h : BookV b) {o : Idd} (ho : o ∈ b.map Deed.id) {fs : List Idd} (h2 : ∀ x, x ∈ fs ↔ Rch b o x) : maxI (-1) ((srt fs).map (dep b)) = dep b o - 1 := by
  have mem : ∀ x, x ∈ srt fs ↔ Rch b o x := fun x => (srt_perm fs).mem_iff.trans (h2 x)
  refine Int.le_antisymm (maxI_le _ _ ?_ fun y hy => ?_) ?_
  · have := dep_pos b o
    omega
  · obtain ⟨x, hx, rfl⟩ := List.mem_map.mp hy
    have := ((mem x).mp hx).dep h
    omega
  · have sp := (maxI_spec ((srt fs).map (dep b)) (-1)).2
    obtain ⟨d, hd, rfl⟩ := List.mem_map.mp ho
    by_cases c : dep b d.id = 0
    · have := sp (-1) List.mem_cons_self
      omega
    · obtain ⟨j, hj, e⟩ := dep_pred h hd c
      rw [← e]
      exact sp _ (List.mem_cons_of_mem _ (List.mem_map.mpr ⟨j, (mem j).mpr (.one (by rw [(nmB_at h.up.dis hd).2]; exact hj)), rfl⟩))
theorem none_named {b : List Deed} (h : BookV b) {o : Idd} (ho : o ∈ b.map Deed.id) {fs : List Idd} (h2 : ∀ x, x ∈ fs ↔ Rch b o x) : (srt fs).isEmpty = decide (dep b o = 0) := by
  have mem : ∀ x, x ∈ srt fs ↔ Rch b o x := fun x => (srt_perm fs).mem_iff.trans (h2 x)
  obtain ⟨d, hd, rfl⟩ := List.mem_map.mp ho
  have nm := (nmB_at h.up.dis hd).2
  rw [Bool.eq_iff_iff, decide_eq_true_iff, dep_nil h hd, List.isEmpty_iff]
  constructor
  · intro e
    cases hn : dnm d with
    | nil => rfl
    | cons j r =>
      have : j ∈ srt fs := (mem j).mpr (.one (by rw [nm, hn]; simp))
      rw [e] at this
      cases this
  · intro e
    cases hs : srt fs with
    | nil => rfl
    | cons x r =>
      have := (mem x).mp (by rw [hs]; simp)
      obtain ⟨j, hj, _⟩ := Rch.head.mp this
      rw [nm, e] at hj
      cases hj
/-- a list with its places -/
def idx {α : Type} : Int → List α → List (Int × α)
  | _, [] => []
  | k, x :: r => (k, x) :: idx (k + 1) r
theorem idx_enum {α : Type} {enc : α → D} : ∀ (k : Int) (xs : List α), enumFrom k (xs.map enc) = (idx k xs).map fun p => .tup [.int p.1, enc p.2]
  | _, [] => rfl
  | k, x :: r => by
    show D.tup [.int k, enc x] :: enumFrom (k + 1) (r.map enc) = _
    rw [idx_enum (k + 1) r]
    rfl
theorem idx_mem {α : Type} : ∀ {xs : List α} {k : Int} {p : Int × α}, p ∈ idx k xs → ∃ j : Nat, xs[j]? = some p.2 ∧ p.1 = k + j
  | [], _, _, h => by cases h
  | x :: r, k, p, h => by
    rcases List.mem_cons.mp h with e | h
    · rw [e]
      exact ⟨0, rfl, by simp⟩
    · obtain ⟨j, h1, h2⟩ := idx_mem h
      exact ⟨j + 1, by simpa using h1, by omega⟩
theorem idx_rows {b : List Deed} {p : Int × List Idd} (h : p ∈ idx 0 (rowsF b)) : p.2 = rowF b p.1 := by
  obtain ⟨j, h1, h2⟩ := idx_mem h
  unfold rowsF at h1
  rw [List.getElem?_map] at h1
  cases hj : (List.range (topF b + 1).toNat)[j]? with
  | none => rw [hj] at h1; cases h1
  | some c =>
    rw [hj] at h1
    have e1 : rowF b (c : Int) = p.2 := Option.some.inj h1
    have e2 : c = j := by
      have := List.getElem?_eq_some_iff.mp hj
      obtain ⟨q, q2⟩ := this
      simpa using q2.symm
    rw [← e1, h2, e2]
    congr 1
    omega

structure L47 (T : Tab) : Prop where
  dr : DrB T
  book : T nBook = some b_law_book
  de : De T
  wo : Wo T
  bo : Bo T
  law : T n_law = some b_law
section
variable {T : Tab} {n : Nat}
/-- one row -/
theorem row_step (k : L47 T) {b : List Deed} (h : BookV b) (hl : b.length ≤ 50) {i : Int} {r : List Idd} (hr : r = rowF b i) (x0 x2 x3 x4 x6 u8 x9 x10 x11 x12 x13 : Ent) : ∃ v8,
    exs (evF T (n + 7)) law_l2 [x0, .sh (eBook b), x2, x3, x4, .sh (.lst (r.map eId)), x6, .sh (.int i), u8, x9, x10, x11, x12, x13] = .val (.nx, [x0, .sh (eBook b), x2, x3, x4, .sh (.lst (r.map eId)), x6, .sh (.int i), v8, x9, x10, x11, x12, x13]) := by
  have ef : ∀ (e : E) (x : D), entOf false (fresh e) x = .sh x := fun e x => rfl
  have dp : ∀ o ∈ b.map Deed.id, evF T (n + 7) n_depth [eBook b, eId o] = .val (.int (dep b o)) := fun o ho => depth_ev (n := n + 3) k.de h.sl (by omega) h.up.dis h.nmd ho
  have hm : mapIfD (stepOf [12] (.one 12) (fun δ' => ev (evF T (n + 7)) law_c1 δ' >>= asB) (fun δ' => ev (evF T (n + 7)) law_e2 δ') [x0, .sh (eBook b), x2, x3, x4, .sh (.lst (r.map eId)), x6, .sh (.int i), u8, x9, x10, x11, x12, x13]) (b.map eDeed) = .val ((b.filter fun d => decide (dep b d.id ≤ i)).map eDeed) := filt_map b fun d hd => by
    have q : dCmp .le (.int (dep b d.id)) (.int i) = .val (decide (dep b d.id ≤ i)) := by
      rw [le_int]
      congr 1
      rw [Bool.eq_iff_iff]
      simp
    simp -implicitDefEqProofs only [law_e2, law_c1, stepOf, wipe_nil, wipe_cons, bind_one, exs, ex, ev, evs, evIt, get_0, get_1, get_2, get_3, get_4, get_5, get_6, get_7, get_8, get_9, get_10, get_11, get_12, get_13, setE_0, setE_1, setE_2, setE_3, setE_4, setE_5, setE_6, setE_7, setE_8, setE_9, setE_10, setE_11, setE_12, setE_13, d_sh, d_ow, v_sh, f_sh, f_ow, o_sh, o_ow, frz_nil, frz_cons, nxt_nx, nxt_rt, startE_nil, startE_cons, uns_0, uns_1, uns_2, uns_3, uns_4, uns_5, uns_6, uns_7, uns_8, uns_9, uns_10, uns_11, uns_12, fin_rt, fin_nx, bor_nil, bor_v, bor_dnil, bor_c, bor_vv, bor_fn, bor_add, bor_sub, bor_mul, bor_dv, bor_md, bor_neg, bor_not, bor_and, bor_or, bor_ite, bor_cmp, bor_tup, bor_lst, bor_idx, bor_sl, bor_call, bor_bi1, bor_bi2, bor_me1, bor_me2, bor_comp, bor_compIf, ent_f, Out.bind_val, Out.pure_val, Out.bind_bad, asB_bl, owned_ow, lstOf_lst, immIf_false, noExc_val, orBad_some, chk_true, Nat.reduceSub, Nat.reduceAdd, Bool.or_false, Bool.false_or, Bool.or_true, if_true, Bool.false_eq_true, if_false, id_at, dp d.id (List.mem_map_of_mem hd), q]
    cases decide (dep b d.id ≤ i) <;> rfl
  have hp := h.part (whole_dep h i)
  have e1 : evF T (n + 7) n_is_book [.tup ((b.filter fun d => decide (dep b d.id ≤ i)).map eDeed)] = .val (.bl true) := isBook_ev (n := n) k.bo hp
  have hm2 : mapIfD (stepOf [6] (.one 6) (fun δ' => ev (evF T (n + 7)) law_c2 δ' >>= asB) (fun δ' => ev (evF T (n + 7)) law_e3 δ') [x0, .sh (eBook b), x2, x3, x4, .sh (.lst (r.map eId)), x6, .sh (.int i), .sh (.lst ((b.filter fun d => decide (dep b d.id ≤ i)).map eDeed)), x9, x10, x11, x12, x13]) (r.map eId) = .val ((r.filter fun _ => false).map eId) := filtZ r fun o ho => by
    rw [hr] at ho
    obtain ⟨o1, o2⟩ := mem_row.mp ho
    have q : dCmp .ne (.int (dep b o)) (.int i) = .val false := by
      rw [o2]
      have := encInt.cNe i i
      simpa using this
    simp -implicitDefEqProofs only [law_e3, law_c2, stepOf, wipe_nil, wipe_cons, bind_one, exs, ex, ev, evs, evIt, get_0, get_1, get_2, get_3, get_4, get_5, get_6, get_7, get_8, get_9, get_10, get_11, get_12, get_13, setE_0, setE_1, setE_2, setE_3, setE_4, setE_5, setE_6, setE_7, setE_8, setE_9, setE_10, setE_11, setE_12, setE_13, d_sh, d_ow, v_sh, f_sh, f_ow, o_sh, o_ow, frz_nil, frz_cons, nxt_nx, nxt_rt, startE_nil, startE_cons, uns_0, uns_1, uns_2, uns_3, uns_4, uns_5, uns_6, uns_7, uns_8, uns_9, uns_10, uns_11, uns_12, fin_rt, fin_nx, bor_nil, bor_v, bor_dnil, bor_c, bor_vv, bor_fn, bor_add, bor_sub, bor_mul, bor_dv, bor_md, bor_neg, bor_not, bor_and, bor_or, bor_ite, bor_cmp, bor_tup, bor_lst, bor_idx, bor_sl, bor_call, bor_bi1, bor_bi2, bor_me1, bor_me2, bor_comp, bor_compIf, ent_f, Out.bind_val, Out.pure_val, Out.bind_bad, asB_bl, owned_ow, lstOf_lst, immIf_false, noExc_val, orBad_some, chk_true, Nat.reduceSub, Nat.reduceAdd, Bool.or_false, Bool.false_or, Bool.or_true, if_true, Bool.false_eq_true, if_false, dp o o1, q]
  have e2 : r.filter (fun _ => false) = [] := by simp
  have e3 : dCmp .ne (.lst (([] : List Idd).map eId)) (.lst []) = .val false := rfl
  rw [e2] at hm2
  refine ⟨.sh (.lst ((b.filter fun d => decide (dep b d.id ≤ i)).map eDeed)), ?_⟩
  simp -implicitDefEqProofs only [law_l2, exs, ex, ev, evs, evIt, get_0, get_1, get_2, get_3, get_4, get_5, get_6, get_7, get_8, get_9, get_10, get_11, get_12, get_13, setE_0, setE_1, setE_2, setE_3, setE_4, setE_5, setE_6, setE_7, setE_8, setE_9, setE_10, setE_11, setE_12, setE_13, d_sh, d_ow, v_sh, f_sh, f_ow, o_sh, o_ow, frz_nil, frz_cons, nxt_nx, nxt_rt, startE_nil, startE_cons, uns_0, uns_1, uns_2, uns_3, uns_4, uns_5, uns_6, uns_7, uns_8, uns_9, uns_10, uns_11, uns_12, fin_rt, fin_nx, bor_nil, bor_v, bor_dnil, bor_c, bor_vv, bor_fn, bor_add, bor_sub, bor_mul, bor_dv, bor_md, bor_neg, bor_not, bor_and, bor_or, bor_ite, bor_cmp, bor_tup, bor_lst, bor_idx, bor_sl, bor_call, bor_bi1, bor_bi2, bor_me1, bor_me2, bor_comp, bor_compIf, ent_f, Out.bind_val, Out.pure_val, Out.bind_bad, asB_bl, owned_ow, lstOf_lst, immIf_false, noExc_val, orBad_some, chk_true, Nat.reduceSub, Nat.reduceAdd, Bool.or_false, Bool.false_or, Bool.or_true, if_true, Bool.false_eq_true, if_false, ef, it_book, hm, tup_lst, e1, not_t, it_lstZ, hm2, e3]
/-- one deed -/
theorem one_step (k : L47 T) {b : List Deed} (h : BookV b) (hl : b.length ≤ 50) {o : Idd} (ho : o ∈ b.map Deed.id) (x0 x3 x4 x5 x7 x8 u9 u10 u11 x12 x13 : Ent) : ∃ v9 v10 v11,
    exs (evF T (n + 7)) law_l3 [x0, .sh (eBook b), .sh (.lst ((b.map Deed.id).map eId)), x3, x4, x5, .sh (eId o), x7, x8, u9, u10, u11, x12, x13] = .val (.nx, [x0, .sh (eBook b), .sh (.lst ((b.map Deed.id).map eId)), x3, x4, x5, .sh (eId o), x7, x8, v9, v10, v11, x12, x13]) := by
  have ef : ∀ (e : E) (x : D), entOf false (fresh e) x = .sh x := fun e x => rfl
  have dp : ∀ o ∈ b.map Deed.id, evF T (n + 7) n_depth [eBook b, eId o] = .val (.int (dep b o)) := fun o ho => depth_ev (n := n + 3) k.de h.sl (by omega) h.up.dis h.nmd ho
  obtain ⟨fs, e1, f1, f2⟩ := named_ev (n := n + 3) k.de h.sl hl h.up.dis h.nmd ho
  have mem : ∀ x, x ∈ srt fs ↔ Rch b o x := fun x => (srt_perm fs).mem_iff.trans (f2 x)
  have lean : ∀ x, evF T (n + 7) n_leaning_on [eBook b, eId x] = .val (.lst ((leanF b x).map eId)) := fun x => leanOn_ev (n := n + 4) k.wo.sn k.wo.dn k.wo.le h.sl (by omega) x
  have m1 : ∀ u9 : Ent, mapIfD (stepOf [13] (.one 13) (fun δ' => ev (evF T (n + 7)) law_c3 δ' >>= asB) (fun δ' => ev (evF T (n + 7)) law_e4 δ') [x0, .sh (eBook b), .sh (.lst ((b.map Deed.id).map eId)), x3, x4, x5, .sh (eId o), x7, x8, u9, u10, u11, x12, x13]) ((b.map Deed.id).map eId) = .val (((b.map Deed.id).filter fun x => has o (leanF b x)).map eId) := fun u9 => filtZ _ fun x _ => by
    have q := encId.cMem o (leanF b x)
    simp -implicitDefEqProofs only [law_e4, law_c3, stepOf, wipe_nil, wipe_cons, bind_one, exs, ex, ev, evs, evIt, get_0, get_1, get_2, get_3, get_4, get_5, get_6, get_7, get_8, get_9, get_10, get_11, get_12, get_13, setE_0, setE_1, setE_2, setE_3, setE_4, setE_5, setE_6, setE_7, setE_8, setE_9, setE_10, setE_11, setE_12, setE_13, d_sh, d_ow, v_sh, f_sh, f_ow, o_sh, o_ow, frz_nil, frz_cons, nxt_nx, nxt_rt, startE_nil, startE_cons, uns_0, uns_1, uns_2, uns_3, uns_4, uns_5, uns_6, uns_7, uns_8, uns_9, uns_10, uns_11, uns_12, fin_rt, fin_nx, bor_nil, bor_v, bor_dnil, bor_c, bor_vv, bor_fn, bor_add, bor_sub, bor_mul, bor_dv, bor_md, bor_neg, bor_not, bor_and, bor_or, bor_ite, bor_cmp, bor_tup, bor_lst, bor_idx, bor_sl, bor_call, bor_bi1, bor_bi2, bor_me1, bor_me2, bor_comp, bor_compIf, ent_f, Out.bind_val, Out.pure_val, Out.bind_bad, asB_bl, owned_ow, lstOf_lst, immIf_false, noExc_val, orBad_some, chk_true, Nat.reduceSub, Nat.reduceAdd, Bool.or_false, Bool.false_or, Bool.or_true, if_true, Bool.false_eq_true, if_false, lean x, q]
    cases has o (leanF b x) <;> rfl
  rw [← named_lean h f1 f2] at m1
  have c1 : dCmp .ne (.lst ((srt fs).map eId)) (.lst ((srt fs).map eId)) = .val false := by
    have := encId.lNe (srt fs) (srt fs)
    simpa using this
  have m2 : ∀ u10 : Ent, mapIfD (stepOf [13] (.one 13) (fun _ => .val true) (fun δ' => ev (evF T (n + 7)) law_e5 δ') [x0, .sh (eBook b), .sh (.lst ((b.map Deed.id).map eId)), x3, x4, x5, .sh (eId o), x7, x8, .sh (.lst ((srt fs).map eId)), u10, u11, x12, x13]) ((srt fs).map eId) = .val (((srt fs).map (dep b)).map .int) := fun u10 => by
    rw [List.map_map (f := dep b)]
    exact mapAll_map fun x hx => by
      simp -implicitDefEqProofs only [law_e5, stepOf, wipe_nil, wipe_cons, bind_one, exs, ex, ev, evs, evIt, get_0, get_1, get_2, get_3, get_4, get_5, get_6, get_7, get_8, get_9, get_10, get_11, get_12, get_13, setE_0, setE_1, setE_2, setE_3, setE_4, setE_5, setE_6, setE_7, setE_8, setE_9, setE_10, setE_11, setE_12, setE_13, d_sh, d_ow, v_sh, f_sh, f_ow, o_sh, o_ow, frz_nil, frz_cons, nxt_nx, nxt_rt, startE_nil, startE_cons, uns_0, uns_1, uns_2, uns_3, uns_4, uns_5, uns_6, uns_7, uns_8, uns_9, uns_10, uns_11, uns_12, fin_rt, fin_nx, bor_nil, bor_v, bor_dnil, bor_c, bor_vv, bor_fn, bor_add, bor_sub, bor_mul, bor_dv, bor_md, bor_neg, bor_not, bor_and, bor_or, bor_ite, bor_cmp, bor_tup, bor_lst, bor_idx, bor_sl, bor_call, bor_bi1, bor_bi2, bor_me1, bor_me2, bor_comp, bor_compIf, ent_f, Out.bind_val, Out.pure_val, Out.bind_bad, asB_bl, owned_ow, lstOf_lst, immIf_false, noExc_val, orBad_some, chk_true, Nat.reduceSub, Nat.reduceAdd, Bool.or_false, Bool.false_or, Bool.or_true, if_true, Bool.false_eq_true, if_false, dp x (((mem x).mp hx).in h.inn)]
      rfl
  have len : (srt fs).length ≤ 50 := by
    have := nodup_len fs (b.map Deed.id) f1 fun x hx => ((f2 x).mp hx).in h.inn
    rw [(srt_perm fs).length_eq]
    simp at this
    omega
  have ng : dNeg (.int 1) = .val (.int (-1)) := rfl
  have a1 : dAdd (.lst [.int (-1)]) (.lst (((srt fs).map (dep b)).map .int)) = .val (.lst (((-1 : Int) :: (srt fs).map (dep b)).map .int)) := by
    rw [cat_big (by simp; omega)]
    rfl
  have x1 : bi1 .max1 (.lst (((-1 : Int) :: (srt fs).map (dep b)).map .int)) = .val (.int (dep b o - 1)) := by
    rw [max1_cons, deep_max h ho f2]
  have sb : dSub (.int (dep b o)) (.int 1) = .val (.int (dep b o - 1)) := rfl
  have c2 : dCmp .ne (.int (dep b o - 1)) (.int (dep b o - 1)) = .val false := by
    have := encInt.cNe (dep b o - 1) (dep b o - 1)
    simpa using this
  have c3 := encId.cNil (srt fs)
  have c4 := encInt.cEq (dep b o) 0
  rw [← none_named h ho f2] at c4
  have c5 : dCmp .ne (.bl (srt fs).isEmpty) (.bl (srt fs).isEmpty) = .val false := by
    have := encBl.cNe (srt fs).isEmpty (srt fs).isEmpty
    simpa using this
  -- without it
  have w1 := without_ev (n := n + 3) k.wo h.up.dis h.sl (by omega) o
  have hb : inB b o = true := decide_eq_true ho
  rw [hb, if_pos rfl] at w1
  have hw := whole_without h o
  have hc : BookV (withoutF b o) := h.part hw
  have hcl : (withoutF b o).length ≤ 50 := by
    have := List.length_filter_le (fun d : Deed => !decide (d.id ∈ o :: leanF b o)) b
    unfold withoutF
    omega
  have sub : ∀ d ∈ withoutF b o, d ∈ b := fun d hd => (List.mem_filter.mp hd).1
  have dp2 : ∀ d ∈ withoutF b o, evF T (n + 7) n_depth [eBook (withoutF b o), eId d.id] = .val (.int (dep b d.id)) := fun d hd => by
    have e := depth_ev (n := n + 3) k.de hc.sl (by omega) hc.up.dis hc.nmd (List.mem_map_of_mem hd)
    have e2 := dep_part h hw ((d.id.1).toNat + 1) d hd (by omega)
    unfold withoutF at e ⊢
    rw [e]
    exact congrArg (fun z => Out.val (D.int z)) e2
  have m3 : ∀ (u9 u10 : Ent), mapIfD (stepOf [12] (.one 12) (fun δ' => ev (evF T (n + 7)) law_c4 δ' >>= asB) (fun δ' => ev (evF T (n + 7)) law_e6 δ') [x0, .sh (eBook b), .sh (.lst ((b.map Deed.id).map eId)), x3, x4, x5, .sh (eId o), x7, x8, u9, u10, .sh (eBook (withoutF b o)), x12, x13]) ((withoutF b o).map eDeed) = .val (((withoutF b o).filter fun _ => false).map eDeed) := fun u9 u10 => filt_map _ fun d hd => by
    have q : dCmp .ne (.int (dep b d.id)) (.int (dep b d.id)) = .val false := by
      have := encInt.cNe (dep b d.id) (dep b d.id)
      simpa using this
    simp -implicitDefEqProofs only [law_e6, law_c4, stepOf, wipe_nil, wipe_cons, bind_one, exs, ex, ev, evs, evIt, get_0, get_1, get_2, get_3, get_4, get_5, get_6, get_7, get_8, get_9, get_10, get_11, get_12, get_13, setE_0, setE_1, setE_2, setE_3, setE_4, setE_5, setE_6, setE_7, setE_8, setE_9, setE_10, setE_11, setE_12, setE_13, d_sh, d_ow, v_sh, f_sh, f_ow, o_sh, o_ow, frz_nil, frz_cons, nxt_nx, nxt_rt, startE_nil, startE_cons, uns_0, uns_1, uns_2, uns_3, uns_4, uns_5, uns_6, uns_7, uns_8, uns_9, uns_10, uns_11, uns_12, fin_rt, fin_nx, bor_nil, bor_v, bor_dnil, bor_c, bor_vv, bor_fn, bor_add, bor_sub, bor_mul, bor_dv, bor_md, bor_neg, bor_not, bor_and, bor_or, bor_ite, bor_cmp, bor_tup, bor_lst, bor_idx, bor_sl, bor_call, bor_bi1, bor_bi2, bor_me1, bor_me2, bor_comp, bor_compIf, ent_f, Out.bind_val, Out.pure_val, Out.bind_bad, asB_bl, owned_ow, lstOf_lst, immIf_false, noExc_val, orBad_some, chk_true, Nat.reduceSub, Nat.reduceAdd, Bool.or_false, Bool.false_or, Bool.or_true, if_true, Bool.false_eq_true, if_false, id_at, dp2 d hd, dp d.id (List.mem_map_of_mem (sub d hd)), q]
  have m4 : ∀ (u9 u10 : Ent), mapIfD (stepOf [12] (.one 12) (fun δ' => ev (evF T (n + 7)) law_c5 δ' >>= asB) (fun δ' => ev (evF T (n + 7)) law_e7 δ') [x0, .sh (eBook b), .sh (.lst ((b.map Deed.id).map eId)), x3, x4, x5, .sh (eId o), x7, x8, u9, u10, .sh (eBook (withoutF b o)), x12, x13]) ((withoutF b o).map eDeed) = .val (((withoutF b o).filter fun _ => false).map eDeed) := fun u9 u10 => filt_map _ fun d hd => by
    have hid : d.id ∈ (withoutF b o).map Deed.id := List.mem_map_of_mem hd
    obtain ⟨g1, p1, p2, p3⟩ := named_ev (n := n + 3) k.de hc.sl hcl hc.up.dis hc.nmd hid
    obtain ⟨g2, q1, q2, q3⟩ := named_ev (n := n + 3) k.de h.sl hl h.up.dis h.nmd (List.mem_map_of_mem (sub d hd))
    have e : srt g1 = srt g2 := srt_congr ((List.perm_ext_iff_of_nodup p2 q2).mpr fun x => by
      rw [p3 x, q3 x]
      exact Rch.part h hw hid x)
    rw [e] at p1
    have q : dCmp .ne (.lst ((srt g2).map eId)) (.lst ((srt g2).map eId)) = .val false := by
      have := encId.lNe (srt g2) (srt g2)
      simpa using this
    simp -implicitDefEqProofs only [law_e7, law_c5, stepOf, wipe_nil, wipe_cons, bind_one, exs, ex, ev, evs, evIt, get_0, get_1, get_2, get_3, get_4, get_5, get_6, get_7, get_8, get_9, get_10, get_11, get_12, get_13, setE_0, setE_1, setE_2, setE_3, setE_4, setE_5, setE_6, setE_7, setE_8, setE_9, setE_10, setE_11, setE_12, setE_13, d_sh, d_ow, v_sh, f_sh, f_ow, o_sh, o_ow, frz_nil, frz_cons, nxt_nx, nxt_rt, startE_nil, startE_cons, uns_0, uns_1, uns_2, uns_3, uns_4, uns_5, uns_6, uns_7, uns_8, uns_9, uns_10, uns_11, uns_12, fin_rt, fin_nx, bor_nil, bor_v, bor_dnil, bor_c, bor_vv, bor_fn, bor_add, bor_sub, bor_mul, bor_dv, bor_md, bor_neg, bor_not, bor_and, bor_or, bor_ite, bor_cmp, bor_tup, bor_lst, bor_idx, bor_sl, bor_call, bor_bi1, bor_bi2, bor_me1, bor_me2, bor_comp, bor_compIf, ent_f, Out.bind_val, Out.pure_val, Out.bind_bad, asB_bl, owned_ow, lstOf_lst, immIf_false, noExc_val, orBad_some, chk_true, Nat.reduceSub, Nat.reduceAdd, Bool.or_false, Bool.false_or, Bool.or_true, if_true, Bool.false_eq_true, if_false, id_at, p1, q1, q]
  have e2 : (withoutF b o).filter (fun _ => false) = [] := by simp
  rw [e2] at m3 m4
  have e3 : dCmp .ne (.lst (([] : List Deed).map eDeed)) (.lst []) = .val false := rfl
  refine ⟨.sh (.lst ((srt fs).map eId)), .sh (.lst (((srt fs).map (dep b)).map .int)), .sh (eBook (withoutF b o)), ?_⟩
  simp -implicitDefEqProofs only [law_l3, exs, ex, ev, evs, evIt, get_0, get_1, get_2, get_3, get_4, get_5, get_6, get_7, get_8, get_9, get_10, get_11, get_12, get_13, setE_0, setE_1, setE_2, setE_3, setE_4, setE_5, setE_6, setE_7, setE_8, setE_9, setE_10, setE_11, setE_12, setE_13, d_sh, d_ow, v_sh, f_sh, f_ow, o_sh, o_ow, frz_nil, frz_cons, nxt_nx, nxt_rt, startE_nil, startE_cons, uns_0, uns_1, uns_2, uns_3, uns_4, uns_5, uns_6, uns_7, uns_8, uns_9, uns_10, uns_11, uns_12, fin_rt, fin_nx, bor_nil, bor_v, bor_dnil, bor_c, bor_vv, bor_fn, bor_add, bor_sub, bor_mul, bor_dv, bor_md, bor_neg, bor_not, bor_and, bor_or, bor_ite, bor_cmp, bor_tup, bor_lst, bor_idx, bor_sl, bor_call, bor_bi1, bor_bi2, bor_me1, bor_me2, bor_comp, bor_compIf, ent_f, Out.bind_val, Out.pure_val, Out.bind_bad, asB_bl, owned_ow, lstOf_lst, immIf_false, noExc_val, orBad_some, chk_true, Nat.reduceSub, Nat.reduceAdd, Bool.or_false, Bool.false_or, Bool.or_true, if_true, Bool.false_eq_true, if_false, ef, e1, it_lstZ, m1, c1, m2, ng, a1, x1, dp o ho, sb, c2, c3, c4, c5, w1, it_book, m3, m4, e3]
theorem law_ev (k : L47 T) {sc : List Int} (hs : sc.length ≤ 63) : evF T 15 n_law [scD sc] = .val (.bl true) := by
  have ef : ∀ (e : E) (x : D), entOf false (fresh e) x = .sh x := fun e x => rfl
  have e0 := names_ev (n := 11) k.dr.toDr k.dr.names hs 0
  obtain ⟨b, e1, bk, hl, late⟩ := book_ev (n := 9) k.dr k.book hs 10 9 (by decide) (by decide) (names := namesF sc 0) rfl
  have hl : b.length ≤ 50 := by omega
  have h : BookV b := bk.book (namesF_ok sc 0) hl
  have hd := h.up.dis
  have m1 : mapIfD (stepOf [12] (.one 12) (fun _ => .val true) (fun δ' => ev (evF T 14) law_e1 δ') [.sh (scD sc), .sh (eBook b), .un, .un, .un, .un, .un, .un, .un, .un, .un, .un, .un, .un]) (b.map eDeed) = .val ((b.map Deed.id).map eId) := by
    rw [List.map_map]
    exact mapAll_map fun d _ => by
      simp -implicitDefEqProofs only [law_e1, stepOf, wipe_nil, wipe_cons, bind_one, exs, ex, ev, evs, evIt, get_0, get_1, get_2, get_3, get_4, get_5, get_6, get_7, get_8, get_9, get_10, get_11, get_12, get_13, setE_0, setE_1, setE_2, setE_3, setE_4, setE_5, setE_6, setE_7, setE_8, setE_9, setE_10, setE_11, setE_12, setE_13, d_sh, d_ow, v_sh, f_sh, f_ow, o_sh, o_ow, frz_nil, frz_cons, nxt_nx, nxt_rt, startE_nil, startE_cons, uns_0, uns_1, uns_2, uns_3, uns_4, uns_5, uns_6, uns_7, uns_8, uns_9, uns_10, uns_11, uns_12, fin_rt, fin_nx, bor_nil, bor_v, bor_dnil, bor_c, bor_vv, bor_fn, bor_add, bor_sub, bor_mul, bor_dv, bor_md, bor_neg, bor_not, bor_and, bor_or, bor_ite, bor_cmp, bor_tup, bor_lst, bor_idx, bor_sl, bor_call, bor_bi1, bor_bi2, bor_me1, bor_me2, bor_comp, bor_compIf, ent_f, Out.bind_val, Out.pure_val, Out.bind_bad, asB_bl, owned_ow, lstOf_lst, immIf_false, noExc_val, orBad_some, chk_true, Nat.reduceSub, Nat.reduceAdd, Bool.or_false, Bool.false_or, Bool.or_true, if_true, Bool.false_eq_true, if_false, id_at]
      rfl
  have e2 := layers_ev (n := 10) k.de h.sl (by omega) hd h.nmd h.up
  have itr : items (eRows (rowsF b)) = .val ((rowsF b).map fun r => .lst (r.map eId)) := rfl
  -- all rows in one
  have lp1 := forD_ex (enc := fun r : List Idd => D.lst (r.map eId)) (xs := rowsF b) (P := fun r δ => ∃ (a : List Idd) (u5 : Ent), δ = [.sh (scD sc), .sh (eBook b), .sh (.lst ((b.map Deed.id).map eId)), .sh (eRows (rowsF b)), .sh (.lst (a.map eId)), u5, .un, .un, .un, .un, .un, .un, .un, .un] ∧ a ++ r.flatten = (rowsF b).flatten) (f := fun x δ => do
    let δ' ← bindT δ (.one 5) x
    exs (evF T 14) law_l1 δ') (δ := [.sh (scD sc), .sh (eBook b), .sh (.lst ((b.map Deed.id).map eId)), .sh (eRows (rowsF b)), .sh (.lst (([] : List Idd).map eId)), .un, .un, .un, .un, .un, .un, .un, .un, .un])
    ⟨[], .un, rfl, rfl⟩ (fun r rs δ ⟨a, u5, hδ, ha⟩ => by
      subst hδ
      have hlen : a.length + r.length ≤ 1000000 := by
        have := congrArg List.length ha
        rw [(flat_perm hd).length_eq] at this
        simp at this
        omega
      have c := cat_ids (a := a) (b := r) hlen
      refine ⟨_, ?_, a ++ r, .sh (.lst (r.map eId)), rfl, by rw [← ha]; simp⟩
      simp -implicitDefEqProofs only [bind_one, law_l1, exs, ex, ev, evs, evIt, get_0, get_1, get_2, get_3, get_4, get_5, get_6, get_7, get_8, get_9, get_10, get_11, get_12, get_13, setE_0, setE_1, setE_2, setE_3, setE_4, setE_5, setE_6, setE_7, setE_8, setE_9, setE_10, setE_11, setE_12, setE_13, d_sh, d_ow, v_sh, f_sh, f_ow, o_sh, o_ow, frz_nil, frz_cons, nxt_nx, nxt_rt, startE_nil, startE_cons, uns_0, uns_1, uns_2, uns_3, uns_4, uns_5, uns_6, uns_7, uns_8, uns_9, uns_10, uns_11, uns_12, fin_rt, fin_nx, bor_nil, bor_v, bor_dnil, bor_c, bor_vv, bor_fn, bor_add, bor_sub, bor_mul, bor_dv, bor_md, bor_neg, bor_not, bor_and, bor_or, bor_ite, bor_cmp, bor_tup, bor_lst, bor_idx, bor_sl, bor_call, bor_bi1, bor_bi2, bor_me1, bor_me2, bor_comp, bor_compIf, ent_f, Out.bind_val, Out.pure_val, Out.bind_bad, asB_bl, owned_ow, lstOf_lst, immIf_false, noExc_val, orBad_some, chk_true, Nat.reduceSub, Nat.reduceAdd, Bool.or_false, Bool.false_or, Bool.or_true, if_true, Bool.false_eq_true, if_false, ef, c])
  obtain ⟨δ', l1, a, v5, rfl, ha⟩ := lp1
  have ha : a = (rowsF b).flatten := by simpa using ha
  subst ha
  have so := sorted_ids (rowsF b).flatten
  rw [srt_congr (flat_perm hd), srt_up (Up.ids h.up)] at so
  have c1 : dCmp .ne (.lst ((b.map Deed.id).map eId)) (.lst ((b.map Deed.id).map eId)) = .val false := by
    have := encId.lNe (b.map Deed.id) (b.map Deed.id)
    simpa using this
  have c2 : dCmp .mem (.lst []) (eRows (rowsF b)) = .val false := by
    have := encId.lst.cMem [] (rowsF b)
    rw [no_empty h] at this
    exact this
  -- row by row
  have itq : itemsQ (eRows (rowsF b)) = .val ((rowsF b).map fun r => .lst (r.map eId)) := rfl
  have lp2 := forD_ex (enc := fun p : Int × List Idd => D.tup [.int p.1, .lst (p.2.map eId)]) (xs := idx 0 (rowsF b)) (P := fun r δ => ∃ (u5 u7 u8 : Ent), δ = [.sh (scD sc), .sh (eBook b), .sh (.lst ((b.map Deed.id).map eId)), .sh (eRows (rowsF b)), .sh (.lst ((rowsF b).flatten.map eId)), u5, .un, u7, u8, .un, .un, .un, .un, .un] ∧ ∀ p ∈ r, p ∈ idx 0 (rowsF b)) (f := fun x δ => do
    let δ' ← bindT δ (.many [7, 5]) x
    exs (evF T 14) law_l2 δ') (δ := [.sh (scD sc), .sh (eBook b), .sh (.lst ((b.map Deed.id).map eId)), .sh (eRows (rowsF b)), .sh (.lst ((rowsF b).flatten.map eId)), v5, .un, .un, .un, .un, .un, .un, .un, .un])
    ⟨v5, .un, .un, rfl, fun _ h => h⟩ (fun p r δ ⟨u5, u7, u8, hδ, hp⟩ => by
      subst hδ
      obtain ⟨v8, st⟩ := row_step (n := 7) k h hl (idx_rows (hp p List.mem_cons_self)) (.sh (scD sc)) (.sh (.lst ((b.map Deed.id).map eId))) (.sh (eRows (rowsF b))) (.sh (.lst ((rowsF b).flatten.map eId))) .un u8 .un .un .un .un .un
      refine ⟨_, ?_, .sh (.lst (p.2.map eId)), .sh (.int p.1), v8, rfl, fun q hq => hp q (List.mem_cons_of_mem _ hq)⟩
      simp -implicitDefEqProofs only [many2, exs, ex, ev, evs, evIt, get_0, get_1, get_2, get_3, get_4, get_5, get_6, get_7, get_8, get_9, get_10, get_11, get_12, get_13, setE_0, setE_1, setE_2, setE_3, setE_4, setE_5, setE_6, setE_7, setE_8, setE_9, setE_10, setE_11, setE_12, setE_13, d_sh, d_ow, v_sh, f_sh, f_ow, o_sh, o_ow, frz_nil, frz_cons, nxt_nx, nxt_rt, startE_nil, startE_cons, uns_0, uns_1, uns_2, uns_3, uns_4, uns_5, uns_6, uns_7, uns_8, uns_9, uns_10, uns_11, uns_12, fin_rt, fin_nx, bor_nil, bor_v, bor_dnil, bor_c, bor_vv, bor_fn, bor_add, bor_sub, bor_mul, bor_dv, bor_md, bor_neg, bor_not, bor_and, bor_or, bor_ite, bor_cmp, bor_tup, bor_lst, bor_idx, bor_sl, bor_call, bor_bi1, bor_bi2, bor_me1, bor_me2, bor_comp, bor_compIf, ent_f, Out.bind_val, Out.pure_val, Out.bind_bad, asB_bl, owned_ow, lstOf_lst, immIf_false, noExc_val, orBad_some, chk_true, Nat.reduceSub, Nat.reduceAdd, Bool.or_false, Bool.false_or, Bool.or_true, if_true, Bool.false_eq_true, if_false, st])
  obtain ⟨δ', l2, w5, w7, w8, rfl, _⟩ := lp2
  have en : enumFrom 0 ((rowsF b).map fun r => D.lst (r.map eId)) = (idx 0 (rowsF b)).map fun p : Int × List Idd => D.tup [.int p.1, .lst (p.2.map eId)] := idx_enum (enc := fun r : List Idd => D.lst (r.map eId)) 0 (rowsF b)
  rw [← en] at l2
  -- deed by deed
  have lp3 := forD_ex (enc := eId) (xs := b.map Deed.id) (P := fun r δ => ∃ (u6 u9 u10 u11 : Ent), δ = [.sh (scD sc), .sh (eBook b), .sh (.lst ((b.map Deed.id).map eId)), .sh (eRows (rowsF b)), .sh (.lst ((rowsF b).flatten.map eId)), w5, u6, w7, w8, u9, u10, u11, .un, .un] ∧ ∀ o ∈ r, o ∈ b.map Deed.id) (f := fun x δ => do
    let δ' ← bindT δ (.one 6) x
    exs (evF T 14) law_l3 δ') (δ := [.sh (scD sc), .sh (eBook b), .sh (.lst ((b.map Deed.id).map eId)), .sh (eRows (rowsF b)), .sh (.lst ((rowsF b).flatten.map eId)), w5, .un, w7, w8, .un, .un, .un, .un, .un])
    ⟨.un, .un, .un, .un, rfl, fun _ h => h⟩ (fun o r δ ⟨u6, u9, u10, u11, hδ, ho⟩ => by
      subst hδ
      obtain ⟨v9, v10, v11, st⟩ := one_step (n := 7) k h hl (ho o List.mem_cons_self) (.sh (scD sc)) (.sh (eRows (rowsF b))) (.sh (.lst ((rowsF b).flatten.map eId))) w5 w7 w8 u9 u10 u11 .un .un
      refine ⟨_, ?_, .sh (eId o), v9, v10, v11, rfl, fun q hq => ho q (List.mem_cons_of_mem _ hq)⟩
      simp -implicitDefEqProofs only [bind_one, exs, ex, ev, evs, evIt, get_0, get_1, get_2, get_3, get_4, get_5, get_6, get_7, get_8, get_9, get_10, get_11, get_12, get_13, setE_0, setE_1, setE_2, setE_3, setE_4, setE_5, setE_6, setE_7, setE_8, setE_9, setE_10, setE_11, setE_12, setE_13, d_sh, d_ow, v_sh, f_sh, f_ow, o_sh, o_ow, frz_nil, frz_cons, nxt_nx, nxt_rt, startE_nil, startE_cons, uns_0, uns_1, uns_2, uns_3, uns_4, uns_5, uns_6, uns_7, uns_8, uns_9, uns_10, uns_11, uns_12, fin_rt, fin_nx, bor_nil, bor_v, bor_dnil, bor_c, bor_vv, bor_fn, bor_add, bor_sub, bor_mul, bor_dv, bor_md, bor_neg, bor_not, bor_and, bor_or, bor_ite, bor_cmp, bor_tup, bor_lst, bor_idx, bor_sl, bor_call, bor_bi1, bor_bi2, bor_me1, bor_me2, bor_comp, bor_compIf, ent_f, Out.bind_val, Out.pure_val, Out.bind_bad, asB_bl, owned_ow, lstOf_lst, immIf_false, noExc_val, orBad_some, chk_true, Nat.reduceSub, Nat.reduceAdd, Bool.or_false, Bool.false_or, Bool.or_true, if_true, Bool.false_eq_true, if_false, st])
  obtain ⟨δ', l3, y6, y9, y10, y11, rfl, _⟩ := lp3
  have h0 : Ent.sh (D.lst []) = .sh (.lst (([] : List Idd).map eId)) := rfl
  rw [evF_run k.law rfl]
  have u13 : uns 13 = Ent.un :: uns 12 := rfl
  simp -implicitDefEqProofs only [b_law, exs, ex, ev, evs, evIt, get_0, get_1, get_2, get_3, get_4, get_5, get_6, get_7, get_8, get_9, get_10, get_11, get_12, get_13, setE_0, setE_1, setE_2, setE_3, setE_4, setE_5, setE_6, setE_7, setE_8, setE_9, setE_10, setE_11, setE_12, setE_13, d_sh, d_ow, v_sh, f_sh, f_ow, o_sh, o_ow, frz_nil, frz_cons, nxt_nx, nxt_rt, startE_nil, startE_cons, uns_0, uns_1, uns_2, uns_3, uns_4, uns_5, uns_6, uns_7, uns_8, uns_9, uns_10, uns_11, uns_12, fin_rt, fin_nx, bor_nil, bor_v, bor_dnil, bor_c, bor_vv, bor_fn, bor_add, bor_sub, bor_mul, bor_dv, bor_md, bor_neg, bor_not, bor_and, bor_or, bor_ite, bor_cmp, bor_tup, bor_lst, bor_idx, bor_sl, bor_call, bor_bi1, bor_bi2, bor_me1, bor_me2, bor_comp, bor_compIf, ent_f, Out.bind_val, Out.pure_val, Out.bind_bad, asB_bl, owned_ow, lstOf_lst, immIf_false, noExc_val, orBad_some, chk_true, Nat.reduceSub, Nat.reduceAdd, Bool.or_false, Bool.false_or, Bool.or_true, if_true, Bool.false_eq_true, if_false, u13, ef, e0, e1, it_book, m1, e2, h0, itr, l1, so, c1]
  simp -implicitDefEqProofs only [exs, ex, ev, evs, evIt, get_0, get_1, get_2, get_3, get_4, get_5, get_6, get_7, get_8, get_9, get_10, get_11, get_12, get_13, setE_0, setE_1, setE_2, setE_3, setE_4, setE_5, setE_6, setE_7, setE_8, setE_9, setE_10, setE_11, setE_12, setE_13, d_sh, d_ow, v_sh, f_sh, f_ow, o_sh, o_ow, frz_nil, frz_cons, nxt_nx, nxt_rt, startE_nil, startE_cons, uns_0, uns_1, uns_2, uns_3, uns_4, uns_5, uns_6, uns_7, uns_8, uns_9, uns_10, uns_11, uns_12, fin_rt, fin_nx, bor_nil, bor_v, bor_dnil, bor_c, bor_vv, bor_fn, bor_add, bor_sub, bor_mul, bor_dv, bor_md, bor_neg, bor_not, bor_and, bor_or, bor_ite, bor_cmp, bor_tup, bor_lst, bor_idx, bor_sl, bor_call, bor_bi1, bor_bi2, bor_me1, bor_me2, bor_comp, bor_compIf, ent_f, Out.bind_val, Out.pure_val, Out.bind_bad, asB_bl, owned_ow, lstOf_lst, immIf_false, noExc_val, orBad_some, chk_true, Nat.reduceSub, Nat.reduceAdd, Bool.or_false, Bool.false_or, Bool.or_true, if_true, Bool.false_eq_true, if_false, show D.lst (([] : List Idd).map eId) = .lst [] from rfl, c2, itq, l2, it_lstZ, l3]
end
end K47
end Py
end
section
set_option Elab.async false
set_option autoImplicit false
set_option linter.all false
set_option maxRecDepth 100000
set_option maxHeartbeats 0
namespace Py
open PySem PySem.Spec PyProof.Rows L2
def topS (i : Nat) : Stmt := PySem.Challenge.pw_staymark_k47_whole_depths.main.body.getD i (.Pass ⟨0, 0, 0, 0⟩)
def dd (x : Str) (i : Nat) : He.DefD := ⟨(x, none), x, x, defArgs (topS i), defBody (topS i), defScope (topS i), [], []⟩
def fnD : List He.DefD := [dd "is_count" 7, dd "is_id" 8, dd "is_sign_id" 9, dd "is_words" 10, dd "is_name" 11, dd "is_anchor" 12, dd "are_signs" 13, dd "has_form" 14, dd "signs_named" 15, dd "deeds_named" 16, dd "is_deed" 17, dd "by_id" 18, dd "names_right" 19, dd "is_book" 20, dd "need_deed" 25, dd "depths_of" 26, dd "depth" 27, dd "layers" 28, dd "named_in" 29, dd "leaning_on" 31, dd "without" 33, dd "_law_cell" 35, dd "_law_drawn" 36, dd "_law_names" 37, dd "_law_words" 38, dd "_law_signs" 39, dd "_law_anchor" 40, dd "_law_deed" 41, dd "_law_book" 42, dd "law" 43]
def ld_7 : LD := ⟨"is_count", topS 7, ["thing", "low"], ["thing", "low"], []⟩
def ld_8 : LD := ⟨"is_id", topS 8, ["thing"], ["thing"], []⟩
def ld_9 : LD := ⟨"is_sign_id", topS 9, ["thing"], ["thing"], []⟩
def ld_10 : LD := ⟨"is_words", topS 10, ["thing", "sign"], ["thing"], []⟩
def ld_11 : LD := ⟨"is_name", topS 11, ["thing", "sign"], ["thing"], []⟩
def ld_12 : LD := ⟨"is_anchor", topS 12, ["thing"], ["thing"], []⟩
def ld_13 : LD := ⟨"are_signs", topS 13, ["thing", "one", "other"], ["thing"], []⟩
def ld_14 : LD := ⟨"has_form", topS 14, ["thing"], ["thing"], []⟩
def ld_15 : LD := ⟨"signs_named", topS 15, ["deed", "anchor"], ["deed"], []⟩
def ld_16 : LD := ⟨"deeds_named", topS 16, ["deed", "found", "one"], ["deed"], []⟩
def ld_17 : LD := ⟨"is_deed", topS 17, ["thing", "one"], ["thing"], []⟩
def ld_18 : LD := ⟨"by_id", topS 18, ["book", "deed"], ["book"], []⟩
def ld_19 : LD := ⟨"names_right", topS 19, ["deed", "known", "one"], ["deed", "known"], []⟩
def ld_20 : LD := ⟨"is_book", topS 20, ["thing", "known", "deed", "one", "other"], ["thing"], []⟩
def ld_25 : LD := ⟨"need_deed", topS 25, ["book", "one"], ["book", "one"], []⟩
def ld_26 : LD := ⟨"depths_of", topS 26, ["book", "found", "deed", "one"], ["book"], ["found"]⟩
def ld_27 : LD := ⟨"depth", topS 27, ["book", "one"], ["book", "one"], []⟩
def ld_28 : LD := ⟨"layers", topS 28, ["book", "there", "found", "number", "one"], ["book"], ["found"]⟩
def ld_29 : LD := ⟨"named_in", topS 29, ["book", "one", "deeds", "found", "fresh", "more", "other", "here"], ["book", "one"], []⟩
def ld_31 : LD := ⟨"leaning_on", topS 31, ["book", "one", "found", "deed", "other"], ["book", "one"], ["found"]⟩
def ld_33 : LD := ⟨"without", topS 33, ["book", "one", "gone", "deed"], ["book", "one"], []⟩
def ld_35 : LD := ⟨"_law_cell", topS 35, ["_law_script", "_law_k"], ["_law_script", "_law_k"], []⟩
def ld_36 : LD := ⟨"_law_drawn", topS 36, ["_law_script", "_law_k", "_law_many", "_law_cell_here"], ["_law_script", "_law_k", "_law_many"], []⟩
def ld_37 : LD := ⟨"_law_names", topS 37, ["_law_script", "_law_at", "_law_found", "_law_k", "_law_word"], ["_law_script", "_law_at"], ["_law_found"]⟩
def ld_38 : LD := ⟨"_law_words", topS 38, ["_law_script", "_law_at", "_law_k"], ["_law_script", "_law_at"], []⟩
def ld_39 : LD := ⟨"_law_signs", topS 39, ["_law_book_here", "_law_found", "_law_deed_here", "_law_number"], ["_law_book_here"], []⟩
def ld_40 : LD := ⟨"_law_anchor", topS 40, ["_law_script", "_law_at", "_law_signs_here", "_law_sign"], ["_law_script", "_law_at", "_law_signs_here"], []⟩
def ld_41 : LD := ⟨"_law_deed", topS 41, ["_law_script", "_law_at", "_law_one", "_law_known", "_law_names_here", "_law_signs_here", "_law_way", "_law_behind", "_law_some", "_law_ends", "_law_k", "_law_sign"], ["_law_script", "_law_at", "_law_one", "_law_known", "_law_names_here"], []⟩
def ld_42 : LD := ⟨"_law_book", topS 42, ["_law_script", "_law_at", "_law_most", "_law_names_here", "_law_found", "_law_one", "_law_k", "_law_time", "_law_hand", "_law_known", "_law_deed_here"], ["_law_script", "_law_at", "_law_most", "_law_names_here"], []⟩
def ld_43 : LD := ⟨"law", topS 43, ["_law_script", "_law_book_here", "_law_ids", "_law_rows", "_law_flat", "_law_row", "_law_one", "_law_number", "_law_few", "_law_named", "_law_deep", "_law_less", "_law_deed_here", "_law_other"], ["_law_script"], []⟩
def lds : List LD := [ld_7, ld_8, ld_9, ld_10, ld_11, ld_12, ld_13, ld_14, ld_15, ld_16, ld_17, ld_18, ld_19, ld_20, ld_25, ld_26, ld_27, ld_28, ld_29, ld_31, ld_33, ld_35, ld_36, ld_37, ld_38, ld_39, ld_40, ld_41, ld_42, ld_43]
def faD : List He.Fa := [.glo "is_count", .glo "is_id", .glo "is_sign_id", .glo "is_words", .glo "is_name", .glo "is_anchor", .glo "are_signs", .glo "has_form", .glo "signs_named", .glo "deeds_named", .glo "is_deed", .glo "by_id", .glo "names_right", .glo "is_book", .glo "need_deed", .glo "depths_of", .glo "depth", .glo "layers", .glo "named_in", .glo "leaning_on", .glo "without", .glo "_law_cell", .glo "_law_drawn", .glo "_law_names", .glo "_law_words", .glo "_law_signs", .glo "_law_anchor", .glo "_law_deed", .glo "_law_book", .glo "law", .free "ValueError", .free "all", .free "any", .free "bool", .free "dict", .free "enumerate", .free "int", .free "isinstance", .free "len", .free "list", .free "max", .free "range", .free "set", .free "sorted", .free "str", .free "tuple", .free "zip", .str "HANDS" "abcdefgh", .str "LETTERS" "abcdefghijklmnopqrstuvwxyz", .int "MOST_SIGNS" 20, .int "MOST_LETTERS" 6, .int "MOST_DROPPED" 400]
def consD : List (Str × D) := [("HANDS", .str ("abcdefgh" : Str).cps.toList), ("LETTERS", .str ("abcdefghijklmnopqrstuvwxyz" : Str).cps.toList), ("SIDES", .tup (([[108], [114]] : List (List Nat)).map .str)), ("MOST_SIGNS", .int 20), ("MOST_LETTERS", .int 6), ("MOST_DROPPED", .int 400)]
def blD : List Str := ["ValueError", "all", "any", "bool", "dict", "enumerate", "int", "isinstance", "len", "list", "max", "range", "set", "sorted", "str", "tuple", "zip"]
def errsD : List Str := ["MarkError", "NoDeed"]
def hotD : List Str := []
def tupsD : List (Str × List (List Nat)) := [("SIDES", [[108], [114]])]
abbrev gsL : Gs := gsD lds consD blD errsD hotD
abbrev tabL : Tab := tabD gsL lds
abbrev namesL : List Str := (["HANDS", "LETTERS", "SIDES", "MOST_SIGNS", "MOST_LETTERS", "MOST_DROPPED", "is_count", "is_id", "is_sign_id", "is_words", "is_name", "is_anchor", "are_signs", "has_form", "signs_named", "deeds_named", "is_deed", "by_id", "names_right", "is_book", "MarkError", "NoDeed", "need_deed", "depths_of", "depth", "layers", "named_in", "leaning_on", "without", "_law_cell"] : List Str) ++ (["_law_drawn", "_law_names", "_law_words", "_law_signs", "_law_anchor", "_law_deed", "_law_book"] : List Str)
abbrev rowL : PySem.W.OpenRow := PySem.W.OpenLaw.row PySem.Challenge.rw_staymark_k47_whole_depths
abbrev hkL : PySem.W.Hook := hookX 4 faD fnD errsD tupsD
def obL (s : PySem.W.SharedT) : He.AlD × Bool := obsX 4 faD fnD errsD tupsD (HandSHeadRun.getT s)
theorem ob_eqL (s : PySem.W.SharedT) : obL s = hkL.obs s.abs := obsX_eq (HandSHeadRun.getT_eq s)
theorem runL (w : World) : HandSHeadRun.RunEq rowL (PySem.W.view rowL.prog [43]) hkL obL 3000 namesL w := by
  intro os
  kernel_rfl
section
variable {K : PySem.W.Frag}
theorem ok_7 (c : He.SaysD faD fnD K) : LdOk gsL K ld_7 := by
  obtain ⟨fd, h⟩ := c.def_ 0 (d := dd "is_count" 7) rfl
  refine ⟨⟨fd, h, FunD.bindsN h fun _ _ _ _ _ _ us hl => match us, hl with | [_, _], _ => rfl⟩, ⟨rfl, rfl, rfl, by decide +kernel, rfl, by decide +kernel, by decide +kernel⟩, by decide +kernel, fun h => absurd h (by decide +kernel)⟩
theorem ok_8 (c : He.SaysD faD fnD K) : LdOk gsL K ld_8 := by
  obtain ⟨fd, h⟩ := c.def_ 1 (d := dd "is_id" 8) rfl
  refine ⟨⟨fd, h, FunD.bindsN h fun _ _ _ _ _ _ us hl => match us, hl with | [_], _ => rfl⟩, ⟨rfl, rfl, rfl, by decide +kernel, rfl, by decide +kernel, by decide +kernel⟩, by decide +kernel, fun h => absurd h (by decide +kernel)⟩
theorem ok_9 (c : He.SaysD faD fnD K) : LdOk gsL K ld_9 := by
  obtain ⟨fd, h⟩ := c.def_ 2 (d := dd "is_sign_id" 9) rfl
  refine ⟨⟨fd, h, FunD.bindsN h fun _ _ _ _ _ _ us hl => match us, hl with | [_], _ => rfl⟩, ⟨rfl, rfl, rfl, by decide +kernel, rfl, by decide +kernel, by decide +kernel⟩, by decide +kernel, fun h => absurd h (by decide +kernel)⟩
theorem ok_10 (c : He.SaysD faD fnD K) : LdOk gsL K ld_10 := by
  obtain ⟨fd, h⟩ := c.def_ 3 (d := dd "is_words" 10) rfl
  refine ⟨⟨fd, h, FunD.bindsN h fun _ _ _ _ _ _ us hl => match us, hl with | [_], _ => rfl⟩, ⟨rfl, rfl, rfl, by decide +kernel, rfl, by decide +kernel, by decide +kernel⟩, by decide +kernel, fun h => absurd h (by decide +kernel)⟩
theorem ok_11 (c : He.SaysD faD fnD K) : LdOk gsL K ld_11 := by
  obtain ⟨fd, h⟩ := c.def_ 4 (d := dd "is_name" 11) rfl
  refine ⟨⟨fd, h, FunD.bindsN h fun _ _ _ _ _ _ us hl => match us, hl with | [_], _ => rfl⟩, ⟨rfl, rfl, rfl, by decide +kernel, rfl, by decide +kernel, by decide +kernel⟩, by decide +kernel, fun h => absurd h (by decide +kernel)⟩
theorem ok_12 (c : He.SaysD faD fnD K) : LdOk gsL K ld_12 := by
  obtain ⟨fd, h⟩ := c.def_ 5 (d := dd "is_anchor" 12) rfl
  refine ⟨⟨fd, h, FunD.bindsN h fun _ _ _ _ _ _ us hl => match us, hl with | [_], _ => rfl⟩, ⟨rfl, rfl, rfl, by decide +kernel, rfl, by decide +kernel, by decide +kernel⟩, by decide +kernel, fun h => absurd h (by decide +kernel)⟩
theorem ok_13 (c : He.SaysD faD fnD K) : LdOk gsL K ld_13 := by
  obtain ⟨fd, h⟩ := c.def_ 6 (d := dd "are_signs" 13) rfl
  refine ⟨⟨fd, h, FunD.bindsN h fun _ _ _ _ _ _ us hl => match us, hl with | [_], _ => rfl⟩, ⟨rfl, rfl, rfl, by decide +kernel, rfl, by decide +kernel, by decide +kernel⟩, by decide +kernel, fun h => absurd h (by decide +kernel)⟩
theorem ok_14 (c : He.SaysD faD fnD K) : LdOk gsL K ld_14 := by
  obtain ⟨fd, h⟩ := c.def_ 7 (d := dd "has_form" 14) rfl
  refine ⟨⟨fd, h, FunD.bindsN h fun _ _ _ _ _ _ us hl => match us, hl with | [_], _ => rfl⟩, ⟨rfl, rfl, rfl, by decide +kernel, rfl, by decide +kernel, by decide +kernel⟩, by decide +kernel, fun h => absurd h (by decide +kernel)⟩
theorem ok_15 (c : He.SaysD faD fnD K) : LdOk gsL K ld_15 := by
  obtain ⟨fd, h⟩ := c.def_ 8 (d := dd "signs_named" 15) rfl
  refine ⟨⟨fd, h, FunD.bindsN h fun _ _ _ _ _ _ us hl => match us, hl with | [_], _ => rfl⟩, ⟨rfl, rfl, rfl, by decide +kernel, rfl, by decide +kernel, by decide +kernel⟩, by decide +kernel, fun h => absurd h (by decide +kernel)⟩
theorem ok_16 (c : He.SaysD faD fnD K) : LdOk gsL K ld_16 := by
  obtain ⟨fd, h⟩ := c.def_ 9 (d := dd "deeds_named" 16) rfl
  refine ⟨⟨fd, h, FunD.bindsN h fun _ _ _ _ _ _ us hl => match us, hl with | [_], _ => rfl⟩, ⟨rfl, rfl, rfl, by decide +kernel, rfl, by decide +kernel, by decide +kernel⟩, by decide +kernel, fun h => absurd h (by decide +kernel)⟩
theorem ok_17 (c : He.SaysD faD fnD K) : LdOk gsL K ld_17 := by
  obtain ⟨fd, h⟩ := c.def_ 10 (d := dd "is_deed" 17) rfl
  refine ⟨⟨fd, h, FunD.bindsN h fun _ _ _ _ _ _ us hl => match us, hl with | [_], _ => rfl⟩, ⟨rfl, rfl, rfl, by decide +kernel, rfl, by decide +kernel, by decide +kernel⟩, by decide +kernel, fun h => absurd h (by decide +kernel)⟩
theorem ok_18 (c : He.SaysD faD fnD K) : LdOk gsL K ld_18 := by
  obtain ⟨fd, h⟩ := c.def_ 11 (d := dd "by_id" 18) rfl
  refine ⟨⟨fd, h, FunD.bindsN h fun _ _ _ _ _ _ us hl => match us, hl with | [_], _ => rfl⟩, ⟨rfl, rfl, rfl, by decide +kernel, rfl, by decide +kernel, by decide +kernel⟩, by decide +kernel, fun h => absurd h (by decide +kernel)⟩
theorem ok_19 (c : He.SaysD faD fnD K) : LdOk gsL K ld_19 := by
  obtain ⟨fd, h⟩ := c.def_ 12 (d := dd "names_right" 19) rfl
  refine ⟨⟨fd, h, FunD.bindsN h fun _ _ _ _ _ _ us hl => match us, hl with | [_, _], _ => rfl⟩, ⟨rfl, rfl, rfl, by decide +kernel, rfl, by decide +kernel, by decide +kernel⟩, by decide +kernel, fun h => absurd h (by decide +kernel)⟩
theorem ok_20 (c : He.SaysD faD fnD K) : LdOk gsL K ld_20 := by
  obtain ⟨fd, h⟩ := c.def_ 13 (d := dd "is_book" 20) rfl
  refine ⟨⟨fd, h, FunD.bindsN h fun _ _ _ _ _ _ us hl => match us, hl with | [_], _ => rfl⟩, ⟨rfl, rfl, rfl, by decide +kernel, rfl, by decide +kernel, by decide +kernel⟩, by decide +kernel, fun h => absurd h (by decide +kernel)⟩
theorem ok_25 (c : He.SaysD faD fnD K) : LdOk gsL K ld_25 := by
  obtain ⟨fd, h⟩ := c.def_ 14 (d := dd "need_deed" 25) rfl
  refine ⟨⟨fd, h, FunD.bindsN h fun _ _ _ _ _ _ us hl => match us, hl with | [_, _], _ => rfl⟩, ⟨rfl, rfl, rfl, by decide +kernel, rfl, by decide +kernel, by decide +kernel⟩, by decide +kernel, fun h => absurd h (by decide +kernel)⟩
theorem ok_26 (c : He.SaysD faD fnD K) : LdOk gsL K ld_26 := by
  obtain ⟨fd, h⟩ := c.def_ 15 (d := dd "depths_of" 26) rfl
  refine ⟨⟨fd, h, FunD.bindsN h fun _ _ _ _ _ _ us hl => match us, hl with | [_], _ => rfl⟩, ⟨rfl, rfl, rfl, by decide +kernel, rfl, by decide +kernel, by decide +kernel⟩, by decide +kernel, fun h => absurd h (by decide +kernel)⟩
theorem ok_27 (c : He.SaysD faD fnD K) : LdOk gsL K ld_27 := by
  obtain ⟨fd, h⟩ := c.def_ 16 (d := dd "depth" 27) rfl
  refine ⟨⟨fd, h, FunD.bindsN h fun _ _ _ _ _ _ us hl => match us, hl with | [_, _], _ => rfl⟩, ⟨rfl, rfl, rfl, by decide +kernel, rfl, by decide +kernel, by decide +kernel⟩, by decide +kernel, fun h => absurd h (by decide +kernel)⟩
theorem ok_28 (c : He.SaysD faD fnD K) : LdOk gsL K ld_28 := by
  obtain ⟨fd, h⟩ := c.def_ 17 (d := dd "layers" 28) rfl
  refine ⟨⟨fd, h, FunD.bindsN h fun _ _ _ _ _ _ us hl => match us, hl with | [_], _ => rfl⟩, ⟨rfl, rfl, rfl, by decide +kernel, rfl, by decide +kernel, by decide +kernel⟩, by decide +kernel, fun h => absurd h (by decide +kernel)⟩
theorem ok_29 (c : He.SaysD faD fnD K) : LdOk gsL K ld_29 := by
  obtain ⟨fd, h⟩ := c.def_ 18 (d := dd "named_in" 29) rfl
  refine ⟨⟨fd, h, FunD.bindsN h fun _ _ _ _ _ _ us hl => match us, hl with | [_, _], _ => rfl⟩, ⟨rfl, rfl, rfl, by decide +kernel, rfl, by decide +kernel, by decide +kernel⟩, by decide +kernel, fun h => absurd h (by decide +kernel)⟩
theorem ok_31 (c : He.SaysD faD fnD K) : LdOk gsL K ld_31 := by
  obtain ⟨fd, h⟩ := c.def_ 19 (d := dd "leaning_on" 31) rfl
  refine ⟨⟨fd, h, FunD.bindsN h fun _ _ _ _ _ _ us hl => match us, hl with | [_, _], _ => rfl⟩, ⟨rfl, rfl, rfl, by decide +kernel, rfl, by decide +kernel, by decide +kernel⟩, by decide +kernel, fun h => absurd h (by decide +kernel)⟩
theorem ok_33 (c : He.SaysD faD fnD K) : LdOk gsL K ld_33 := by
  obtain ⟨fd, h⟩ := c.def_ 20 (d := dd "without" 33) rfl
  refine ⟨⟨fd, h, FunD.bindsN h fun _ _ _ _ _ _ us hl => match us, hl with | [_, _], _ => rfl⟩, ⟨rfl, rfl, rfl, by decide +kernel, rfl, by decide +kernel, by decide +kernel⟩, by decide +kernel, fun h => absurd h (by decide +kernel)⟩
theorem ok_35 (c : He.SaysD faD fnD K) : LdOk gsL K ld_35 := by
  obtain ⟨fd, h⟩ := c.def_ 21 (d := dd "_law_cell" 35) rfl
  refine ⟨⟨fd, h, FunD.bindsN h fun _ _ _ _ _ _ us hl => match us, hl with | [_, _], _ => rfl⟩, ⟨rfl, rfl, rfl, by decide +kernel, rfl, by decide +kernel, by decide +kernel⟩, by decide +kernel, fun h => absurd h (by decide +kernel)⟩
theorem ok_36 (c : He.SaysD faD fnD K) : LdOk gsL K ld_36 := by
  obtain ⟨fd, h⟩ := c.def_ 22 (d := dd "_law_drawn" 36) rfl
  refine ⟨⟨fd, h, FunD.bindsN h fun _ _ _ _ _ _ us hl => match us, hl with | [_, _, _], _ => rfl⟩, ⟨rfl, rfl, rfl, by decide +kernel, rfl, by decide +kernel, by decide +kernel⟩, by decide +kernel, fun h => absurd h (by decide +kernel)⟩
theorem ok_37 (c : He.SaysD faD fnD K) : LdOk gsL K ld_37 := by
  obtain ⟨fd, h⟩ := c.def_ 23 (d := dd "_law_names" 37) rfl
  refine ⟨⟨fd, h, FunD.bindsN h fun _ _ _ _ _ _ us hl => match us, hl with | [_, _], _ => rfl⟩, ⟨rfl, rfl, rfl, by decide +kernel, rfl, by decide +kernel, by decide +kernel⟩, by decide +kernel, fun h => absurd h (by decide +kernel)⟩
theorem ok_38 (c : He.SaysD faD fnD K) : LdOk gsL K ld_38 := by
  obtain ⟨fd, h⟩ := c.def_ 24 (d := dd "_law_words" 38) rfl
  refine ⟨⟨fd, h, FunD.bindsN h fun _ _ _ _ _ _ us hl => match us, hl with | [_, _], _ => rfl⟩, ⟨rfl, rfl, rfl, by decide +kernel, rfl, by decide +kernel, by decide +kernel⟩, by decide +kernel, fun h => absurd h (by decide +kernel)⟩
theorem ok_39 (c : He.SaysD faD fnD K) : LdOk gsL K ld_39 := by
  obtain ⟨fd, h⟩ := c.def_ 25 (d := dd "_law_signs" 39) rfl
  refine ⟨⟨fd, h, FunD.bindsN h fun _ _ _ _ _ _ us hl => match us, hl with | [_], _ => rfl⟩, ⟨rfl, rfl, rfl, by decide +kernel, rfl, by decide +kernel, by decide +kernel⟩, by decide +kernel, fun h => absurd h (by decide +kernel)⟩
theorem ok_40 (c : He.SaysD faD fnD K) : LdOk gsL K ld_40 := by
  obtain ⟨fd, h⟩ := c.def_ 26 (d := dd "_law_anchor" 40) rfl
  refine ⟨⟨fd, h, FunD.bindsN h fun _ _ _ _ _ _ us hl => match us, hl with | [_, _, _], _ => rfl⟩, ⟨rfl, rfl, rfl, by decide +kernel, rfl, by decide +kernel, by decide +kernel⟩, by decide +kernel, fun h => absurd h (by decide +kernel)⟩
theorem ok_41 (c : He.SaysD faD fnD K) : LdOk gsL K ld_41 := by
  obtain ⟨fd, h⟩ := c.def_ 27 (d := dd "_law_deed" 41) rfl
  refine ⟨⟨fd, h, FunD.bindsN h fun _ _ _ _ _ _ us hl => match us, hl with | [_, _, _, _, _], _ => rfl⟩, ⟨rfl, rfl, rfl, by decide +kernel, rfl, by decide +kernel, by decide +kernel⟩, by decide +kernel, fun h => absurd h (by decide +kernel)⟩
theorem ok_42 (c : He.SaysD faD fnD K) : LdOk gsL K ld_42 := by
  obtain ⟨fd, h⟩ := c.def_ 28 (d := dd "_law_book" 42) rfl
  refine ⟨⟨fd, h, FunD.bindsN h fun _ _ _ _ _ _ us hl => match us, hl with | [_, _, _, _], _ => rfl⟩, ⟨rfl, rfl, rfl, by decide +kernel, rfl, by decide +kernel, by decide +kernel⟩, by decide +kernel, fun h => absurd h (by decide +kernel)⟩
theorem ok_43 (c : He.SaysD faD fnD K) : LdOk gsL K ld_43 := by
  obtain ⟨fd, h⟩ := c.def_ 29 (d := dd "law" 43) rfl
  refine ⟨⟨fd, h, FunD.bindsN h fun _ _ _ _ _ _ us hl => match us, hl with | [_], _ => rfl⟩, ⟨rfl, rfl, rfl, by decide +kernel, rfl, by decide +kernel, by decide +kernel⟩, by decide +kernel, fun h => absurd h (by decide +kernel)⟩
theorem all_ok (c : He.SaysD faD fnD K) : ∀ d ∈ lds, LdOk gsL K d := by
  intro d hd
  simp only [lds, List.mem_cons, List.not_mem_nil, or_false] at hd
  rcases hd with rfl | rfl | rfl | rfl | rfl | rfl | rfl | rfl | rfl | rfl | rfl | rfl | rfl | rfl | rfl | rfl | rfl | rfl | rfl | rfl | rfl | rfl | rfl | rfl | rfl | rfl | rfl | rfl | rfl | rfl
  · exact ok_7 c
  · exact ok_8 c
  · exact ok_9 c
  · exact ok_10 c
  · exact ok_11 c
  · exact ok_12 c
  · exact ok_13 c
  · exact ok_14 c
  · exact ok_15 c
  · exact ok_16 c
  · exact ok_17 c
  · exact ok_18 c
  · exact ok_19 c
  · exact ok_20 c
  · exact ok_25 c
  · exact ok_26 c
  · exact ok_27 c
  · exact ok_28 c
  · exact ok_29 c
  · exact ok_31 c
  · exact ok_33 c
  · exact ok_35 c
  · exact ok_36 c
  · exact ok_37 c
  · exact ok_38 c
  · exact ok_39 c
  · exact ok_40 c
  · exact ok_41 c
  · exact ok_42 c
  · exact ok_43 c
theorem gs_okL {P : Program} {w : World} {h : Heap} {mg : Str → Option Value} (X : K.In h) (Gm : h.Ns mainGlobals mg) (c : He.SaysD faD fnD K) (hE : errsB K errsD = true) (hT : tupsB K tupsD = true) : GsOk gsL (gxD P w K lds errsD) mg := by
  refine gs_ok X Gm (fun d hd => ?_) (fun p hp => ?_) (fun x hx => ?_) hE
  · simp only [lds, List.mem_cons, List.not_mem_nil, or_false] at hd
    rcases hd with rfl | rfl | rfl | rfl | rfl | rfl | rfl | rfl | rfl | rfl | rfl | rfl | rfl | rfl | rfl | rfl | rfl | rfl | rfl | rfl | rfl | rfl | rfl | rfl | rfl | rfl | rfl | rfl | rfl | rfl
    · exact He.glo_ok X Gm (c.fact 0 (f := .glo "is_count") rfl)
    · exact He.glo_ok X Gm (c.fact 1 (f := .glo "is_id") rfl)
    · exact He.glo_ok X Gm (c.fact 2 (f := .glo "is_sign_id") rfl)
    · exact He.glo_ok X Gm (c.fact 3 (f := .glo "is_words") rfl)
    · exact He.glo_ok X Gm (c.fact 4 (f := .glo "is_name") rfl)
    · exact He.glo_ok X Gm (c.fact 5 (f := .glo "is_anchor") rfl)
    · exact He.glo_ok X Gm (c.fact 6 (f := .glo "are_signs") rfl)
    · exact He.glo_ok X Gm (c.fact 7 (f := .glo "has_form") rfl)
    · exact He.glo_ok X Gm (c.fact 8 (f := .glo "signs_named") rfl)
    · exact He.glo_ok X Gm (c.fact 9 (f := .glo "deeds_named") rfl)
    · exact He.glo_ok X Gm (c.fact 10 (f := .glo "is_deed") rfl)
    · exact He.glo_ok X Gm (c.fact 11 (f := .glo "by_id") rfl)
    · exact He.glo_ok X Gm (c.fact 12 (f := .glo "names_right") rfl)
    · exact He.glo_ok X Gm (c.fact 13 (f := .glo "is_book") rfl)
    · exact He.glo_ok X Gm (c.fact 14 (f := .glo "need_deed") rfl)
    · exact He.glo_ok X Gm (c.fact 15 (f := .glo "depths_of") rfl)
    · exact He.glo_ok X Gm (c.fact 16 (f := .glo "depth") rfl)
    · exact He.glo_ok X Gm (c.fact 17 (f := .glo "layers") rfl)
    · exact He.glo_ok X Gm (c.fact 18 (f := .glo "named_in") rfl)
    · exact He.glo_ok X Gm (c.fact 19 (f := .glo "leaning_on") rfl)
    · exact He.glo_ok X Gm (c.fact 20 (f := .glo "without") rfl)
    · exact He.glo_ok X Gm (c.fact 21 (f := .glo "_law_cell") rfl)
    · exact He.glo_ok X Gm (c.fact 22 (f := .glo "_law_drawn") rfl)
    · exact He.glo_ok X Gm (c.fact 23 (f := .glo "_law_names") rfl)
    · exact He.glo_ok X Gm (c.fact 24 (f := .glo "_law_words") rfl)
    · exact He.glo_ok X Gm (c.fact 25 (f := .glo "_law_signs") rfl)
    · exact He.glo_ok X Gm (c.fact 26 (f := .glo "_law_anchor") rfl)
    · exact He.glo_ok X Gm (c.fact 27 (f := .glo "_law_deed") rfl)
    · exact He.glo_ok X Gm (c.fact 28 (f := .glo "_law_book") rfl)
    · exact He.glo_ok X Gm (c.fact 29 (f := .glo "law") rfl)
  · simp only [consD, List.mem_cons, List.not_mem_nil, or_false] at hp
    rcases hp with rfl | rfl | rfl | rfl | rfl | rfl
    · exact str_con (He.str_ok X Gm (c.fact 47 (f := .str "HANDS" "abcdefgh") rfl)) (by decide +kernel)
    · exact str_con (He.str_ok X Gm (c.fact 48 (f := .str "LETTERS" "abcdefghijklmnopqrstuvwxyz") rfl)) (by decide +kernel)
    · exact tup_con X Gm hT (by simp [tupsD])
    · exact int_con (He.int_ok X Gm (c.fact 49 (f := .int "MOST_SIGNS" 20) rfl))
    · exact int_con (He.int_ok X Gm (c.fact 50 (f := .int "MOST_LETTERS" 6) rfl))
    · exact int_con (He.int_ok X Gm (c.fact 51 (f := .int "MOST_DROPPED" 400) rfl))
  · simp only [blD, List.mem_cons, List.not_mem_nil, or_false] at hx
    rcases hx with rfl | rfl | rfl | rfl | rfl | rfl | rfl | rfl | rfl | rfl | rfl | rfl | rfl | rfl | rfl | rfl | rfl
    · exact He.free_ok X Gm (c.fact 30 (f := .free "ValueError") rfl)
    · exact He.free_ok X Gm (c.fact 31 (f := .free "all") rfl)
    · exact He.free_ok X Gm (c.fact 32 (f := .free "any") rfl)
    · exact He.free_ok X Gm (c.fact 33 (f := .free "bool") rfl)
    · exact He.free_ok X Gm (c.fact 34 (f := .free "dict") rfl)
    · exact He.free_ok X Gm (c.fact 35 (f := .free "enumerate") rfl)
    · exact He.free_ok X Gm (c.fact 36 (f := .free "int") rfl)
    · exact He.free_ok X Gm (c.fact 37 (f := .free "isinstance") rfl)
    · exact He.free_ok X Gm (c.fact 38 (f := .free "len") rfl)
    · exact He.free_ok X Gm (c.fact 39 (f := .free "list") rfl)
    · exact He.free_ok X Gm (c.fact 40 (f := .free "max") rfl)
    · exact He.free_ok X Gm (c.fact 41 (f := .free "range") rfl)
    · exact He.free_ok X Gm (c.fact 42 (f := .free "set") rfl)
    · exact He.free_ok X Gm (c.fact 43 (f := .free "sorted") rfl)
    · exact He.free_ok X Gm (c.fact 44 (f := .free "str") rfl)
    · exact He.free_ok X Gm (c.fact 45 (f := .free "tuple") rfl)
    · exact He.free_ok X Gm (c.fact 46 (f := .free "zip") rfl)
end
end Py
namespace Py
theorem t_cell : tabL nCell = some b_law_cell := by kernel_rfl
theorem t_drawn : tabL nDrawn = some b_law_drawn := by kernel_rfl
theorem t_names : tabL nNames = some b_law_names := by kernel_rfl
theorem t_words : tabL nWords = some b_law_words := by kernel_rfl
theorem t_signs : tabL nSigns = some b_law_signs := by kernel_rfl
theorem t_anchor : tabL nAnchor = some b_law_anchor := by kernel_rfl
theorem t_deed : tabL nDeed = some b_law_deed := by kernel_rfl
theorem t_book : tabL nBook = some b_law_book := by kernel_rfl
theorem t_sn : tabL nSignsNamed = some b_signs_named := by kernel_rfl
theorem t_dn : tabL nDeedsNamed = some b_deeds_named := by kernel_rfl
theorem t_bi : tabL n_by_id = some b_by_id := by kernel_rfl
theorem t_nd : tabL n_need_deed = some b_need_deed := by kernel_rfl
theorem t_ds : tabL n_depths_of = some b_depths_of := by kernel_rfl
theorem t_de : tabL n_depth = some b_depth := by kernel_rfl
theorem t_la : tabL n_layers = some b_layers := by kernel_rfl
theorem t_ni : tabL n_named_in = some b_named_in := by kernel_rfl
theorem t_le : tabL n_leaning_on = some b_leaning_on := by kernel_rfl
theorem t_wo : tabL n_without = some b_without := by kernel_rfl
theorem t_nr : tabL nNamesRight = some b_names_right := by kernel_rfl
theorem t_ct : tabL n_is_count = some b_is_count := by kernel_rfl
theorem t_id : tabL n_is_id = some b_is_id := by kernel_rfl
theorem t_sg : tabL n_is_sign_id = some b_is_sign_id := by kernel_rfl
theorem t_wd : tabL n_is_words = some b_is_words := by kernel_rfl
theorem t_nm : tabL n_is_name = some b_is_name := by kernel_rfl
theorem t_an : tabL n_is_anchor = some b_is_anchor := by kernel_rfl
theorem t_as : tabL n_are_signs = some b_are_signs := by kernel_rfl
theorem t_fm : tabL n_has_form = some b_has_form := by kernel_rfl
theorem t_dd : tabL n_is_deed = some b_is_deed := by kernel_rfl
theorem t_bk : tabL n_is_book = some b_is_book := by kernel_rfl
theorem t_law : tabL K47.n_law = some K47.b_law := by kernel_rfl
theorem l47 : K47.L47 tabL := ⟨⟨⟨t_cell, t_drawn⟩, t_names, t_words, t_signs, t_anchor, t_deed⟩, t_book, ⟨t_sn, t_dn, t_bi, t_nd, t_ds, t_de, t_la, t_ni⟩, ⟨t_sn, t_dn, t_bi, t_le, t_wo⟩, ⟨t_sn, t_dn, t_bi, t_nr, t_ct, t_id, t_sg, t_wd, t_nm, t_an, t_as, t_fm, t_dd, t_bk⟩, t_law⟩
theorem hlZ : ∀ ns : List Int, ns.length ≤ 63 → evF tabL 15 ("law" : PySem.Str).cps.toList [.lst (ns.map .int)] = .val (.bl true) := fun ns h => K47.law_ev l47 h
end Py
open PySem PySem.W PySem.Calls PyProof.Rows
theorem PySem.Challenge.cw_staymark_k47_whole_depths_holds : PySem.Challenge.rw_staymark_k47_whole_depths.Holds := by
  w_on; o_law
  refine HandSHeadRun.head_any (r := OpenLaw.row PySem.Challenge.rw_staymark_k47_whole_depths) (q := view (OpenLaw.row PySem.Challenge.rw_staymark_k47_whole_depths).prog [43]) (H := Py.hkL) (ob := Py.obL) (M := 3000) (loose := Py.namesL) (d := HandSHeadRun.topDef (OpenLaw.row PySem.Challenge.rw_staymark_k47_whole_depths).prog 43) (kwd := []) Py.ob_eqL
    (by kernel_rfl) (fun s => by kernel_rfl) Py.runL (by kernel_rfl) (by kernel_rfl) (by kernel_rfl) (by rfl) (by first | assumption | decide +kernel) (by decide +kernel) ⟨rfl, rfl, rfl, rfl, rfl, by decide +kernel⟩ ?hw ?hc
  case hw => w_witness2
  case hc =>
    refine Py.walk_ofL (l := PySem.Challenge.rw_staymark_k47_whole_depths) (n := 63) (k := 15) (x := "_law_script") (C := fun o H s E u s' => ∃ w : World, L2N.CX (PySem.Challenge.rw_staymark_k47_whole_depths).prog w o H s E u s') rfl (by decide) (by kernel_rfl) ⟨rfl, by decide, by decide⟩ ?F (fun H s e s' ⟨w, z⟩ => Py.cx_no H s e s' z)
    intro w mg fa h Y Gm hmg0
    obtain ⟨K, KX, c, hE, hT⟩ := Y
    have hmg : mg ("law" : PySem.Str) = some (.ref fa) := by
      have e : (HandSHeadRun.topDef (OpenLaw.row PySem.Challenge.rw_staymark_k47_whole_depths).prog 43).name = ("law" : PySem.Str) := by kernel_rfl
      rw [← e]
      exact hmg0
    obtain ⟨fd, hfd⟩ := c.def_ 29 (d := Py.dd "law" 43) rfl
    have ea := hmg.symm.trans (He.glo_ok KX Gm (c.fact 29 (f := .glo "law") rfl))
    cases ea
    have bd := L2.FunD.bindsA (ps := ["_law_script"]) hfd fun _ _ _ _ _ _ us hl => match us, hl with | [_], _ => rfl
    have gok := Py.gs_okL (P := (PySem.Challenge.rw_staymark_k47_whole_depths).prog) (w := w) KX Gm c hE hT
    have hF := fun base => Py.law_fn (n := 14) (base := base) gok (Py.all_ok c) (d := Py.ld_43) (by kernel_rfl) hfd
    refine ⟨K, fd, _, KX, fun s v => bd s [v] rfl, fun H a ns hle hS => Py.law_sp (G := Py.gxD (PySem.Challenge.rw_staymark_k47_whole_depths).prog w K Py.lds Py.errsD) (n := 15) rfl Py.hlZ hle hS, fun base _ _ => ?_⟩
    have z := hF base
    exact ⟨z.len, fun A o s H ar us vs Q E h1 h2 h3 h4 h5 => Py.cx_to (z.run A o s H ar us vs Q E h1 h2 h3 h4 h5)⟩
end
