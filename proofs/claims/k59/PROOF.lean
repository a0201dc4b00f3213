import PyProof.Rows.All
import Wide.All
import OpenK.AllK
import Wide.FinOn
import HandS.ForMost
import KE.KStateDown
import HandS.Ends
import HandS.More
import HandS.Words
import HandS.WordsExc
import HandS.Head0
import HandS.Head1
import HandS.Head2
import HandS.HeadEnd
import HandS.HeadHook1
import HandS.HeadHook2
import HandS.ForExc
import HandS.TupAny
import HandS.Wide
import HandS.Set
import KE.KDictKeyed
import HandS.Deep
import HandS.Text
import HandS.Style
import HandS.TupMul
import HandS.IsInst
import HandS.TupLe
import HandS.SortOrd
import HandS.SortRule
import HandS.TupSets
import HandS.SetTxt0
import PyProof.WalksMore
import KE.KDictWalk
import KE.KDictSum
import KE.KDictPairs
import PyProof.DictUpdate
import HandS.Iter
import HandS.Zip
import HandS.Codes
import KE.GoesMore
import HandS.Walk
import KE.KDictItemsList
import PyProof.RangeFor
import HandS.ExcValue
import HandS.Defaults
import PySem.Challenge.RW_gathersolve_k59_whole_spared_lots_of_put
section
set_option Elab.async false
set_option linter.all false
set_option maxRecDepth 100000
namespace Q
open PySem

inductive D where
  | non | bl (b : Bool) | int (i : Int) | str (x : Str)
  | tup (xs : List D) | lst (xs : List D)
  | dct (ks vs : List D) | set (xs : List D) | cell (n : Nat)
  | exn (c : Str) (a : List D)
  | inp (xs : List D)

namespace D
mutual
def beq : D → D → Bool
  | .non, .non => true
  | .bl a, .bl b => a == b
  | .int a, .int b => decide (a = b)
  | .str a, .str b => decide (a = b)
  | .tup a, .tup b => beqL a b
  | .lst a, .lst b => beqL a b
  | .dct a c, .dct b d => beqL a b && beqL c d
  | .set a, .set b => beqL a b
  | .cell a, .cell b => Nat.beq a b
  | .exn a c, .exn b d => decide (a = b) && beqL c d
  | .inp a, .inp b => beqL a b
  | _, _ => false
def beqL : List D → List D → Bool
  | [], [] => true
  | a :: as, b :: bs => beq a b && beqL as bs
  | _, _ => false
end
mutual
theorem beq_self : ∀ a : D, beq a a = true
  | .non => rfl
  | .bl a => by simp [beq]
  | .int a => by simp [beq]
  | .str a => by simp [beq]
  | .tup a => by rw [beq]; exact beqL_self a
  | .lst a => by rw [beq]; exact beqL_self a
  | .dct a c => by rw [beq, beqL_self a, beqL_self c]; rfl
  | .set a => by rw [beq]; exact beqL_self a
  | .cell a => by simp [beq]
  | .exn a c => by rw [beq, beqL_self c]; simp
  | .inp a => by rw [beq]; exact beqL_self a
theorem beqL_self : ∀ a : List D, beqL a a = true
  | [] => rfl
  | a :: as => by rw [beqL, beq_self a, beqL_self as]; rfl
end
mutual
theorem eq_of_beq : ∀ (a b : D), beq a b = true → a = b := by
  intro a b h
  match a, b, h with
  | .non, .non, _ => rfl
  | .bl a, .bl b, h => simp only [beq, beq_iff_eq] at h; rw [h]
  | .int a, .int b, h => simp only [beq, decide_eq_true_eq] at h; rw [h]
  | .str a, .str b, h => simp only [beq, decide_eq_true_eq] at h; rw [h]
  | .tup a, .tup b, h => rw [beq] at h; rw [eq_of_beqL a b h]
  | .lst a, .lst b, h => rw [beq] at h; rw [eq_of_beqL a b h]
  | .dct a c, .dct b d, h =>
    rw [beq, Bool.and_eq_true] at h
    rw [eq_of_beqL a b h.1, eq_of_beqL c d h.2]
  | .set a, .set b, h => rw [beq] at h; rw [eq_of_beqL a b h]
  | .cell a, .cell b, h => rw [Nat.eq_of_beq_eq_true (show Nat.beq a b = true from h)]
  | .exn a c, .exn b d, h =>
    rw [beq, Bool.and_eq_true, decide_eq_true_eq] at h
    rw [h.1, eq_of_beqL c d h.2]
  | .inp a, .inp b, h => rw [beq] at h; rw [eq_of_beqL a b h]
theorem eq_of_beqL : ∀ (a b : List D), beqL a b = true → a = b
  | [], [], _ => rfl
  | a :: as, b :: bs, h => by
    rw [beqL, Bool.and_eq_true] at h
    rw [eq_of_beq a b h.1, eq_of_beqL as bs h.2]
  | [], _ :: _, h => by simp [beqL] at h
  | _ :: _, [], h => by simp [beqL] at h
end
instance : DecidableEq D := fun a b => match h : beq a b with
  | true => .isTrue (eq_of_beq a b h)
  | false => .isFalse fun e => by rw [e, beq_self] at h; cases h
theorem beq_iff (a b : D) : beq a b = true ↔ a = b := ⟨eq_of_beq a b, fun e => e ▸ beq_self a⟩
theorem beq_dec (a b : D) : beq a b = decide (a = b) := by
  cases h : beq a b with
  | true => exact (decide_eq_true (eq_of_beq a b h)).symm
  | false => exact (decide_eq_false fun e => by rw [e, beq_self] at h; cases h).symm

mutual
def dp : D → Nat
  | .tup xs => dpL xs + 1
  | .lst xs => dpL xs + 1
  | _ => 0
def dpL : List D → Nat
  | [] => 0
  | x :: xs => max (dp x) (dpL xs)
end
mutual
def ky : D → Bool
  | .non => true
  | .int _ => true
  | .str _ => true
  | .tup xs => kyL xs
  | _ => false
def kyL : List D → Bool
  | [] => true
  | x :: xs => ky x && kyL xs
end
mutual
def pl : D → Bool
  | .non => true
  | .int _ => true
  | .str _ => true
  | .tup xs => plL xs
  | .lst xs => plL xs
  | _ => false
def plL : List D → Bool
  | [] => true
  | x :: xs => pl x && plL xs
end
def isKey (d : D) : Bool := ky d && Nat.ble (dp d) 8
def isPlain (d : D) : Bool := pl d && Nat.ble (dp d) 150

def cmpN : List Nat → List Nat → Ordering
  | [], [] => .eq
  | [], _ :: _ => .lt
  | _ :: _, [] => .gt
  | a :: as, b :: bs => if Nat.blt a b then .lt else if Nat.blt b a then .gt else cmpN as bs
def cmpI (a b : Int) : Ordering := if a < b then .lt else if b < a then .gt else .eq
mutual
def cmp : D → D → Option Ordering
  | .int a, .int b => some (cmpI a b)
  | .str a, .str b => some (cmpN a.cps.toList b.cps.toList)
  | .tup a, .tup b => cmpL a b
  | _, _ => none
def cmpL : List D → List D → Option Ordering
  | [], [] => some .eq
  | [], _ :: _ => some .lt
  | _ :: _, [] => some .gt
  | a :: as, b :: bs => match beq a b with
    | true => cmpL as bs
    | false => cmp a b
end
def tag : D → Nat
  | .non => 0
  | .bl _ => 1
  | .int _ => 2
  | .str _ => 3
  | .tup _ => 4
  | _ => 5
def cmpA (a b : Nat) : Ordering := if Nat.blt a b then .lt else if Nat.blt b a then .gt else .eq
mutual
def cmpT : D → D → Ordering
  | .int a, b => (match b with
    | .int b => cmpI a b
    | b => cmpA 2 (tag b))
  | .str a, b => (match b with
    | .str b => cmpN a.cps.toList b.cps.toList
    | b => cmpA 3 (tag b))
  | .tup a, b => (match b with
    | .tup b => cmpTL a b
    | b => cmpA 4 (tag b))
  | a, b => cmpA (tag a) (tag b)
def cmpTL : List D → List D → Ordering
  | [], [] => .eq
  | [], _ :: _ => .lt
  | _ :: _, [] => .gt
  | a :: as, b :: bs => match cmpT a b with
    | .eq => cmpTL as bs
    | .lt => .lt
    | .gt => .gt
end
def ltT (a b : D) : Bool := match cmpT a b with
  | .lt => true
  | _ => false
def allCmp (xs : List D) : Bool := xs.all fun a => isKey a && xs.all fun b => (cmp a b).isSome
def insertBack (a : D) : List D → List D
  | [] => [a]
  | b :: bs => match ltT b a with
    | true => b :: insertBack a bs
    | false => a :: b :: bs
def isort : List D → List D
  | [] => []
  | a :: as => insertBack a (isort as)
def dedup : List D → List D → List D
  | _, [] => []
  | seen, a :: as => match seen.any (beq a) with
    | true => dedup seen as
    | false => a :: dedup (a :: seen) as
end D

structure Exn where
  cls : Str
  arg : List D

abbrev St := List D
inductive Res (α : Type) where
  | ok (a : α) (st : St)
  | err (x : Exn) (st : St)
  | stuck
abbrev M (α : Type) : Type := St → Res α
namespace M
def pure {α : Type} (a : α) : M α := fun st => .ok a st
def bind {α β : Type} (m : M α) (f : α → M β) : M β := fun st => match m st with
  | .ok a st' => f a st'
  | .err x st' => .err x st'
  | .stuck => .stuck
def stuck {α : Type} : M α := fun _ => .stuck
def raise {α : Type} (x : Exn) : M α := fun st => .err x st
def ofO {α : Type} : Option α → M α
  | some a => pure a
  | none => stuck
end M

inductive Bop where
  | add | sub | mul | fdiv | mod | pow
inductive Cop where
  | eq | ne | lt | le | gt | ge | is | isnot | isin | notin
inductive Ty where
  | int | bool | str | tuple | list
def Ty.name : Ty → String
  | .int => "int"
  | .bool => "bool"
  | .str => "str"
  | .tuple => "tuple"
  | .list => "list"
inductive Bi where
  | len | tuple | list | sorted | set | dict | sum | max | min | all | any | abs | int | str
  | isinst (t : Ty)
inductive Mt where
  | count | index | get | join | startswith

abbrev LIM : Nat := 16777216
def sizeOk {α : Type} (n : Nat) (a : α) : Option α := match Nat.ble n LIM with
  | true => some a
  | false => none
def reps {α : Type} (xs : List α) : Nat → List α
  | 0 => []
  | n + 1 => xs ++ reps xs n
def intLt (a b : Int) : Bool := decide (a < b)
def opB : Bop → D → D → Option D
  | .add, .int a, .int b => some (.int (a + b))
  | .add, .str a, .str b => sizeOk (a.length + b.length) (.str (a ++ b))
  | .add, .tup a, .tup b => sizeOk (a.length + b.length) (.tup (a ++ b))
  | .add, .lst a, .lst b => sizeOk (a.length + b.length) (.lst (a ++ b))
  | .sub, .int a, .int b => some (.int (a - b))
  | .mul, .int a, .int b => match Nat.blt a.natAbs (2 ^ 64) || Nat.blt b.natAbs (2 ^ 64) with
    | true => some (.int (a * b))
    | false => none
  | .mul, .tup a, .int (.ofNat n) => match Nat.ble n 1000 && Nat.ble a.length 1000 with
    | true => some (.tup (reps a n))
    | false => none
  | .mul, .lst a, .int (.ofNat n) => match Nat.ble n 1000 && Nat.ble a.length 1000 with
    | true => some (.lst (reps a n))
    | false => none
  | .fdiv, .int a, .int b => match decide (b = 0) || !Nat.blt b.natAbs 1073741824 with
    | true => none
    | false => some (.int (a.fdiv b))
  | .mod, .int a, .int b => match decide (b = 0) with
    | true => none
    | false => some (.int (a.fmod b))
  | .pow, .int a, .int b => match decide (0 ≤ b) && (decide (b ≤ 1000000) && Nat.blt a.natAbs (2 ^ 64)) with
    | true => some (.int (a ^ b.toNat))
    | false => none
  | _, _, _ => none
def isInL (x : D) (ys : List D) : Option Bool := match x.isPlain && ys.all D.isPlain with
  | true => some (ys.any fun y => D.beq y x)
  | false => none
def isStrD : D → Bool
  | .str _ => true
  | _ => false
def isTupD : D → Bool
  | .tup _ => true
  | _ => false
def kOk (ks : List D) (k : D) : Bool := isStrD k && ks.all isStrD
def kvOk (ks : List D) (k : D) : Bool := kOk ks k || (isTupD k && Nat.beq ks.length 0)
def lookD : List D → List D → D → Option D
  | k :: ks, v :: vs, x => match D.beq k x with
    | true => some v
    | false => lookD ks vs x
  | _, _, _ => none
def setD : List D → List D → D → D → List D × List D
  | k :: ks, v :: vs, x, y => match D.beq k x with
    | true => (k :: ks, y :: vs)
    | false => let r := setD ks vs x y; (k :: r.1, v :: r.2)
  | _, _, x, y => ([x], [y])
def isInN (c : Nat) : List Nat → Bool
  | [] => false
  | d :: ds => Nat.beq d c || isInN c ds
def eqBl : D → D → Option Bool
  | .bl a, .bl b => some (a == b)
  | _, _ => none
def eqNil : D → D → Option Bool
  | .lst a, .lst [] => some a.isEmpty
  | a, b => eqBl a b
def eqO (a b : D) : Option Bool := match a.isPlain && b.isPlain with
  | true => some (D.beq a b)
  | false => eqNil a b
def opC : Cop → D → D → Option Bool
  | .eq, a, b => eqO a b
  | .ne, a, b => (eqO a b).map (!·)
  | .lt, .int a, .int b => some (decide (a < b))
  | .le, .int a, .int b => some (decide (a ≤ b))
  | .gt, .int a, .int b => some (decide (b < a))
  | .ge, .int a, .int b => some (decide (b ≤ a))
  | .lt, .str a, .str b => some (D.cmpN a.cps.toList b.cps.toList == .lt)
  | .is, a, .non => some (D.beq a .non)
  | .isnot, a, .non => some (!D.beq a .non)
  | .is, .bl a, .bl b => some (a == b)
  | .isnot, .bl a, .bl b => some (!(a == b))
  | .isin, a, .tup ys => isInL a ys
  | .isin, a, .lst ys => isInL a ys
  | .isin, a, .dct ks _ => match a.isKey && kOk ks a with
    | true => some (ks.any fun k => D.beq k a)
    | false => none
  | .isin, .str a, .str b => match a.cps.toList with
    | [c] => some (isInN c b.cps.toList)
    | _ => none
  | .notin, a, .tup ys => (isInL a ys).map (!·)
  | .notin, a, .lst ys => (isInL a ys).map (!·)
  | _, _, _ => none
def atD {α : Type} (xs : List α) (i : Int) : Option α := match i with
  | .ofNat n => xs[n]?
  | .negSucc n => match Nat.blt n xs.length with
    | true => xs[xs.length - (n + 1)]?
    | false => none
def opIx : D → D → Option D
  | .tup xs, .int i => atD xs i
  | .lst xs, .int i => atD xs i
  | .str x, .int i => match Nat.ble x.length LIM with
    | true => (atD x.cps.toList i).map fun c => .str ⟨#[c]⟩
    | false => none
  | .dct ks vs, k => match k.isKey && kOk ks k with
    | true => lookD ks vs k
    | false => none
  | _, _ => none
def sliceL {α : Type} (xs : List α) (lo hi : Option Int) : List α := (xs.drop (HT.sIx xs.length 0 lo)).take (HT.sIx xs.length xs.length hi - HT.sIx xs.length 0 lo)
def opSl : D → Option Int → Option Int → Option D
  | .tup xs, a, b => some (.tup (sliceL xs a b))
  | .lst xs, a, b => some (.lst (sliceL xs a b))
  | .str x, a, b => match Nat.ble x.length LIM with
    | true => some (.str ⟨(sliceL x.cps.toList a b).toArray⟩)
    | false => none
  | _, _, _ => none
def allInt : List D → Option (List Int)
  | [] => some []
  | .int i :: r => (allInt r).map (i :: ·)
  | _ => none
def allBl : List D → Option (List Bool)
  | [] => some []
  | .bl i :: r => (allBl r).map (i :: ·)
  | _ => none
def sumI : List Int → Int
  | [] => 0
  | i :: r => i + sumI r
def maxI : Int → List Int → Int
  | m, [] => m
  | m, i :: r => maxI (if m < i then i else m) r
def minI : Int → List Int → Int
  | m, [] => m
  | m, i :: r => minI (if i < m then i else m) r
def pairsOf : List D → Option (List D × List D)
  | [] => some ([], [])
  | .tup [k, v] :: r => match pairsOf r with
    | some (ks, vs) => (match k.isKey && kOk ks k with
      | true => some (k :: ks, v :: vs)
      | false => none)
    | none => none
  | _ => none
def sprOk (ks k : List D) : Bool := (Nat.beq k.length 0 || (ks.all isStrD && k.all isStrD)) && Nat.ble k.length 1000
def putAllD : List D → List D → List D → List D → List D × List D
  | ks, vs, k :: r, v :: q => let z := setD ks vs k v; putAllD z.1 z.2 r q
  | ks, vs, _, _ => (ks, vs)
def itemsOf : D → Option (List D)
  | .tup xs => some xs
  | .lst xs => some xs
  | _ => none
def headS : D → Bool
  | .tup (.str _ :: _) => true
  | _ => false
def headT : D → Bool
  | .tup (.tup _ :: _) => true
  | _ => false
def sortK (xs : List D) : Bool := Nat.ble xs.length 1 || xs.all isStrD || xs.all headS || xs.all headT
def sortD (xs : List D) : Option D := match D.allCmp xs && sortK xs with
  | true => sizeOk xs.length (.lst (D.isort xs))
  | false => none
def setOk (xs : List D) : Bool := (xs.all D.isKey && Nat.ble xs.length 63) && (xs.all isStrD || xs.all isTupD)
def isInst : Ty → D → Option Bool
  | .int, .int _ => some true
  | .int, .bl _ => some true
  | .bool, .bl _ => some true
  | .str, .str _ => some true
  | .tuple, .tup _ => some true
  | .list, .lst _ => some true
  | _, .non => some false
  | _, .bl _ => some false
  | _, .int _ => some false
  | _, .str _ => some false
  | _, .tup _ => some false
  | _, .lst _ => some false
  | _, _ => none
def opBi : Bi → List D → Option D
  | .len, [.tup xs] => some (.int xs.length)
  | .len, [.lst xs] => some (.int xs.length)
  | .len, [.set xs] => some (.int xs.length)
  | .len, [.dct ks _] => some (.int ks.length)
  | .len, [.str x] => sizeOk x.length (.int x.length)
  | .tuple, [.tup xs] => some (.tup xs)
  | .tuple, [.lst xs] => some (.tup xs)
  | .list, [.tup xs] => some (.lst xs)
  | .list, [.lst xs] => some (.lst xs)
  | .list, [.inp xs] => some (.lst xs)
  | .len, [.inp xs] => some (.int xs.length)
  | .sorted, [.lst xs] => sortD xs
  | .sorted, [.set xs] => sortD xs
  | .sorted, [.dct ks _] => sortD ks
  | .set, [.lst xs] => match setOk xs with
    | true => some (.set (D.dedup [] xs))
    | false => none
  | .set, [.tup xs] => match setOk xs with
    | true => some (.set (D.dedup [] xs))
    | false => none
  | .dict, [.lst xs] => (pairsOf xs).map fun p => let r := putAllD [] [] p.1 p.2; .dct r.1 r.2
  | .sum, [.lst xs] => (allInt xs).map fun l => .int (sumI l)
  | .max, [.lst xs] => match allInt xs with
    | some (i :: r) => some (.int (maxI i r))
    | _ => none
  | .min, [.lst xs] => match allInt xs with
    | some (i :: r) => some (.int (minI i r))
    | _ => none
  | .all, [.lst xs] => (allBl xs).map fun l => .bl (l.all id)
  | .any, [.lst xs] => (allBl xs).map fun l => .bl (l.any id)
  | .isinst t, [x] => (isInst t x).map .bl
  | .abs, [.int i] => some (.int (if i < 0 then -i else i))
  | .int, [.int i] => some (.int i)
  | .int, [.bl b] => some (.int (if b then 1 else 0))
  | _, _ => none
def indexOf (x : D) : List D → Nat → Option Nat
  | [], _ => none
  | y :: ys, i => match D.beq y x with
    | true => some i
    | false => indexOf x ys (i + 1)
def opMt : Mt → D → List D → Option D
  | .count, .tup xs, [x] => match x.isPlain && xs.all D.isPlain with
    | true => some (.int ((xs.filter fun y => D.beq y x).length))
    | false => none
  | .count, .lst xs, [x] => match x.isPlain && xs.all D.isPlain with
    | true => some (.int ((xs.filter fun y => D.beq y x).length))
    | false => none
  | .get, .dct ks vs, [k, d] => match k.isKey && kOk ks k with
    | true => some ((lookD ks vs k).getD d)
    | false => none
  | _, _, _ => none

def mtOk : Mt → D → Bool
  | .count, .tup _ => true
  | .count, .lst _ => true
  | .get, .dct _ _ => true
  | _, _ => false
def ixM (x y : D) : M D := fun st => match x, y with
  | .cell n, .int k => (match st[n]? with
    | some (.lst xs) => (match atD xs k with
      | some d => .ok d st
      | none => .stuck)
    | _ => .stuck)
  | _, _ => match opIx x y with
    | some d => .ok d st
    | none => .stuck

inductive T where
  | slot (i : Nat) | tup (ts : T) | nil | cons (t r : T)
inductive E where
  | slot (i : Nat)
  | const (d : D)
  | op (o : Bop) (a b : E)
  | neg (a : E) | not (a : E)
  | cmp (o : Cop) (a b : E)
  | chain (a b c : E)
  | and (a b : E) | or (a b : E)
  | ite (c a b : E)
  | tup (es : E) | lst (es : E) | cel (es : E) | dct (es : E)
  | idx (a i : E) | slc (a lo hi : E) | rev (a : E)
  | lc (elt : E) (t : T) (it c : E) (own : List Nat)
  | lc2 (elt : E) (t : T) (it c : E) (t1 : T) (it1 c1 : E) (own : List Nat) (own1 : List Nat)
  | call (f : Str) (es : E)
  | lim (a : E)
  | bi (b : Bi) (es : E)
  | mt (m : Mt) (o : E) (es : E)
  | enil | econs (a r : E)
  | spread (a r : E) | kv (k v r : E)
  | plain (a : E) | zip (a b : E) | enum (a : E) | range (a : E) | range2 (a b : E)
  | lzp (a b : E) | lrg (a : E)
  | none
inductive S where
  | nil
  | set (t : T) (e : E) (r : S)
  | put (o i e : E) (r : S)
  | expr (e : E) (r : S)
  | ret (e : E)
  | retN
  | iff (c : E) (a b r : S)
  | forS (t : T) (it : E) (body r : S)
  | whileS (c : E) (body r : S)
  | raise (cls : Str) (es : E)
  | tryS (body : S) (cs : List Str) (i : Option Nat) (suite : S) (r : S)
  | brk | cont
  | any
structure Fn where
  ps : Nat
  n : Nat
  body : S
abbrev Env := List (Option D)
inductive Flow where
  | next | ret (d : D) | brk | cont

def bindT : T → D → Env → Option Env
  | .slot i, d, ρ => some (ρ.set i (some d))
  | .tup ts, .tup xs, ρ => go ts xs ρ
  | _, _, _ => none
where go : T → List D → Env → Option Env
  | .nil, [], ρ => some ρ
  | .cons t r, x :: xs, ρ => match bindT t x ρ with
    | some ρ' => go r xs ρ'
    | none => none
  | _, _, _ => none

def getE (ρ : Env) (i : Nat) : M D := match ρ[i]? with
  | some (some d) => M.pure d
  | _ => M.stuck
def wipeE (ρ : Env) : List Nat → Env
  | [] => ρ
  | v :: vs => (wipeE ρ vs).set v none
def truth (d : D) : M Bool := match d with
  | .bl b => M.pure b
  | _ => M.stuck
def walked (d : D) : Option (List D) := match d with
  | .tup xs => some xs
  | .lst xs => some xs
  | .str x => sizeOk x.length (x.cps.toList.map fun c => .str ⟨#[c]⟩)
  | _ => none
def zipD : List D → List D → List D
  | a :: as, b :: bs => .tup [a, b] :: zipD as bs
  | _, _ => []
def enumD : List D → Nat → List D
  | [], _ => []
  | a :: as, i => .tup [.int i, a] :: enumD as (i + 1)
def upto (a : Int) : Nat → List D
  | 0 => []
  | n + 1 => .int a :: upto (a + 1) n
def rangeD (a b : Int) : Option (List D) := match Nat.blt a.natAbs 4611686018427387904 && (Nat.blt b.natAbs 4611686018427387904 && Nat.ble (b - a).toNat LIM) with
  | true => some (upto a (b - a).toNat)
  | false => none
def loopC (f : D → M (List D)) : List D → M (List D)
  | [] => M.pure []
  | x :: xs => M.bind (f x) fun ys => M.bind (loopC f xs) fun zs => M.pure (ys ++ zs)
def optInt : D → Option (Option Int)
  | .non => some none
  | .int i => some (some i)
  | _ => none
section
variable (cl : Str → List D → M D)
mutual
def evE : E → Env → M D
  | .slot i, ρ => getE ρ i
  | .const d, _ => M.pure d
  | .op o a b, ρ => M.bind (evE a ρ) fun x => M.bind (evE b ρ) fun y => M.ofO (opB o x y)
  | .neg a, ρ => M.bind (evE a ρ) fun x => match x with
    | .int i => M.pure (.int (-i))
    | _ => M.stuck
  | .not a, ρ => M.bind (evE a ρ) fun x => M.bind (truth x) fun b => M.pure (.bl (!b))
  | .cmp o a b, ρ => M.bind (evE a ρ) fun x => M.bind (evE b ρ) fun y => M.bind (M.ofO (opC o x y)) fun b => M.pure (.bl b)
  | .chain a b c, ρ => M.bind (evE a ρ) fun x => M.bind (evE b ρ) fun y => M.bind (M.ofO (opC .le x y)) fun k => match k with
    | true => M.bind (evE c ρ) fun z => M.bind (M.ofO (opC .le y z)) fun k => M.pure (.bl k)
    | false => M.pure (.bl false)
  | .and a b, ρ => M.bind (evE a ρ) fun x => M.bind (truth x) fun k => match k with
    | true => evE b ρ
    | false => M.pure (.bl false)
  | .or a b, ρ => M.bind (evE a ρ) fun x => M.bind (truth x) fun k => match k with
    | true => M.pure (.bl true)
    | false => evE b ρ
  | .ite c a b, ρ => M.bind (evE c ρ) fun x => M.bind (truth x) fun k => match k with
    | true => evE a ρ
    | false => evE b ρ
  | .tup es, ρ => M.bind (evEs es ρ) fun xs => M.ofO (sizeOk xs.length (.tup xs))
  | .lst es, ρ => M.bind (evEs es ρ) fun xs => M.ofO (sizeOk xs.length (.lst xs))
  | .cel es, ρ => M.bind (evEs es ρ) fun xs => match Nat.ble xs.length LIM with
    | true => fun st => .ok (.cell st.length) (st ++ [.lst xs])
    | false => M.stuck
  | .dct es, ρ => M.bind (evKV es ρ [] []) fun p => M.pure (.dct p.1 p.2)
  | .idx a i, ρ => M.bind (evE a ρ) fun x => M.bind (evE i ρ) fun y => ixM x y
  | .slc a lo hi, ρ => M.bind (evE a ρ) fun x => M.bind (evE lo ρ) fun y => M.bind (M.ofO (optInt y)) fun l => M.bind (evE hi ρ) fun z => M.bind (M.ofO (optInt z)) fun h => M.ofO (opSl x l h)
  | .rev a, ρ => M.bind (evE a ρ) fun x => match x with
    | .tup xs => M.pure (.tup xs.reverse)
    | _ => M.stuck
  | .lc elt t it c own, ρ => M.bind (evI it ρ) fun items => M.bind (loopC (fun x => match bindT t x (wipeE ρ own) with
      | some ρ' => M.bind (evE c ρ') fun k => M.bind (truth k) fun k => match k with
        | true => M.bind (evE elt ρ') fun y => M.pure [y]
        | false => M.pure []
      | none => M.stuck) items) fun ys => M.ofO (sizeOk ys.length (.lst ys))
  | .lc2 elt t it c t1 it1 c1 own own1, ρ => M.bind (evI it ρ) fun items => M.bind (loopC (fun x => match bindT t x (wipeE ρ own) with
      | some ρ' => M.bind (evE c ρ') fun k => M.bind (truth k) fun k => match k with
        | true => M.bind (evI it1 ρ') fun items1 => loopC (fun x1 => match bindT t1 x1 (wipeE ρ' own1) with
          | some ρ2 => M.bind (evE c1 ρ2) fun k => M.bind (truth k) fun k => match k with
            | true => M.bind (evE elt ρ2) fun y => M.pure [y]
            | false => M.pure []
          | none => M.stuck) items1
        | false => M.pure []
      | none => M.stuck) items) fun ys => M.ofO (sizeOk ys.length (.lst ys))
  | .call f es, ρ => M.bind (evEs es ρ) fun xs => cl f xs
  | .lim a, ρ => M.bind (evE a ρ) fun x => match x with
    | .exn _ [d] => M.pure d
    | _ => M.stuck
  | .lzp a b, ρ => M.bind (evE a ρ) fun x => M.bind (evE b ρ) fun y => match x, y with
    | .lst xs, .lst ys => M.pure (.lst (zipD xs ys))
    | _, _ => M.stuck
  | .lrg a, ρ => M.bind (evE a ρ) fun x => match x with
    | .int n => M.bind (M.ofO (rangeD 0 n)) fun xs => M.pure (.lst xs)
    | _ => M.stuck
  | .bi b es, ρ => M.bind (evEs es ρ) fun xs => M.ofO (opBi b xs)
  | .mt m o es, ρ => M.bind (evE o ρ) fun x => match mtOk m x with
    | true => M.bind (evEs es ρ) fun xs => M.ofO (opMt m x xs)
    | false => M.stuck
  | _, _ => M.stuck
def evEs : E → Env → M (List D)
  | .enil, _ => M.pure []
  | .econs a r, ρ => M.bind (evE a ρ) fun x => M.bind (evEs r ρ) fun xs => M.pure (x :: xs)
  | _, _ => M.stuck
def evKV : E → Env → List D → List D → M (List D × List D)
  | .enil, _, ks, vs => M.pure (ks, vs)
  | .spread a r, ρ, ks, vs => M.bind (evE a ρ) fun x => match x with
    | .dct k v => (match sprOk ks k with
      | true => let z := putAllD ks vs k v; evKV r ρ z.1 z.2
      | false => M.stuck)
    | _ => M.stuck
  | .kv k v r, ρ, ks, vs => M.bind (evE k ρ) fun x => M.bind (evE v ρ) fun y => match x.isKey && kvOk ks x with
    | true => let z := setD ks vs x y; evKV r ρ z.1 z.2
    | false => M.stuck
  | _, _, _, _ => M.stuck
def evI : E → Env → M (List D)
  | .plain a, ρ => M.bind (evE a ρ) fun x => M.ofO (walked x)
  | .zip a b, ρ => M.bind (evE a ρ) fun x => M.bind (evE b ρ) fun y => match x, y with
    | .lst xs, .lst ys => M.pure (zipD xs ys)
    | .tup xs, .tup ys => M.pure (zipD xs ys)
    | _, _ => M.stuck
  | .enum a, ρ => M.bind (evE a ρ) fun x => match itemsOf x with
    | some xs => M.pure (enumD xs 0)
    | none => M.stuck
  | .range a, ρ => M.bind (evE a ρ) fun x => match x with
    | .int n => M.ofO (rangeD 0 n)
    | _ => M.stuck
  | .range2 a b, ρ => M.bind (evE a ρ) fun x => M.bind (evE b ρ) fun y => match x, y with
    | .int m, .int n => M.ofO (rangeD m n)
    | _, _ => M.stuck
  | _, _ => M.stuck
end
end

inductive RS where
  | ok (f : Flow) (ρ : Env) (st : St)
  | err (x : Exn) (ρ : Env) (st : St)
  | stuck
abbrev MS := Env → St → RS
def liftE {α : Type} (m : Env → M α) (k : α → MS) : MS := fun ρ st => match m ρ st with
  | .ok d st' => k d ρ st'
  | .err x st' => .err x ρ st'
  | .stuck => .stuck
def andThen (r : RS) (k : MS) : RS := match r with
  | .ok .next ρ st => k ρ st
  | r => r
def loopF (f : D → MS) : List D → MS
  | [], ρ, st => .ok .next ρ st
  | x :: xs, ρ, st => match f x ρ st with
    | .ok .next ρ' st' => loopF f xs ρ' st'
    | .ok .cont ρ' st' => loopF f xs ρ' st'
    | .ok .brk ρ' st' => .ok .next ρ' st'
    | r => r
def loopW (c : Env → M D) (b : MS) : Nat → MS
  | 0, _, _ => .stuck
  | n + 1, ρ, st => match c ρ st with
    | .ok (.bl true) st1 => (match b ρ st1 with
      | .ok .next ρ' st' => loopW c b n ρ' st'
      | .ok .cont ρ' st' => loopW c b n ρ' st'
      | .ok .brk ρ' st' => .ok .next ρ' st'
      | r => r)
    | .ok (.bl false) st1 => .ok .next ρ st1
    | .ok _ _ => .stuck
    | .err x st1 => .err x ρ st1
    | .stuck => .stuck
open Classical in
noncomputable def loopL (c : Env → M D) (b : MS) : MS := fun ρ st => if h : ∃ n, loopW c b n ρ st ≠ .stuck then loopW c b h.choose ρ st else .stuck
def hasStr (x : Str) : List Str → Bool
  | [] => false
  | y :: ys => decide (y = x) || hasStr x ys
section
variable (cl : Str → List D → M D)
noncomputable def evS : S → MS
  | .nil => fun ρ st => .ok .next ρ st
  | .set t e r => liftE (evE cl e) fun d ρ st => match bindT t d ρ with
    | some ρ' => evS r ρ' st
    | none => .stuck
  | .put o i e r => liftE (evE cl e) fun d => liftE (evE cl o) fun x => liftE (evE cl i) fun k ρ st => match x, k with
    | .cell n, .int j => (match st[n]?, j with
      | some (.lst xs), .ofNat m => (match Nat.blt m xs.length with
        | true => evS r ρ (st.set n (.lst (xs.set m d)))
        | false => .stuck)
      | _, _ => .stuck)
    | _, _ => .stuck
  | .expr e r => liftE (evE cl e) fun _ => evS r
  | .ret e => liftE (evE cl e) fun d ρ st => .ok (.ret d) ρ st
  | .retN => fun ρ st => .ok (.ret .non) ρ st
  | .iff c a b r => liftE (evE cl c) fun x ρ st => match x with
    | .bl true => andThen (evS a ρ st) (evS r)
    | .bl false => andThen (evS b ρ st) (evS r)
    | _ => .stuck
  | .forS t it body r => liftE (evI cl it) fun items ρ st => andThen (loopF (fun x ρ st => match bindT t x ρ with
      | some ρ' => evS body ρ' st
      | none => .stuck) items ρ st) (evS r)
  | .whileS c body r => fun ρ st => andThen (loopL (evE cl c) (evS body) ρ st) (evS r)
  | .raise c es => liftE (evEs cl es) fun xs ρ st => .err ⟨c, xs⟩ ρ st
  | .tryS body cs i suite r => fun ρ st => match evS body ρ st with
    | .err x ρ' st' => (match hasStr x.cls cs with
      | true => (match i with
        | some i => andThen (match evS suite (ρ'.set i (some (.exn x.cls x.arg))) st' with
          | .ok f ρ2 st2 => .ok f (ρ2.set i none) st2
          | r => r) (evS r)
        | none => andThen (evS suite ρ' st') (evS r))
      | false => .err x ρ' st')
    | .ok .next ρ' st' => evS r ρ' st'
    | z => z
  | .brk => fun ρ st => .ok .brk ρ st
  | .cont => fun ρ st => .ok .cont ρ st
  | .any => fun _ _ => .stuck
end
def findFn (f : Str) : List (Str × Fn) → Option Fn
  | [] => none
  | (g, d) :: r => match decide (g = f) with
    | true => some d
    | false => findFn f r
noncomputable def callP (P : List (Str × Fn)) : Nat → Str → List D → M D
  | 0, _, _ => M.stuck
  | n + 1, f, xs => match findFn f P with
    | some d => match Nat.beq xs.length d.ps with
      | true => fun st => match evS (callP P n) d.body (xs.map some ++ List.replicate (d.n - xs.length) none) st with
        | .ok (.ret d) _ st' => .ok d st'
        | .ok .next _ st' => .ok .non st'
        | .ok _ _ _ => .stuck
        | .err x _ st' => .err x st'
        | .stuck => .stuck
      | false => M.stuck
    | none => M.stuck
end Q
end
section
set_option Elab.async false
set_option linter.all false
set_option maxRecDepth 100000
set_option maxHeartbeats 2000000
namespace Q
open PySem PySem.Spec PyProof.Rows L2
structure FnT where
  name : Str
  ps : List Str
  N : List Str
  fn : Fn
structure Src where
  args : Arguments
  body : List Stmt
  scope : Scope
def tableOf (ds : List FnT) : List (Str × Fn) := ds.map fun d => (d.name, d.fn)
def arOf (ds : List FnT) : List (Str × Nat) := ds.map fun d => (d.name, d.fn.ps)
def bnames : List Str := ["len", "tuple", "list", "sorted", "set", "dict", "sum", "max", "min", "all", "any", "abs", "int", "isinstance", "str", "bool", "zip", "range", "enumerate"]
def tupQ (K : PySem.W.Frag) (q : Str × List Str) : Bool := match K.lookup (He.ga K q.1) with
  | some ⟨.type c, none, .seq its _, _⟩ => decide (c = "tuple") && (decide (its.size ≤ sizeLine) && He.relAll (q.2.map V.str) its.toList)
  | _ => false
abbrev AlQ : Type := He.AlD × Bool
def obsQ (fa : List He.Fa) (fn : List He.DefD) (tp : List (Str × List Str)) (K : PySem.W.Frag) : AlQ := (He.obsD fa fn K, tp.all (tupQ K))
def valQ (fn : List He.DefD) : AlQ := (He.valD fn, true)
def obsQG (n : Nat) (fa : List He.Fa) (fn : List He.DefD) (tp : List (Str × List Str)) (g : Addr → Option Obj) : AlQ := obsQ fa fn tp (He.frG g (He.asD g n))
def hookQ (n : Nat) (fa : List He.Fa) (fn : List He.DefD) (tp : List (Str × List Str)) : PySem.W.Hook where
  α := AlQ
  obs := fun s => obsQG n fa fn tp s.heap.get?
  val := fun _ => valQ fn
  says := fun _ h => ∃ K : PySem.W.Frag, K.In h ∧ obsQ fa fn tp K = valQ fn
  of := fun _ _ e => ⟨_, He.frG_in, e⟩
  keeps := fun _ _ _ ⟨K, hK, c⟩ k => ⟨K, PySem.W.Frag.In.keeps hK k, c⟩
theorem obsQG_eq {n : Nat} {fa : List He.Fa} {fn : List He.DefD} {tp : List (Str × List Str)} {g : Addr → Option Obj} {s : Shared} (h : ∀ a, g a = s.heap.get? a) : obsQG n fa fn tp g = (hookQ n fa fn tp).obs s := by
  have e : g = s.heap.get? := funext h
  rw [e] <;> rfl
def strsOf : List D → Option (List Str)
  | [] => some []
  | .str x :: r => (strsOf r).map (x :: ·)
  | _ => none
def cstFa (q : Str × D) : He.Fa := match q.2 with
  | .int i => .int q.1 i
  | .str z => .str q.1 z
  | _ => .glo q.1
def cstTp (q : Str × D) : Option (Str × List Str) := match q.2 with
  | .tup l => (strsOf l).map fun m => (q.1, m)
  | _ => none
def okCst (q : Str × D) : Bool := match q.2 with
  | .int _ => true
  | .str _ => true
  | .tup l => (strsOf l).isSome
  | _ => false
def faOf (ds : List FnT) (cst : List (Str × D)) : List He.Fa := (ds.map fun d => He.Fa.glo d.name) ++ (bnames.map He.Fa.free ++ cst.map cstFa)
def fnOf (ds : List FnT) (src : Str → Src) : List He.DefD := ds.map fun d => ⟨(d.name, none), d.name, d.name, (src d.name).args, (src d.name).body, (src d.name).scope, [], []⟩
def tpOf (cst : List (Str × D)) : List (Str × List Str) := cst.filterMap cstTp
end Q
end
section
set_option Elab.async false
set_option linter.all false
set_option maxRecDepth 100000
set_option maxHeartbeats 0
namespace K59
open Q PySem

def d_is_whole : FnT := ⟨"is_whole", ["value", "low", "high"], ["value", "low", "high"], ⟨3, 3, (.ret (.and (.bi (.isinst .int) (.econs (.slot 0) .enil)) (.and (.not (.bi (.isinst .bool) (.econs (.slot 0) .enil))) (.chain (.slot 1) (.slot 0) (.slot 2)))))⟩⟩
def d_is_tuple_of : FnT := ⟨"is_tuple_of", ["value", "low", "high"], ["value", "low", "high"], ⟨3, 3, (.ret (.and (.bi (.isinst .tuple) (.econs (.slot 0) .enil)) (.chain (.slot 1) (.bi .len (.econs (.slot 0) .enil)) (.slot 2))))⟩⟩
def d_is_name : FnT := ⟨"is_name", ["value"], ["value", "sign"], ⟨1, 2, (.ret (.and (.bi (.isinst .str) (.econs (.slot 0) .enil)) (.and (.chain (.const (.int 1)) (.bi .len (.econs (.slot 0) .enil)) (.const (.int 4))) (.bi .all (.econs (.lc (.cmp .isin (.slot 1) (.const (.str "abcdefghijklmnopqrstuvwxyz"))) (.slot 1) (.plain (.slot 0)) (.const (.bl true)) [1]) .enil)))))⟩⟩
def d_are_figures : FnT := ⟨"are_figures", ["text"], ["text", "sign"], ⟨1, 2, (.iff (.or (.cmp .eq (.slot 0) (.const (.str ""))) (.cmp .eq (.slot 0) (.const (.str "0")))) (.ret (.const (.bl true))) .nil (.ret (.and (.cmp .le (.bi .len (.econs (.slot 0) .enil)) (.const (.int 3))) (.and (.cmp .ne (.idx (.slot 0) (.const (.int 0))) (.const (.str "0"))) (.bi .all (.econs (.lc (.cmp .isin (.slot 1) (.const (.str "0123456789"))) (.slot 1) (.plain (.slot 0)) (.const (.bl true)) [1]) .enil))))))⟩⟩
def d_is_leaf_name : FnT := ⟨"is_leaf_name", ["value"], ["value", "letters", "sign"], ⟨1, 3, (.iff (.or (.not (.bi (.isinst .str) (.econs (.slot 0) .enil))) (.cmp .gt (.bi .len (.econs (.slot 0) .enil)) (.const (.int 7)))) (.ret (.const (.bl false))) .nil (.set (.slot 1) (.bi .len (.econs (.lc (.slot 2) (.slot 2) (.plain (.slot 0)) (.cmp .isin (.slot 2) (.const (.str "abcdefghijklmnopqrstuvwxyz"))) [2]) .enil)) (.ret (.and (.call "is_name" (.econs (.slc (.slot 0) (.const .non) (.slot 1)) .enil)) (.call "are_figures" (.econs (.slc (.slot 0) (.slot 1) (.const .non)) .enil))))))⟩⟩
def d_fits_head : FnT := ⟨"fits_head", ["value"], ["value", "word", "rest", "pair"], ⟨1, 4, (.iff (.or (.not (.call "is_tuple_of" (.econs (.slot 0) (.econs (.const (.int 2)) (.econs (.const (.int 3)) .enil))))) (.not (.bi (.isinst .str) (.econs (.idx (.slot 0) (.const (.int 0))) .enil)))) (.ret (.const (.bl false))) .nil (.set (.tup (.cons (.slot 1) (.cons (.slot 2) .nil))) (.tup (.econs (.idx (.slot 0) (.const (.int 0))) (.econs (.slc (.slot 0) (.const (.int 1)) (.const .non)) .enil))) (.iff (.cmp .eq (.slot 1) (.const (.str "free"))) (.ret (.and (.cmp .eq (.bi .len (.econs (.slot 2) .enil)) (.const (.int 2))) (.and (.call "is_name" (.econs (.idx (.slot 2) (.const (.int 0))) .enil)) (.call "is_tuple_of" (.econs (.idx (.slot 2) (.const (.int 1))) (.econs (.const (.int 1)) (.econs (.const (.int 6)) .enil))))))) .nil (.iff (.cmp .ne (.bi .len (.econs (.slot 2) .enil)) (.const (.int 1))) (.ret (.const (.bl false))) .nil (.iff (.cmp .isin (.slot 1) (.tup (.econs (.const (.str "unknown")) (.econs (.const (.str "constant")) .enil)))) (.ret (.call "is_leaf_name" (.econs (.idx (.slot 2) (.const (.int 0))) .enil))) .nil (.iff (.not (.call "is_tuple_of" (.econs (.idx (.slot 2) (.const (.int 0))) (.econs (.const (.int 0)) (.econs (.const (.int 60)) .enil))))) (.ret (.const (.bl false))) .nil (.iff (.cmp .eq (.slot 1) (.const (.str "signed"))) (.ret (.bi .all (.econs (.lc (.and (.call "is_tuple_of" (.econs (.slot 3) (.econs (.const (.int 2)) (.econs (.const (.int 2)) .enil)))) (.call "is_whole" (.econs (.idx (.slot 3) (.const (.int 0))) (.econs (.neg (.const (.int 1000000))) (.econs (.const (.int 1000000)) .enil))))) (.slot 3) (.plain (.idx (.slot 2) (.const (.int 0)))) (.const (.bl true)) [3]) .enil))) .nil (.ret (.cmp .isin (.slot 1) (.const (.tup [(.str "bag"), (.str "set"), (.str "xor"), (.str "and")])))))))))))⟩⟩
def d_parts_in : FnT := ⟨"parts_in", ["term"], ["term", "number", "part"], ⟨1, 3, (.iff (.cmp .isin (.idx (.slot 0) (.const (.int 0))) (.tup (.econs (.const (.str "unknown")) (.econs (.const (.str "constant")) .enil)))) (.ret (.tup .enil)) .nil (.iff (.cmp .eq (.idx (.slot 0) (.const (.int 0))) (.const (.str "signed"))) (.ret (.bi .tuple (.econs (.lc (.slot 2) (.tup (.cons (.slot 1) (.cons (.slot 2) .nil))) (.plain (.idx (.slot 0) (.const (.int 1)))) (.const (.bl true)) [1, 2]) .enil))) .nil (.ret (.ite (.cmp .eq (.idx (.slot 0) (.const (.int 0))) (.const (.str "free"))) (.idx (.slot 0) (.const (.int 2))) (.idx (.slot 0) (.const (.int 1)))))))⟩⟩
def d_fits_term : FnT := ⟨"fits_term", ["value"], ["value", "line", "knots", "part", "depth", "inner"], ⟨1, 6, (.set (.tup (.cons (.slot 1) (.cons (.slot 2) .nil))) (.tup (.econs (.lst (.econs (.tup (.econs (.slot 0) (.econs (.const (.int 0)) .enil))) .enil)) (.econs (.const (.int 0)) .enil))) (.whileS (.cmp .ne (.slot 1) (.lst .enil)) (.set (.tup (.cons (.tup (.cons (.slot 3) (.cons (.slot 4) .nil))) (.cons (.slot 1) (.cons (.slot 2) .nil)))) (.tup (.econs (.idx (.slot 1) (.const (.int 0))) (.econs (.slc (.slot 1) (.const (.int 1)) (.const .non)) (.econs (.op .add (.slot 2) (.const (.int 1))) .enil)))) (.iff (.or (.cmp .gt (.slot 2) (.const (.int 60))) (.or (.cmp .gt (.slot 4) (.const (.int 20))) (.not (.call "fits_head" (.econs (.slot 3) .enil))))) (.ret (.const (.bl false))) .nil (.set (.slot 1) (.op .add (.lc (.tup (.econs (.slot 5) (.econs (.op .add (.slot 4) (.const (.int 1))) .enil))) (.slot 5) (.plain (.call "parts_in" (.econs (.slot 3) .enil))) (.const (.bl true)) [5]) (.slot 1)) .nil))) (.ret (.const (.bl true)))))⟩⟩
def d_all_knots : FnT := ⟨"all_knots", ["term"], ["term", "found", "part"], ⟨1, 3, (.set (.slot 1) (.lst (.econs (.slot 0) .enil)) (.forS (.slot 2) (.plain (.call "parts_in" (.econs (.slot 0) .enil))) (.set (.slot 1) (.op .add (.slot 1) (.call "all_knots" (.econs (.slot 2) .enil))) .nil) (.ret (.slot 1))))⟩⟩
def d_knots_in : FnT := ⟨"knots_in", ["term"], ["term", "part"], ⟨1, 2, (.ret (.op .add (.const (.int 1)) (.bi .sum (.econs (.lc (.call "knots_in" (.econs (.slot 1) .enil)) (.slot 1) (.plain (.call "parts_in" (.econs (.slot 0) .enil))) (.const (.bl true)) [1]) .enil))))⟩⟩
def d_names_in : FnT := ⟨"names_in", ["term", "word"], ["term", "word", "knot"], ⟨2, 3, (.ret (.bi .tuple (.econs (.bi .sorted (.econs (.bi .set (.econs (.lc (.idx (.slot 2) (.const (.int 1))) (.slot 2) (.plain (.call "all_knots" (.econs (.slot 0) .enil))) (.cmp .eq (.idx (.slot 2) (.const (.int 0))) (.slot 1)) [2]) .enil)) .enil)) .enil)))⟩⟩
def d_alone : FnT := ⟨"alone", ["word", "parts"], ["word", "parts"], ⟨2, 2, (.ret (.ite (.cmp .eq (.bi .len (.econs (.slot 1) .enil)) (.const (.int 1))) (.idx (.slot 1) (.const (.int 0))) (.tup (.econs (.slot 0) (.econs (.bi .tuple (.econs (.slot 1) .enil)) .enil)))))⟩⟩
def d_flattened : FnT := ⟨"flattened", ["word", "forms"], ["word", "forms", "form", "part"], ⟨2, 4, (.ret (.lc2 (.slot 3) (.slot 2) (.plain (.slot 1)) (.const (.bl true)) (.slot 3) (.plain (.ite (.cmp .eq (.idx (.slot 2) (.const (.int 0))) (.slot 0)) (.idx (.slot 2) (.const (.int 1))) (.tup (.econs (.slot 2) .enil)))) (.const (.bl true)) [2, 3] [3]))⟩⟩
def d_signed_of : FnT := ⟨"signed_of", ["pairs"], ["pairs", "terms", "sums", "kept", "term", "pair", "number", "other"], ⟨1, 8, (.set (.slot 1) (.bi .sorted (.econs (.bi .set (.econs (.lc (.slot 4) (.tup (.cons (.slot 6) (.cons (.slot 4) .nil))) (.plain (.slot 0)) (.const (.bl true)) [6, 4]) .enil)) .enil)) (.set (.slot 2) (.lc (.tup (.econs (.bi .sum (.econs (.lc (.slot 6) (.tup (.cons (.slot 6) (.cons (.slot 7) .nil))) (.plain (.slot 0)) (.cmp .eq (.slot 7) (.slot 4)) [6, 7]) .enil)) (.econs (.slot 4) .enil))) (.slot 4) (.plain (.slot 1)) (.const (.bl true)) [4]) (.set (.slot 3) (.bi .tuple (.econs (.lc (.slot 5) (.slot 5) (.plain (.slot 2)) (.cmp .ne (.idx (.slot 5) (.const (.int 0))) (.const (.int 0))) [5]) .enil)) (.ret (.ite (.and (.cmp .eq (.bi .len (.econs (.slot 3) .enil)) (.const (.int 1))) (.cmp .eq (.idx (.idx (.slot 3) (.const (.int 0))) (.const (.int 0))) (.const (.int 1)))) (.idx (.idx (.slot 3) (.const (.int 0))) (.const (.int 1))) (.tup (.econs (.const (.str "signed")) (.econs (.slot 3) .enil))))))))⟩⟩
def d_signed_pairs : FnT := ⟨"signed_pairs", ["pairs", "forms"], ["pairs", "forms", "found", "form", "inner", "number", "term", "more", "part"], ⟨2, 9, (.set (.slot 2) (.lst .enil) (.forS (.tup (.cons (.tup (.cons (.slot 5) (.cons (.slot 6) .nil))) (.cons (.slot 3) .nil))) (.zip (.slot 0) (.slot 1)) (.set (.slot 4) (.ite (.cmp .eq (.idx (.slot 3) (.const (.int 0))) (.const (.str "signed"))) (.lc (.tup (.econs (.op .mul (.slot 5) (.slot 7)) (.econs (.slot 8) .enil))) (.tup (.cons (.slot 7) (.cons (.slot 8) .nil))) (.plain (.idx (.slot 3) (.const (.int 1)))) (.const (.bl true)) [7, 8]) (.lst (.econs (.tup (.econs (.slot 5) (.econs (.slot 3) .enil))) .enil))) (.set (.slot 2) (.op .add (.slot 2) (.slot 4)) .nil)) (.ret (.slot 2))))⟩⟩
def d_products_in : FnT := ⟨"products_in", ["form"], ["form", "parts", "part"], ⟨1, 3, (.set (.slot 1) (.ite (.cmp .eq (.idx (.slot 0) (.const (.int 0))) (.const (.str "xor"))) (.idx (.slot 0) (.const (.int 1))) (.tup (.econs (.slot 0) .enil))) (.ret (.lc (.ite (.cmp .eq (.idx (.slot 2) (.const (.int 0))) (.const (.str "and"))) (.idx (.slot 2) (.const (.int 1))) (.tup (.econs (.slot 2) .enil))) (.slot 2) (.plain (.slot 1)) (.const (.bl true)) [2])))⟩⟩
def d_truth_of : FnT := ⟨"truth_of", ["products"], ["products", "odd", "forms", "product"], ⟨1, 4, (.set (.slot 1) (.lc (.slot 3) (.slot 3) (.plain (.bi .sorted (.econs (.bi .set (.econs (.slot 0) .enil)) .enil))) (.cmp .eq (.op .mod (.mt .count (.slot 0) (.econs (.slot 3) .enil)) (.const (.int 2))) (.const (.int 1))) [3]) (.set (.slot 2) (.lc (.ite (.cmp .eq (.bi .len (.econs (.slot 3) .enil)) (.const (.int 1))) (.idx (.slot 3) (.const (.int 0))) (.tup (.econs (.const (.str "and")) (.econs (.slot 3) .enil)))) (.slot 3) (.plain (.slot 1)) (.const (.bl true)) [3]) (.ret (.call "alone" (.econs (.const (.str "xor")) (.econs (.bi .sorted (.econs (.slot 2) .enil)) .enil))))))⟩⟩
def d_need_few : FnT := ⟨"need_few", ["many"], ["many"], ⟨1, 1, (.iff (.cmp .gt (.slot 0) (.const (.int 200))) .any .nil .nil)⟩⟩
def d_multiplied : FnT := ⟨"multiplied", ["lists"], ["lists", "many", "products", "found", "one", "other"], ⟨1, 6, (.set (.slot 1) (.const (.int 1)) (.forS (.slot 2) (.plain (.slot 0)) (.set (.slot 1) (.op .mul (.slot 1) (.bi .len (.econs (.slot 2) .enil))) .nil) (.expr (.call "need_few" (.econs (.slot 1) .enil)) (.set (.slot 3) (.ite (.cmp .gt (.slot 1) (.const (.int 0))) (.lst (.econs (.tup .enil) .enil)) (.lst .enil)) (.forS (.slot 2) (.plain (.slot 0)) (.set (.slot 3) (.lc2 (.bi .tuple (.econs (.bi .sorted (.econs (.bi .set (.econs (.op .add (.slot 4) (.slot 5)) .enil)) .enil)) .enil)) (.slot 4) (.plain (.slot 3)) (.const (.bl true)) (.slot 5) (.plain (.slot 2)) (.const (.bl true)) [4, 5] [5]) .nil) (.ret (.slot 3)))))))⟩⟩
def d_truth_form : FnT := ⟨"truth_form", ["word", "forms"], ["word", "forms", "lists", "form", "products", "product"], ⟨2, 6, (.set (.slot 2) (.lc (.call "products_in" (.econs (.slot 3) .enil)) (.slot 3) (.plain (.slot 1)) (.const (.bl true)) [3]) (.iff (.cmp .eq (.slot 0) (.const (.str "and"))) (.ret (.call "truth_of" (.econs (.call "multiplied" (.econs (.slot 2) .enil)) .enil))) .nil (.expr (.call "need_few" (.econs (.bi .sum (.econs (.lc (.bi .len (.econs (.slot 4) .enil)) (.slot 4) (.plain (.slot 2)) (.const (.bl true)) [4]) .enil)) .enil)) (.ret (.call "truth_of" (.econs (.lc2 (.slot 5) (.slot 4) (.plain (.slot 2)) (.const (.bl true)) (.slot 5) (.plain (.slot 4)) (.const (.bl true)) [4, 5] [5]) .enil))))))⟩⟩
def d_formed : FnT := ⟨"formed", ["term", "forms"], ["term", "forms", "word"], ⟨2, 3, (.set (.slot 2) (.idx (.slot 0) (.const (.int 0))) (.iff (.cmp .isin (.slot 2) (.tup (.econs (.const (.str "unknown")) (.econs (.const (.str "constant")) .enil)))) (.ret (.slot 0)) .nil (.iff (.cmp .eq (.slot 2) (.const (.str "free"))) (.ret (.tup (.econs (.const (.str "free")) (.econs (.idx (.slot 0) (.const (.int 1))) (.econs (.bi .tuple (.econs (.slot 1) .enil)) .enil))))) .nil (.iff (.cmp .eq (.slot 2) (.const (.str "bag"))) (.ret (.call "alone" (.econs (.const (.str "bag")) (.econs (.bi .sorted (.econs (.call "flattened" (.econs (.const (.str "bag")) (.econs (.slot 1) .enil))) .enil)) .enil)))) .nil (.iff (.cmp .eq (.slot 2) (.const (.str "set"))) (.ret (.call "alone" (.econs (.const (.str "set")) (.econs (.bi .sorted (.econs (.bi .set (.econs (.call "flattened" (.econs (.const (.str "set")) (.econs (.slot 1) .enil))) .enil)) .enil)) .enil)))) .nil (.ret (.ite (.cmp .eq (.slot 2) (.const (.str "signed"))) (.call "signed_of" (.econs (.call "signed_pairs" (.econs (.idx (.slot 0) (.const (.int 1))) (.econs (.slot 1) .enil))) .enil)) (.call "truth_form" (.econs (.slot 2) (.econs (.slot 1) .enil))))))))))⟩⟩
def d_form_and_knots : FnT := ⟨"form_and_knots", ["term"], ["term", "pairs", "form", "part", "inner", "most"], ⟨1, 6, (.set (.slot 1) (.lc (.call "form_and_knots" (.econs (.slot 3) .enil)) (.slot 3) (.plain (.call "parts_in" (.econs (.slot 0) .enil))) (.const (.bl true)) [3]) (.set (.slot 2) (.call "formed" (.econs (.slot 0) (.econs (.lc (.slot 4) (.tup (.cons (.slot 4) (.cons (.slot 5) .nil))) (.plain (.slot 1)) (.const (.bl true)) [4, 5]) .enil))) (.ret (.tup (.econs (.slot 2) (.econs (.bi .max (.econs (.op .add (.lst (.econs (.call "knots_in" (.econs (.slot 2) .enil)) .enil)) (.lc (.slot 5) (.tup (.cons (.slot 4) (.cons (.slot 5) .nil))) (.plain (.slot 1)) (.const (.bl true)) [4, 5])) .enil)) .enil))))))⟩⟩
def d_normal_by : FnT := ⟨"normal_by", ["term"], ["term", "form", "most"], ⟨1, 3, (.set (.tup (.cons (.slot 1) (.cons (.slot 2) .nil))) (.call "form_and_knots" (.econs (.slot 0) .enil)) (.iff (.cmp .gt (.slot 2) (.const (.int 400))) .any .nil (.ret (.slot 1))))⟩⟩
def d_has_plain_signs : FnT := ⟨"has_plain_signs", ["term"], ["term", "knot"], ⟨1, 2, (.ret (.bi .all (.econs (.lc (.cmp .isin (.idx (.slot 1) (.const (.int 0))) (.const (.tup [(.str "unknown"), (.str "constant"), (.str "free"), (.str "bag"), (.str "set")]))) (.slot 1) (.plain (.call "all_knots" (.econs (.slot 0) .enil))) (.const (.bl true)) [1]) .enil)))⟩⟩
def d_need_few_names : FnT := ⟨"need_few_names", ["patterns"], ["patterns", "names", "pattern", "name"], ⟨1, 4, (.set (.slot 1) (.lc2 (.slot 3) (.slot 2) (.plain (.slot 0)) (.const (.bl true)) (.slot 3) (.plain (.call "names_in" (.econs (.slot 2) (.econs (.const (.str "unknown")) .enil)))) (.const (.bl true)) [2, 3] [3]) (.iff (.cmp .gt (.bi .len (.econs (.bi .set (.econs (.slot 1) .enil)) .enil)) (.const (.int 4))) .any .nil .nil))⟩⟩
def d_need_sizes : FnT := ⟨"need_sizes", ["patterns", "terms"], ["patterns", "terms", "form"], ⟨2, 3, (.expr (.call "need_few_names" (.econs (.slot 0) .enil)) (.iff (.bi .any (.econs (.lc (.cmp .gt (.call "knots_in" (.econs (.slot 2) .enil)) (.const (.int 16))) (.slot 2) (.plain (.op .add (.slot 0) (.slot 1))) (.const (.bl true)) [2]) .enil)) .any .nil .nil))⟩⟩
def d_members_of : FnT := ⟨"members_of", ["word", "form"], ["word", "form"], ⟨2, 2, (.ret (.ite (.cmp .eq (.idx (.slot 1) (.const (.int 0))) (.slot 0)) (.idx (.slot 1) (.const (.int 1))) (.tup (.econs (.slot 1) .enil))))⟩⟩
def d_sub_bags : FnT := ⟨"sub_bags", ["members"], ["members", "found", "member", "many", "times", "some"], ⟨1, 6, (.set (.slot 1) (.lst (.econs (.tup .enil) .enil)) (.forS (.slot 2) (.plain (.bi .sorted (.econs (.bi .set (.econs (.slot 0) .enil)) .enil))) (.set (.slot 3) (.mt .count (.slot 0) (.econs (.slot 2) .enil)) (.set (.slot 1) (.lc2 (.op .add (.slot 5) (.op .mul (.tup (.econs (.slot 2) .enil)) (.slot 4))) (.slot 4) (.range (.op .add (.slot 3) (.const (.int 1)))) (.const (.bl true)) (.slot 5) (.plain (.slot 1)) (.const (.bl true)) [4, 5] [5]) .nil)) (.ret (.slot 1))))⟩⟩
def d_lays_of : FnT := ⟨"lays_of", ["word", "part", "worths", "members"], ["word", "part", "worths", "members", "member"], ⟨4, 5, (.iff (.and (.cmp .eq (.idx (.slot 1) (.const (.int 0))) (.const (.str "unknown"))) (.cmp .isin (.idx (.slot 1) (.const (.int 1))) (.slot 2))) (.ret (.lst (.econs (.call "members_of" (.econs (.slot 0) (.econs (.idx (.slot 2) (.idx (.slot 1) (.const (.int 1)))) .enil))) .enil))) .nil (.iff (.cmp .eq (.idx (.slot 1) (.const (.int 0))) (.const (.str "constant"))) (.ret (.lst (.econs (.tup (.econs (.slot 1) .enil)) .enil))) .nil (.iff (.cmp .eq (.idx (.slot 1) (.const (.int 0))) (.const (.str "free"))) (.ret (.lc (.tup (.econs (.slot 4) .enil)) (.slot 4) (.plain (.bi .sorted (.econs (.bi .set (.econs (.slot 3) .enil)) .enil))) (.cmp .eq (.idx (.slot 4) (.const (.int 0))) (.const (.str "free"))) [4])) .nil (.ret (.call "sub_bags" (.econs (.slot 3) .enil))))))⟩⟩
def d_left_in_bag : FnT := ⟨"left_in_bag", ["members", "lay", "times"], ["members", "lay", "times", "member", "taken", "left"], ⟨3, 6, (.set (.tup (.cons (.slot 4) (.cons (.slot 5) .nil))) (.tup (.econs (.op .mul (.slot 1) (.slot 2)) (.econs (.tup .enil) .enil))) (.iff (.bi .any (.econs (.lc (.cmp .lt (.mt .count (.slot 0) (.econs (.slot 3) .enil)) (.mt .count (.slot 4) (.econs (.slot 3) .enil))) (.slot 3) (.plain (.slot 4)) (.const (.bl true)) [3]) .enil)) (.ret (.const .non)) .nil (.forS (.slot 3) (.plain (.bi .sorted (.econs (.bi .set (.econs (.slot 0) .enil)) .enil))) (.set (.slot 5) (.op .add (.slot 5) (.op .mul (.tup (.econs (.slot 3) .enil)) (.op .sub (.mt .count (.slot 0) (.econs (.slot 3) .enil)) (.mt .count (.slot 4) (.econs (.slot 3) .enil))))) .nil) (.ret (.slot 5)))))⟩⟩
def d_bag_steps : FnT := ⟨"bag_steps", ["parts", "members", "worths"], ["parts", "members", "worths", "lay", "part", "times", "rest", "found", "left", "one"], ⟨3, 10, (.set (.tup (.cons (.slot 4) (.cons (.slot 5) .nil))) (.tup (.econs (.idx (.slot 0) (.const (.int 0))) (.econs (.mt .count (.slot 0) (.econs (.idx (.slot 0) (.const (.int 0))) .enil)) .enil))) (.set (.tup (.cons (.slot 6) (.cons (.slot 7) .nil))) (.tup (.econs (.bi .tuple (.econs (.lc (.slot 9) (.slot 9) (.plain (.slot 0)) (.cmp .ne (.slot 9) (.slot 4)) [9]) .enil)) (.econs (.lst .enil) .enil))) (.forS (.slot 3) (.plain (.call "lays_of" (.econs (.const (.str "bag")) (.econs (.slot 4) (.econs (.slot 2) (.econs (.slot 1) .enil)))))) (.set (.slot 8) (.call "left_in_bag" (.econs (.slot 1) (.econs (.slot 3) (.econs (.slot 5) .enil)))) (.iff (.cmp .isnot (.slot 8) (.const .non)) (.set (.slot 7) (.op .add (.slot 7) (.lst (.econs (.tup (.econs (.tup (.econs (.const (.str "match")) (.econs (.slot 4) (.econs (.call "alone" (.econs (.const (.str "bag")) (.econs (.slot 3) .enil))) .enil)))) (.econs (.tup (.econs (.const (.str "lay")) (.econs (.const (.str "bag")) (.econs (.slot 6) (.econs (.slot 8) (.econs (.tup .enil) .enil)))))) .enil))) .enil))) .nil) .nil .nil)) (.ret (.slot 7)))))⟩⟩
def d_set_steps : FnT := ⟨"set_steps", ["parts", "members", "left", "worths"], ["parts", "members", "left", "worths", "found", "lay", "later", "member"], ⟨4, 8, (.set (.slot 4) (.lst .enil) (.forS (.slot 5) (.plain (.call "lays_of" (.econs (.const (.str "set")) (.econs (.idx (.slot 0) (.const (.int 0))) (.econs (.slot 3) (.econs (.slot 1) .enil)))))) (.iff (.bi .all (.econs (.lc (.cmp .isin (.slot 7) (.slot 1)) (.slot 7) (.plain (.slot 5)) (.const (.bl true)) [7]) .enil)) (.set (.slot 6) (.bi .tuple (.econs (.lc (.slot 7) (.slot 7) (.plain (.slot 2)) (.cmp .notin (.slot 7) (.slot 5)) [7]) .enil)) (.set (.slot 4) (.op .add (.slot 4) (.lst (.econs (.tup (.econs (.tup (.econs (.const (.str "match")) (.econs (.idx (.slot 0) (.const (.int 0))) (.econs (.call "alone" (.econs (.const (.str "set")) (.econs (.slot 5) .enil))) .enil)))) (.econs (.tup (.econs (.const (.str "lay")) (.econs (.const (.str "set")) (.econs (.slc (.slot 0) (.const (.int 1)) (.const .non)) (.econs (.slot 1) (.econs (.slot 6) .enil)))))) .enil))) .enil))) .nil)) .nil .nil) (.ret (.slot 4))))⟩⟩
def d_in_order : FnT := ⟨"in_order", ["parts"], ["parts", "first", "part"], ⟨1, 3, (.set (.slot 1) (.lc (.slot 2) (.slot 2) (.plain (.slot 0)) (.cmp .isin (.idx (.slot 2) (.const (.int 0))) (.tup (.econs (.const (.str "constant")) (.econs (.const (.str "free")) .enil)))) [2]) (.ret (.bi .tuple (.econs (.op .add (.slot 1) (.lc (.slot 2) (.slot 2) (.plain (.slot 0)) (.cmp .notin (.idx (.slot 2) (.const (.int 0))) (.tup (.econs (.const (.str "constant")) (.econs (.const (.str "free")) .enil)))) [2])) .enil))))⟩⟩
def d_match_steps : FnT := ⟨"match_steps", ["pattern", "form"], ["pattern", "form", "word", "members", "part", "other"], ⟨2, 6, (.set (.slot 2) (.idx (.slot 0) (.const (.int 0))) (.iff (.cmp .eq (.slot 2) (.const (.str "constant"))) (.ret (.ite (.cmp .eq (.slot 0) (.slot 1)) (.lst (.econs (.tup .enil) .enil)) (.lst .enil))) .nil (.iff (.cmp .eq (.slot 2) (.const (.str "free"))) (.iff (.or (.cmp .ne (.idx (.slot 1) (.const (.int 0))) (.const (.str "free"))) (.or (.cmp .ne (.idx (.slot 1) (.const (.int 1))) (.idx (.slot 0) (.const (.int 1)))) (.cmp .ne (.bi .len (.econs (.idx (.slot 1) (.const (.int 2))) .enil)) (.bi .len (.econs (.idx (.slot 0) (.const (.int 2))) .enil))))) (.ret (.lst .enil)) .nil (.ret (.lst (.econs (.bi .tuple (.econs (.lc (.tup (.econs (.const (.str "match")) (.econs (.slot 4) (.econs (.slot 5) .enil)))) (.tup (.cons (.slot 4) (.cons (.slot 5) .nil))) (.zip (.idx (.slot 0) (.const (.int 2))) (.idx (.slot 1) (.const (.int 2)))) (.const (.bl true)) [4, 5]) .enil)) .enil)))) .nil (.set (.slot 3) (.call "members_of" (.econs (.slot 2) (.econs (.slot 1) .enil))) (.ret (.lst (.econs (.tup (.econs (.tup (.econs (.const (.str "lay")) (.econs (.slot 2) (.econs (.call "in_order" (.econs (.call "parts_in" (.econs (.slot 0) .enil)) .enil)) (.econs (.slot 3) (.econs (.ite (.cmp .eq (.slot 2) (.const (.str "set"))) (.slot 3) (.tup .enil)) .enil)))))) .enil)) .enil)))))))⟩⟩
def d_steps_of : FnT := ⟨"steps_of", ["goal", "worths"], ["goal", "worths", "name", "word", "parts", "members", "left", "goals"], ⟨2, 8, (.iff (.and (.cmp .eq (.idx (.slot 0) (.const (.int 0))) (.const (.str "match"))) (.cmp .eq (.idx (.idx (.slot 0) (.const (.int 1))) (.const (.int 0))) (.const (.str "unknown")))) (.set (.slot 2) (.idx (.idx (.slot 0) (.const (.int 1))) (.const (.int 1))) (.ret (.ite (.cmp .eq (.mt .get (.slot 1) (.econs (.slot 2) (.econs (.idx (.slot 0) (.const (.int 2))) .enil))) (.idx (.slot 0) (.const (.int 2)))) (.lst (.econs (.tup (.econs (.tup .enil) (.econs (.dct (.spread (.slot 1) (.kv (.slot 2) (.idx (.slot 0) (.const (.int 2))) .enil))) .enil))) .enil)) (.lst .enil)))) .nil (.iff (.cmp .eq (.idx (.slot 0) (.const (.int 0))) (.const (.str "match"))) (.ret (.lc (.tup (.econs (.slot 7) (.econs (.slot 1) .enil))) (.slot 7) (.plain (.call "match_steps" (.econs (.idx (.slot 0) (.const (.int 1))) (.econs (.idx (.slot 0) (.const (.int 2))) .enil)))) (.const (.bl true)) [7])) .nil (.set (.tup (.cons (.slot 3) (.cons (.slot 4) (.cons (.slot 5) (.cons (.slot 6) .nil))))) (.slc (.slot 0) (.const (.int 1)) (.const .non)) (.iff (.cmp .eq (.slot 4) (.tup .enil)) (.ret (.ite (.ite (.cmp .eq (.slot 3) (.const (.str "set"))) (.cmp .eq (.slot 6) (.tup .enil)) (.cmp .eq (.slot 5) (.tup .enil))) (.lst (.econs (.tup (.econs (.tup .enil) (.econs (.slot 1) .enil))) .enil)) (.lst .enil))) .nil (.iff (.cmp .eq (.slot 3) (.const (.str "bag"))) (.ret (.lc (.tup (.econs (.slot 7) (.econs (.slot 1) .enil))) (.slot 7) (.plain (.call "bag_steps" (.econs (.slot 4) (.econs (.slot 5) (.econs (.slot 1) .enil))))) (.const (.bl true)) [7])) .nil (.ret (.lc (.tup (.econs (.slot 7) (.econs (.slot 1) .enil))) (.slot 7) (.plain (.call "set_steps" (.econs (.slot 4) (.econs (.slot 5) (.econs (.slot 6) (.econs (.slot 1) .enil)))))) (.const (.bl true)) [7])))))))⟩⟩
def d_put_of : FnT := ⟨"put_of", ["worths"], ["worths", "name"], ⟨1, 2, (.ret (.bi .tuple (.econs (.lc (.tup (.econs (.slot 1) (.econs (.idx (.slot 0) (.slot 1)) .enil))) (.slot 1) (.plain (.bi .sorted (.econs (.slot 0) .enil))) (.const (.bl true)) [1]) .enil)))⟩⟩
def d_found_for : FnT := ⟨"found_for", ["pairs", "most"], ["pairs", "most", "line", "found", "goals", "worths", "fresh", "later", "pattern", "form"], ⟨2, 10, (.set (.tup (.cons (.slot 2) (.cons (.slot 3) .nil))) (.tup (.econs (.lst (.econs (.tup (.econs (.bi .tuple (.econs (.lc (.tup (.econs (.const (.str "match")) (.econs (.slot 8) (.econs (.slot 9) .enil)))) (.tup (.cons (.slot 8) (.cons (.slot 9) .nil))) (.plain (.slot 0)) (.const (.bl true)) [8, 9]) .enil)) (.econs (.dct .enil) .enil))) .enil)) (.econs (.dct .enil) .enil))) (.whileS (.and (.cmp .ne (.slot 2) (.lst .enil)) (.cmp .le (.bi .len (.econs (.slot 3) .enil)) (.slot 1))) (.set (.tup (.cons (.tup (.cons (.slot 4) (.cons (.slot 5) .nil))) (.cons (.slot 2) .nil))) (.tup (.econs (.idx (.slot 2) (.neg (.const (.int 1)))) (.econs (.slc (.slot 2) (.const .non) (.neg (.const (.int 1)))) .enil))) (.iff (.cmp .eq (.slot 4) (.tup .enil)) (.set (.slot 3) (.dct (.spread (.slot 3) (.kv (.call "put_of" (.econs (.slot 5) .enil)) (.const (.bl true)) .enil))) .nil) (.set (.slot 2) (.op .add (.slot 2) (.lc (.tup (.econs (.op .add (.slot 6) (.slc (.slot 4) (.const (.int 1)) (.const .non))) (.econs (.slot 7) .enil))) (.tup (.cons (.slot 6) (.cons (.slot 7) .nil))) (.plain (.call "steps_of" (.econs (.idx (.slot 4) (.const (.int 0))) (.econs (.slot 5) .enil)))) (.const (.bl true)) [6, 7])) .nil) .nil)) (.ret (.bi .sorted (.econs (.slot 3) .enil)))))⟩⟩
def d_fits_put : FnT := ⟨"fits_put", ["value"], ["value", "one", "other", "pair", "name", "term"], ⟨1, 6, (.iff (.or (.not (.call "is_tuple_of" (.econs (.slot 0) (.econs (.const (.int 0)) (.econs (.const (.int 12)) .enil))))) (.not (.bi .all (.econs (.lc (.call "is_tuple_of" (.econs (.slot 3) (.econs (.const (.int 2)) (.econs (.const (.int 2)) .enil)))) (.slot 3) (.plain (.slot 0)) (.const (.bl true)) [3]) .enil)))) (.ret (.const (.bl false))) .nil (.iff (.not (.bi .all (.econs (.lc (.and (.call "is_leaf_name" (.econs (.slot 4) .enil)) (.call "fits_term" (.econs (.slot 5) .enil))) (.tup (.cons (.slot 4) (.cons (.slot 5) .nil))) (.plain (.slot 0)) (.const (.bl true)) [4, 5]) .enil))) (.ret (.const (.bl false))) .nil (.ret (.bi .all (.econs (.lc (.cmp .lt (.idx (.slot 1) (.const (.int 0))) (.idx (.slot 2) (.const (.int 0)))) (.tup (.cons (.slot 1) (.cons (.slot 2) .nil))) (.zip (.slot 0) (.slc (.slot 0) (.const (.int 1)) (.const .non))) (.const (.bl true)) [1, 2]) .enil)))))⟩⟩
def d_need_put : FnT := ⟨"need_put", ["value"], ["value"], ⟨1, 1, (.iff (.not (.call "fits_put" (.econs (.slot 0) .enil))) .any .nil .nil)⟩⟩
def d_is_put : FnT := ⟨"is_put", ["value"], ["value"], ⟨1, 1, (.ret (.call "fits_put" (.econs (.slot 0) .enil)))⟩⟩
def d_need_names : FnT := ⟨"need_names", ["value"], ["value", "name", "one", "other"], ⟨1, 4, (.iff (.or (.not (.call "is_tuple_of" (.econs (.slot 0) (.econs (.const (.int 1)) (.econs (.const (.int 6)) .enil))))) (.not (.bi .all (.econs (.lc (.call "is_leaf_name" (.econs (.slot 1) .enil)) (.slot 1) (.plain (.slot 0)) (.const (.bl true)) [1]) .enil)))) .any .nil (.iff (.not (.bi .all (.econs (.lc (.cmp .lt (.slot 2) (.slot 3)) (.tup (.cons (.slot 2) (.cons (.slot 3) .nil))) (.zip (.slot 0) (.slc (.slot 0) (.const (.int 1)) (.const .non))) (.const (.bl true)) [2, 3]) .enil))) .any .nil .nil))⟩⟩
def d_need_plain_put : FnT := ⟨"need_plain_put", ["value"], ["value", "name", "term"], ⟨1, 3, (.expr (.call "need_put" (.econs (.slot 0) .enil)) (.iff (.not (.bi .all (.econs (.lc (.call "has_plain_signs" (.econs (.slot 2) .enil)) (.tup (.cons (.slot 1) (.cons (.slot 2) .nil))) (.plain (.slot 0)) (.const (.bl true)) [1, 2]) .enil))) .any .nil .nil))⟩⟩
def d_forms_for : FnT := ⟨"forms_for", ["put", "names"], ["put", "names", "terms", "name"], ⟨2, 4, (.set (.slot 2) (.bi .dict (.econs (.bi .list (.econs (.slot 0) .enil)) .enil)) (.ret (.lc (.call "normal_by" (.econs (.mt .get (.slot 2) (.econs (.slot 3) (.econs (.tup (.econs (.const (.str "unknown")) (.econs (.slot 3) .enil))) .enil))) .enil)) (.slot 3) (.plain (.slot 1)) (.const (.bl true)) [3])))⟩⟩
def d_leads_for : FnT := ⟨"leads_for", ["put", "other", "names"], ["put", "other", "names", "forms", "others"], ⟨3, 5, (.set (.tup (.cons (.slot 3) (.cons (.slot 4) .nil))) (.tup (.econs (.call "forms_for" (.econs (.slot 0) (.econs (.slot 2) .enil))) (.econs (.call "forms_for" (.econs (.slot 1) (.econs (.slot 2) .enil))) .enil))) (.expr (.call "need_sizes" (.econs (.slot 4) (.econs (.slot 3) .enil))) (.ret (.call "found_for" (.econs (.lzp (.slot 4) (.slot 3)) (.econs (.const (.int 0)) .enil))))))⟩⟩
def d_need_two : FnT := ⟨"need_two", ["put", "other", "names"], ["put", "other", "names"], ⟨3, 3, (.expr (.call "need_plain_put" (.econs (.slot 0) .enil)) (.expr (.call "need_plain_put" (.econs (.slot 1) .enil)) (.expr (.call "need_names" (.econs (.slot 2) .enil)) .nil)))⟩⟩
def d_need_puts : FnT := ⟨"need_puts", ["puts"], ["puts", "put"], ⟨1, 2, (.iff (.not (.call "is_tuple_of" (.econs (.slot 0) (.econs (.const (.int 0)) (.econs (.const (.int 12)) .enil))))) (.expr (.call "need_put" (.econs (.const .non) .enil)) .nil) .nil (.forS (.slot 1) (.plain (.slot 0)) (.expr (.call "need_put" (.econs (.slot 1) .enil)) .nil) (.forS (.slot 1) (.plain (.slot 0)) (.expr (.call "need_plain_put" (.econs (.slot 1) .enil)) .nil) .nil)))⟩⟩
def d_need_all_sizes : FnT := ⟨"need_all_sizes", ["lists"], ["lists", "forms"], ⟨1, 2, (.forS (.slot 1) (.plain (.slot 0)) (.expr (.call "need_few_names" (.econs (.slot 1) .enil)) .nil) (.forS (.slot 1) (.plain (.slot 0)) (.expr (.call "need_sizes" (.econs (.slot 1) (.econs (.lst .enil) .enil))) .nil) .nil))⟩⟩
def d_is_instance : FnT := ⟨"is_instance", ["put", "other", "names"], ["put", "other", "names"], ⟨3, 3, (.expr (.call "need_two" (.econs (.slot 0) (.econs (.slot 1) (.econs (.slot 2) .enil)))) (.ret (.cmp .ne (.call "leads_for" (.econs (.slot 0) (.econs (.slot 1) (.econs (.slot 2) .enil)))) (.lst .enil))))⟩⟩
def d_spared_puts : FnT := ⟨"spared_puts", ["puts", "names"], ["puts", "names", "left", "at", "put", "others", "other"], ⟨2, 7, (.expr (.call "need_puts" (.econs (.slot 0) .enil)) (.expr (.call "need_names" (.econs (.slot 1) .enil)) (.expr (.call "need_all_sizes" (.econs (.lc (.call "forms_for" (.econs (.slot 4) (.econs (.slot 1) .enil))) (.slot 4) (.plain (.slot 0)) (.const (.bl true)) [4]) .enil)) (.set (.slot 2) (.lrg (.bi .len (.econs (.slot 0) .enil))) (.forS (.tup (.cons (.slot 3) (.cons (.slot 4) .nil))) (.enum (.slot 0)) (.set (.slot 5) (.lc (.slot 6) (.slot 6) (.plain (.slot 2)) (.cmp .ne (.slot 6) (.slot 3)) [6]) (.iff (.bi .any (.econs (.lc (.cmp .ne (.call "leads_for" (.econs (.slot 4) (.econs (.idx (.slot 0) (.slot 6)) (.econs (.slot 1) .enil)))) (.lst .enil)) (.slot 6) (.plain (.slot 5)) (.const (.bl true)) [6]) .enil)) (.set (.slot 2) (.slot 5) .nil) .nil .nil)) (.ret (.bi .tuple (.econs (.slot 2) .enil))))))))⟩⟩
def d__law_cup : FnT := ⟨"_law_cup", ["script"], ["script", "cell"], ⟨1, 2, (.set (.slot 1) (.bi .abs (.econs (.idx (.op .add (.bi .list (.econs (.slot 0) .enil)) (.lst (.econs (.const (.int 0)) .enil))) (.const (.int 0))) .enil)) (.ret (.cel (.econs (.ite (.cmp .ge (.slot 1) (.op .pow (.const (.int 10)) (.const (.int 18)))) (.op .fdiv (.slot 1) (.const (.int 47))) (.const (.int 0))) (.econs (.op .add (.op .mod (.bi .int (.econs (.op .add (.op .mul (.slot 1) (.const (.int 257))) (.const (.int 2203))) .enil)) (.const (.int 2077503203))) (.const (.int 139))) .enil)))))⟩⟩
def d__law_roll : FnT := ⟨"_law_roll", ["cup", "many"], ["cup", "many", "deep", "found"], ⟨2, 4, (.iff (.cmp .gt (.idx (.slot 0) (.const (.int 0))) (.const (.int 0))) (.set (.slot 3) (.op .mod (.bi .int (.econs (.idx (.slot 0) (.const (.int 0))) .enil)) (.slot 1)) (.put (.slot 0) (.const (.int 0)) (.op .fdiv (.idx (.slot 0) (.const (.int 0))) (.slot 1)) (.ret (.slot 3)))) .nil (.put (.slot 0) (.const (.int 1)) (.op .mod (.bi .int (.econs (.op .add (.op .mul (.idx (.slot 0) (.const (.int 1))) (.const (.int 30997))) (.const (.int 7937))) .enil)) (.const (.int 2147483579))) (.set (.slot 2) (.op .mod (.bi .int (.econs (.op .mul (.idx (.slot 0) (.const (.int 1))) (.op .add (.idx (.slot 0) (.const (.int 1))) (.const (.int 199)))) .enil)) (.const (.int 2147483587))) (.ret (.op .mod (.bi .int (.econs (.op .fdiv (.slot 2) (.const (.int 787))) .enil)) (.slot 1))))))⟩⟩
def d__law_some : FnT := ⟨"_law_some", ["cup", "things"], ["cup", "things"], ⟨2, 2, (.ret (.idx (.slot 1) (.call "_law_roll" (.econs (.slot 0) (.econs (.bi .len (.econs (.slot 1) .enil)) .enil)))))⟩⟩
def d__law_x : FnT := ⟨"_law_x", ["name"], ["name"], ⟨1, 1, (.ret (.tup (.econs (.const (.str "unknown")) (.econs (.slot 0) .enil))))⟩⟩
def d__law_c : FnT := ⟨"_law_c", ["name"], ["name"], ⟨1, 1, (.ret (.tup (.econs (.const (.str "constant")) (.econs (.slot 0) .enil))))⟩⟩
def d__law_parts : FnT := ⟨"_law_parts", ["term"], ["term", "pair"], ⟨1, 2, (.iff (.cmp .isin (.idx (.slot 0) (.const (.int 0))) (.tup (.econs (.const (.str "unknown")) (.econs (.const (.str "constant")) .enil)))) (.ret (.tup .enil)) .nil (.iff (.cmp .eq (.idx (.slot 0) (.const (.int 0))) (.const (.str "signed"))) (.ret (.bi .tuple (.econs (.lc (.idx (.slot 1) (.const (.int 1))) (.slot 1) (.plain (.idx (.slot 0) (.const (.int 1)))) (.const (.bl true)) [1]) .enil))) .nil (.ret (.ite (.cmp .eq (.idx (.slot 0) (.const (.int 0))) (.const (.str "free"))) (.idx (.slot 0) (.const (.int 2))) (.idx (.slot 0) (.const (.int 1)))))))⟩⟩
def d__law_with_parts : FnT := ⟨"_law_with_parts", ["term", "parts"], ["term", "parts", "pair", "part"], ⟨2, 4, (.iff (.cmp .eq (.idx (.slot 0) (.const (.int 0))) (.const (.str "signed"))) (.ret (.tup (.econs (.const (.str "signed")) (.econs (.bi .tuple (.econs (.lc (.tup (.econs (.idx (.slot 2) (.const (.int 0))) (.econs (.slot 3) .enil))) (.tup (.cons (.slot 2) (.cons (.slot 3) .nil))) (.zip (.idx (.slot 0) (.const (.int 1))) (.slot 1)) (.const (.bl true)) [2, 3]) .enil)) .enil)))) .nil (.iff (.cmp .eq (.idx (.slot 0) (.const (.int 0))) (.const (.str "free"))) (.ret (.tup (.econs (.const (.str "free")) (.econs (.idx (.slot 0) (.const (.int 1))) (.econs (.bi .tuple (.econs (.slot 1) .enil)) .enil))))) .nil (.ret (.ite (.cmp .notin (.idx (.slot 0) (.const (.int 0))) (.tup (.econs (.const (.str "unknown")) (.econs (.const (.str "constant")) .enil)))) (.tup (.econs (.idx (.slot 0) (.const (.int 0))) (.econs (.bi .tuple (.econs (.slot 1) .enil)) .enil))) (.slot 0)))))⟩⟩
def d__law_knots : FnT := ⟨"_law_knots", ["term"], ["term", "part"], ⟨1, 2, (.ret (.op .add (.const (.int 1)) (.bi .sum (.econs (.lc (.call "_law_knots" (.econs (.slot 1) .enil)) (.slot 1) (.plain (.call "_law_parts" (.econs (.slot 0) .enil))) (.const (.bl true)) [1]) .enil))))⟩⟩
def d__law_gathered : FnT := ⟨"_law_gathered", ["word", "parts"], ["word", "parts", "found", "part"], ⟨2, 4, (.set (.slot 2) (.lst .enil) (.forS (.slot 3) (.plain (.slot 1)) (.set (.slot 2) (.op .add (.slot 2) (.ite (.cmp .eq (.idx (.slot 3) (.const (.int 0))) (.slot 0)) (.bi .list (.econs (.idx (.slot 3) (.const (.int 1))) .enil)) (.lst (.econs (.slot 3) .enil)))) .nil) (.ret (.bi .sorted (.econs (.slot 2) .enil)))))⟩⟩
def d__law_sum : FnT := ⟨"_law_sum", ["pairs"], ["pairs", "sums", "kept", "number", "term", "inner", "more", "part"], ⟨1, 8, (.set (.slot 1) (.dct .enil) (.forS (.tup (.cons (.slot 3) (.cons (.slot 4) .nil))) (.plain (.slot 0)) (.set (.slot 5) (.ite (.cmp .eq (.idx (.slot 4) (.const (.int 0))) (.const (.str "signed"))) (.idx (.slot 4) (.const (.int 1))) (.tup (.econs (.tup (.econs (.const (.int 1)) (.econs (.slot 4) .enil))) .enil))) (.forS (.tup (.cons (.slot 6) (.cons (.slot 7) .nil))) (.plain (.slot 5)) (.put (.slot 1) (.slot 7) (.op .add (.mt .get (.slot 1) (.econs (.slot 7) (.econs (.const (.int 0)) .enil))) (.op .mul (.slot 3) (.slot 6))) .nil) .nil)) (.set (.slot 2) (.bi .tuple (.econs (.lc (.tup (.econs (.idx (.slot 1) (.slot 7)) (.econs (.slot 7) .enil))) (.slot 7) (.plain (.bi .sorted (.econs (.slot 1) .enil))) (.cmp .ne (.idx (.slot 1) (.slot 7)) (.const (.int 0))) [7]) .enil)) (.ret (.ite (.and (.cmp .eq (.bi .len (.econs (.slot 2) .enil)) (.const (.int 1))) (.cmp .eq (.idx (.idx (.slot 2) (.const (.int 0))) (.const (.int 0))) (.const (.int 1)))) (.idx (.idx (.slot 2) (.const (.int 0))) (.const (.int 1))) (.tup (.econs (.const (.str "signed")) (.econs (.slot 2) .enil))))))))⟩⟩
def d__law_monomials : FnT := ⟨"_law_monomials", ["term"], ["term", "found", "part"], ⟨1, 3, (.set (.slot 1) (.dct .enil) (.forS (.slot 2) (.plain (.ite (.cmp .eq (.idx (.slot 0) (.const (.int 0))) (.const (.str "xor"))) (.idx (.slot 0) (.const (.int 1))) (.tup (.econs (.slot 0) .enil)))) (.put (.slot 1) (.ite (.cmp .eq (.idx (.slot 2) (.const (.int 0))) (.const (.str "and"))) (.idx (.slot 2) (.const (.int 1))) (.tup (.econs (.slot 2) .enil))) (.const (.bl true)) .nil) (.ret (.slot 1))))⟩⟩
def d__law_toggled : FnT := ⟨"_law_toggled", ["found", "product"], ["found", "product", "fresh", "one"], ⟨2, 4, (.set (.slot 2) (.lc (.tup (.econs (.slot 3) (.econs (.const (.bl true)) .enil))) (.slot 3) (.plain (.slot 0)) (.cmp .ne (.slot 3) (.slot 1)) [3]) (.ret (.ite (.cmp .isin (.slot 1) (.slot 0)) (.bi .dict (.econs (.slot 2) .enil)) (.bi .dict (.econs (.op .add (.slot 2) (.lst (.econs (.tup (.econs (.slot 1) (.econs (.const (.bl true)) .enil))) .enil))) .enil)))))⟩⟩
def d__law_truth : FnT := ⟨"_law_truth", ["word", "parts"], ["word", "parts", "found", "part", "forms", "product", "other", "fresh", "mine"], ⟨2, 9, (.iff (.and (.cmp .eq (.slot 0) (.const (.str "and"))) (.cmp .isin (.tup (.econs (.const (.str "xor")) (.econs (.tup .enil) .enil))) (.slot 1))) (.ret (.tup (.econs (.const (.str "xor")) (.econs (.tup .enil) .enil)))) .nil (.set (.slot 2) (.ite (.cmp .eq (.slot 0) (.const (.str "xor"))) (.dct .enil) .none) (.forS (.slot 3) (.plain (.slot 1)) (.set (.tup (.cons (.slot 6) (.cons (.slot 7) .nil))) (.tup (.econs (.call "_law_monomials" (.econs (.slot 3) .enil)) (.econs (.ite (.cmp .eq (.slot 0) (.const (.str "and"))) (.dct .enil) (.slot 2)) .enil))) (.forS (.slot 5) (.plain (.slot 6)) (.iff (.cmp .eq (.slot 0) (.const (.str "xor"))) (.set (.slot 7) (.call "_law_toggled" (.econs (.slot 7) (.econs (.slot 5) .enil))) .nil) .nil (.forS (.slot 8) (.plain (.ite (.cmp .eq (.slot 0) (.const (.str "and"))) (.slot 2) (.tup .enil))) (.set (.slot 7) (.call "_law_toggled" (.econs (.slot 7) (.econs (.bi .tuple (.econs (.bi .sorted (.econs (.bi .set (.econs (.op .add (.slot 8) (.slot 5)) .enil)) .enil)) .enil)) .enil))) .nil) .nil)) (.set (.slot 2) (.slot 7) .nil))) (.set (.slot 4) (.bi .sorted (.econs (.lc (.ite (.cmp .eq (.bi .len (.econs (.slot 5) .enil)) (.const (.int 1))) (.idx (.slot 5) (.const (.int 0))) (.tup (.econs (.const (.str "and")) (.econs (.slot 5) .enil)))) (.slot 5) (.plain (.slot 2)) (.const (.bl true)) [5]) .enil)) (.ret (.ite (.cmp .eq (.bi .len (.econs (.slot 4) .enil)) (.const (.int 1))) (.idx (.slot 4) (.const (.int 0))) (.tup (.econs (.const (.str "xor")) (.econs (.bi .tuple (.econs (.slot 4) .enil)) .enil)))))))))⟩⟩
def d__law_normal : FnT := ⟨"_law_normal", ["term"], ["term", "parts", "inner", "part", "pair"], ⟨1, 5, (.set (.slot 1) (.lc (.call "_law_normal" (.econs (.slot 3) .enil)) (.slot 3) (.plain (.call "_law_parts" (.econs (.slot 0) .enil))) (.const (.bl true)) [3]) (.iff (.cmp .isin (.idx (.slot 0) (.const (.int 0))) (.tup (.econs (.const (.str "unknown")) (.econs (.const (.str "constant")) (.econs (.const (.str "free")) .enil))))) (.ret (.call "_law_with_parts" (.econs (.slot 0) (.econs (.slot 1) .enil)))) .nil (.iff (.cmp .eq (.idx (.slot 0) (.const (.int 0))) (.const (.str "signed"))) (.ret (.call "_law_sum" (.econs (.lc (.tup (.econs (.idx (.slot 4) (.const (.int 0))) (.econs (.slot 3) .enil))) (.tup (.cons (.slot 4) (.cons (.slot 3) .nil))) (.zip (.idx (.slot 0) (.const (.int 1))) (.slot 1)) (.const (.bl true)) [4, 3]) .enil))) .nil (.iff (.cmp .isin (.idx (.slot 0) (.const (.int 0))) (.tup (.econs (.const (.str "xor")) (.econs (.const (.str "and")) .enil)))) (.ret (.call "_law_truth" (.econs (.idx (.slot 0) (.const (.int 0))) (.econs (.slot 1) .enil)))) .nil (.set (.slot 2) (.call "_law_gathered" (.econs (.idx (.slot 0) (.const (.int 0))) (.econs (.slot 1) .enil))) (.set (.slot 2) (.ite (.cmp .eq (.idx (.slot 0) (.const (.int 0))) (.const (.str "set"))) (.bi .sorted (.econs (.bi .set (.econs (.slot 2) .enil)) .enil)) (.slot 2)) (.ret (.ite (.cmp .eq (.bi .len (.econs (.slot 2) .enil)) (.const (.int 1))) (.idx (.slot 2) (.const (.int 0))) (.tup (.econs (.idx (.slot 0) (.const (.int 0))) (.econs (.bi .tuple (.econs (.slot 2) .enil)) .enil)))))))))))⟩⟩
def d__law_put : FnT := ⟨"_law_put", ["term", "worths"], ["term", "worths", "part"], ⟨2, 3, (.iff (.cmp .eq (.idx (.slot 0) (.const (.int 0))) (.const (.str "unknown"))) (.ret (.call "_law_normal" (.econs (.mt .get (.slot 1) (.econs (.idx (.slot 0) (.const (.int 1))) (.econs (.slot 0) .enil))) .enil))) .nil (.ret (.call "_law_normal" (.econs (.call "_law_with_parts" (.econs (.slot 0) (.econs (.lc (.call "_law_put" (.econs (.slot 2) (.econs (.slot 1) .enil))) (.slot 2) (.plain (.call "_law_parts" (.econs (.slot 0) .enil))) (.const (.bl true)) [2]) .enil))) .enil))))⟩⟩
def d__law_most : FnT := ⟨"_law_most", ["term"], ["term", "pairs", "pair", "many", "form", "products", "part"], ⟨1, 7, (.set (.slot 1) (.lc (.call "_law_most" (.econs (.slot 6) .enil)) (.slot 6) (.plain (.call "_law_parts" (.econs (.slot 0) .enil))) (.const (.bl true)) [6]) (.set (.tup (.cons (.slot 4) (.cons (.slot 3) .nil))) (.tup (.econs (.call "_law_normal" (.econs (.call "_law_with_parts" (.econs (.slot 0) (.econs (.lc (.idx (.slot 2) (.const (.int 0))) (.slot 2) (.plain (.slot 1)) (.const (.bl true)) [2]) .enil))) .enil)) (.econs (.const (.int 1)) .enil))) (.forS (.slot 2) (.plain (.slot 1)) (.set (.slot 5) (.bi .len (.econs (.call "_law_monomials" (.econs (.idx (.slot 2) (.const (.int 0))) .enil)) .enil)) (.set (.slot 3) (.ite (.cmp .eq (.idx (.slot 0) (.const (.int 0))) (.const (.str "and"))) (.op .mul (.slot 3) (.slot 5)) (.ite (.cmp .eq (.idx (.slot 0) (.const (.int 0))) (.const (.str "xor"))) (.op .add (.slot 3) (.slot 5)) (.slot 3))) .nil)) (.set (.slot 3) (.ite (.cmp .eq (.idx (.slot 0) (.const (.int 0))) (.const (.str "xor"))) (.op .sub (.slot 3) (.const (.int 1))) (.slot 3)) (.ret (.tup (.econs (.slot 4) (.econs (.bi .max (.econs (.op .add (.lst (.econs (.slot 3) .enil)) (.lc (.idx (.slot 2) (.const (.int 1))) (.slot 2) (.plain (.slot 1)) (.const (.bl true)) [2])) .enil)) (.econs (.bi .max (.econs (.op .add (.lst (.econs (.call "_law_knots" (.econs (.slot 4) .enil)) .enil)) (.lc (.idx (.slot 2) (.const (.int 2))) (.slot 2) (.plain (.slot 1)) (.const (.bl true)) [2])) .enil)) .enil)))))))))⟩⟩
def d__law_deep : FnT := ⟨"_law_deep", ["term"], ["term", "part"], ⟨1, 2, (.ret (.op .add (.bi .max (.econs (.op .add (.lst (.econs (.neg (.const (.int 1))) .enil)) (.lc (.call "_law_deep" (.econs (.slot 1) .enil)) (.slot 1) (.plain (.call "_law_parts" (.econs (.slot 0) .enil))) (.const (.bl true)) [1])) .enil)) (.const (.int 1))))⟩⟩
def d__law_fits : FnT := ⟨"_law_fits", ["term"], ["term", "form", "products", "knots"], ⟨1, 4, (.iff (.or (.cmp .gt (.call "_law_knots" (.econs (.slot 0) .enil)) (.const (.int 60))) (.cmp .gt (.call "_law_deep" (.econs (.slot 0) .enil)) (.const (.int 20)))) (.ret (.const (.bl false))) .nil (.set (.tup (.cons (.slot 1) (.cons (.slot 2) (.cons (.slot 3) .nil)))) (.call "_law_most" (.econs (.slot 0) .enil)) (.ret (.and (.cmp .le (.slot 2) (.const (.int 200))) (.cmp .le (.slot 3) (.const (.int 400)))))))⟩⟩
def d__law_leaf : FnT := ⟨"_law_leaf", ["cup", "unknowns"], ["cup", "unknowns", "names"], ⟨2, 3, (.set (.slot 2) (.slc (.lst (.econs (.const (.str "x")) (.econs (.const (.str "y")) (.econs (.const (.str "z")) (.econs (.const (.str "u")) .enil))))) (.const .non) (.slot 1)) (.ret (.ite (.and (.cmp .ne (.slot 2) (.lst .enil)) (.cmp .eq (.call "_law_roll" (.econs (.slot 0) (.econs (.const (.int 2)) .enil))) (.const (.int 0)))) (.call "_law_x" (.econs (.call "_law_some" (.econs (.slot 0) (.econs (.slot 2) .enil))) .enil)) (.call "_law_c" (.econs (.call "_law_some" (.econs (.slot 0) (.econs (.lst (.econs (.const (.str "a")) (.econs (.const (.str "b")) (.econs (.const (.str "c")) .enil)))) .enil))) .enil)))))⟩⟩
def d__law_of_kind : FnT := ⟨"_law_of_kind", ["cup", "word", "parts"], ["cup", "word", "parts", "part"], ⟨3, 4, (.iff (.cmp .eq (.slot 1) (.const (.str "signed"))) (.ret (.tup (.econs (.const (.str "signed")) (.econs (.bi .tuple (.econs (.lc (.tup (.econs (.call "_law_some" (.econs (.slot 0) (.econs (.lst (.econs (.const (.int 1)) (.econs (.const (.int 1)) (.econs (.neg (.const (.int 1))) (.econs (.const (.int 2)) (.econs (.neg (.const (.int 2))) (.econs (.const (.int 3)) (.econs (.const (.int 0)) .enil)))))))) .enil))) (.econs (.slot 3) .enil))) (.slot 3) (.plain (.slot 2)) (.const (.bl true)) [3]) .enil)) .enil)))) .nil (.iff (.cmp .eq (.slot 1) (.const (.str "free"))) (.ret (.tup (.econs (.const (.str "free")) (.econs (.call "_law_some" (.econs (.slot 0) (.econs (.lst (.econs (.const (.str "f")) (.econs (.const (.str "f")) (.econs (.const (.str "g")) .enil)))) .enil))) (.econs (.ite (.cmp .ne (.slot 2) (.lst .enil)) (.bi .tuple (.econs (.slc (.slot 2) (.const .non) (.const (.int 2))) .enil)) (.tup (.econs (.call "_law_c" (.econs (.const (.str "a")) .enil)) .enil))) .enil))))) .nil (.ret (.tup (.econs (.slot 1) (.econs (.bi .tuple (.econs (.slot 2) .enil)) .enil))))))⟩⟩
def d__law_term : FnT := ⟨"_law_term", ["cup", "words", "deep", "unknowns"], ["cup", "words", "deep", "unknowns", "many", "parts", "part"], ⟨4, 7, (.iff (.or (.cmp .eq (.slot 2) (.const (.int 0))) (.cmp .eq (.call "_law_roll" (.econs (.slot 0) (.econs (.const (.int 5)) .enil))) (.const (.int 0)))) (.ret (.call "_law_leaf" (.econs (.slot 0) (.econs (.slot 3) .enil)))) .nil (.set (.slot 4) (.call "_law_some" (.econs (.slot 0) (.econs (.lst (.econs (.const (.int 0)) (.econs (.const (.int 1)) (.econs (.const (.int 2)) (.econs (.const (.int 2)) (.econs (.const (.int 2)) (.econs (.const (.int 3)) .enil))))))) .enil))) (.set (.slot 5) (.lc (.call "_law_term" (.econs (.slot 0) (.econs (.slot 1) (.econs (.op .sub (.slot 2) (.const (.int 1))) (.econs (.slot 3) .enil))))) (.slot 6) (.range (.slot 4)) (.const (.bl true)) [6]) (.ret (.call "_law_of_kind" (.econs (.slot 0) (.econs (.call "_law_some" (.econs (.slot 0) (.econs (.slot 1) .enil))) (.econs (.slot 5) .enil))))))))⟩⟩
def d__law_all_words : FnT := ⟨"_law_all_words", [], [], ⟨0, 0, (.ret (.lst (.econs (.const (.str "free")) (.econs (.const (.str "bag")) (.econs (.const (.str "signed")) (.econs (.const (.str "set")) (.econs (.const (.str "xor")) (.econs (.const (.str "and")) .enil))))))))⟩⟩
def d__law_back : FnT := ⟨"_law_back", ["cup", "term"], ["cup", "term", "at", "unit", "inner", "again", "twice", "word", "way", "some"], ⟨2, 10, (.set (.tup (.cons (.slot 7) (.cons (.slot 8) .nil))) (.tup (.econs (.idx (.slot 1) (.const (.int 0))) (.econs (.call "_law_roll" (.econs (.slot 0) (.econs (.const (.int 6)) .enil))) .enil))) (.iff (.or (.cmp .eq (.slot 8) (.const (.int 0))) (.cmp .isin (.slot 7) (.tup (.econs (.const (.str "unknown")) (.econs (.const (.str "constant")) (.econs (.const (.str "free")) .enil)))))) (.set (.slot 9) (.lst (.econs (.tup (.econs (.const (.str "bag")) (.econs (.tup (.econs (.slot 1) .enil)) .enil))) (.econs (.tup (.econs (.const (.str "set")) (.econs (.tup (.econs (.slot 1) .enil)) .enil))) (.econs (.tup (.econs (.const (.str "signed")) (.econs (.tup (.econs (.tup (.econs (.const (.int 1)) (.econs (.slot 1) .enil))) .enil)) .enil))) (.econs (.tup (.econs (.const (.str "xor")) (.econs (.tup (.econs (.slot 1) .enil)) .enil))) (.econs (.tup (.econs (.const (.str "and")) (.econs (.tup (.econs (.slot 1) .enil)) .enil))) (.econs (.tup (.econs (.const (.str "set")) (.econs (.tup (.econs (.slot 1) (.econs (.slot 1) .enil))) .enil))) (.econs (.tup (.econs (.const (.str "bag")) (.econs (.tup (.econs (.slot 1) (.econs (.tup (.econs (.const (.str "bag")) (.econs (.tup .enil) .enil))) .enil))) .enil))) .enil)))))))) (.set (.slot 9) (.op .add (.slot 9) (.lst (.econs (.tup (.econs (.const (.str "xor")) (.econs (.tup (.econs (.slot 1) (.econs (.tup (.econs (.const (.str "and")) (.econs (.tup (.econs (.tup (.econs (.const (.str "xor")) (.econs (.tup .enil) .enil))) (.econs (.slot 1) .enil))) .enil))) .enil))) .enil))) (.econs (.tup (.econs (.const (.str "signed")) (.econs (.tup (.econs (.tup (.econs (.const (.int 2)) (.econs (.slot 1) .enil))) (.econs (.tup (.econs (.neg (.const (.int 1))) (.econs (.slot 1) .enil))) .enil))) .enil))) (.econs (.tup (.econs (.const (.str "and")) (.econs (.tup (.econs (.slot 1) (.econs (.tup (.econs (.const (.str "and")) (.econs (.tup .enil) .enil))) .enil))) .enil))) (.econs (.tup (.econs (.const (.str "signed")) (.econs (.tup (.econs (.tup (.econs (.const (.int 1)) (.econs (.slot 1) .enil))) (.econs (.tup (.econs (.const (.int 0)) (.econs (.call "_law_c" (.econs (.const (.str "c")) .enil)) .enil))) .enil))) .enil))) .enil)))))) (.ret (.call "_law_some" (.econs (.slot 0) (.econs (.slot 9) .enil)))))) .nil (.iff (.cmp .eq (.slot 8) (.const (.int 1))) (.ret (.tup (.econs (.slot 7) (.econs .none .enil)))) .nil (.iff (.cmp .eq (.slot 8) (.const (.int 2))) (.ret (.tup (.econs (.slot 7) (.econs (.op .add (.slc (.idx (.slot 1) (.const (.int 1))) (.const (.int 1)) (.const .non)) (.slc (.idx (.slot 1) (.const (.int 1))) (.const .non) (.const (.int 1)))) .enil)))) .nil (.set (.slot 2) (.call "_law_roll" (.econs (.slot 0) (.econs (.op .add (.bi .len (.econs (.idx (.slot 1) (.const (.int 1))) .enil)) (.const (.int 1))) .enil))) (.set (.slot 3) (.ite (.cmp .eq (.slot 7) (.const (.str "signed"))) (.tup (.econs (.const (.int 1)) (.econs (.tup (.econs (.const (.str "signed")) (.econs (.tup .enil) .enil))) .enil))) (.ite (.cmp .eq (.slot 7) (.const (.str "xor"))) (.tup (.econs (.const (.str "xor")) (.econs (.tup .enil) .enil))) (.ite (.cmp .eq (.slot 7) (.const (.str "and"))) (.tup (.econs (.const (.str "and")) (.econs (.tup .enil) .enil))) (.tup (.econs (.slot 7) (.econs (.tup .enil) .enil)))))) (.iff (.cmp .eq (.slot 8) (.const (.int 3))) (.ret (.tup (.econs (.slot 7) (.econs (.op .add (.op .add (.slc (.idx (.slot 1) (.const (.int 1))) (.const .non) (.slot 2)) (.tup (.econs (.slot 3) .enil))) (.slc (.idx (.slot 1) (.const (.int 1))) (.slot 2) (.const .non))) .enil)))) .nil (.set (.slot 4) (.tup (.econs (.slot 7) (.econs (.slc (.idx (.slot 1) (.const (.int 1))) (.const .non) (.slot 2)) .enil))) (.iff (.cmp .eq (.slot 8) (.const (.int 4))) (.ret (.tup (.econs (.slot 7) (.econs (.op .add (.ite (.cmp .eq (.slot 7) (.const (.str "signed"))) (.tup (.econs (.tup (.econs (.const (.int 1)) (.econs (.slot 4) .enil))) .enil)) (.tup (.econs (.slot 4) .enil))) (.slc (.idx (.slot 1) (.const (.int 1))) (.slot 2) (.const .non))) .enil)))) .nil (.set (.slot 5) (.call "_law_leaf" (.econs (.slot 0) (.econs (.const (.int 2)) .enil))) .any))))))))))⟩⟩
def d__law_equal : FnT := ⟨"_law_equal", ["cup", "term"], ["cup", "term", "parts", "found", "part"], ⟨2, 5, (.set (.slot 2) (.lc (.ite (.cmp .eq (.call "_law_roll" (.econs (.slot 0) (.econs (.const (.int 3)) .enil))) (.const (.int 0))) (.call "_law_equal" (.econs (.slot 0) (.econs (.slot 4) .enil))) (.slot 4)) (.slot 4) (.plain (.call "_law_parts" (.econs (.slot 1) .enil))) (.const (.bl true)) [4]) (.set (.slot 3) (.call "_law_with_parts" (.econs (.slot 1) (.econs (.slot 2) .enil))) (.ret (.ite (.cmp .eq (.call "_law_roll" (.econs (.slot 0) (.econs (.const (.int 2)) .enil))) (.const (.int 0))) (.call "_law_back" (.econs (.slot 0) (.econs (.slot 3) .enil))) (.slot 3)))))⟩⟩
def d__law_near : FnT := ⟨"_law_near", ["cup", "term"], ["cup", "term", "at", "parts", "way"], ⟨2, 5, (.set (.tup (.cons (.slot 3) (.cons (.slot 4) .nil))) (.tup (.econs (.bi .list (.econs (.call "_law_parts" (.econs (.slot 1) .enil)) .enil)) (.econs (.call "_law_roll" (.econs (.slot 0) (.econs (.const (.int 4)) .enil))) .enil))) (.iff (.or (.cmp .eq (.slot 3) (.lst .enil)) (.cmp .eq (.slot 4) (.const (.int 0)))) (.ret (.call "_law_some" (.econs (.slot 0) (.econs (.lst (.econs (.call "_law_c" (.econs (.const (.str "a")) .enil)) (.econs (.call "_law_c" (.econs (.const (.str "d")) .enil)) (.econs (.call "_law_x" (.econs (.const (.str "x")) .enil)) (.econs (.tup (.econs (.const (.str "bag")) (.econs (.tup .enil) .enil))) (.econs (.tup (.econs (.const (.str "set")) (.econs (.tup .enil) .enil))) (.econs (.tup (.econs (.const (.str "signed")) (.econs (.tup .enil) .enil))) (.econs (.tup (.econs (.const (.str "xor")) (.econs (.tup .enil) .enil))) (.econs (.tup (.econs (.const (.str "and")) (.econs (.tup .enil) .enil))) (.econs (.tup (.econs (.const (.str "free")) (.econs (.const (.str "f")) (.econs (.tup (.econs (.slot 1) .enil)) .enil)))) .enil)))))))))) .enil)))) .nil (.set (.slot 2) (.call "_law_roll" (.econs (.slot 0) (.econs (.bi .len (.econs (.slot 3) .enil)) .enil))) (.iff (.and (.cmp .eq (.slot 4) (.const (.int 1))) (.cmp .notin (.idx (.slot 1) (.const (.int 0))) (.tup (.econs (.const (.str "free")) (.econs (.const (.str "signed")) .enil))))) (.ret (.tup (.econs (.idx (.slot 1) (.const (.int 0))) (.econs (.bi .tuple (.econs (.op .add (.slc (.slot 3) (.const .non) (.slot 2)) (.slc (.slot 3) (.op .add (.slot 2) (.const (.int 1))) (.const .non))) .enil)) .enil)))) .nil (.iff (.and (.cmp .eq (.slot 4) (.const (.int 2))) (.cmp .notin (.idx (.slot 1) (.const (.int 0))) (.tup (.econs (.const (.str "free")) (.econs (.const (.str "signed")) .enil))))) (.ret (.tup (.econs (.call "_law_some" (.econs (.slot 0) (.econs (.lst (.econs (.const (.str "bag")) (.econs (.const (.str "set")) (.econs (.const (.str "xor")) (.econs (.const (.str "and")) .enil))))) .enil))) (.econs (.bi .tuple (.econs (.slot 3) .enil)) .enil)))) .nil (.ret (.call "_law_with_parts" (.econs (.slot 1) (.econs (.op .add (.op .add (.slc (.slot 3) (.const .non) (.slot 2)) (.lst (.econs (.call "_law_near" (.econs (.slot 0) (.econs (.idx (.slot 3) (.slot 2)) .enil))) .enil))) (.slc (.slot 3) (.op .add (.slot 2) (.const (.int 1))) (.const .non))) .enil)))))))))⟩⟩
def d__law_worths : FnT := ⟨"_law_worths", ["cup", "words", "deep", "unknowns"], ["cup", "words", "deep", "unknowns", "names", "name"], ⟨4, 6, (.set (.slot 4) (.lc (.slot 5) (.slot 5) (.plain (.lst (.econs (.const (.str "u")) (.econs (.const (.str "x")) (.econs (.const (.str "y")) (.econs (.const (.str "z")) .enil)))))) (.and (.cmp .isin (.slot 5) (.slc (.lst (.econs (.const (.str "x")) (.econs (.const (.str "y")) (.econs (.const (.str "z")) (.econs (.const (.str "u")) .enil))))) (.const .non) (.slot 3))) (.cmp .gt (.call "_law_roll" (.econs (.slot 0) (.econs (.const (.int 3)) .enil))) (.const (.int 0)))) [5]) (.ret (.bi .tuple (.econs (.lc (.tup (.econs (.slot 5) (.econs (.call "_law_term" (.econs (.slot 0) (.econs (.slot 1) (.econs (.slot 2) (.econs (.slot 3) .enil))))) .enil))) (.slot 5) (.plain (.slot 4)) (.const (.bl true)) [5]) .enil))))⟩⟩
def d__law_small : FnT := ⟨"_law_small", ["cup", "words"], ["cup", "words", "term"], ⟨2, 3, (.set (.slot 2) (.call "_law_term" (.econs (.slot 0) (.econs (.slot 1) (.econs (.const (.int 1)) (.econs (.const (.int 2)) .enil))))) (.ret (.ite (.cmp .le (.call "_law_knots" (.econs (.call "_law_normal" (.econs (.slot 2) .enil)) .enil)) (.const (.int 4))) (.slot 2) (.call "_law_x" (.econs (.const (.str "x")) .enil)))))⟩⟩
def d__law_right : FnT := ⟨"_law_right", ["puts", "names"], ["puts", "names", "at", "gone", "told", "left", "put", "others", "other"], ⟨2, 9, (.set (.tup (.cons (.slot 4) (.cons (.slot 5) .nil))) (.tup (.econs (.call "spared_puts" (.econs (.slot 0) (.econs (.slot 1) .enil))) (.econs (.lrg (.bi .len (.econs (.slot 0) .enil))) .enil))) (.forS (.tup (.cons (.slot 2) (.cons (.slot 6) .nil))) (.enum (.slot 0)) (.set (.slot 7) (.lc (.slot 8) (.slot 8) (.plain (.slot 5)) (.cmp .ne (.slot 8) (.slot 2)) [8]) (.iff (.cmp .ne (.lc (.slot 8) (.slot 8) (.plain (.slot 7)) (.call "is_instance" (.econs (.slot 6) (.econs (.idx (.slot 0) (.slot 8)) (.econs (.slot 1) .enil)))) [8]) (.lst .enil)) (.set (.slot 5) (.slot 7) .nil) .nil .nil)) (.iff (.or (.cmp .ne (.slot 4) (.bi .tuple (.econs (.slot 5) .enil))) (.cmp .ne (.cmp .ne (.slot 0) (.tup .enil)) (.cmp .ne (.slot 4) (.tup .enil)))) (.ret (.const (.bl false))) .nil (.forS (.slot 2) (.plain (.slot 4)) (.iff (.cmp .ne (.lc (.slot 8) (.slot 8) (.plain (.slot 4)) (.and (.cmp .ne (.slot 8) (.slot 2)) (.call "is_instance" (.econs (.idx (.slot 0) (.slot 2)) (.econs (.idx (.slot 0) (.slot 8)) (.econs (.slot 1) .enil))))) [8]) (.lst .enil)) (.ret (.const (.bl false))) .nil .nil) (.set (.slot 3) (.lc (.slot 2) (.slot 2) (.range (.bi .len (.econs (.slot 0) .enil))) (.cmp .notin (.slot 2) (.slot 4)) [2]) (.ret (.cmp .eq (.lc (.slot 2) (.slot 2) (.plain (.slot 3)) (.cmp .eq (.lc (.slot 8) (.slot 8) (.plain (.slot 4)) (.call "is_instance" (.econs (.idx (.slot 0) (.slot 2)) (.econs (.idx (.slot 0) (.slot 8)) (.econs (.slot 1) .enil)))) [8]) (.lst .enil)) [2]) (.lst .enil))))))))⟩⟩
def d_law : FnT := ⟨"law", ["script"], ["script", "cup", "puts", "ways", "words", "names", "x", "y", "c", "d", "none", "all_of", "put", "name"], ⟨1, 14, (.set (.slot 1) (.call "_law_cup" (.econs (.slot 0) .enil)) (.set (.tup (.cons (.slot 4) (.cons (.slot 5) .nil))) (.tup (.econs (.call "_law_some" (.econs (.slot 1) (.econs (.lst (.econs (.lst (.econs (.const (.str "bag")) (.econs (.const (.str "free")) .enil))) (.econs (.lst (.econs (.const (.str "set")) (.econs (.const (.str "free")) .enil))) (.econs (.lst (.econs (.const (.str "bag")) (.econs (.const (.str "set")) .enil))) .enil)))) .enil))) (.econs (.call "_law_some" (.econs (.slot 1) (.econs (.lst (.econs (.tup (.econs (.const (.str "x")) .enil)) (.econs (.tup (.econs (.const (.str "x")) (.econs (.const (.str "y")) .enil))) .enil))) .enil))) .enil))) (.set (.slot 2) (.bi .tuple (.econs (.lc (.bi .tuple (.econs (.lc (.tup (.econs (.slot 13) (.econs (.call "_law_small" (.econs (.slot 1) (.econs (.slot 4) .enil))) .enil))) (.slot 13) (.plain (.slot 5)) (.const (.bl true)) [13]) .enil)) (.slot 12) (.range (.op .add (.const (.int 1)) (.call "_law_roll" (.econs (.slot 1) (.econs (.const (.int 4)) .enil))))) (.const (.bl true)) [12]) .enil)) (.iff (.or (.cmp .ne (.lc (.slot 12) (.slot 12) (.plain (.slot 2)) (.cmp .isnot (.call "is_put" (.econs (.slot 12) .enil)) (.const (.bl true))) [12]) (.lst .enil)) (.not (.call "_law_right" (.econs (.slot 2) (.econs (.slot 5) .enil))))) (.ret (.const (.bl false))) .nil (.set (.tup (.cons (.slot 6) (.cons (.slot 7) (.cons (.slot 8) (.cons (.slot 9) .nil))))) (.tup (.econs (.call "_law_x" (.econs (.const (.str "x")) .enil)) (.econs (.call "_law_x" (.econs (.const (.str "y")) .enil)) (.econs (.call "_law_c" (.econs (.const (.str "c")) .enil)) (.econs (.call "_law_c" (.econs (.const (.str "d")) .enil)) .enil))))) (.iff (.or (.cmp .ne (.call "spared_puts" (.econs (.tup (.econs (.tup (.econs (.tup (.econs (.const (.str "x")) (.econs (.slot 8) .enil))) .enil)) (.econs (.tup (.econs (.tup (.econs (.const (.str "x")) (.econs (.slot 6) .enil))) .enil)) (.econs (.tup (.econs (.tup (.econs (.const (.str "x")) (.econs (.slot 7) .enil))) .enil)) .enil)))) (.econs (.tup (.econs (.const (.str "x")) .enil)) .enil))) (.tup (.econs (.const (.int 2)) .enil))) (.cmp .ne (.call "spared_puts" (.econs (.tup .enil) (.econs (.tup (.econs (.const (.str "x")) .enil)) .enil))) (.tup .enil))) (.ret (.const (.bl false))) .nil (.set (.tup (.cons (.slot 10) (.cons (.slot 11) .nil))) (.tup (.econs (.tup (.econs (.const (.str "bag")) (.econs (.tup .enil) .enil))) (.econs (.tup (.econs (.const (.str "bag")) (.econs (.tup (.econs (.slot 8) (.econs (.slot 9) .enil))) .enil))) .enil))) (.set (.slot 3) (.tup (.econs (.tup (.econs (.tup (.econs (.const (.str "x")) (.econs (.slot 8) .enil))) (.econs (.tup (.econs (.const (.str "y")) (.econs (.slot 9) .enil))) .enil))) (.econs (.tup (.econs (.tup (.econs (.const (.str "x")) (.econs (.slot 9) .enil))) (.econs (.tup (.econs (.const (.str "y")) (.econs (.slot 8) .enil))) .enil))) (.econs (.tup (.econs (.tup (.econs (.const (.str "x")) (.econs (.slot 10) .enil))) (.econs (.tup (.econs (.const (.str "y")) (.econs (.slot 11) .enil))) .enil))) (.econs (.tup (.econs (.tup (.econs (.const (.str "x")) (.econs (.slot 11) .enil))) (.econs (.tup (.econs (.const (.str "y")) (.econs (.slot 10) .enil))) .enil))) .enil))))) (.iff (.or (.cmp .ne (.call "spared_puts" (.econs (.slot 3) (.econs (.tup (.econs (.const (.str "x")) (.econs (.const (.str "y")) .enil))) .enil))) (.tup (.econs (.const (.int 0)) (.econs (.const (.int 1)) (.econs (.const (.int 2)) (.econs (.const (.int 3)) .enil)))))) (.cmp .ne (.call "spared_puts" (.econs (.op .add (.slot 3) (.tup (.econs (.tup (.econs (.tup (.econs (.const (.str "x")) (.econs (.slot 6) .enil))) (.econs (.tup (.econs (.const (.str "y")) (.econs (.slot 7) .enil))) .enil))) .enil))) (.econs (.tup (.econs (.const (.str "x")) (.econs (.const (.str "y")) .enil))) .enil))) (.tup (.econs (.const (.int 4)) .enil)))) (.ret (.const (.bl false))) .nil (.ret (.and (.cmp .eq (.call "spared_puts" (.econs (.op .add (.slc (.slot 3) (.const .non) (.const (.int 1))) (.tup (.econs (.tup (.econs (.tup (.econs (.const (.str "x")) (.econs (.slot 8) .enil))) .enil)) .enil))) (.econs (.tup (.econs (.const (.str "x")) .enil)) .enil))) (.tup (.econs (.const (.int 1)) .enil))) (.and (.call "_law_right" (.econs (.slot 3) (.econs (.tup (.econs (.const (.str "x")) .enil)) .enil))) (.call "_law_right" (.econs (.op .mul (.tup (.econs (.tup .enil) .enil)) (.const (.int 3))) (.econs (.tup (.econs (.const (.str "x")) (.econs (.const (.str "y")) .enil))) .enil)))))))))))))))⟩⟩
def ds : List FnT := [d_is_whole, d_is_tuple_of, d_is_name, d_are_figures, d_is_leaf_name, d_fits_head, d_parts_in, d_fits_term, d_all_knots, d_knots_in, d_names_in, d_alone, d_flattened, d_signed_of, d_signed_pairs, d_products_in, d_truth_of, d_need_few, d_multiplied, d_truth_form, d_formed, d_form_and_knots, d_normal_by, d_has_plain_signs, d_need_few_names, d_need_sizes, d_members_of, d_sub_bags, d_lays_of, d_left_in_bag, d_bag_steps, d_set_steps, d_in_order, d_match_steps, d_steps_of, d_put_of, d_found_for, d_fits_put, d_need_put, d_is_put, d_need_names, d_need_plain_put, d_forms_for, d_leads_for, d_need_two, d_need_puts, d_need_all_sizes, d_is_instance, d_spared_puts, d__law_cup, d__law_roll, d__law_some, d__law_x, d__law_c, d__law_parts, d__law_with_parts, d__law_knots, d__law_gathered, d__law_sum, d__law_monomials, d__law_toggled, d__law_truth, d__law_normal, d__law_put, d__law_most, d__law_deep, d__law_fits, d__law_leaf, d__law_of_kind, d__law_term, d__law_all_words, d__law_back, d__law_equal, d__law_near, d__law_worths, d__law_small, d__law_right, d_law]
def cst : List (Str × D) := [("KNOTS_terms", (.int 60)), ("DEEPEST", (.int 20)), ("NUMBER", (.int 1000000)), ("BRANCHES", (.int 6)), ("LETTERS", (.str "abcdefghijklmnopqrstuvwxyz")), ("FIGURES", (.str "0123456789")), ("GATHERING", (.tup [(.str "bag"), (.str "set"), (.str "xor"), (.str "and")])), ("PRODUCTS", (.int 200)), ("KNOTS_normals", (.int 400)), ("WORDS", (.tup [(.str "unknown"), (.str "constant"), (.str "free"), (.str "bag"), (.str "set")])), ("NAMES_matchings", (.int 4)), ("KNOTS_matchings", (.int 16)), ("PAIRS", (.int 12)), ("NAMES_instances", (.int 6)), ("PUTS", (.int 12))]
end K59

namespace K59
open Q PySem
abbrev R : PySem.W.OpenRow := PySem.W.OpenLaw.row PySem.Challenge.rw_gathersolve_k59_whole_spared_lots_of_put
def srcOf : List Stmt → Str → Src
  | [], _ => ⟨⟨[], [], none, [], [], none, []⟩, [], { kind := .function, names := [], isGenerator := false, isCoroutine := false }⟩
  | .FunctionDef n a b _ _ _ sc _ _ _ :: r, x => match decide (n = x) with
    | true => ⟨a, b, sc⟩
    | false => srcOf r x
  | _ :: r, x => srcOf r x
def src (x : Str) : Src := srcOf R.prog.main.body x
end K59
end
section
set_option Elab.async false
set_option linter.all false
set_option maxRecDepth 100000
set_option maxHeartbeats 0
namespace K59
open PySem PySem.Spec PyProof.Rows L2 Q
def names : List Str := R.prog.boundNames.filter fun n => n != ("law" : Str) && n != ("__name__" : Str)
def fa : List He.Fa := faOf ds cst
def fn : List He.DefD := Q.fnOf ds src
def tp : List (Str × List Str) := tpOf cst
abbrev hk : PySem.W.Hook := hookQ 4 fa fn tp
def ob (s : PySem.W.SharedT) : AlQ := obsQG 4 fa fn tp (HandSHeadRun.getT s)
theorem ob_eq (s : PySem.W.SharedT) : ob s = hk.obs s.abs := obsQG_eq (HandSHeadRun.getT_eq s)
theorem run (w : World) : HandSHeadRun.RunEq R (PySem.W.view R.prog [104]) hk ob 20000 names w := by
  intro os
  kernel_rfl
end K59
end
section
set_option Elab.async false
set_option linter.all false
set_option maxRecDepth 100000
set_option maxHeartbeats 1000000
namespace Q
open PySem PySem.Spec PyProof.Rows L2

mutual
def toK : D → NestedKey
  | .int i => .num i
  | .str x => .text x
  | .tup xs => .tup (toKs xs)
  | _ => .none
def toKs : List D → List NestedKey
  | [] => []
  | x :: xs => toK x :: toKs xs
end

def RawD (a : Addr) (es : List DictEntry) (h : Heap) : Prop := ∃ o ep, h.get? a = some o ∧ o.ExactDict ∧ o.data = .dict es.toArray ep
def RawS (w : World) (a : Addr) (es : List (Int × Value)) (h : Heap) : Prop := ∃ o ep t, h.get? a = some o ∧ o.ExactSet ∧ o.data = .set es.toArray ep t ∧ t.fits es.length = true ∧ Ris t.place.toList ∧ (w.params.followText "set-order" = true ∨ t.led = true) ∧ es.length < scanBound

def SqN (K : PySem.W.Frag) (H : Hp) (a : Addr) (xs : List V) : Prop :=
  (∃ o, H a = some (.frz o (.tup xs)) ∧ o.cls = .type "tuple" ∧ o.dict = none) ∨ ∃ (o : Obj) (its : Array Value) (n : Nat), K.lookup a = some o ∧ o.cls = .type "tuple" ∧ o.dict = none ∧ o.data = .seq its n ∧ its.size ≤ sizeLine ∧ Vals xs its.toList
theorem SqN.T {K : PySem.W.Frag} {H : Hp} {a : Addr} {xs : List V} (h : SqN K H a xs) : SqT K H a xs := by
  rcases h with ⟨o, h, _⟩ | ⟨o, its, n, h1, h2, _, h4, h5, h6⟩
  · exact .inl (.inr ⟨o, h⟩)
  · exact .inr ⟨o, its, n, h1, h2, h4, h5, h6⟩
theorem SqN.mono {K : PySem.W.Frag} {H H' : Hp} {a : Addr} {xs : List V} (e : Same H H') (h : SqN K H a xs) : SqN K H' a xs := by
  rcases h with ⟨o, h, r⟩ | h
  · exact .inl ⟨o, e _ _ h, r⟩
  · exact .inr h
section
variable (K : PySem.W.Frag) (w : World)
mutual
inductive Rp (as : List Addr) (G : Hp) : D → V → Prop
  | non : Rp as G .non .non
  | bl (b : Bool) : Rp as G (.bl b) (.bl b)
  | int (i : Int) : Rp as G (.int i) (.int i)
  | str (x : Str) : Rp as G (.str x) (.str x)
  | tup {a : Addr} {ds : List D} {vs : List V} : SqN K G a vs → RpL as G ds vs → Rp as G (.tup ds) (.ref a)
  | lst {a : Addr} {ds : List D} {vs : List V} : G a = some (.lst vs) → RpL as G ds vs → Rp as G (.lst ds) (.ref a)
  | inp {a : Addr} {ds : List D} {vs : List V} : SqL K G a vs → RpL as G ds vs → Rp as G (.inp ds) (.ref a)
  | dct {a : Addr} {ks vs : List D} {es : List DictEntry} : G a = some (.ext (RawD a es)) → (a == sysModules) = false → es.length ≤ sizeLine → RpE as G ks vs es → ks.Nodup → Rp as G (.dct ks vs) (.ref a)
  | set {a : Addr} {ds ds' : List D} {vs : List V} {es : List (Int × Value)} : G a = some (.ext (RawS w a es)) → RpL as G ds' vs → Vals vs (es.map (·.2)) → ds'.Perm ds → ds.Nodup → (∀ d ∈ ds, d.isKey = true) → Rp as G (.set ds) (.ref a)
  | cell {a : Addr} {n : Nat} : as[n]? = some a → Rp as G (.cell n) (.ref a)
inductive RpL (as : List Addr) (G : Hp) : List D → List V → Prop
  | nil : RpL as G [] []
  | cons {d : D} {ds : List D} {v : V} {vs : List V} : Rp as G d v → RpL as G ds vs → RpL as G (d :: ds) (v :: vs)
inductive RpE (as : List Addr) (G : Hp) : List D → List D → List DictEntry → Prop
  | nil : RpE as G [] [] []
  | cons {k d : D} {ks ds : List D} {e : DictEntry} {es : List DictEntry} {kv vv : V} : Rp as G k kv → RelV kv e.key → e.hash = (toK k).hash w → k.isKey = true → Rp as G d vv → RelV vv e.val → RpE as G ks ds es → RpE as G (k :: ks) (d :: ds) (e :: es)
end
end

theorem _root_.L2.Same.seqT {K : PySem.W.Frag} {H H' : Hp} {a : Addr} {xs : List V} (e : Same H H') (h : SqT K H a xs) : SqT K H' a xs := by
  rcases h with (h | ⟨o, h⟩) | h
  · exact .inl (.inl (e _ _ h))
  · exact .inl (.inr ⟨o, e _ _ h⟩)
  · exact .inr h

section
variable {K : PySem.W.Frag} {w : World} {as as' : List Addr} {G G' : Hp}
mutual
theorem Rp.mono (p : as <+: as') (s : Same G G') : ∀ {d : D} {v : V}, Rp K w as G d v → Rp K w as' G' d v
  | _, _, .non => .non
  | _, _, .bl b => .bl b
  | _, _, .int i => .int i
  | _, _, .str x => .str x
  | _, _, .tup h r => .tup (h.mono s) (RpL.mono p s r)
  | _, _, .lst h r => .lst (s _ _ h) (RpL.mono p s r)
  | _, _, .inp h r => .inp (s.seq h) (RpL.mono p s r)
  | _, _, .dct h1 h2 h3 r n => .dct (s _ _ h1) h2 h3 (RpE.mono p s r) n
  | _, _, .set h1 r v q n k => .set (s _ _ h1) (RpL.mono p s r) v q n k
  | _, _, .cell h => .cell (by
      obtain ⟨t, rfl⟩ := p
      rw [List.getElem?_append_left (List.getElem?_eq_some_iff.mp h).1]
      exact h)
theorem RpL.mono (p : as <+: as') (s : Same G G') : ∀ {ds : List D} {vs : List V}, RpL K w as G ds vs → RpL K w as' G' ds vs
  | _, _, .nil => .nil
  | _, _, .cons r t => .cons (Rp.mono p s r) (RpL.mono p s t)
theorem RpE.mono (p : as <+: as') (s : Same G G') : ∀ {ks ds : List D} {es : List DictEntry}, RpE K w as G ks ds es → RpE K w as' G' ks ds es
  | _, _, _, .nil => .nil
  | _, _, _, .cons r1 a b c r2 d t => .cons (Rp.mono p s r1) a b c (Rp.mono p s r2) d (RpE.mono p s t)
end
theorem RpL.length : ∀ {ds : List D} {vs : List V}, RpL K w as G ds vs → vs.length = ds.length
  | _, _, .nil => rfl
  | _, _, .cons _ t => by simp [RpL.length t]
theorem RpE.length : ∀ {ks ds : List D} {es : List DictEntry}, RpE K w as G ks ds es → es.length = ks.length ∧ ds.length = ks.length
  | _, _, _, .nil => ⟨rfl, rfl⟩
  | _, _, _, .cons _ _ _ _ _ _ t => by
    obtain ⟨a, b⟩ := RpE.length t
    exact ⟨by simp [a], by simp [b]⟩
theorem RpL.get : ∀ {ds : List D} {vs : List V} {i : Nat} {d : D}, RpL K w as G ds vs → ds[i]? = some d → ∃ v, vs[i]? = some v ∧ Rp K w as G d v
  | _, _, _, _, .nil, h => by simp at h
  | _, _, 0, _, .cons r _, h => by simp at h; subst h; exact ⟨_, rfl, r⟩
  | _, _, i + 1, _, .cons _ t, h => by
    obtain ⟨v, a, b⟩ := RpL.get (i := i) t (by simpa using h)
    exact ⟨v, by simpa using a, b⟩
theorem RpL.append : ∀ {ds es : List D} {vs us : List V}, RpL K w as G ds vs → RpL K w as G es us → RpL K w as G (ds ++ es) (vs ++ us)
  | _, _, _, _, .nil, r => r
  | _, _, _, _, .cons r t, q => .cons r (RpL.append t q)
theorem RpL.take : ∀ (n : Nat) {ds : List D} {vs : List V}, RpL K w as G ds vs → RpL K w as G (ds.take n) (vs.take n)
  | 0, _, _, _ => .nil
  | _ + 1, _, _, .nil => .nil
  | n + 1, _, _, .cons r t => .cons r (RpL.take n t)
theorem RpL.drop : ∀ (n : Nat) {ds : List D} {vs : List V}, RpL K w as G ds vs → RpL K w as G (ds.drop n) (vs.drop n)
  | 0, _, _, r => r
  | _ + 1, _, _, .nil => .nil
  | n + 1, _, _, .cons _ t => RpL.drop n t
theorem RpL.reps {ds : List D} {vs : List V} (r : RpL K w as G ds vs) : ∀ n, RpL K w as G (Q.reps ds n) (Q.reps vs n)
  | 0 => .nil
  | n + 1 => r.append (RpL.reps r n)
theorem RpL.reverse : ∀ {ds : List D} {vs : List V}, RpL K w as G ds vs → RpL K w as G ds.reverse vs.reverse
  | _, _, .nil => .nil
  | _, _, .cons r t => by
    rw [List.reverse_cons, List.reverse_cons]
    exact (RpL.reverse t).append (.cons r .nil)
theorem RpL.set {d : D} {v : V} (r : Rp K w as G d v) : ∀ (i : Nat) {ds : List D} {vs : List V}, RpL K w as G ds vs → RpL K w as G (ds.set i d) (vs.set i v)
  | _, _, _, .nil => .nil
  | 0, _, _, .cons _ t => .cons r t
  | i + 1, _, _, .cons q t => .cons q (RpL.set r i t)
end

open Classical in
noncomputable def gH (as ex : List Addr) (H : Hp) : Hp := fun b => if b ∈ as ∨ b ∈ ex then none else H b
theorem gH_some {as ex : List Addr} {H : Hp} {b : Addr} {o : HO} : gH as ex H b = some o ↔ H b = some o ∧ b ∉ as ∧ b ∉ ex := by
  unfold gH
  by_cases h : b ∈ as ∨ b ∈ ex
  · rw [if_pos h]
    constructor
    · intro q; cases q
    · rintro ⟨_, h1, h2⟩
      rcases h with h | h
      · exact absurd h h1
      · exact absurd h h2
  · rw [if_neg h]
    exact ⟨fun q => ⟨q, fun z => h (.inl z), fun z => h (.inr z)⟩, fun q => q.1⟩
theorem gH_same {as ex : List Addr} {H : Hp} : Same (gH as ex H) H := fun _ _ h => (gH_some.mp h).1
theorem gH_ex {as ex ex' : List Addr} {H : Hp} (h : ∀ b, b ∈ ex → b ∈ ex') : Same (gH as ex' H) (gH as ex H) := fun b o q => by
  obtain ⟨h1, h2, h3⟩ := gH_some.mp q
  exact gH_some.mpr ⟨h1, h2, fun z => h3 (h b z)⟩

structure Ext (as : List Addr) (H : Hp) (as' : List Addr) (H' : Hp) : Prop where
  pre : as <+: as'
  new : ∀ a ∈ as', a ∉ as → H a = none
  keep : ∀ b o, b ∉ as → H b = some o → H' b = some o
theorem Ext.refl (as : List Addr) (H : Hp) : Ext as H as H := ⟨List.prefix_refl _, fun _ h n => absurd h n, fun _ _ _ h => h⟩
theorem Ext.trans {as as1 as2 : List Addr} {H H1 H2 : Hp} (a : Ext as H as1 H1) (b : Ext as1 H1 as2 H2) : Ext as H as2 H2 := by
  refine ⟨a.pre.trans b.pre, fun x hx hn => ?_, fun x o hn h => ?_⟩
  · by_cases h1 : x ∈ as1
    · exact a.new x h1 hn
    · have z := b.new x hx h1
      cases q : H x with
      | none => rfl
      | some o =>
        rw [a.keep x o hn q] at z
        cases z
  · have h1 := a.keep x o hn h
    refine b.keep x o (fun z => ?_) h1
    rw [a.new x z hn] at h
    cases h
theorem Ext.same {as as' ex : List Addr} {H H' : Hp} (a : Ext as H as' H') : Same (gH as ex H) (gH as' ex H') := fun b o q => by
  obtain ⟨h1, h2, h3⟩ := gH_some.mp q
  refine gH_some.mpr ⟨a.keep b o h2 h1, fun z => ?_, h3⟩
  rw [a.new b z h2] at h1
  cases h1
theorem Ext.laid {as : List Addr} {H : Hp} {p : Addr} {o : HO} (h : H p = none) : Ext as H as (upd H p o) :=
  ⟨List.prefix_refl _, fun _ h n => absurd h n, fun b u _ q => by rw [upd_ne (ne_of_none q h)]; exact q⟩

section
variable (K : PySem.W.Frag) (w : World)
structure Wd (as ex : List Addr) (H : Hp) (st : List D) : Prop where
  nd : as.Nodup
  len : as.length = st.length
  ax : ∀ a ∈ as, a ∉ ex
  exs : ∀ a ∈ ex, ∃ o, H a = some o
  cells : ∀ (i : Nat) (a : Addr) (d : D), as[i]? = some a → st[i]? = some d → ∃ (ds : List D) (vs : List V), d = D.lst ds ∧ H a = some (HO.lst vs) ∧ RpL K w as (gH as ex H) ds vs
def EnvR (as : List Addr) (G : Hp) (ρ : List (Option D)) (σ : L2.St) : Prop := ρ.length = σ.length ∧ ∀ (i : Nat) (d : D), ρ[i]? = some (some d) → ∃ v : V, σ[i]? = some (some v) ∧ Rp K w as G d v
end
section
variable {K : PySem.W.Frag} {w : World} {as as' ex : List Addr} {G G' H H' : Hp} {ρ : List (Option D)} {σ : L2.St} {st : List D}
theorem EnvR.mono (p : as <+: as') (s : Same G G') (e : EnvR K w as G ρ σ) : EnvR K w as' G' ρ σ := ⟨e.1, fun i d h => by
  obtain ⟨v, a, b⟩ := e.2 i d h
  exact ⟨v, a, b.mono p s⟩⟩
theorem EnvR.set (e : EnvR K w as G ρ σ) {i : Nat} {d : D} {v : V} (r : Rp K w as G d v) : EnvR K w as G (ρ.set i (some d)) (σ.set i (some v)) := by
  refine ⟨by simp [e.1], fun j d' h => ?_⟩
  by_cases hj : i = j
  · subst hj
    rw [List.getElem?_set] at h
    by_cases hl : i < ρ.length
    · simp [hl] at h
      subst h
      exact ⟨v, by rw [List.getElem?_set]; simp [← e.1, hl], r⟩
    · simp [hl] at h
  · rw [List.getElem?_set_ne hj] at h
    obtain ⟨u, a, b⟩ := e.2 j d' h
    exact ⟨u, by rw [List.getElem?_set_ne hj]; exact a, b⟩
theorem EnvR.wipe (e : EnvR K w as G ρ σ) : ∀ vs : List Nat, EnvR K w as G (wipeE ρ vs) (L2.wipe σ vs)
  | [] => e
  | i :: vs => by
    have h := EnvR.wipe e vs
    refine ⟨by show ((wipeE ρ vs).set i none).length = ((L2.wipe σ vs).set i none).length; simp [h.1], fun j d hd => ?_⟩
    have hd : ((wipeE ρ vs).set i none)[j]? = some (some d) := hd
    show ∃ v, ((L2.wipe σ vs).set i none)[j]? = some (some v) ∧ _
    by_cases hj : i = j
    · subst hj
      rw [List.getElem?_set] at hd
      by_cases hl : i < (wipeE ρ vs).length
      · simp [hl] at hd
      · simp [hl] at hd
    · rw [List.getElem?_set_ne hj] at hd
      obtain ⟨u, a, b⟩ := h.2 j d hd
      exact ⟨u, by rw [List.getElem?_set_ne hj]; exact a, b⟩
theorem Wd.ext (x : Wd K w as ex H st) (s : Ext as H as H') (k : ∀ a ∈ as, ∀ o, H a = some o → H' a = some o) : Wd K w as ex H' st := by
  refine ⟨x.nd, x.len, x.ax, fun a ha => ?_, fun i a d h1 h2 => ?_⟩
  · obtain ⟨o, q⟩ := x.exs a ha
    exact ⟨o, s.keep a o (fun z => x.ax a z ha) q⟩
  obtain ⟨ds, vs, e, h, r⟩ := x.cells i a d h1 h2
  exact ⟨ds, vs, e, k a (List.mem_of_getElem? h1) _ h, r.mono (List.prefix_refl _) s.same⟩
theorem Wd.laid (x : Wd K w as ex H st) {p : Addr} {o : HO} (h : H p = none) : Wd K w as ex (upd H p o) st :=
  x.ext (Ext.laid h) fun a _ o q => by rw [upd_ne (ne_of_none q h)]; exact q
theorem Wd.there (x : Wd K w as ex H st) {a : Addr} (h : a ∈ as) : ∃ vs, H a = some (.lst vs) := by
  obtain ⟨i, hi, e⟩ := List.getElem_of_mem h
  have h1 : as[i]? = some a := by rw [List.getElem?_eq_getElem hi, e]
  have h2 : i < st.length := by rw [← x.len]; exact hi
  obtain ⟨ds, vs, _, q, _⟩ := x.cells i a _ h1 (List.getElem?_eq_getElem h2)
  exact ⟨vs, q⟩
theorem gH_laid {p : Addr} {o : HO} (x : Wd K w as ex H st) (h : H p = none) : gH as ex (upd H p o) p = some o :=
  gH_some.mpr ⟨upd_same, (fun z => by obtain ⟨vs, q⟩ := x.there z; rw [h] at q; cases q), fun z => by obtain ⟨u, q⟩ := x.exs p z; rw [h] at q; cases q⟩
end
end Q
end
section
set_option Elab.async false
set_option linter.all false
set_option maxRecDepth 100000
set_option maxHeartbeats 1000000
namespace Q
open PySem PySem.Spec PyProof.Rows L2

section
variable (K : PySem.W.Frag) (w : World)
def Aft {α β : Type} (R : List Addr → Hp → α → β → Prop) (as ex : List Addr) (H : Hp) (r : Res α) (Q : β → Hp → Prop) : Prop := match r with
  | .ok d st' => ∀ (as' : List Addr) (H' : Hp) (v : β), Ext as H as' H' → Wd K w as' ex H' st' → R as' (gH as' ex H') d v → Q v H'
  | .err _ _ => False
  | .stuck => False
end
section
variable {K : PySem.W.Frag} {w : World} {α β γ δ : Type} {R : List Addr → Hp → α → β → Prop} {R' : List Addr → Hp → γ → δ → Prop} {as as' ex : List Addr} {H H' : Hp} {σ : L2.St} {ρ : List (Option D)} {st st' : List D}
theorem Aft.mono {r : Res α} {Q Q' : β → Hp → Prop} (h : Aft K w R as ex H r Q) (hQ : ∀ v H', Q v H' → Q' v H') : Aft K w R as ex H r Q' := by
  cases r with
  | ok d st => exact fun as' H' v e x r => hQ v H' (h as' H' v e x r)
  | err x st => exact h
  | stuck => exact h
theorem Aft.ext {r : Res α} {Q : β → Hp → Prop} (e : Ext as H as' H') (h : Aft K w R as ex H r Q) : Aft K w R as' ex H' r Q := by
  cases r with
  | ok d st => exact fun as2 H2 v e2 x r => h as2 H2 v (e.trans e2) x r
  | err x st => exact h
  | stuck => exact h
structure Mid (K : PySem.W.Frag) (w : World) (R : List Addr → Hp → α → β → Prop) (as ex : List Addr) (H : Hp) (σ : L2.St) (ρ : List (Option D)) (d : α) (st1 : List D) (v : β) (as1 : List Addr) (H1 : Hp) : Prop where
  ext : Ext as H as1 H1
  wd : Wd K w as1 ex H1 st1
  env : EnvR K w as1 (gH as1 ex H1) ρ σ
  rp : R as1 (gH as1 ex H1) d v
theorem Aft.bind {m : M α} {f : α → M γ} {Q : δ → Hp → Prop} (ev : EnvR K w as (gH as ex H) ρ σ) (h : Aft K w R' as ex H (M.bind m f st) Q) :
    Aft K w R as ex H (m st) (fun v H1 => ∃ d st1 as1, m st = .ok d st1 ∧ Mid K w R as ex H σ ρ d st1 v as1 H1 ∧ Aft K w R' as1 ex H1 (f d st1) Q) := by
  unfold M.bind at h
  cases e : m st with
  | ok d st1 =>
    rw [e] at h
    exact fun as1 H1 v x y z => ⟨d, st1, as1, rfl, ⟨x, y, ev.mono x.pre x.same, z⟩, h.ext x⟩
  | err x st1 =>
    rw [e] at h
    exact h
  | stuck =>
    rw [e] at h
    exact h
theorem Aft.pure {d : α} {v : β} {Q : β → Hp → Prop} (h : Aft K w R as ex H (M.pure d st) Q) (x : Wd K w as ex H st) (r : R as (gH as ex H) d v) : Q v H := h as H v (Ext.refl _ _) x r
theorem Aft.ofO {o : Option α} {Q : β → Hp → Prop} (h : Aft K w R as ex H (M.ofO o st) Q) : ∃ d, o = some d ∧ ∀ as' H' v, Ext as H as' H' → Wd K w as' ex H' st → R as' (gH as' ex H') d v → Q v H' := by
  cases o with
  | some d => exact ⟨d, rfl, h⟩
  | none => exact False.elim h
end

def Tm (K : PySem.W.Frag) (w : World) {α β : Type} (R : List Addr → Hp → α → β → Prop) (m : List (Option D) → M α) : L2.St → Hp → (β → Hp → Prop) → Prop := fun σ H Q =>
  ∃ ρ as ex st, Wd K w as ex H st ∧ EnvR K w as (gH as ex H) ρ σ ∧ Aft K w R as ex H (m ρ st) Q
abbrev RB : List Addr → Hp → Bool → Bool → Prop := fun _ _ a b => a = b

theorem _root_.L2.PE.imp {X : Cx} {e : Expr} {t t' : TE} (h : PE X e t) (i : ∀ σ H Q, t' σ H Q → t σ H Q) : PE X e t' := ⟨fun pins s σ H Q I q => h.run pins s σ H Q I (i σ H Q q)⟩
theorem _root_.L2.PT.imp {X : Cx} {e : Expr} {t t' : TT} (h : PT X e t) (i : ∀ σ H Q, t' σ H Q → t σ H Q) : PT X e t' := ⟨fun pins s σ H Q I q => h.run pins s σ H Q I (i σ H Q q)⟩
theorem _root_.L2.PW.imp {X : Cx} {e : Expr} {t t' : TT} (h : PW X e t) (i : ∀ σ H Q, t' σ H Q → t σ H Q) : PW X e t' := ⟨fun wh pins s σ H Q I q => h.run wh pins s σ H Q I (i σ H Q q)⟩
theorem _root_.L2.PA.imp {X : Cx} {es : List Expr} {t t' : TA} (h : PA X es t) (i : ∀ σ H Q, t' σ H Q → t σ H Q) : PA X es t' := ⟨fun p pins s σ H Q I q => h.run p pins s σ H Q I (i σ H Q q)⟩
theorem _root_.L2.PS.imp {X : Cx} {e : Stmt} {t t' : TS} (h : PS X e t) (i : ∀ D σ H, t' D σ H → t D σ H) : PS X e t' := ⟨fun pins s σ H D I q => h.run pins s σ H D I (i D σ H q)⟩
theorem _root_.L2.PSs.imp {X : Cx} {e : List Stmt} {t t' : TS} (h : PSs X e t) (i : ∀ D σ H, t' D σ H → t D σ H) : PSs X e t' := ⟨fun pins s σ H D I q => h.run pins s σ H D I (i D σ H q)⟩

variable {X : Cx}
abbrev TmX (X : Cx) (m : List (Option D) → M D) : TE := Tm X.K X.w (Rp X.K X.w) m
abbrev TmT (X : Cx) (m : List (Option D) → M Bool) : TT := Tm X.K X.w RB m
abbrev TmL (X : Cx) (m : List (Option D) → M (List D)) : TA := Tm X.K X.w (RpL X.K X.w) m

theorem q_slot {i : Nat} {x : Str} {pos : Pos} (hN : X.N[i]? = some x) (hv : Vis X.env.scope x) (hd : (x == ("__debug__" : Str)) = false) (hcd : (x == ("__classdict__" : Str)) = false) : PE X (.Name x pos) (TmX X fun ρ => getE ρ i) :=
  (pe_var hN hv hd hcd).imp fun σ H Q ⟨ρ, as, ex, st, wd, er, h⟩ => by
    dsimp only [getE] at h
    cases e : ρ[i]? with
    | none => rw [e] at h; exact False.elim h
    | some o =>
      cases o with
      | none => rw [e] at h; exact False.elim h
      | some d =>
        rw [e] at h
        obtain ⟨v, a, b⟩ := er.2 i d e
        exact ⟨v, a, h.pure wd b⟩
theorem q_val {e : Expr} {d : D} {v : V} (h : PE X e (tC v)) (r : ∀ as G, Rp X.K X.w as G d v) : PE X e (TmX X fun _ => M.pure d) :=
  h.imp fun σ H Q ⟨ρ, as, ex, st, wd, er, h⟩ => h.pure wd (r as _)

theorem two {α β γ δ : Type} {R1 : List Addr → Hp → α → β → Prop} {R2' : List Addr → Hp → γ → δ → Prop} {ma : List (Option D) → M α} {mb : List (Option D) → M γ} {f : α → γ → M D} {K : PySem.W.Frag} {w : World} {σ : L2.St} {H : Hp} {Q : VK}
    (m1 : ∀ {as as' : List Addr} {G G' : Hp} {d : α} {v : β}, as <+: as' → Same G G' → R1 as G d v → R1 as' G' d v)
    (h : Tm K w (Rp K w) (fun ρ => M.bind (ma ρ) fun x => M.bind (mb ρ) fun y => f x y) σ H Q) :
    Tm K w R1 ma σ H fun x H1 => Tm K w R2' mb σ H1 fun y H2 => ∃ a b as ex st, Wd K w as ex H2 st ∧ R1 as (gH as ex H2) a x ∧ R2' as (gH as ex H2) b y ∧ Aft K w (Rp K w) as ex H2 (f a b st) Q := by
  obtain ⟨ρ, as, ex, st, wd, er, h⟩ := h
  refine ⟨ρ, as, ex, st, wd, er, (Aft.bind (R := R1) er h).mono fun x H1 ⟨a, st1, as1, _, md, h1⟩ => ?_⟩
  refine ⟨ρ, as1, ex, st1, md.wd, md.env, (Aft.bind (R := R2') md.env h1).mono fun y H2 ⟨b, st2, as2, _, md2, h2⟩ => ?_⟩
  exact ⟨a, b, as2, ex, st2, md2.wd, m1 md2.ext.pre md2.ext.same md.rp, md2.rp, h2⟩
theorem one {α β : Type} {R1 : List Addr → Hp → α → β → Prop} {ma : List (Option D) → M α} {f : α → M D} {K : PySem.W.Frag} {w : World} {σ : L2.St} {H : Hp} {Q : VK}
    (h : Tm K w (Rp K w) (fun ρ => M.bind (ma ρ) f) σ H Q) :
    Tm K w R1 ma σ H fun x H1 => ∃ a as ex st, Wd K w as ex H1 st ∧ R1 as (gH as ex H1) a x ∧ Aft K w (Rp K w) as ex H1 (f a st) Q := by
  obtain ⟨ρ, as, ex, st, wd, er, h⟩ := h
  exact ⟨ρ, as, ex, st, wd, er, (Aft.bind (R := R1) er h).mono fun x H1 ⟨a, st1, as1, _, md, h1⟩ => ⟨a, as1, ex, st1, md.wd, md.rp, h1⟩⟩

def r2Of (X : Cx) (f : D → D → Option D) : R2 := fun x y H Q => ∃ a b d as ex st, Wd X.K X.w as ex H st ∧ Rp X.K X.w as (gH as ex H) a x ∧ Rp X.K X.w as (gH as ex H) b y ∧ f a b = some d ∧
  ∀ as' H' v, Ext as H as' H' → Wd X.K X.w as' ex H' st → Rp X.K X.w as' (gH as' ex H') d v → Q v H'
theorem q_op {o : Operator} {o' : Bop} {a b : Expr} {ma mb : List (Option D) → M D} {pos : Pos} (hop : OpR X (binaryOp o) (r2Of X (opB o'))) (ha : PE X a (TmX X ma)) (hb : PE X b (TmX X mb)) :
    PE X (.BinOp a o b pos) (TmX X fun ρ => M.bind (ma ρ) fun x => M.bind (mb ρ) fun y => M.ofO (opB o' x y)) :=
  (pe_op hop ha hb).imp fun σ H Q h => by
    obtain ⟨ρ, as, ex, st, wd, er, h⟩ := two (R1 := Rp X.K X.w) (R2' := Rp X.K X.w) (fun p s r => Rp.mono p s r) h
    refine ⟨ρ, as, ex, st, wd, er, h.mono fun x H1 ⟨ρ, as, ex, st, wd, er, h⟩ => ⟨ρ, as, ex, st, wd, er, h.mono fun y H2 ⟨a, b, as, ex, st, wd, ra, rb, h⟩ => ?_⟩⟩
    obtain ⟨d, e, h⟩ := h.ofO
    exact ⟨a, b, d, as, ex, st, wd, ra, rb, e, h⟩
end Q
end
section
set_option Elab.async false
set_option linter.all false
set_option maxRecDepth 100000
set_option maxHeartbeats 2000000
namespace Q
open PySem PySem.Spec PyProof.Rows L2

def T.slots : T → List Nat
  | .slot i => [i]
  | .tup t => t.slots
  | .nil => []
  | .cons t r => t.slots ++ r.slots
def Agr (l : List Nat) (σ σ' : L2.St) : Prop := σ'.length = σ.length ∧ ∀ i : Nat, i ∉ l → σ'[i]? = σ[i]?
theorem Agr.refl (l : List Nat) (σ : L2.St) : Agr l σ σ := ⟨rfl, fun _ _ => rfl⟩
theorem Agr.trans {l l' : List Nat} {σ σ' σ2 : L2.St} (a : Agr l σ σ') (b : Agr l' σ' σ2) : Agr (l ++ l') σ σ2 :=
  ⟨b.1.trans a.1, fun i h => (b.2 i fun z => h (List.mem_append_right _ z)).trans (a.2 i fun z => h (List.mem_append_left _ z))⟩
theorem Agr.set (σ : L2.St) (i : Nat) (v : Option V) : Agr [i] σ (σ.set i v) := ⟨by simp, fun j h => List.getElem?_set_ne fun z => h (by simp [z])⟩
theorem wipe_get (σ : L2.St) : ∀ (vs : List Nat) (i : Nat), (wipe σ vs)[i]? = if i ∈ vs then (σ[i]?).map (fun _ => none) else σ[i]?
  | [], i => by simp [wipe]
  | v :: vs, i => by
    show ((wipe σ vs).set v none)[i]? = _
    rw [List.getElem?_set]
    by_cases h : v = i
    · subst h
      have := wipe_get σ vs v
      have hl := wipe_length σ vs
      by_cases hv : v < σ.length
      · simp [hl, hv]
      · simp [hl, hv]
    · rw [if_neg h, wipe_get σ vs i]
      have : (i ∈ v :: vs) ↔ i ∈ vs := by simp [Ne.symm h]
      simp [this]
theorem wipe_agr {l vs : List Nat} {σ σ' : L2.St} (h : Agr l (wipe σ vs) σ') (hl : ∀ i ∈ l, i ∈ vs) : wipe σ' vs = wipe σ vs := by
  refine List.ext_getElem? fun i => ?_
  rw [wipe_get, wipe_get]
  by_cases hi : i ∈ vs
  · rw [if_pos hi, if_pos hi]
    have e : σ'.length = σ.length := by rw [h.1, wipe_length]
    by_cases hj : i < σ.length
    · rw [List.getElem?_eq_getElem hj, List.getElem?_eq_getElem (by omega)]
      rfl
    · rw [List.getElem?_eq_none (by omega), List.getElem?_eq_none (by omega)]
  · rw [if_neg hi, if_neg hi, h.2 i fun z => hi (hl i z), wipe_get, if_neg hi]
section
variable (K : PySem.W.Frag) (w : World)
def AftS (as ex : List Addr) (H : Hp) (r : RS) (D : Ends) : Prop := match r with
  | .ok .next ρ st => ∀ as' H' σ, Ext as H as' H' → Wd K w as' ex H' st → EnvR K w as' (gH as' ex H') ρ σ → D.nx σ H'
  | .ok .brk ρ st => ∀ as' H' σ, Ext as H as' H' → Wd K w as' ex H' st → EnvR K w as' (gH as' ex H') ρ σ → D.bk σ H'
  | .ok .cont ρ st => ∀ as' H' σ, Ext as H as' H' → Wd K w as' ex H' st → EnvR K w as' (gH as' ex H') ρ σ → D.ct σ H'
  | .ok (.ret d) ρ st => ∀ as' H' v, Ext as H as' H' → Wd K w as' ex H' st → Rp K w as' (gH as' ex H') d v → D.rt v H'
  | .err _ _ _ => False
  | .stuck => False
def TmS (m : MS) : TS := fun D σ H => ∃ ρ as ex st, Wd K w as ex H st ∧ EnvR K w as (gH as ex H) ρ σ ∧ AftS K w as ex H (m ρ st) D
def RT (as : List Addr) (G : Hp) (d : D) (v : V) : Prop := ∃ a ds vs, d = .tup ds ∧ v = .ref a ∧ SqT K G a vs ∧ RpL K w as G ds vs
def TmG (R : List Addr → Hp → D → V → Prop) (t : T) : TG := fun v σ H Q => ∃ ρ as ex st d ρ', Wd K w as ex H st ∧ EnvR K w as (gH as ex H) ρ σ ∧ R as (gH as ex H) d v ∧ bindT t d ρ = some ρ' ∧ ∀ σ', EnvR K w as (gH as ex H) ρ' σ' → Agr t.slots σ σ' → Q σ' H
def TmGs (t : T) : TGs := fun vs σ H Q => ∃ ρ as ex st ds ρ', Wd K w as ex H st ∧ EnvR K w as (gH as ex H) ρ σ ∧ RpL K w as (gH as ex H) ds vs ∧ bindT.go t ds ρ = some ρ' ∧ ∀ σ', EnvR K w as (gH as ex H) ρ' σ' → Agr t.slots σ σ' → Q σ' H
end
section
variable {K : PySem.W.Frag} {w : World} {as as' ex : List Addr} {H H' : Hp} {σ : L2.St} {ρ : List (Option D)} {st st' : List D} {D D' : Ends}
theorem AftS.ext {r : RS} (e : Ext as H as' H') (h : AftS K w as ex H r D) : AftS K w as' ex H' r D := by
  cases r with
  | ok f ρ st => cases f <;> exact fun as2 H2 v e2 x r => h as2 H2 v (e.trans e2) x r
  | err x ρ st => exact h
  | stuck => exact h
theorem AftS.lift {α β : Type} {R : List Addr → Hp → α → β → Prop} {m : List (Option Q.D) → M α} {k : α → MS} (ev : EnvR K w as (gH as ex H) ρ σ) (h : AftS K w as ex H (liftE m k ρ st) D) :
    Aft K w R as ex H (m ρ st) (fun v H1 => ∃ d st1 as1, m ρ st = .ok d st1 ∧ Mid K w R as ex H σ ρ d st1 v as1 H1 ∧ AftS K w as1 ex H1 (k d ρ st1) D) := by
  unfold liftE at h
  cases e : m ρ st with
  | ok d st1 =>
    rw [e] at h
    exact fun as1 H1 v x y z => ⟨d, st1, as1, rfl, ⟨x, y, ev.mono x.pre x.same, z⟩, h.ext x⟩
  | err x st1 =>
    rw [e] at h
    exact h
  | stuck =>
    rw [e] at h
    exact h
theorem AftS.andThen {r : RS} {k : MS} (h : AftS K w as ex H (Q.andThen r k) D) : AftS K w as ex H r { D with nx := TmS K w k D } := by
  cases r with
  | ok f ρ st =>
    cases f with
    | next => exact fun as2 H2 σ2 e2 x r => ⟨ρ, as2, ex, st, x, r, AftS.ext e2 h⟩
    | _ => exact h
  | err x ρ st => exact h
  | stuck => exact h
theorem AftS.mono {r : RS} (h : AftS K w as ex H r D) (h1 : ∀ σ H, D.nx σ H → D'.nx σ H) (h2 : ∀ v H, D.rt v H → D'.rt v H) (h3 : ∀ σ H, D.bk σ H → D'.bk σ H) (h4 : ∀ σ H, D.ct σ H → D'.ct σ H) : AftS K w as ex H r D' := by
  cases r with
  | ok f ρ st =>
    cases f with
    | next => exact fun as2 H2 v e2 x r => h1 _ _ (h as2 H2 v e2 x r)
    | ret d => exact fun as2 H2 v e2 x r => h2 _ _ (h as2 H2 v e2 x r)
    | brk => exact fun as2 H2 v e2 x r => h3 _ _ (h as2 H2 v e2 x r)
    | cont => exact fun as2 H2 v e2 x r => h4 _ _ (h as2 H2 v e2 x r)
  | err x ρ st => exact h
  | stuck => exact h
end

section
variable {X : Cx} {cl : Str → List D → M D} {pos : Pos}
abbrev TmSX (X : Cx) (m : MS) : TS := TmS X.K X.w m
abbrev TmGX (X : Cx) (t : T) : TG := TmG X.K X.w (Rp X.K X.w) t
abbrev TmGT (X : Cx) (t : T) : TG := TmG X.K X.w (RT X.K X.w) t
theorem g_slot {i : Nat} {x : Str} (hN : X.N.Nodup) (hi : X.N[i]? = some x) (hx : Loc X.env.scope x) (hf : X.fn x = true ∨ X.env.scope.names.lookup x = some .local) : PG X (.Name x pos) (TmGX X (.slot i)) :=
  ⟨fun pins s σ H v u Q I r ⟨ρ, as, ex, st, d, ρ', wd, er, rd, e, h⟩ => (pg_name hN hi hx hf).run pins s σ H v u Q I r (by
    cases e
    exact h _ (er.set rd) (Agr.set ..))⟩
theorem gs_nil : PGs X [] (TmGs X.K X.w .nil) :=
  ⟨fun pins s σ H vs us Q I r ⟨ρ, as, ex, st, ds, ρ', wd, er, rd, e, h⟩ => pgs_nil.run pins s σ H vs us Q I r (by
    cases rd with
    | nil =>
      cases e
      exact ⟨rfl, h _ er (Agr.refl ..)⟩
    | cons a b => cases e)⟩
theorem gs_cons {e : Expr} {es : List Expr} {t u : T} (h1 : PG X e (TmGX X t)) (h2 : PGs X es (TmGs X.K X.w u)) (hs : (assignEach (e :: es) X.env).map (·.2) = assign e X.env :: (assignEach es X.env).map (·.2) := by rfl) : PGs X (e :: es) (TmGs X.K X.w (.cons t u)) :=
  ⟨fun pins s σ H vs us Q I r ⟨ρ, as, ex, st, ds, ρ', wd, er, rd, e, h⟩ => (pgs_cons h1 h2 hs).run pins s σ H vs us Q I r (by
    cases rd with
    | nil => cases e
    | @cons d ds v vs a b =>
      have e : (match bindT t d ρ with | some ρ' => bindT.go u ds ρ' | none => none) = some ρ' := e
      cases e1 : bindT t d ρ with
      | none => rw [e1] at e; cases e
      | some ρ1 =>
        rw [e1] at e
        exact ⟨_, _, rfl, ρ, as, ex, st, d, ρ1, wd, er, a, e1, fun σ1 er1 a1 => ⟨ρ1, as, ex, st, ds, ρ', wd, er1, b, e, fun σ2 er2 a2 => h σ2 er2 (a1.trans a2)⟩⟩)⟩
def T.len : T → Nat
  | .cons _ r => r.len + 1
  | _ => 0
theorem go_len : ∀ (t : T) (ds : List D) (ρ ρ' : List (Option D)), bindT.go t ds ρ = some ρ' → ds.length = t.len
  | .nil, [], _, _, _ => rfl
  | .nil, _ :: _, _, _, h => by cases h
  | .cons t u, [], _, _, h => by cases h
  | .cons t u, d :: ds, ρ, ρ', h => by
    have h : (match bindT t d ρ with | some ρ' => bindT.go u ds ρ' | none => none) = some ρ' := h
    cases e1 : bindT t d ρ with
    | none => rw [e1] at h; cases h
    | some ρ1 =>
      rw [e1] at h
      rw [List.length_cons, go_len u ds ρ1 ρ' h]
      rfl
  | .slot _, _, _, _, h => by cases h
  | .tup _, _, _, _, h => by cases h
theorem g_tupT {es : List Expr} {k : Nat} {t : T} (hc : X.calm = true) (h : PGs X es (TmGs X.K X.w t)) (hn : (assignEach es X.env).length = t.len := by rfl) (hst : (assignEach es X.env).findIdx? (·.1) = none := by rfl) : PG X (.Tuple es k pos) (TmGT X (.tup t)) :=
  ⟨fun pins s σ H v u Q I r ⟨ρ, as, ex, st, d, ρ', wd, er, ⟨a, ds, vs, ed, ev, hs, hr⟩, e, hq⟩ => (pg_tup (n := t.len) hc h hn hst).run pins s σ H v u Q I r (by
    subst ed
    have e : bindT.go t ds ρ = some ρ' := e
    exact ⟨_, _, ev, gH_same.seqT hs, by rw [hr.length]; exact go_len t ds ρ ρ' e, ρ, as, ex, st, ds, ρ', wd, er, hr, e, hq⟩)⟩
theorem g_tup {es : List Expr} {k : Nat} {t : T} (hc : X.calm = true) (h : PGs X es (TmGs X.K X.w t)) (hn : (assignEach es X.env).length = t.len := by rfl) (hst : (assignEach es X.env).findIdx? (·.1) = none := by rfl) : PG X (.Tuple es k pos) (TmGX X (.tup t)) :=
  ⟨fun pins s σ H v u Q I r ⟨ρ, as, ex, st, d, ρ', wd, er, rd, e, hq⟩ => (g_tupT hc h hn hst).run pins s σ H v u Q I r (by
    cases d with
    | tup ds =>
      cases rd with
      | tup hs hr => exact ⟨ρ, as, ex, st, _, ρ', wd, er, ⟨_, _, _, rfl, rfl, hs.T, hr⟩, e, hq⟩
    | _ => cases e)⟩
theorem s_nil : PSs X [] (TmSX X (evS cl .nil)) := pss_nil.imp fun D σ H ⟨ρ, as, ex, st, wd, er, h⟩ => h as H σ (Ext.refl _ _) wd er
theorem s_set {st : Stmt} {rest : List Stmt} {t : T} {e : E} {r : S} (h : PS X st (tAsg (TmX X (evE cl e)) (TmGX X t))) (hr : PSs X rest (TmSX X (evS cl r))) : PSs X (st :: rest) (TmSX X (evS cl (.set t e r))) :=
  (pss_cons h hr).imp fun D σ H ⟨ρ, as, ex, st, wd, er, h⟩ => by
    rw [evS] at h
    refine ⟨ρ, as, ex, st, wd, er, (AftS.lift (R := Rp X.K X.w) er h).mono fun v H1 ⟨d, st1, as1, _, md, h1⟩ => ?_⟩
    cases e1 : bindT t d ρ with
    | none => rw [e1] at h1; exact h1.elim
    | some ρ1 =>
      rw [e1] at h1
      exact ⟨ρ, as1, ex, st1, d, ρ1, md.wd, md.env, md.rp, e1, fun σ1 er1 _ => ⟨ρ1, as1, ex, st1, md.wd, er1, h1⟩⟩
theorem s_expr {e' : Expr} {rest : List Stmt} {e : E} {r : S} (h : PE X e' (TmX X (evE cl e))) (hr : PSs X rest (TmSX X (evS cl r))) (hs : swapsWith e' none pos.line X.env = pure false := by rfl) : PSs X (.Expr e' pos :: rest) (TmSX X (evS cl (.expr e r))) :=
  (pss_cons (ps_expr h hs) hr).imp fun D σ H ⟨ρ, as, ex, st, wd, er, h⟩ => by
    rw [evS] at h
    exact ⟨ρ, as, ex, st, wd, er, (AftS.lift (R := Rp X.K X.w) er h).mono fun v H1 ⟨d, st1, as1, _, md, h1⟩ => ⟨ρ, as1, ex, st1, md.wd, md.env, h1⟩⟩
theorem s_doc {x : Str} {j : Nat} {pos' : Pos} {rest : List Stmt} {t : TS} (hr : PSs X rest t) : PSs X (.Expr (.Constant (.str x) j pos) pos' :: rest) t :=
  (pss_cons ps_doc hr).imp fun D σ H h => h
theorem s_ret {e' : Expr} {rest : List Stmt} {e : E} (h : PE X e' (TmX X (evE cl e))) (hr : PSs X rest tNever) : PSs X (.Return (some e') pos :: rest) (TmSX X (evS cl (.ret e))) :=
  (pss_cons (ps_ret h) hr).imp fun D σ H ⟨ρ, as, ex, st, wd, er, h⟩ => by
    rw [evS] at h
    exact ⟨ρ, as, ex, st, wd, er, (AftS.lift (R := Rp X.K X.w) er h).mono fun v H1 ⟨d, st1, as1, _, md, h1⟩ => h1 as1 H1 v (Ext.refl _ _) md.wd md.rp⟩
theorem s_retN {rest : List Stmt} (hr : PSs X rest tNever) : PSs X (.Return none pos :: rest) (TmSX X (evS cl .retN)) :=
  (pss_cons ps_retN hr).imp fun D σ H ⟨ρ, as, ex, st, wd, er, h⟩ => h as H .non (Ext.refl _ _) wd .non
theorem s_if {c : Expr} {a b rest : List Stmt} {ec : E} {ea eb r : S} (hc : PT X c (tB (TmX X (evE cl ec)))) (ha : PSs X a (TmSX X (evS cl ea))) (hb : PSs X b (TmSX X (evS cl eb))) (hr : PSs X rest (TmSX X (evS cl r))) :
    PSs X (.If c a b pos :: rest) (TmSX X (evS cl (.iff ec ea eb r))) :=
  (pss_cons (ps_if hc ha hb) hr).imp fun D σ H ⟨ρ, as, ex, st, wd, er, h⟩ => by
    rw [evS] at h
    refine ⟨ρ, as, ex, st, wd, er, (AftS.lift (R := Rp X.K X.w) er h).mono fun v H1 ⟨d, st1, as1, _, md, h1⟩ => ?_⟩
    cases d with
    | bl k =>
      have rp := md.rp
      cases rp
      cases k with
      | true => exact ⟨true, rfl, by dsimp only; rw [if_pos rfl]; exact ⟨ρ, as1, ex, st1, md.wd, md.env, AftS.andThen h1⟩⟩
      | false => exact ⟨false, rfl, by dsimp only; rw [if_neg Bool.false_ne_true]; exact ⟨ρ, as1, ex, st1, md.wd, md.env, AftS.andThen h1⟩⟩
    | _ => exact h1.elim
theorem s_brk {rest : List Stmt} (hr : PSs X rest tNever) : PSs X (.Break pos :: rest) (TmSX X (evS cl .brk)) :=
  (pss_cons ps_break hr).imp fun D σ H ⟨ρ, as, ex, st, wd, er, h⟩ => h as H σ (Ext.refl _ _) wd er
theorem s_cont {rest : List Stmt} (hr : PSs X rest tNever) : PSs X (.Continue pos :: rest) (TmSX X (evS cl .cont)) :=
  (pss_cons ps_continue hr).imp fun D σ H ⟨ρ, as, ex, st, wd, er, h⟩ => h as H σ (Ext.refl _ _) wd er
end
end Q
end
section
set_option Elab.async false
set_option linter.all false
set_option maxRecDepth 100000
set_option maxHeartbeats 1000000
namespace Q
namespace D
theorem cmpA_swap (a b : Nat) : cmpA b a = (cmpA a b).swap := by
  unfold cmpA
  rcases Nat.lt_trichotomy a b with h | h | h
  · have h2 : ¬ b < a := by omega
    simp [Nat.blt_eq, h, h2]
  · subst h; simp [Nat.blt_eq]
  · have h2 : ¬ a < b := by omega
    simp [Nat.blt_eq, h, h2]
theorem cmpA_le {a b : Nat} : cmpA a b ≠ .gt ↔ a ≤ b := by
  unfold cmpA
  rcases Nat.lt_trichotomy a b with h | h | h
  · simp [Nat.blt_eq, h]; omega
  · subst h; simp [Nat.blt_eq]
  · have h2 : ¬ a < b := by omega
    simp [Nat.blt_eq, h, h2]
theorem cmpA_eq {a b : Nat} : cmpA a b = .eq ↔ a = b := by
  unfold cmpA
  rcases Nat.lt_trichotomy a b with h | h | h
  · simp [Nat.blt_eq, h]; omega
  · subst h; simp [Nat.blt_eq]
  · have h2 : ¬ a < b := by omega
    simp [Nat.blt_eq, h, h2]; omega
theorem cmpI_swap (a b : Int) : cmpI b a = (cmpI a b).swap := by
  unfold cmpI
  rcases Int.lt_trichotomy a b with h | h | h
  · have h2 : ¬ b < a := by omega
    simp [h, h2]
  · subst h; simp
  · have h2 : ¬ a < b := by omega
    simp [h, h2]
theorem cmpI_le {a b : Int} : cmpI a b ≠ .gt ↔ a ≤ b := by
  unfold cmpI
  rcases Int.lt_trichotomy a b with h | h | h
  · simp [h]; omega
  · subst h; simp
  · have h2 : ¬ a < b := by omega
    simp [h, h2]
theorem cmpI_eq {a b : Int} : cmpI a b = .eq ↔ a = b := by
  unfold cmpI
  rcases Int.lt_trichotomy a b with h | h | h
  · simp [h]; omega
  · subst h; simp
  · have h2 : ¬ a < b := by omega
    simp [h, h2]; omega
def lexO {α : Type} (c : α → α → Ordering) : List α → List α → Ordering
  | [], [] => .eq
  | [], _ :: _ => .lt
  | _ :: _, [] => .gt
  | a :: as, b :: bs => match c a b with
    | .eq => lexO c as bs
    | .lt => .lt
    | .gt => .gt
theorem cmpN_lex : ∀ a b : List Nat, cmpN a b = lexO cmpA a b
  | [], [] => rfl
  | [], _ :: _ => rfl
  | _ :: _, [] => rfl
  | a :: as, b :: bs => by
    rw [cmpN, lexO, cmpN_lex as bs, cmpA]
    by_cases h1 : Nat.blt a b = true
    · simp [h1]
    · by_cases h2 : Nat.blt b a = true <;> simp [h1, h2]
theorem cmpTL_lex : ∀ a b : List D, cmpTL a b = lexO cmpT a b
  | [], [] => by rw [cmpTL, lexO]
  | [], _ :: _ => by rw [cmpTL, lexO]
  | _ :: _, [] => by rw [cmpTL, lexO]
  | a :: as, b :: bs => by
    rw [cmpTL, lexO, cmpTL_lex as bs]
    all_goals (cases cmpT a b <;> rfl)
theorem lexO_swap {α : Type} {c : α → α → Ordering} : ∀ a b : List α, (∀ x ∈ a, ∀ y ∈ b, c y x = (c x y).swap) → lexO c b a = (lexO c a b).swap
  | [], [], _ => rfl
  | [], _ :: _, _ => rfl
  | _ :: _, [], _ => rfl
  | a :: as, b :: bs, h => by
    rw [lexO, lexO, h a (by simp) b (by simp), lexO_swap as bs fun x hx y hy => h x (by simp [hx]) y (by simp [hy])]
    cases c a b <;> rfl
theorem lexO_eq {α : Type} {c : α → α → Ordering} : ∀ a b : List α, (∀ x ∈ a, ∀ y ∈ b, c x y = .eq → x = y) → lexO c a b = .eq → a = b
  | [], [], _, _ => rfl
  | [], _ :: _, _, h => by cases h
  | _ :: _, [], _, h => by cases h
  | a :: as, b :: bs, he, h => by
    rw [lexO] at h
    cases e : c a b with
    | eq =>
      rw [e] at h
      rw [he a (by simp) b (by simp) e, lexO_eq as bs (fun x hx y hy => he x (by simp [hx]) y (by simp [hy])) h]
    | lt => rw [e] at h; cases h
    | gt => rw [e] at h; cases h
structure Tr3 {α : Type} (c : α → α → Ordering) (x y z : α) : Prop where
  lt : c x y = .lt → c y z = .lt → c x z = .lt
  e1 : c x y = .eq → c x z = c y z
  e2 : c y z = .eq → c x z = c x y
theorem cmpA_lt {a b : Nat} : cmpA a b = .lt ↔ a < b := by
  unfold cmpA
  by_cases h : a < b
  · simp [Nat.blt_eq, h]
  · by_cases h2 : b < a <;> simp [Nat.blt_eq, h, h2]
theorem cmpI_lt {a b : Int} : cmpI a b = .lt ↔ a < b := by
  unfold cmpI
  by_cases h : a < b
  · simp [h]
  · by_cases h2 : b < a <;> simp [h, h2]
theorem tr_A (x y z : Nat) : Tr3 cmpA x y z := ⟨fun h1 h2 => cmpA_lt.mpr (Nat.lt_trans (cmpA_lt.mp h1) (cmpA_lt.mp h2)), fun h => by rw [cmpA_eq.mp h], fun h => by rw [cmpA_eq.mp h]⟩
theorem tr_I (x y z : Int) : Tr3 cmpI x y z := ⟨fun h1 h2 => cmpI_lt.mpr (Int.lt_trans (cmpI_lt.mp h1) (cmpI_lt.mp h2)), fun h => by rw [cmpI_eq.mp h], fun h => by rw [cmpI_eq.mp h]⟩
theorem lexO_tr {α : Type} {c : α → α → Ordering} : ∀ a b d : List α, (∀ x ∈ a, ∀ y ∈ b, ∀ z ∈ d, Tr3 c x y z) → Tr3 (lexO c) a b d
  | [], [], _, _ => ⟨fun h => (by cases h), fun _ => rfl, fun h => h⟩
  | [], _ :: _, [], _ => ⟨fun _ h => (by cases h), fun h => (by cases h), fun h => (by cases h)⟩
  | [], _ :: _, _ :: _, _ => ⟨fun _ _ => rfl, fun h => (by cases h), fun _ => rfl⟩
  | _ :: _, [], [], _ => ⟨fun h => (by cases h), fun h => (by cases h), fun _ => rfl⟩
  | _ :: _, [], _ :: _, _ => ⟨fun h => (by cases h), fun h => (by cases h), fun h => (by cases h)⟩
  | _ :: _, _ :: _, [], _ => ⟨fun _ h => (by cases h), fun _ => rfl, fun h => (by cases h)⟩
  | a :: as, b :: bs, d :: ds, h => by
    have t := h a (by simp) b (by simp) d (by simp)
    have ih := lexO_tr as bs ds (fun x hx y hy z hz => h x (by simp [hx]) y (by simp [hy]) z (by simp [hz]))
    refine ⟨?_, ?_, ?_⟩
    · rw [lexO, lexO, lexO]
      intro h1 h2
      cases e1 : c a b with
      | gt => rw [e1] at h1; cases h1
      | eq =>
        rw [e1] at h1
        rw [t.e1 e1]
        cases e2 : c b d with
        | gt => rw [e2] at h2; cases h2
        | eq => rw [e2] at h2; exact ih.lt h1 h2
        | lt => rfl
      | lt =>
        cases e2 : c b d with
        | gt => rw [e2] at h2; cases h2
        | eq => rw [t.e2 e2, e1]
        | lt => rw [t.lt e1 e2]
    · rw [lexO, lexO, lexO]
      intro h1
      cases e1 : c a b with
      | gt => rw [e1] at h1; cases h1
      | lt => rw [e1] at h1; cases h1
      | eq =>
        rw [e1] at h1
        rw [t.e1 e1, ih.e1 h1]
    · rw [lexO, lexO, lexO]
      intro h1
      cases e1 : c b d with
      | gt => rw [e1] at h1; cases h1
      | lt => rw [e1] at h1; cases h1
      | eq =>
        rw [e1] at h1
        rw [t.e2 e1, ih.e2 h1]
theorem cmpT_tag {a b : D} (h : tag a ≠ tag b) : cmpT a b = cmpA (tag a) (tag b) := by
  cases a <;> first | (cases b <;> first | (exact absurd rfl h) | rfl | (rw [cmpT] <;> rfl)) | rfl
theorem cmpT_int (a b : Int) : cmpT (.int a) (.int b) = cmpI a b := by rw [cmpT]
theorem cmpT_str (a b : PySem.Str) : cmpT (.str a) (.str b) = lexO cmpA a.cps.toList b.cps.toList := by rw [cmpT, ← cmpN_lex]
theorem cmpT_tup (a b : List D) : cmpT (.tup a) (.tup b) = lexO cmpT a b := by rw [cmpT, ← cmpTL_lex]
def dull (a : D) : Prop := tag a ≠ 2 ∧ tag a ≠ 3 ∧ tag a ≠ 4
theorem cmpT_dull {a b : D} (h : dull a) : cmpT a b = cmpA (tag a) (tag b) := by
  cases a <;> first | exact absurd rfl h.1 | exact absurd rfl h.2.1 | exact absurd rfl h.2.2 | (rw [cmpT] <;> (intros; first | rfl | simp_all))
theorem tag_int {a : D} (h : tag a = 2) : ∃ i, a = .int i := by cases a <;> first | exact ⟨_, rfl⟩ | cases h
theorem tag_str {a : D} (h : tag a = 3) : ∃ i, a = .str i := by cases a <;> first | exact ⟨_, rfl⟩ | cases h
theorem tag_tup {a : D} (h : tag a = 4) : ∃ i, a = .tup i := by cases a <;> first | exact ⟨_, rfl⟩ | cases h
theorem cmpT_lt_tag {a b : D} (h : tag a < tag b) : cmpT a b = .lt := by rw [cmpT_tag (Nat.ne_of_lt h)]; exact cmpA_lt.mpr h
theorem cmpT_gt_tag {a b : D} (h : tag b < tag a) : cmpT a b = .gt := by
  rw [cmpT_tag (Nat.ne_of_gt h), cmpA_swap, cmpA_lt.mpr h]
  rfl
theorem tag_of_lt {a b : D} (h : cmpT a b = .lt) : tag a ≤ tag b := by
  rcases Nat.lt_or_ge (tag b) (tag a) with g | g
  · rw [cmpT_gt_tag g] at h; cases h
  · exact g
theorem tag_of_eq {a b : D} (h : cmpT a b = .eq) : tag a = tag b := by
  rcases Nat.lt_trichotomy (tag a) (tag b) with g | g | g
  · rw [cmpT_lt_tag g] at h; cases h
  · exact g
  · rw [cmpT_gt_tag g] at h; cases h
theorem cmpT_swap : ∀ a b : D, cmpT b a = (cmpT a b).swap := by
  intro a b
  by_cases t : tag a = tag b
  · by_cases t2 : tag a = 2
    · obtain ⟨i, rfl⟩ := tag_int t2
      obtain ⟨j, rfl⟩ := tag_int (t.symm.trans t2)
      rw [cmpT_int, cmpT_int, cmpI_swap]
    by_cases t3 : tag a = 3
    · obtain ⟨i, rfl⟩ := tag_str t3
      obtain ⟨j, rfl⟩ := tag_str (t.symm.trans t3)
      rw [cmpT_str, cmpT_str, lexO_swap _ _ fun x _ y _ => cmpA_swap x y]
    by_cases t4 : tag a = 4
    · obtain ⟨i, rfl⟩ := tag_tup t4
      obtain ⟨j, rfl⟩ := tag_tup (t.symm.trans t4)
      rw [cmpT_tup, cmpT_tup]
      exact lexO_swap _ _ fun x hx y hy => cmpT_swap x y
    · rw [cmpT_dull ⟨t2, t3, t4⟩, cmpT_dull ⟨t ▸ t2, t ▸ t3, t ▸ t4⟩, cmpA_swap]
  · rw [cmpT_tag t, cmpT_tag (Ne.symm t), cmpA_swap]
termination_by a => sizeOf a
decreasing_by
  have := List.sizeOf_lt_of_mem hx
  simp_all
  omega
theorem cmpT_tr : ∀ a b d : D, Tr3 cmpT a b d := by
  intro a b d
  by_cases t : tag a = tag b ∧ tag b = tag d
  · obtain ⟨t, t'⟩ := t
    by_cases t2 : tag a = 2
    · obtain ⟨i, rfl⟩ := tag_int t2
      obtain ⟨j, rfl⟩ := tag_int (t.symm.trans t2)
      obtain ⟨k, rfl⟩ := tag_int t'.symm
      have r := tr_I i j k
      exact ⟨by rw [cmpT_int, cmpT_int, cmpT_int]; exact r.lt, by rw [cmpT_int, cmpT_int, cmpT_int]; exact r.e1, by rw [cmpT_int, cmpT_int, cmpT_int]; exact r.e2⟩
    by_cases t3 : tag a = 3
    · obtain ⟨i, rfl⟩ := tag_str t3
      obtain ⟨j, rfl⟩ := tag_str (t.symm.trans t3)
      obtain ⟨k, rfl⟩ := tag_str t'.symm
      have r := lexO_tr i.cps.toList j.cps.toList k.cps.toList fun x _ y _ z _ => tr_A x y z
      exact ⟨by rw [cmpT_str, cmpT_str, cmpT_str]; exact r.lt, by rw [cmpT_str, cmpT_str, cmpT_str]; exact r.e1, by rw [cmpT_str, cmpT_str, cmpT_str]; exact r.e2⟩
    by_cases t4 : tag a = 4
    · obtain ⟨i, rfl⟩ := tag_tup t4
      obtain ⟨j, rfl⟩ := tag_tup (t.symm.trans t4)
      obtain ⟨k, rfl⟩ := tag_tup t'.symm
      have r := lexO_tr (c := cmpT) i j k fun x hx y hy z hz => cmpT_tr x y z
      exact ⟨by rw [cmpT_tup, cmpT_tup, cmpT_tup]; exact r.lt, by rw [cmpT_tup, cmpT_tup, cmpT_tup]; exact r.e1, by rw [cmpT_tup, cmpT_tup, cmpT_tup]; exact r.e2⟩
    · have db : dull b := ⟨t ▸ t2, t ▸ t3, t ▸ t4⟩
      have r := tr_A (tag a) (tag b) (tag d)
      have ea : ∀ z, cmpT a z = cmpA (tag a) (tag z) := fun z => cmpT_dull ⟨t2, t3, t4⟩
      exact ⟨by rw [ea, ea, cmpT_dull db]; exact r.lt, by rw [ea, ea, cmpT_dull db]; exact r.e1, by rw [ea, ea, cmpT_dull db]; exact r.e2⟩
  · refine ⟨fun h1 h2 => ?_, fun h => ?_, fun h => ?_⟩
    · have l1 := tag_of_lt h1
      have l2 := tag_of_lt h2
      refine cmpT_lt_tag ?_
      rcases Nat.lt_or_ge (tag a) (tag b) with g | g
      · omega
      · have : tag a = tag b := by omega
        have : tag b ≠ tag d := fun e => t ⟨this, e⟩
        omega
    · have e := tag_of_eq h
      have n : tag b ≠ tag d := fun z => t ⟨e, z⟩
      rw [cmpT_tag n, cmpT_tag (e ▸ n), e]
    · have e := tag_of_eq h
      have n : tag a ≠ tag b := fun z => t ⟨z, e⟩
      rw [cmpT_tag n, cmpT_tag (e ▸ n), e]
termination_by a => sizeOf a
decreasing_by
  have := List.sizeOf_lt_of_mem hx
  simp_all
  omega
theorem kyL_mem : ∀ {xs : List D}, kyL xs = true → ∀ x ∈ xs, ky x = true
  | [], _, _, h => by cases h
  | a :: as, h, x, hx => by
    rw [kyL, Bool.and_eq_true] at h
    rcases List.mem_cons.mp hx with e | hx
    · rw [e]; exact h.1
    · exact kyL_mem h.2 x hx
theorem str_ext {a b : PySem.Str} (h : a.cps.toList = b.cps.toList) : a = b := by
  obtain ⟨⟨l⟩⟩ := a
  obtain ⟨⟨m⟩⟩ := b
  simp at h
  rw [h]
theorem cmpT_eq : ∀ a b : D, ky a = true → ky b = true → cmpT a b = .eq → a = b := by
  intro a b ha hb h
  have t := tag_of_eq h
  match a, ha with
  | .non, _ => cases b <;> first | rfl | cases t | cases hb
  | .int i, _ =>
    obtain ⟨j, rfl⟩ := tag_int t.symm
    rw [cmpT_int] at h
    rw [cmpI_eq.mp h]
  | .str i, _ =>
    obtain ⟨j, rfl⟩ := tag_str t.symm
    rw [cmpT_str] at h
    rw [str_ext (lexO_eq _ _ (fun x _ y _ e => cmpA_eq.mp e) h)]
  | .tup xs, ha =>
    obtain ⟨ys, rfl⟩ := tag_tup t.symm
    rw [cmpT_tup] at h
    have := lexO_eq xs ys (fun x hx y hy e => cmpT_eq x y (kyL_mem ha x hx) (kyL_mem hb y hy) e) h
    rw [this]
termination_by a => sizeOf a
decreasing_by
  have := List.sizeOf_lt_of_mem hx
  simp_all
  omega
theorem cmpT_self (a : D) : cmpT a a = .eq := by
  have h := cmpT_swap a a
  cases e : cmpT a a with
  | eq => rfl
  | lt => rw [e] at h; cases h
  | gt => rw [e] at h; cases h
mutual
theorem cmp_T : ∀ a b : D, ky a = true → ky b = true → ∀ o, cmp a b = some o → cmpT a b = o := by
  intro a b ha hb o h
  match a, b, ha, hb, h with
  | .int i, .int j, _, _, h => rw [cmp] at h; rw [cmpT_int]; exact Option.some.inj h
  | .str i, .str j, _, _, h => rw [cmp] at h; rw [cmpT_str, ← cmpN_lex]; exact Option.some.inj h
  | .tup xs, .tup ys, ha, hb, h =>
    rw [cmp] at h
    rw [cmpT_tup]
    exact cmpL_T xs ys ha hb o h
theorem cmpL_T : ∀ (xs ys : List D), kyL xs = true → kyL ys = true → ∀ o, cmpL xs ys = some o → lexO cmpT xs ys = o := by
  intro xs ys hx hy o h
  match xs, ys, hx, hy, h with
  | [], [], _, _, h => rw [cmpL] at h; exact Option.some.inj h
  | [], _ :: _, _, _, h => rw [cmpL] at h; exact Option.some.inj h
  | _ :: _, [], _, _, h => rw [cmpL] at h; exact Option.some.inj h
  | x :: xs, y :: ys, hx, hy, h =>
    rw [kyL, Bool.and_eq_true] at hx hy
    rw [cmpL] at h
    rw [lexO]
    cases e : beq x y with
    | true =>
      rw [e] at h
      rw [eq_of_beq x y e, cmpT_self]
      exact cmpL_T xs ys hx.2 hy.2 o h
    | false =>
      rw [e] at h
      have z := cmp_T x y hx.1 hy.1 o h
      rw [z]
      cases o with
      | eq =>
        rw [cmpT_eq x y hx.1 hy.1 z, beq_self] at e
        cases e
      | lt => rfl
      | gt => rfl
end
theorem ltT_iff {a b : D} : ltT a b = true ↔ cmpT a b = .lt := by
  unfold ltT
  cases cmpT a b <;> simp
theorem ltT_asym {a b : D} (h : ltT a b = true) : ltT b a = false := by
  rw [ltT_iff] at h
  unfold ltT
  rw [cmpT_swap, h]
  rfl
theorem ltT_tr {x y z : D} (h1 : ltT x y = false) (h2 : ltT y z = false) : ltT x z = false := by
  have t := cmpT_tr z y x
  cases e : ltT x z with
  | false => rfl
  | true =>
    rw [ltT_iff] at e
    have n1 : cmpT x y ≠ .lt := fun q => by rw [ltT_iff.mpr q] at h1; cases h1
    have n2 : cmpT y z ≠ .lt := fun q => by rw [ltT_iff.mpr q] at h2; cases h2
    rw [cmpT_swap] at n1 n2
    have e' : cmpT z x = .gt := by rw [cmpT_swap, e]; rfl
    cases e1 : cmpT y x with
    | gt => rw [e1] at n1; exact absurd rfl n1
    | eq => rw [t.e2 e1] at e'; rw [e'] at n2; exact absurd rfl n2
    | lt =>
      cases e2 : cmpT z y with
      | gt => rw [e2] at n2; exact absurd rfl n2
      | eq => rw [t.e1 e2, e1] at e'; cases e'
      | lt => rw [t.lt e2 e1] at e'; cases e'
abbrev Sorted (l : List D) : Prop := l.Pairwise fun x y => ltT y x = false
theorem insertBack_perm (a : D) : ∀ l, (insertBack a l).Perm (a :: l)
  | [] => .refl _
  | b :: bs => by
    rw [insertBack]
    cases ltT b a with
    | true => exact ((insertBack_perm a bs).cons b).trans (.swap a b bs)
    | false => exact .refl _
theorem isort_perm : ∀ l, (isort l).Perm l
  | [] => .refl _
  | a :: as => (insertBack_perm a (isort as)).trans ((isort_perm as).cons a)
theorem insertBack_sorted (a : D) : ∀ {l}, Sorted l → Sorted (insertBack a l)
  | [], _ => List.pairwise_singleton _ _
  | b :: bs, h => by
    rw [insertBack]
    have hb := List.pairwise_cons.mp h
    cases e : ltT b a with
    | true =>
      refine List.pairwise_cons.mpr ⟨fun y hy => ?_, insertBack_sorted a hb.2⟩
      rcases List.mem_cons.mp ((insertBack_perm a bs).mem_iff.mp hy) with z | z
      · rw [z]; exact ltT_asym e
      · exact hb.1 y z
    | false =>
      refine List.pairwise_cons.mpr ⟨fun y hy => ?_, h⟩
      rcases List.mem_cons.mp hy with z | z
      · rw [z]; exact e
      · exact ltT_tr (hb.1 y z) e
theorem isort_sorted : ∀ l, Sorted (isort l)
  | [] => .nil
  | a :: as => insertBack_sorted a (isort_sorted as)
theorem isort_length (l : List D) : (isort l).length = l.length := (isort_perm l).length_eq
theorem sorted_uniq : ∀ {l m : List D}, (∀ x ∈ l, ky x = true) → Sorted l → Sorted m → l.Perm m → l = m
  | [], m, _, _, _, p => (List.nil_perm.mp p).symm
  | x :: l, [], _, _, _, p => absurd p.length_eq (by simp)
  | x :: l, y :: m, k, hl, hm, p => by
    have km : ∀ z ∈ y :: m, ky z = true := fun z hz => k z (p.mem_iff.mpr hz)
    have e : x = y := by
      rcases List.mem_cons.mp (p.mem_iff.mp (List.mem_cons_self (a := x) (l := l))) with e | hx
      · exact e
      rcases List.mem_cons.mp (p.mem_iff.mpr (List.mem_cons_self (a := y) (l := m))) with e | hy
      · exact e.symm
      have h1 := (List.pairwise_cons.mp hm).1 x hx
      have h2 := (List.pairwise_cons.mp hl).1 y hy
      refine cmpT_eq x y (k x (by simp)) (km y (by simp)) ?_
      cases e : cmpT x y with
      | eq => rfl
      | lt => rw [ltT_iff.mpr e] at h1; cases h1
      | gt =>
        have : cmpT y x = .lt := by rw [cmpT_swap, e]; rfl
        rw [ltT_iff.mpr this] at h2; cases h2
    subst e
    rw [sorted_uniq (fun z hz => k z (by simp [hz])) (List.pairwise_cons.mp hl).2 (List.pairwise_cons.mp hm).2 p.cons_inv]
theorem isort_of {l m : List D} (k : ∀ x ∈ l, ky x = true) (h : Sorted m) (p : m.Perm l) : m = isort l :=
  sorted_uniq (fun x hx => k x (p.mem_iff.mp hx)) h (isort_sorted l) (p.trans (isort_perm l).symm)
end D
end Q
end
section
set_option Elab.async false
set_option linter.all false
set_option maxRecDepth 100000
set_option maxHeartbeats 2000000
namespace Q
open PySem PySem.Spec PyProof.Rows L2
variable {X : Cx}

theorem LIM_eq : LIM = sizeLine := by rw [sizeLine_eq]
theorem sizeOk_ok {α : Type} {n : Nat} {a b : α} (h : sizeOk n a = some b) : n ≤ sizeLine ∧ a = b := by
  unfold sizeOk at h
  cases e : Nat.ble n LIM with
  | false => rw [e] at h; cases h
  | true =>
    rw [e] at h
    refine ⟨?_, Option.some.inj h⟩
    rw [← LIM_eq]
    exact Nat.le_of_ble_eq_true e
abbrev Wn (X : Cx) (as ex : List Addr) (H : Hp) (st : List D) (d : D) (Q : VK) : Prop := ∀ as' H' v, Ext as H as' H' → Wd X.K X.w as' ex H' st → Rp X.K X.w as' (gH as' ex H') d v → Q v H'
section
variable {as ex : List Addr} {H : Hp} {st : List D} {ds : List D} {vs : List V} {Q : VK} {d : D} {v : V}
theorem Wn.here (wd : Wd X.K X.w as ex H st) (h : Wn X as ex H st d Q) (r : Rp X.K X.w as (gH as ex H) d v) : Q v H := h as H v (Ext.refl _ _) wd r
theorem Wn.tup (wd : Wd X.K X.w as ex H st) (h : Wn X as ex H st (.tup ds) Q) (r : RpL X.K X.w as (gH as ex H) ds vs) : ∀ p o, H p = none → o.cls = .type "tuple" → o.dict = none → Q (.ref p) (upd H p (.frz o (.tup vs))) := fun p o hp hc hd =>
  h as _ _ (Ext.laid hp) (wd.laid hp) (.tup (.inl ⟨o, gH_laid wd hp, hc, hd⟩) (r.mono (List.prefix_refl _) (Ext.laid hp).same))
theorem Wn.lst (wd : Wd X.K X.w as ex H st) (h : Wn X as ex H st (.lst ds) Q) (r : RpL X.K X.w as (gH as ex H) ds vs) : ∀ p, H p = none → Q (.ref p) (upd H p (.lst vs)) := fun p hp =>
  h as _ _ (Ext.laid hp) (wd.laid hp) (.lst (gH_laid wd hp) (r.mono (List.prefix_refl _) (Ext.laid hp).same))
end
theorem gSqT {K : PySem.W.Frag} {as ex : List Addr} {H : Hp} {a : Addr} {xs : List V} (h : SqT K (gH as ex H) a xs) : SqT K H a xs := (gH_same (as := as) (ex := ex)).seqT h
theorem gSqL {K : PySem.W.Frag} {as ex : List Addr} {H : Hp} {a : Addr} {xs : List V} (h : SqL K (gH as ex H) a xs) : SqL K H a xs := (gH_same (as := as) (ex := ex)).seq h
theorem reps_eq {α : Type} (xs : List α) : ∀ n, reps xs n = (List.replicate n xs).flatten
  | 0 => rfl
  | n + 1 => by rw [List.replicate_succ, List.flatten_cons, ← reps_eq xs n]; rfl


abbrev tupOb (its : List Value) : Obj := { cls := .type "tuple", data := .seq its.toArray }
abbrev NewT (H : Hp) (xs : List V) (Q : VK) : Prop := ∀ p o, H p = none → o.cls = .type "tuple" → o.dict = none → Q (.ref p) (upd H p (.frz o (.tup xs)))
section
variable {pins : List (Addr × Obj)} {σ : L2.St} {H : Hp} {s : Shared} {Q : VK} {xs : List V} {its : List Value}
theorem laidN (I : Inv X pins σ H s) (r : Vals xs its) (hz : xs.length ≤ sizeLine) (q : NewT H xs Q) : EP X pins σ Q (.ref s.heap.objs.size) { s with heap := s.heap.push (tupOb its) } := by
  have kp : ∀ b u, s.heap.get? b = some u → (s.heap.push (tupOb its)).get? b = some u := fun b u e => Heap.get?_push_of_some _ e
  have here : (s.heap.push (tupOb its)).get? s.heap.objs.size = some (tupOb its) := Heap.get?_push_size _ rfl
  exact ⟨.ref s.heap.objs.size, _, I.laid (t' := s.toks) (o := .frz (tupOb its) (.tup xs)) kp (Nat.le_refl _) ⟨here, hz, its, r, ⟨_, here, rfl, _, rfl⟩⟩, rfl, q _ (tupOb its) (I.hok.fresh (Nat.le_refl _)) rfl rfl⟩
end
def rCatN (K : PySem.W.Frag) : R2 := fun x y H Q => ∃ a b xs ys, x = .ref a ∧ y = .ref b ∧ SqT K H a xs ∧ SqT K H b ys ∧ xs.length + ys.length ≤ sizeLine ∧
  (xs = [] → Q (.ref b) H) ∧ (xs ≠ [] → ys = [] → Q (.ref a) H) ∧ (xs ≠ [] → ys ≠ [] → NewT H (xs ++ ys) Q)
theorem op_catN : OpR X (binaryOp .Add) (rCatN X.K) := by
  rintro pins s σ H x y v u Q I rx ry ⟨a, b, xs, ys, rfl, rfl, ha, hb, hz, q0, q1, q2⟩
  cases rx
  cases ry
  obtain ⟨l1, r1, p1, _⟩ := I.tuple ha
  obtain ⟨l2, r2, p2, _⟩ := I.tuple hb
  by_cases hx : xs = []
  · subst hx
    cases r1
    exact cat_tup0 p1 p2 ⟨.ref b, H, I, rfl, q0 rfl⟩
  · have hl : l1.length + l2.length ≤ sizeLine := by rw [← r1.length, ← r2.length]; exact hz
    refine HT.cat_tup p1 p2 (fun z => hx (r1.nil_iff.mp z)) (fun z => ⟨.ref a, H, I, rfl, q1 hx (r2.nil_iff.mp z)⟩) (fun z => ?_) hl
    exact laidN I (r1.append r2) (by rw [List.length_append]; exact hz) (q2 hx fun w => z (r2.nil_iff.mpr w))
def rSlN (K : PySem.W.Frag) : V → Option Int → Option Int → Hp → VK → Prop := fun x lo hi H Q => ∃ a xs, x = .ref a ∧ SqT K H a xs ∧
  (HT.sIx xs.length 0 lo = 0 ∧ HT.sIx xs.length xs.length hi = xs.length → Q (.ref a) H) ∧ (¬ (HT.sIx xs.length 0 lo = 0 ∧ HT.sIx xs.length xs.length hi = xs.length) → NewT H (cutV xs lo hi) Q)
theorem sl_tupN : SlR X (rSlN X.K) := by
  rintro pins s σ H x v vl vu lo hi sl Q I rx hs pl pu ⟨a, xs, rfl, hx, q1, q2⟩
  cases rx
  obtain ⟨l, r, ht, hz⟩ := I.tuple hx
  have hlen : l.toArray.size = xs.length := by rw [List.size_toArray]; exact r.length.symm
  refine ⟨"tuple", _, PyProof.Rows.slot_tuple_getitem.lookup, ht.typeIs, ?_⟩
  by_cases hw : HT.sIx xs.length 0 lo = 0 ∧ HT.sIx xs.length xs.length hi = xs.length
  · exact getItem_tuple_whole ht hs pl pu (by rw [hlen]; exact hw) ⟨.ref a, H, I, rfl, q1 hw⟩
  · refine HT.getItem_tuple_cut ht hs pl pu (by rw [hlen]; exact hw) ?_ (by rw [hlen]; exact hz)
    rw [hlen]
    exact laidN I ((r.drop _).take _) (Nat.le_trans (cutV_length xs lo hi) hz) (q2 hw)
theorem call_tupleN : CallR X (.type "tuple") (fun xs H Q => ∃ p ys, xs = [.ref p] ∧ ((SqL X.K H p ys ∧ NewT H ys Q) ∨ (SqT X.K H p ys ∧ Q (.ref p) H))) := by
  rintro pins s σ H xs us Q I r ⟨p, ys, rfl, h⟩
  obtain ⟨u, rfl, rx⟩ := r.one
  cases rx
  rcases h with ⟨hq, q⟩ | ⟨hq, q⟩
  · obtain ⟨l, rl, pl, hz⟩ := I.list hq
    have hlen := rl.length
    refine call_tuple_list pl.isList (fun h' kp => ?_) (by rw [List.size_toArray]; omega)
    exact laidN (s := { s with heap := h' }) (I.kept (t' := s.toks) kp) rl hz q
  · obtain ⟨l, rl, pl, hz⟩ := I.tuple hq
    exact call_tuple_same pl ⟨.ref p, H, I, rfl, q⟩
def tTupN (t : TA) : TE := fun σ H Q => t σ H fun xs H1 => xs.length ≤ sizeLine ∧ NewT H1 xs Q
theorem pe_tupN {es : List Expr} {t : TA} {pos : Pos} {x1} (h : PA X es t) : PE X (.Tuple es x1 pos) (tTupN t) := by
  refine ⟨fun pins s σ H Q I hq => wpAny_Tuple_spliced (thn (h.run pos pins s σ H _ I hq) fun us s1 ⟨xs, H1, I1, r, z, q⟩ => ⟨by rw [← r.length]; exact z, ?_⟩)⟩
  exact laidN I1 r z q
def rRepN (K : PySem.W.Frag) : R2 := fun x y H Q => ∃ l k xs, x = .ref l ∧ y = .int k ∧ SqT K H l xs ∧ xs ≠ [] ∧ 2 ≤ k ∧ k ≤ 1000 ∧ xs.length ≤ 1000 ∧ NewT H (List.replicate k.toNat xs).flatten Q
theorem op_repN : OpR X (binaryOp .Mult) (rRepN X.K) := by
  rintro pins s σ H x y v u Q I rx ry ⟨l, k, xs, rfl, rfl, hT, hne, h1, h2, hz, q⟩
  cases rx
  obtain ⟨t, rfl⟩ := ry
  obtain ⟨its, r, ⟨⟨cls, dd, data, sl⟩, ho, hc, n, hd⟩, hs⟩ := I.tuple hT
  cases hc
  cases hd
  have hle : its.length = xs.length := r.length.symm
  have hn : its ≠ [] := fun e => by rw [e] at hle; exact hne (List.eq_nil_of_length_eq_zero hle.symm)
  have hi : its.toArray.isEmpty = false := by cases its with | nil => exact absurd rfl hn | cons a b => rfl
  have hsz0 : its.toArray.size = xs.length := by rw [List.size_toArray, hle]
  have a0 : ((xs.length : Nat) : Int) * k ≤ 1000 * k := Int.mul_le_mul_of_nonneg_right (by omega) (by omega)
  have hm : ((its.toArray.size : Nat) : Int) * k ≤ 1000000 := by rw [hsz0]; omega
  have a1 : k.toNat * xs.length ≤ 1000 * 1000 := Nat.mul_le_mul (by omega) hz
  have flen : (List.replicate k.toNat its).flatten.length ≤ sizeLine := by rw [PyProof.Rows.lm_len_rep_flat, hle, sizeLine_eq]; omega
  have c0 : (decide (k < -(2 ^ 63)) || decide (k ≥ 2 ^ 63)) = false := by rw [decide_eq_false (by omega), decide_eq_false (by omega)]; rfl
  have c1 : (its.toArray.isEmpty || k == 1) = false := by rw [hi, Bool.false_or]; exact beq_eq_false_iff_ne.mpr (by omega)
  have c2 : (decide (k ≤ 0) || its.toArray.isEmpty) = false := by rw [hi, Bool.or_false]; exact decide_eq_false (by omega)
  have c4 : Builtin.Tuple.tupleTooMany (((its.toArray.size : Nat) : Int) * k) = false := by unfold Builtin.Tuple.tupleTooMany; rw [sizeLine_eq]; exact decide_eq_false (by omega)
  have m := tuple_mulW l its.toArray n dd sl k t c0 c1 c2 (by omega) c4 (by rw [size_rep, List.size_toArray]; exact flen)
  have T : s.TypeIs (.ref l) "tuple" := ⟨_, ho, rfl⟩
  refine wpAny_binaryOp_repeat_ref (T := "tuple") (U := "int") (by decide) T (fun s' => typeIs_int s' k t) noFill_tuple_mul F.fills_int_mul F.slot_int_rmul repeat_tuple F.slot_int_index.lookup
    (call_meets F.slot_int_rmul (typeIs_int s k t) F.entry_int_rmul (F.args_int_rmul_2 _ _) (int_rmul_tuple k t l its.toArray n dd sl) ⟨ho, rfl, T, call_meets F.slot_tuple_mul T F.entry_tuple_mul (F.args_tuple_mul_2 _ _) m ⟨ho, ?_⟩⟩)
  rw [size_rep]
  exact laidN I (r.rep k.toNat) (by rw [PyProof.Rows.lm_len_rep_flat, sizeLine_eq]; omega) q
end Q
end
section
set_option Elab.async false
set_option linter.all false
set_option maxRecDepth 100000
set_option maxHeartbeats 2000000
namespace Q
open PySem PySem.Spec PyProof.Rows L2
variable {X : Cx}

theorem o_add : OpR X (binaryOp .Add) (r2Of X (opB .add)) := by
  rintro pins s σ H x y v u Q I rx ry ⟨a, b, d, as, ex, st, wd, ra, rb, e, q⟩
  cases ra with
  | int i =>
    cases rb with
    | int j =>
      obtain rfl := Option.some.inj e
      exact op_add pins s σ H _ _ v u Q I rx ry ⟨i, j, rfl, rfl, Wn.here wd q (.int _)⟩
    | _ => cases e
  | str i =>
    cases rb with
    | str j =>
      obtain ⟨hz, rfl⟩ := sizeOk_ok e
      exact op_add_str pins s σ H _ _ v u Q I rx ry ⟨i, j, rfl, rfl, hz, Wn.here wd q (.str _)⟩
    | _ => cases e
  | tup h1 r1 =>
    cases rb with
    | tup h2 r2 =>
      obtain ⟨hz, rfl⟩ := sizeOk_ok e
      refine op_catN pins s σ H _ _ v u Q I rx ry ⟨_, _, _, _, rfl, rfl, gSqT h1.T, gSqT h2.T, by rw [r1.length, r2.length]; exact hz, fun e => ?_, fun _ e => ?_, fun _ _ => Wn.tup wd q (r1.append r2)⟩
      · subst e
        cases r1
        exact Wn.here wd q (.tup h2 r2)
      · subst e
        cases r2
        rw [List.append_nil] at q
        exact Wn.here wd q (.tup h1 r1)
    | _ => cases e
  | lst h1 r1 =>
    cases rb with
    | lst h2 r2 =>
      obtain ⟨hz, rfl⟩ := sizeOk_ok e
      exact op_cat pins s σ H _ _ v u Q I rx ry ⟨_, _, _, _, rfl, rfl, gH_same _ _ h1, gH_same _ _ h2, by rw [r1.length, r2.length]; exact hz, Wn.lst wd q (r1.append r2)⟩
    | _ => cases e
  | _ => cases e
theorem o_sub : OpR X (binaryOp .Sub) (r2Of X (opB .sub)) := by
  rintro pins s σ H x y v u Q I rx ry ⟨a, b, d, as, ex, st, wd, ra, rb, e, q⟩
  cases ra with
  | int i =>
    cases rb with
    | int j =>
      obtain rfl := Option.some.inj e
      exact op_sub pins s σ H _ _ v u Q I rx ry ⟨i, j, rfl, rfl, Wn.here wd q (.int _)⟩
    | _ => cases e
  | _ => cases e
theorem o_mod : OpR X (binaryOp .Mod) (r2Of X (opB .mod)) := by
  rintro pins s σ H x y v u Q I rx ry ⟨a, b, d, as, ex, st, wd, ra, rb, e, q⟩
  cases ra with
  | int i =>
    cases rb with
    | int j =>
      have e : (match decide (j = 0) with | true => none | false => some (D.int (i.fmod j))) = some d := e
      cases hj : decide (j = 0) with
      | true => rw [hj] at e; cases e
      | false =>
        rw [hj] at e
        obtain rfl := Option.some.inj e
        exact op_modN pins s σ H _ _ v u Q I rx ry ⟨i, j, rfl, rfl, of_decide_eq_false hj, Wn.here wd q (.int _)⟩
    | _ => cases e
  | _ => cases e
theorem o_fdiv : OpR X (binaryOp .FloorDiv) (r2Of X (opB .fdiv)) := by
  rintro pins s σ H x y v u Q I rx ry ⟨a, b, d, as, ex, st, wd, ra, rb, e, q⟩
  cases ra with
  | int i =>
    cases rb with
    | int j =>
      have e : (match decide (j = 0) || !Nat.blt j.natAbs 1073741824 with | true => none | false => some (D.int (i.fdiv j))) = some d := e
      cases hj : decide (j = 0) || !Nat.blt j.natAbs 1073741824 with
      | true => rw [hj] at e; cases e
      | false =>
        rw [hj] at e
        obtain rfl := Option.some.inj e
        simp only [Bool.or_eq_false_iff, decide_eq_false_iff_not, Bool.not_eq_eq_eq_not, Bool.not_false] at hj
        exact op_fdivN pins s σ H _ _ v u Q I rx ry ⟨i, j, rfl, rfl, ⟨hj.1, Nat.le_of_ble_eq_true hj.2⟩, Wn.here wd q (.int _)⟩
    | _ => cases e
  | _ => cases e
theorem o_pow : OpR X (binaryOp .Pow) (r2Of X (opB .pow)) := by
  rintro pins s σ H x y v u Q I rx ry ⟨a, b, d, as, ex, st, wd, ra, rb, e, q⟩
  cases ra with
  | int i =>
    cases rb with
    | int j =>
      have e : (match decide (0 ≤ j) && (decide (j ≤ 1000000) && Nat.blt i.natAbs (2 ^ 64)) with | true => some (D.int (i ^ j.toNat)) | false => none) = some d := e
      cases hj : decide (0 ≤ j) && (decide (j ≤ 1000000) && Nat.blt i.natAbs (2 ^ 64)) with
      | false => rw [hj] at e; cases e
      | true =>
        rw [hj] at e
        obtain rfl := Option.some.inj e
        simp only [Bool.and_eq_true, decide_eq_true_eq] at hj
        exact op_pow pins s σ H _ _ v u Q I rx ry ⟨i, j, rfl, rfl, ⟨hj.1, hj.2.1, Nat.le_of_ble_eq_true hj.2.2⟩, Wn.here wd q (.int _)⟩
    | _ => cases e
  | _ => cases e

theorem tuple_mul_same (l : Addr) (items : Array Value) (n : Nat) (dd : Option Addr) (sl : Array (Option Value)) (x : Int) (u : Tok) (c0 : (decide (x < -(2 ^ 63)) || decide (x ≥ 2 ^ 63)) = false) (c1 : (items.isEmpty || x == 1) = true) :
    PySem.Meets (PySem.Builtin.«tuple.__mul__» ⟨[.ref l, .int x u], []⟩) (fun _ R s => s.heap.get? l = some { cls := .type "tuple", dict := dd, data := .seq items n, slots := sl } ∧ R (.ok (.ret (Value.ref l))) s) :=
  .of_wp fun prog w A R s h => by
    obtain ⟨hp, g, d, tk, os⟩ := s
    obtain ⟨hl, h⟩ := h
    have f1 := AutoSeq1.idx_int
    wp_walk using AutoSeq1.wpAny_loadPart' hl
    repeat (first
      | (refine wpAny_ite_false (decide_eq_false (by rw [c0]; exact Bool.false_ne_true)) ?_; wp_walk using AutoSeq1.wpAny_loadPart' hl)
      | (refine wpAny_ite_true (decide_eq_true c1) ?_; wp_walk using AutoSeq1.wpAny_loadPart' hl))
    exact ⟨_, rfl, h⟩

theorem tuple_mul_zero (l : Addr) (items : Array Value) (n : Nat) (dd : Option Addr) (sl : Array (Option Value)) (x : Int) (u : Tok) (c0 : (decide (x < -(2 ^ 63)) || decide (x ≥ 2 ^ 63)) = false) (c1 : (items.isEmpty || x == 1) = false) (c2 : (decide (x ≤ 0) || items.isEmpty) = true) :
    PySem.Meets (PySem.Builtin.«tuple.__mul__» ⟨[.ref l, .int x u], []⟩) (fun _ R s => s.heap.get? l = some { cls := .type "tuple", dict := dd, data := .seq items n, slots := sl } ∧
      R (.ok (.ret (Value.ref s.heap.objs.size))) { s with heap := s.heap.push { cls := Value.type "tuple", data := Data.seq #[] }, toks := s.toks }) :=
  .of_wp fun prog w A R s h => by
    obtain ⟨hp, g, d, tk, os⟩ := s
    obtain ⟨hl, h⟩ := h
    have f1 := AutoSeq1.idx_int
    wp_walk using AutoSeq1.wpAny_loadPart' hl
    repeat (first
      | (refine wpAny_ite_false (decide_eq_false (by rw [c0]; exact Bool.false_ne_true)) ?_; wp_walk using AutoSeq1.wpAny_loadPart' hl)
      | (refine wpAny_ite_false (decide_eq_false (by rw [c1]; exact Bool.false_ne_true)) ?_; wp_walk using AutoSeq1.wpAny_loadPart' hl)
      | (refine wpAny_ite_true (decide_eq_true c2) ?_; wp_walk using AutoSeq1.wpAny_loadPart' hl))
    exact ⟨_, rfl, h⟩
theorem repV (xs : List V) : ∀ n, (List.replicate n xs).flatten = reps xs n := fun n => (reps_eq xs n).symm
theorem reps_one {α : Type} (xs : List α) : reps xs 1 = xs := by
  show xs ++ [] = xs
  rw [List.append_nil]
theorem reps_nil {α : Type} : ∀ n, reps ([] : List α) n = []
  | 0 => rfl
  | n + 1 => reps_nil n
theorem o_mulT {pins : List (Addr × Obj)} {s : Shared} {σ : L2.St} {H : Hp} {l : Addr} {xs : List V} {n : Nat} {v u : Value} {Q : VK} (I : Inv X pins σ H s) (rx : RelV (.ref l) v) (ry : RelV (.int (n : Int)) u) (hT : SqT X.K H l xs) (hn : n ≤ 1000) (hx : xs.length ≤ 1000)
    (q1 : (xs = [] ∨ n = 1) → Q (.ref l) H) (q2 : NewT H (reps xs n) Q) : wpAny (model X.prog X.w) X.A (binaryOp .Mult v u) (EP X pins σ Q) X.xe s := by
  by_cases h2 : xs ≠ [] ∧ 2 ≤ n
  · exact op_repN pins s σ H _ _ v u Q I rx ry ⟨l, n, xs, rfl, rfl, hT, h2.1, by omega, by omega, hx, by rw [Int.toNat_natCast, repV]; exact q2⟩
  cases rx
  obtain ⟨t, rfl⟩ := ry
  obtain ⟨its, r, ⟨⟨cls, dd, data, sl⟩, ho, hc, k, hd⟩, hs⟩ := I.tuple hT
  simp only at hc hd
  subst hc hd
  have hle : its.length = xs.length := r.length.symm
  have c0 : (decide (((n : Nat) : Int) < -(2 ^ 63)) || decide (((n : Nat) : Int) ≥ 2 ^ 63)) = false := by
    rw [decide_eq_false (by omega), decide_eq_false (by omega)] <;> rfl
  by_cases h1 : xs = [] ∨ n = 1
  · have c1 : (its.toArray.isEmpty || (n : Int) == 1) = true := by
      rcases h1 with h1 | h1
      · subst h1
        cases r
        rfl
      · subst h1
        simp
    exact wpAny_binaryOp_repeat_ref (T := "tuple") (U := "int") (by decide) ⟨_, ho, rfl⟩ (fun s' => typeIs_int s' n t) noFill_tuple_mul F.fills_int_mul F.slot_int_rmul repeat_tuple F.slot_int_index.lookup
      (call_meets F.slot_int_rmul (typeIs_int s n t) F.entry_int_rmul (F.args_int_rmul_2 _ _) (int_rmul_tuple n t l its.toArray k dd sl)
        ⟨ho, rfl, ⟨_, ho, rfl⟩, call_meets F.slot_tuple_mul ⟨_, ho, rfl⟩ F.entry_tuple_mul (F.args_tuple_mul_2 _ _) (tuple_mul_same l its.toArray k dd sl n t c0 c1) ⟨ho, .ref l, H, I, rfl, q1 h1⟩⟩)
  · have hx0 : xs ≠ [] := fun e => h1 (.inl e)
    have z1 : ¬ 2 ≤ n := fun e => h2 ⟨hx0, e⟩
    have z2 : ¬ n = 1 := fun e => h1 (.inr e)
    have hn0 : n = 0 := by omega
    subst hn0
    have hi : its.toArray.isEmpty = false := by
      cases its with
      | nil => exact absurd (List.eq_nil_of_length_eq_zero hle.symm) hx0
      | cons a b => rfl
    refine wpAny_binaryOp_repeat_ref (T := "tuple") (U := "int") (by decide) ⟨_, ho, rfl⟩ (fun s' => typeIs_int s' _ t) noFill_tuple_mul F.fills_int_mul F.slot_int_rmul repeat_tuple F.slot_int_index.lookup
      (call_meets F.slot_int_rmul (typeIs_int s _ t) F.entry_int_rmul (F.args_int_rmul_2 _ _) (int_rmul_tuple _ t l its.toArray k dd sl)
        ⟨ho, rfl, ⟨_, ho, rfl⟩, call_meets F.slot_tuple_mul ⟨_, ho, rfl⟩ F.entry_tuple_mul (F.args_tuple_mul_2 _ _) (tuple_mul_zero l its.toArray k dd sl _ t c0 (by rw [hi]; rfl) (by rfl)) ⟨ho, ?_⟩⟩)
    exact laidN (xs := reps xs 0) (its := []) I .nil (Nat.zero_le _) q2
theorem o_mul : OpR X (binaryOp .Mult) (r2Of X (opB .mul)) := by
  rintro pins s σ H x y v u Q I rx ry ⟨a, b, d, as, ex, st, wd, ra, rb, e, q⟩
  cases ra with
  | int i =>
    cases rb with
    | int j =>
      have e : (match Nat.blt i.natAbs (2 ^ 64) || Nat.blt j.natAbs (2 ^ 64) with | true => some (D.int (i * j)) | false => none) = some d := e
      cases hj : Nat.blt i.natAbs (2 ^ 64) || Nat.blt j.natAbs (2 ^ 64) with
      | false => rw [hj] at e; cases e
      | true =>
        rw [hj] at e
        obtain rfl := Option.some.inj e
        have hc : CMul i j := by
          rcases Bool.or_eq_true_iff.mp hj with h | h
          · have := Nat.le_of_ble_eq_true h
            exact .inl (by omega)
          · have := Nat.le_of_ble_eq_true h
            exact .inr (by omega)
        exact op_mul pins s σ H _ _ v u Q I rx ry ⟨i, j, rfl, rfl, hc, Wn.here wd q (.int _)⟩
    | _ => cases e
  | @tup a ds vs h1 r1 =>
    cases rb with
    | int j =>
      cases j with
      | negSucc n => cases e
      | ofNat n =>
        have e : (match Nat.ble n 1000 && Nat.ble ds.length 1000 with | true => some (D.tup (reps ds n)) | false => none) = some d := e
        cases hj : Nat.ble n 1000 && Nat.ble ds.length 1000 with
        | false => rw [hj] at e; cases e
        | true =>
          rw [hj] at e
          obtain rfl := Option.some.inj e
          obtain ⟨k1, k2⟩ := Bool.and_eq_true_iff.mp hj
          refine o_mulT (n := n) I rx ry (gSqT h1.T) (Nat.le_of_ble_eq_true k1) (by rw [r1.length]; exact Nat.le_of_ble_eq_true k2) (fun h => ?_) (Wn.tup wd q (r1.reps n))
          rcases h with h | h
          · subst h
            cases r1
            rw [reps_nil] at q
            exact Wn.here wd q (.tup h1 .nil)
          · subst h
            rw [reps_one] at q
            exact Wn.here wd q (.tup h1 r1)
    | _ => cases e
  | @lst a ds vs h1 r1 =>
    cases rb with
    | int j =>
      cases j with
      | negSucc n => cases e
      | ofNat n =>
        have e : (match Nat.ble n 1000 && Nat.ble ds.length 1000 with | true => some (D.lst (reps ds n)) | false => none) = some d := e
        cases hj : Nat.ble n 1000 && Nat.ble ds.length 1000 with
        | false => rw [hj] at e; cases e
        | true =>
          rw [hj] at e
          obtain rfl := Option.some.inj e
          obtain ⟨k1, k2⟩ := Bool.and_eq_true_iff.mp hj
          have k1 := Nat.le_of_ble_eq_true k1
          have k2 := Nat.le_of_ble_eq_true k2
          refine op_rep pins s σ H _ _ v u Q I rx ry ⟨_, n, vs, rfl, rfl, gH_same _ _ h1, by omega, by omega, ?_, fun p hp => ?_⟩
          · rw [Int.toNat_natCast, r1.length, sizeLine_eq]
            have : ds.length * n ≤ 1000 * 1000 := Nat.mul_le_mul k2 k1
            omega
          · rw [Int.toNat_natCast, repV]
            exact Wn.lst wd q (r1.reps n) p hp
    | _ => cases e
  | _ => cases e
end Q
end
section
set_option Elab.async false
set_option linter.all false
set_option maxRecDepth 100000
set_option maxHeartbeats 2000000
namespace Q
open PySem PySem.Spec PyProof.Rows L2
open PySem.SeqAt (EqAt RcAt)

mutual
inductive Rc (h : Heap) : D → Value → Prop
  | non : Rc h .non .none
  | int (i : Int) (t : Tok) : Rc h (.int i) (.int i t)
  | str (x : Str) (t : Tok) : Rc h (.str x) (.str x t)
  | tup {a : Addr} {us : List Value} {ds : List D} : IsTup h a us.toArray → RcL h ds us → Rc h (.tup ds) (.ref a)
  | lst {a : Addr} {us : List Value} {ds : List D} : h.IsList a us.toArray → RcL h ds us → Rc h (.lst ds) (.ref a)
inductive RcL (h : Heap) : List D → List Value → Prop
  | nil : RcL h [] []
  | cons {d : D} {ds : List D} {u : Value} {us : List Value} : Rc h d u → RcL h ds us → RcL h (d :: ds) (u :: us)
end
theorem RcL.length {h : Heap} : ∀ {ds : List D} {us : List Value}, RcL h ds us → us.length = ds.length
  | _, _, .nil => rfl
  | _, _, .cons _ t => by simp [RcL.length t]
section
variable {X : Cx} {pins : List (Addr × Obj)} {σ : L2.St} {H G : Hp} {s : Shared} {as : List Addr}
mutual
theorem Rp.rc (I : Inv X pins σ H s) (g : Same G H) : ∀ {d : D} {v : V} {u : Value}, Rp X.K X.w as G d v → D.pl d = true → RelV v u → Rc s.heap d u
  | _, _, _, .non, _, r => by
    cases (show _ = Value.none from r)
    exact .non
  | _, _, _, .int i, _, r => by
    obtain ⟨t, rfl⟩ := r
    exact .int i t
  | _, _, _, .str x, _, r => by
    obtain ⟨t, rfl⟩ := r
    exact .str x t
  | _, _, _, .tup h q, p, r => by
    cases (show _ = Value.ref _ from r)
    obtain ⟨its, rv, ht, _⟩ := I.tuple (g.seqT h.T)
    exact .tup ht (RpL.rc I g q p rv)
  | _, _, _, .lst h q, p, r => by
    cases (show _ = Value.ref _ from r)
    obtain ⟨its, rv, ht, _⟩ := I.list (.of (g _ _ h))
    exact .lst ht.isList (RpL.rc I g q p rv)
  | _, _, _, .bl _, p, _ => nomatch p
  | _, _, _, .inp _ _, p, _ => nomatch p
  | _, _, _, .dct _ _ _ _ _, p, _ => nomatch p
  | _, _, _, .set _ _ _ _ _ _, p, _ => nomatch p
  | _, _, _, .cell _, p, _ => nomatch p
theorem RpL.rc (I : Inv X pins σ H s) (g : Same G H) : ∀ {ds : List D} {vs : List V} {us : List Value}, RpL X.K X.w as G ds vs → D.plL ds = true → Vals vs us → RcL s.heap ds us
  | _, _, _, .nil, _, .nil => .nil
  | _, _, _, .cons q t, p, .cons r rt => by
    have p' := Bool.and_eq_true_iff.mp (show (_ && _) = true from p)
    exact .cons (Rp.rc I g q p'.1 r) (RpL.rc I g t p'.2 rt)
end
end

abbrev dEqAt (xs ys : List D) (j : Nat) : Bool := D.beq (xs.getD j .non) (ys.getD j .non)
theorem beqL_eq : ∀ xs ys : List D, ((List.range (min xs.length ys.length)).all (dEqAt xs ys) && xs.length == ys.length) = D.beqL xs ys
  | [], [] => rfl
  | [], _ :: _ => by simp [D.beqL]
  | _ :: _, [] => by simp [D.beqL]
  | x :: xs, y :: ys => by
    have ih := beqL_eq xs ys
    have e1 : min (x :: xs).length (y :: ys).length = min xs.length ys.length + 1 := by simp only [List.length_cons]; omega
    have e2 : ((x :: xs).length == (y :: ys).length) = (xs.length == ys.length) := by simp
    have e3 : (List.range (min xs.length ys.length + 1)).all (dEqAt (x :: xs) (y :: ys)) = (D.beq x y && (List.range (min xs.length ys.length)).all (dEqAt xs ys)) := by
      rw [List.range_succ_eq_map, List.all_cons, List.all_map]
      first | rfl | simp [dEqAt, Function.comp_def]
    rw [e1, e2, e3, D.beqL, ← ih, Bool.and_assoc]
theorem beqL_len : ∀ {xs ys : List D}, xs.length ≠ ys.length → D.beqL xs ys = false
  | [], [], h => absurd rfl h
  | [], _ :: _, _ => rfl
  | _ :: _, [], _ => rfl
  | x :: xs, y :: ys, h => by
    rw [D.beqL, beqL_len (xs := xs) (ys := ys) fun e => h (by simp [e]), Bool.and_false]
mutual
theorem Rc.inj {h : Heap} : ∀ {x y : D} {u : Value}, Rc h x u → Rc h y u → x = y
  | _, _, _, .non, .non => rfl
  | _, _, _, .int _ _, .int _ _ => rfl
  | _, _, _, .str _ _, .str _ _ => rfl
  | _, _, _, .tup h1 q1, .tup h2 q2 => by
    obtain ⟨o, a1, a2, n, a3⟩ := h1
    obtain ⟨o', b1, b2, n', b3⟩ := h2
    rw [a1] at b1; cases b1
    rw [a3] at b3
    injection b3 with c1 c2
    have : _ = _ := congrArg Array.toList c1
    simp at this
    subst this
    rw [RcL.inj q1 q2]
  | _, _, _, .lst h1 q1, .lst h2 q2 => by
    obtain ⟨o, a1, a2, n, a3⟩ := h1
    obtain ⟨o', b1, b2, n', b3⟩ := h2
    rw [a1] at b1; cases b1
    rw [a3] at b3
    injection b3 with c1 c2
    have : _ = _ := congrArg Array.toList c1
    simp at this
    subst this
    rw [RcL.inj q1 q2]
  | _, _, _, .tup h1 q1, .lst h2 q2 => by
    obtain ⟨o, a1, a2, n, a3⟩ := h1
    obtain ⟨o', b1, b2, n', b3⟩ := h2
    rw [a1] at b1; cases b1
    rw [a2] at b2; exact absurd (Value.type.inj b2) (by decide)
  | _, _, _, .lst h1 q1, .tup h2 q2 => by
    obtain ⟨o, a1, a2, n, a3⟩ := h1
    obtain ⟨o', b1, b2, n', b3⟩ := h2
    rw [a1] at b1; cases b1
    rw [a2] at b2; exact absurd (Value.type.inj b2) (by decide)
theorem RcL.inj {h : Heap} : ∀ {xs ys : List D} {us : List Value}, RcL h xs us → RcL h ys us → xs = ys
  | _, _, _, .nil, .nil => rfl
  | _, _, _, .cons r t, .cons r' t' => by rw [Rc.inj r r', RcL.inj t t']
end
open PySem.SeqAt in
mutual
theorem eqAt_D : ∀ (x y : D) (A : Around) (s : Shared) (a b : Value), Rc s.heap x a → Rc s.heap y b → A.units + min x.dp y.dp < cLine → EqAt A s a b (D.beq x y)
  | _, _, A, s, _, _, .non, .non, hu => EqAt.same _
  | _, _, A, s, _, _, .non, .int y u, hu => EqAt.none_int y u
  | _, _, A, s, _, _, .non, .str y u, hu => EqAt.none_str y u
  | _, _, A, s, _, _, .non, .tup k _, hu => EqAt.none_tuple k (by simp only [D.dp] at hu; omega)
  | _, _, A, s, _, _, .non, .lst k _, hu => EqAt.none_list k (by simp only [D.dp] at hu; omega)
  | _, _, A, s, _, _, .int i t, .non, hu => EqAt.int_none i t
  | _, _, A, s, _, _, .int i t, .int y u, hu => (EqAt.int_int i t y u).cast rfl
  | _, _, A, s, _, _, .int i t, .str y u, hu => EqAt.int_str i t y u
  | _, _, A, s, _, _, .int i t, .tup k _, hu => EqAt.int_tuple i t k (by simp only [D.dp] at hu; omega)
  | _, _, A, s, _, _, .int i t, .lst k _, hu => EqAt.int_list i t k (by simp only [D.dp] at hu; omega)
  | _, _, A, s, _, _, .str x t, .non, hu => EqAt.str_none x t
  | _, _, A, s, _, _, .str x t, .int y u, hu => EqAt.str_int x t y u
  | _, _, A, s, _, _, .str x t, .str y u, hu => (EqAt.str_str x t y u).cast rfl
  | _, _, A, s, _, _, .str x t, .tup k _, hu => EqAt.str_tuple x t k (by simp only [D.dp] at hu; omega)
  | _, _, A, s, _, _, .str x t, .lst k _, hu => EqAt.str_list x t k (by simp only [D.dp] at hu; omega)
  | _, _, A, s, _, _, .tup k _, .non, hu => EqAt.tuple_none k (by simp only [D.dp] at hu; omega)
  | _, _, A, s, _, _, .tup k _, .int y u, hu => EqAt.tuple_int y u k (by simp only [D.dp] at hu; omega)
  | _, _, A, s, _, _, .tup k _, .str y u, hu => EqAt.tuple_str y u k (by simp only [D.dp] at hu; omega)
  | _, _, A, s, _, _, .tup k _, .lst k' _, hu => EqAt.tuple_list k k' (by simp only [D.dp] at hu; omega)
  | _, _, A, s, _, _, .lst k _, .non, hu => EqAt.list_none k (by simp only [D.dp] at hu; omega)
  | _, _, A, s, _, _, .lst k _, .int y u, hu => EqAt.list_int y u k (by simp only [D.dp] at hu; omega)
  | _, _, A, s, _, _, .lst k _, .str y u, hu => EqAt.list_str y u k (by simp only [D.dp] at hu; omega)
  | _, _, A, s, _, _, .lst k _, .tup k' _, hu => EqAt.list_tuple k k' (by simp only [D.dp] at hu; omega)
  | .tup xs, .tup ys, A, s, _, _, .tup (a := l) (us := vs) hl q1, .tup (a := l') (us := vs') hl' q2, hu => by
    have n1 : vs.toArray.size = xs.length := by simpa using q1.length
    have n2 : vs'.toArray.size = ys.length := by simpa using q2.length
    simp only [D.dp] at hu
    show EqAt A s (.ref l) (.ref l') (D.beqL xs ys)
    by_cases hll : l = l'
    · subst hll
      have e : D.tup xs = D.tup ys := Rc.inj (.tup hl q1) (.tup hl' q2)
      injection e with e
      rw [e, D.beqL_self]
      exact EqAt.same _
    · rw [← beqL_eq xs ys, ← n1, ← n2]
      refine EqAt.of_refs hll (RcAt.tuples hl hl' (by omega) fun j j1 j2 => ?_)
      have := eqAt_DL xs ys A.in1 s vs vs' q1 q2 (by simp only [Around.in1_units]; omega) j (by simpa using j1) (by simpa using j2)
      simpa using this
  | .lst xs, .lst ys, A, s, _, _, .lst (a := l) (us := vs) hl q1, .lst (a := l') (us := vs') hl' q2, hu => by
    have n1 : vs.toArray.size = xs.length := by simpa using q1.length
    have n2 : vs'.toArray.size = ys.length := by simpa using q2.length
    simp only [D.dp] at hu
    show EqAt A s (.ref l) (.ref l') (D.beqL xs ys)
    by_cases hll : l = l'
    · subst hll
      have e : D.lst xs = D.lst ys := Rc.inj (.lst hl q1) (.lst hl' q2)
      injection e with e
      rw [e, D.beqL_self]
      exact EqAt.same _
    · by_cases hsz : vs.toArray.size = vs'.toArray.size
      · have hlen : xs.length = ys.length := by omega
        have e1 : D.beqL xs ys = (List.range vs.toArray.size).all (dEqAt xs ys) := by
          rw [← beqL_eq xs ys, n1, hlen, Nat.min_self]
          simp
        rw [e1]
        refine EqAt.of_refs hll (RcAt.lists hl hl' hsz (by omega) fun j j1 j2 => ?_)
        have := eqAt_DL xs ys A.in1 s vs vs' q1 q2 (by simp only [Around.in1_units]; omega) j (by simpa using j1) (by simpa using j2)
        simpa using this
      · rw [beqL_len (xs := xs) (ys := ys) (by omega)]
        exact EqAt.of_refs hll (RcAt.lists_lengths hl hl' (by simpa using hsz) (by omega))
theorem eqAt_DL : ∀ (xs ys : List D) (A : Around) (s : Shared) (vs ws : List Value), RcL s.heap xs vs → RcL s.heap ys ws →
    A.units + min (D.dpL xs) (D.dpL ys) < cLine → ∀ j (h1 : j < vs.length) (h2 : j < ws.length), EqAt A s vs[j] ws[j] (dEqAt xs ys j)
  | _, _, _, _, _, _, .nil, _, _, j, h1, _ => absurd h1 (Nat.not_lt_zero _)
  | _, _, _, _, _, _, .cons _ _, .nil, _, j, _, h2 => absurd h2 (Nat.not_lt_zero _)
  | x :: xs, y :: ys, A, s, _, _, .cons r rs, .cons r' rs', hu, 0, h1, h2 => eqAt_D x y A s _ _ r r' (by simp only [D.dpL] at hu; omega)
  | x :: xs, y :: ys, A, s, _, _, .cons r rs, .cons r' rs', hu, j + 1, h1, h2 => eqAt_DL xs ys A s _ _ rs rs' (by simp only [D.dpL] at hu; omega) j (Nat.lt_of_succ_lt_succ h1) (Nat.lt_of_succ_lt_succ h2)
end
end Q
end
section
set_option Elab.async false
set_option linter.all false
set_option maxRecDepth 100000
set_option maxHeartbeats 2000000
namespace Q
open PySem PySem.Spec PyProof.Rows L2
open PySem.SeqAt (EqAt RcAt RcNeAt)
section
open PySem.SeqAt
theorem rcAt_D {A : Around} {s : Shared} : ∀ {x y : D} {a b : Value}, Rc s.heap x a → Rc s.heap y b → A.units + min x.dp y.dp < cLine → RcAt A s a b (D.beq x y)
  | _, _, _, _, .non, .non, hu => RcAt.none_none 
  | _, _, _, _, .non, .int j u, hu => RcAt.none_int j u
  | _, _, _, _, .non, .str j u, hu => RcAt.none_str j u
  | _, _, _, _, .non, .tup k2 _, hu => RcAt.none_tuple k2 (Nat.lt_of_le_of_lt (Nat.le_add_right _ _) hu)
  | _, _, _, _, .non, .lst k2 _, hu => RcAt.none_list k2 (Nat.lt_of_le_of_lt (Nat.le_add_right _ _) hu)
  | _, _, _, _, .int i t, .non, hu => RcAt.int_none i t
  | _, _, _, _, .int i t, .int j u, hu => RcAt.int_int i t j u
  | _, _, _, _, .int i t, .str j u, hu => RcAt.int_str i t j u
  | _, _, _, _, .int i t, .tup k2 _, hu => RcAt.int_tuple i t k2 (Nat.lt_of_le_of_lt (Nat.le_add_right _ _) hu)
  | _, _, _, _, .int i t, .lst k2 _, hu => RcAt.int_list i t k2 (Nat.lt_of_le_of_lt (Nat.le_add_right _ _) hu)
  | _, _, _, _, .str i t, .non, hu => RcAt.str_none i t
  | _, _, _, _, .str i t, .int j u, hu => RcAt.str_int i t j u
  | _, _, _, _, .str i t, .str j u, hu => RcAt.str_str i t j u
  | _, _, _, _, .str i t, .tup k2 _, hu => RcAt.str_tuple i t k2 (Nat.lt_of_le_of_lt (Nat.le_add_right _ _) hu)
  | _, _, _, _, .str i t, .lst k2 _, hu => RcAt.str_list i t k2 (Nat.lt_of_le_of_lt (Nat.le_add_right _ _) hu)
  | _, _, _, _, .tup k _, .non, hu => RcAt.tuple_none k (Nat.lt_of_le_of_lt (Nat.le_add_right _ _) hu)
  | _, _, _, _, .tup k _, .int j u, hu => RcAt.tuple_int j u k (Nat.lt_of_le_of_lt (Nat.le_add_right _ _) hu)
  | _, _, _, _, .tup k _, .str j u, hu => RcAt.tuple_str j u k (Nat.lt_of_le_of_lt (Nat.le_add_right _ _) hu)
  | _, _, _, _, .tup k _, .lst k2 _, hu => RcAt.tuple_list k k2 (Nat.lt_of_le_of_lt (Nat.le_add_right _ _) hu)
  | _, _, _, _, .lst k _, .non, hu => RcAt.list_none k (Nat.lt_of_le_of_lt (Nat.le_add_right _ _) hu)
  | _, _, _, _, .lst k _, .int j u, hu => RcAt.list_int j u k (Nat.lt_of_le_of_lt (Nat.le_add_right _ _) hu)
  | _, _, _, _, .lst k _, .str j u, hu => RcAt.list_str j u k (Nat.lt_of_le_of_lt (Nat.le_add_right _ _) hu)
  | _, _, _, _, .lst k _, .tup k2 _, hu => RcAt.list_tuple k k2 (Nat.lt_of_le_of_lt (Nat.le_add_right _ _) hu)
  | .tup xs, .tup ys, _, _, .tup (a := l) (us := vs) hl q1, .tup (a := l2) (us := ws) hl2 q2, hu => by
    have n1 : vs.toArray.size = xs.length := by simpa using q1.length
    have n2 : ws.toArray.size = ys.length := by simpa using q2.length
    simp only [D.dp] at hu
    have he : ∀ j (j1 : j < vs.toArray.size) (j2 : j < ws.toArray.size), EqAt A.in1 s vs.toArray[j] ws.toArray[j] (dEqAt xs ys j) := fun j j1 j2 => by
      have := eqAt_DL xs ys A.in1 s vs ws q1 q2 (by simp only [Around.in1_units]; omega) j (by simpa using j1) (by simpa using j2)
      simpa using this
    show RcAt A s (.ref l) (.ref l2) (D.beqL xs ys)
    rw [← beqL_eq xs ys, ← n1, ← n2]
    exact RcAt.tuples hl hl2 (by omega) he
  | .lst xs, .lst ys, _, _, .lst (a := l) (us := vs) hl q1, .lst (a := l2) (us := ws) hl2 q2, hu => by
    have n1 : vs.toArray.size = xs.length := by simpa using q1.length
    have n2 : ws.toArray.size = ys.length := by simpa using q2.length
    simp only [D.dp] at hu
    have he : ∀ j (j1 : j < vs.toArray.size) (j2 : j < ws.toArray.size), EqAt A.in1 s vs.toArray[j] ws.toArray[j] (dEqAt xs ys j) := fun j j1 j2 => by
      have := eqAt_DL xs ys A.in1 s vs ws q1 q2 (by simp only [Around.in1_units]; omega) j (by simpa using j1) (by simpa using j2)
      simpa using this
    show RcAt A s (.ref l) (.ref l2) (D.beqL xs ys)
    by_cases hsz : vs.toArray.size = ws.toArray.size
    · have hlen : xs.length = ys.length := by omega
      have e1 : D.beqL xs ys = (List.range vs.toArray.size).all (dEqAt xs ys) := by
        rw [← beqL_eq xs ys, n1, hlen, Nat.min_self]
        simp
      rw [e1]
      exact RcAt.lists hl hl2 hsz (by omega) he
    · rw [beqL_len (xs := xs) (ys := ys) (by omega)]
      exact RcAt.lists_lengths hl hl2 (by simpa using hsz) (by omega)
theorem rcNeAt_D {A : Around} {s : Shared} : ∀ {x y : D} {a b : Value}, Rc s.heap x a → Rc s.heap y b → A.units + min x.dp y.dp < cLine → RcNeAt A s a b (!D.beq x y)
  | _, _, _, _, .non, .non, hu => RcNeAt.none_none 
  | _, _, _, _, .non, .int j u, hu => RcNeAt.none_int j u
  | _, _, _, _, .non, .str j u, hu => RcNeAt.none_str j u
  | _, _, _, _, .non, .tup k2 _, hu => RcNeAt.none_tuple k2 (Nat.lt_of_le_of_lt (Nat.le_add_right _ _) hu)
  | _, _, _, _, .non, .lst k2 _, hu => RcNeAt.none_list k2 (Nat.lt_of_le_of_lt (Nat.le_add_right _ _) hu)
  | _, _, _, _, .int i t, .non, hu => RcNeAt.int_none i t
  | _, _, _, _, .int i t, .int j u, hu => RcNeAt.int_int i t j u
  | _, _, _, _, .int i t, .str j u, hu => RcNeAt.int_str i t j u
  | _, _, _, _, .int i t, .tup k2 _, hu => RcNeAt.int_tuple i t k2 (Nat.lt_of_le_of_lt (Nat.le_add_right _ _) hu)
  | _, _, _, _, .int i t, .lst k2 _, hu => RcNeAt.int_list i t k2 (Nat.lt_of_le_of_lt (Nat.le_add_right _ _) hu)
  | _, _, _, _, .str i t, .non, hu => RcNeAt.str_none i t
  | _, _, _, _, .str i t, .int j u, hu => RcNeAt.str_int i t j u
  | _, _, _, _, .str i t, .str j u, hu => RcNeAt.str_str i t j u
  | _, _, _, _, .str i t, .tup k2 _, hu => RcNeAt.str_tuple i t k2 (Nat.lt_of_le_of_lt (Nat.le_add_right _ _) hu)
  | _, _, _, _, .str i t, .lst k2 _, hu => RcNeAt.str_list i t k2 (Nat.lt_of_le_of_lt (Nat.le_add_right _ _) hu)
  | _, _, _, _, .tup k _, .non, hu => RcNeAt.tuple_none k (Nat.lt_of_le_of_lt (Nat.le_add_right _ _) hu)
  | _, _, _, _, .tup k _, .int j u, hu => RcNeAt.tuple_int j u k (Nat.lt_of_le_of_lt (Nat.le_add_right _ _) hu)
  | _, _, _, _, .tup k _, .str j u, hu => RcNeAt.tuple_str j u k (Nat.lt_of_le_of_lt (Nat.le_add_right _ _) hu)
  | _, _, _, _, .tup k _, .lst k2 _, hu => RcNeAt.tuple_list k k2 (Nat.lt_of_le_of_lt (Nat.le_add_right _ _) hu)
  | _, _, _, _, .lst k _, .non, hu => RcNeAt.list_none k (Nat.lt_of_le_of_lt (Nat.le_add_right _ _) hu)
  | _, _, _, _, .lst k _, .int j u, hu => RcNeAt.list_int j u k (Nat.lt_of_le_of_lt (Nat.le_add_right _ _) hu)
  | _, _, _, _, .lst k _, .str j u, hu => RcNeAt.list_str j u k (Nat.lt_of_le_of_lt (Nat.le_add_right _ _) hu)
  | _, _, _, _, .lst k _, .tup k2 _, hu => RcNeAt.list_tuple k k2 (Nat.lt_of_le_of_lt (Nat.le_add_right _ _) hu)
  | .tup xs, .tup ys, _, _, .tup (a := l) (us := vs) hl q1, .tup (a := l2) (us := ws) hl2 q2, hu => by
    have n1 : vs.toArray.size = xs.length := by simpa using q1.length
    have n2 : ws.toArray.size = ys.length := by simpa using q2.length
    simp only [D.dp] at hu
    have he : ∀ j (j1 : j < vs.toArray.size) (j2 : j < ws.toArray.size), EqAt A.in1 s vs.toArray[j] ws.toArray[j] (dEqAt xs ys j) := fun j j1 j2 => by
      have := eqAt_DL xs ys A.in1 s vs ws q1 q2 (by simp only [Around.in1_units]; omega) j (by simpa using j1) (by simpa using j2)
      simpa using this
    show RcNeAt A s (.ref l) (.ref l2) (!D.beqL xs ys)
    rw [← beqL_eq xs ys, ← n1, ← n2]
    exact RcNeAt.tuples hl hl2 (by omega) he
  | .lst xs, .lst ys, _, _, .lst (a := l) (us := vs) hl q1, .lst (a := l2) (us := ws) hl2 q2, hu => by
    have n1 : vs.toArray.size = xs.length := by simpa using q1.length
    have n2 : ws.toArray.size = ys.length := by simpa using q2.length
    simp only [D.dp] at hu
    have he : ∀ j (j1 : j < vs.toArray.size) (j2 : j < ws.toArray.size), EqAt A.in1 s vs.toArray[j] ws.toArray[j] (dEqAt xs ys j) := fun j j1 j2 => by
      have := eqAt_DL xs ys A.in1 s vs ws q1 q2 (by simp only [Around.in1_units]; omega) j (by simpa using j1) (by simpa using j2)
      simpa using this
    show RcNeAt A s (.ref l) (.ref l2) (!D.beqL xs ys)
    by_cases hsz : vs.toArray.size = ws.toArray.size
    · have hlen : xs.length = ys.length := by omega
      have e1 : D.beqL xs ys = (List.range vs.toArray.size).all (dEqAt xs ys) := by
        rw [← beqL_eq xs ys, n1, hlen, Nat.min_self]
        simp
      rw [e1]
      exact RcNeAt.lists hl hl2 hsz (by omega) he
    · rw [beqL_len (xs := xs) (ys := ys) (by omega)]
      exact RcNeAt.lists_lengths hl hl2 (by simpa using hsz) (by omega)

end
variable {X : Cx}
abbrev r2B (X : Cx) (f : D → D → Option Bool) : R2 := r2Of X fun a b => (f a b).map D.bl
theorem dp_of {d : D} (h : D.isPlain d = true) : D.pl d = true ∧ d.dp ≤ 150 := by
  obtain ⟨a, b⟩ := Bool.and_eq_true_iff.mp (show (D.pl d && Nat.ble d.dp 150) = true from h)
  exact ⟨a, Nat.le_of_ble_eq_true b⟩
theorem eqO_of {a b : D} {k : Bool} (h : eqO a b = some k) : (a.isPlain = true ∧ b.isPlain = true ∧ k = D.beq a b) ∨ (∃ x y, a = .bl x ∧ b = .bl y ∧ k = (x == y)) ∨ ∃ x xs, a = .lst (x :: xs) ∧ b = .lst [] ∧ k = false := by
  unfold eqO at h
  cases hp : a.isPlain && b.isPlain with
  | true =>
    rw [hp] at h
    obtain ⟨p1, p2⟩ := Bool.and_eq_true_iff.mp hp
    exact .inl ⟨p1, p2, (Option.some.inj h).symm⟩
  | false =>
    rw [hp] at h
    cases a with
    | bl x =>
      cases b with
      | bl y => exact .inr (.inl ⟨x, y, rfl, rfl, (Option.some.inj h).symm⟩)
      | _ => cases h
    | lst xs =>
      cases b with
      | lst ys =>
        cases ys with
        | nil =>
          cases xs with
          | nil => cases hp
          | cons x xs => exact .inr (.inr ⟨x, xs, rfl, rfl, (Option.some.inj h).symm⟩)
        | cons y ys => cases h
      | _ => cases h
    | _ => cases h
theorem lst_nil {pins : List (Addr × Obj)} {s : Shared} {σ : L2.St} {H : Hp} {as ex : List Addr} {x : D} {xs : List D} {v u : V} {v' u' : Value} (I : Inv X pins σ H s) (ra : Rp X.K X.w as (gH as ex H) (.lst (x :: xs)) v) (rb : Rp X.K X.w as (gH as ex H) (.lst []) u) (rx : RelV v v') (ry : RelV u u') :
    ∃ l b items items2, v' = .ref l ∧ u' = .ref b ∧ s.heap.IsList l items ∧ s.heap.IsList b items2 ∧ (items.size != items2.size) = true := by
  cases ra with
  | lst a r =>
    cases rb with
    | lst a' r' =>
      cases rx
      cases ry
      obtain ⟨its, rv, p, _⟩ := I.list (.of (gH_same _ _ a))
      obtain ⟨its2, rv2, p2, _⟩ := I.list (.of (gH_same _ _ a'))
      have h1 := r.length
      have h2 := r'.length
      have h3 := rv.length
      have h4 := rv2.length
      refine ⟨_, _, _, _, rfl, rfl, p.isList, p2.isList, ?_⟩
      rw [List.length_cons] at h1
      rw [List.length_nil] at h2
      rw [bne_iff_ne, List.size_toArray, List.size_toArray]
      omega
theorem o_eq (hu : X.A.units + 200 < cLine) : OpR X (compareOp .Eq) (r2B X (opC .eq)) := by
  rintro pins s σ H x y v u Q I rx ry ⟨a, b, d, as, ex, st, wd, ra, rb, e, q⟩
  obtain ⟨k1, e1, rfl⟩ := Option.map_eq_some_iff.mp e
  rcases eqO_of (show eqO a b = some k1 from e1) with ⟨p1, p2, rfl⟩ | ⟨i, j, rfl, rfl, rfl⟩ | ⟨x0, xs, rfl, rfl, rfl⟩
  · obtain ⟨p1, d1⟩ := dp_of p1
    obtain ⟨p2, d2⟩ := dp_of p2
    exact rcAt_D (ra.rc I gH_same p1 rx) (rb.rc I gH_same p2 ry) (by omega) X.prog X.w _ _ ⟨.bl _, H, I, rfl, Wn.here wd q (.bl _)⟩
  · cases ra
    cases rb
    cases rx
    cases ry
    exact RcAt.bool_bool i j X.prog X.w _ _ ⟨.bl _, H, I, rfl, Wn.here wd q (.bl _)⟩
  · obtain ⟨l, b, its, its2, rfl, rfl, h1, h2, h3⟩ := lst_nil I ra rb rx ry
    exact RcAt.lists_lengths h1 h2 h3 (by omega) X.prog X.w _ _ ⟨.bl _, H, I, rfl, Wn.here wd q (.bl _)⟩
theorem o_ne (hu : X.A.units + 200 < cLine) : OpR X (compareOp .NotEq) (r2B X (opC .ne)) := by
  rintro pins s σ H x y v u Q I rx ry ⟨a, b, d, as, ex, st, wd, ra, rb, e, q⟩
  obtain ⟨k1, e1, rfl⟩ := Option.map_eq_some_iff.mp e
  obtain ⟨k2, e2, rfl⟩ := Option.map_eq_some_iff.mp (show (eqO a b).map (!·) = some k1 from e1)
  rcases eqO_of e2 with ⟨p1, p2, rfl⟩ | ⟨i, j, rfl, rfl, rfl⟩ | ⟨x0, xs, rfl, rfl, rfl⟩
  · obtain ⟨p1, d1⟩ := dp_of p1
    obtain ⟨p2, d2⟩ := dp_of p2
    exact rcNeAt_D (ra.rc I gH_same p1 rx) (rb.rc I gH_same p2 ry) (by omega) X.prog X.w _ _ ⟨.bl _, H, I, rfl, Wn.here wd q (.bl _)⟩
  · cases ra
    cases rb
    cases rx
    cases ry
    exact RcNeAt.bool_bool i j X.prog X.w _ _ ⟨.bl _, H, I, rfl, Wn.here wd q (.bl _)⟩
  · obtain ⟨l, b, its, its2, rfl, rfl, h1, h2, h3⟩ := lst_nil I ra rb rx ry
    exact RcNeAt.lists_lengths h1 h2 h3 (by omega) X.prog X.w _ _ ⟨.bl _, H, I, rfl, Wn.here wd q (.bl _)⟩

theorem cmpN_lt : ∀ (a b : List Nat), (D.cmpN a b == .lt) = decide (a < b)
  | [], [] => by simp [D.cmpN]
  | [], b :: bs => by simp [D.cmpN]
  | a :: as, [] => by simp [D.cmpN]
  | a :: as, b :: bs => by
    unfold D.cmpN
    by_cases h1 : a < b
    · have e : Nat.blt a b = true := Nat.ble_eq_true_of_le h1
      rw [if_pos e, decide_eq_true (List.cons_lt_cons_iff.mpr (.inl h1))]
      rfl
    · have e : ¬ Nat.blt a b = true := fun z => h1 (Nat.le_of_ble_eq_true z)
      rw [if_neg e]
      by_cases h2 : b < a
      · have e2 : Nat.blt b a = true := Nat.ble_eq_true_of_le h2
        rw [if_pos e2, decide_eq_false (fun z => by rcases List.cons_lt_cons_iff.mp z with z | ⟨z, _⟩ <;> omega)]
        rfl
      · have e2 : ¬ Nat.blt b a = true := fun z => h2 (Nat.le_of_ble_eq_true z)
        have e3 : a = b := by omega
        subst e3
        rw [if_neg e2, cmpN_lt as bs]
        by_cases h : as < bs
        · rw [decide_eq_true h, decide_eq_true (List.cons_lt_cons_iff.mpr (.inr ⟨rfl, h⟩))]
        · rw [decide_eq_false h, decide_eq_false (fun z => by
            rcases List.cons_lt_cons_iff.mp z with z | ⟨_, z⟩
            · omega
            · exact h z)]
theorem o_lt : OpR X (compareOp .Lt) (r2B X (opC .lt)) := by
  rintro pins s σ H x y v u Q I rx ry ⟨a, b, d, as, ex, st, wd, ra, rb, e, q⟩
  cases ra with
  | int i =>
    cases rb with
    | int j =>
      obtain rfl := Option.some.inj e
      exact op_lt pins s σ H _ _ v u Q I rx ry ⟨i, j, rfl, rfl, Wn.here wd q (.bl _)⟩
    | _ => cases e
  | str i =>
    cases rb with
    | str j =>
      obtain rfl := Option.some.inj e
      exact op_lt_str pins s σ H _ _ v u Q I rx ry ⟨i, j, rfl, rfl, by rw [← cmpN_lt]; exact Wn.here wd q (.bl _)⟩
    | _ => cases e
  | _ => cases rb <;> cases e
theorem o_le : OpR X (compareOp .LtE) (r2B X (opC .le)) := by
  rintro pins s σ H x y v u Q I rx ry ⟨a, b, d, as, ex, st, wd, ra, rb, e, q⟩
  cases ra with
  | int i =>
    cases rb with
    | int j =>
      obtain rfl := Option.some.inj e
      exact op_le pins s σ H _ _ v u Q I rx ry ⟨i, j, rfl, rfl, Wn.here wd q (.bl _)⟩
    | _ => cases e
  | _ => cases rb <;> cases e
theorem o_gt : OpR X (compareOp .Gt) (r2B X (opC .gt)) := by
  rintro pins s σ H x y v u Q I rx ry ⟨a, b, d, as, ex, st, wd, ra, rb, e, q⟩
  cases ra with
  | int i =>
    cases rb with
    | int j =>
      obtain rfl := Option.some.inj e
      exact op_gt pins s σ H _ _ v u Q I rx ry ⟨i, j, rfl, rfl, Wn.here wd q (.bl _)⟩
    | _ => cases e
  | _ => cases rb <;> cases e
theorem o_ge : OpR X (compareOp .GtE) (r2B X (opC .ge)) := by
  rintro pins s σ H x y v u Q I rx ry ⟨a, b, d, as, ex, st, wd, ra, rb, e, q⟩
  cases ra with
  | int i =>
    cases rb with
    | int j =>
      obtain rfl := Option.some.inj e
      exact op_ge pins s σ H _ _ v u Q I rx ry ⟨i, j, rfl, rfl, Wn.here wd q (.bl _)⟩
    | _ => cases e
  | _ => cases rb <;> cases e

theorem Rp.nonV {as : List Addr} {G : Hp} {K : PySem.W.Frag} {w : World} {d : D} {v : V} (r : Rp K w as G d v) : decide (v = .non) = D.beq d .non := by
  cases r <;> rfl
theorem o_is : OpR X (compareOp .Is) (r2B X (opC .is)) := by
  rintro pins s σ H x y v u Q I rx ry ⟨a, b, d, as, ex, st, wd, ra, rb, e, q⟩
  cases rb with
  | non =>
    have e : some (D.bl (D.beq a .non)) = some d := by cases a <;> exact e
    obtain rfl := Option.some.inj e
    exact op_isN pins s σ H _ _ v u Q I rx ry ⟨rfl, by rw [ra.nonV]; exact Wn.here wd q (.bl _)⟩
  | bl j =>
    cases ra with
    | bl i =>
      obtain rfl := Option.some.inj e
      exact op_isBl pins s σ H _ _ v u Q I rx ry ⟨i, j, rfl, rfl, by
        have e2 : decide (i = j) = (i == j) := by cases i <;> cases j <;> rfl
        rw [e2]
        exact Wn.here wd q (.bl _)⟩
    | _ => cases e
  | _ => cases ra <;> cases e
theorem o_isnot : OpR X (compareOp .IsNot) (r2B X (opC .isnot)) := by
  rintro pins s σ H x y v u Q I rx ry ⟨a, b, d, as, ex, st, wd, ra, rb, e, q⟩
  cases rb with
  | non =>
    have e : some (D.bl (!D.beq a .non)) = some d := by cases a <;> exact e
    obtain rfl := Option.some.inj e
    exact op_notN pins s σ H _ _ v u Q I rx ry ⟨rfl, by rw [ra.nonV]; exact Wn.here wd q (.bl _)⟩
  | bl j =>
    cases ra with
    | bl i =>
      obtain rfl := Option.some.inj e
      exact op_notBl pins s σ H _ _ v u Q I rx ry ⟨i, j, rfl, rfl, by
        have e2 : (!decide (i = j)) = !(i == j) := by cases i <;> cases j <;> rfl
        rw [e2]
        exact Wn.here wd q (.bl _)⟩
    | _ => cases e
  | _ => cases ra <;> cases e

open Classical in
noncomputable def eqOf (h : Heap) (d : D) (w : Value) : Bool := decide (∃ y, Rc h y w ∧ D.beq y d = true)
open Classical in
theorem eqOf_of {h : Heap} {d y : D} {w : Value} (r : Rc h y w) : eqOf h d w = D.beq y d := by
  unfold eqOf
  cases e : D.beq y d with
  | true => exact decide_eq_true ⟨y, r, e⟩
  | false => exact decide_eq_false fun ⟨z, r', e'⟩ => by rw [r'.inj r, e] at e'; cases e'
theorem any_eqOf {h : Heap} {d : D} : ∀ {ds : List D} {us : List Value}, RcL h ds us → us.any (eqOf h d) = ds.any fun y => D.beq y d
  | _, _, .nil => rfl
  | _, _, .cons r t => by rw [List.any_cons, List.any_cons, eqOf_of r, any_eqOf t]
theorem mem_eqOf {s : Shared} {d : D} {v : Value} {A : Around} (rv : Rc s.heap d v) : ∀ {ds : List D} {us : List Value}, RcL s.heap ds us → (∀ y ∈ ds, A.units + min y.dp d.dp < cLine) → ∀ u ∈ us, EqAt A s u v (eqOf s.heap d u)
  | _, _, .nil, _ => fun u hu => by cases hu
  | _, _, .cons r t, f => fun u' hu => by
    rcases List.mem_cons.mp hu with rfl | hu
    · rw [eqOf_of r]
      exact eqAt_D _ _ A s _ _ r rv (f _ List.mem_cons_self)
    · exact mem_eqOf rv t (fun y hy => f y (List.mem_cons_of_mem _ hy)) u' hu
theorem isInL_of {x : D} {ys : List D} {k : Bool} (h : isInL x ys = some k) : x.isPlain = true ∧ (∀ y ∈ ys, y.isPlain = true) ∧ k = ys.any fun y => D.beq y x := by
  unfold isInL at h
  cases hp : x.isPlain && ys.all D.isPlain with
  | false => rw [hp] at h; cases h
  | true =>
    rw [hp] at h
    obtain ⟨p1, p2⟩ := Bool.and_eq_true_iff.mp hp
    exact ⟨p1, fun y hy => List.all_eq_true.mp p2 y hy, (Option.some.inj h).symm⟩
theorem plL_of : ∀ {ys : List D}, (∀ y ∈ ys, y.isPlain = true) → D.plL ys = true
  | [], _ => rfl
  | y :: ys, h => by
    show (D.pl y && D.plL ys) = true
    rw [(dp_of (h y List.mem_cons_self)).1, plL_of fun z hz => h z (List.mem_cons_of_mem _ hz)]
    rfl
theorem in_seq (hu : X.A.units + 200 < cLine) {pins : List (Addr × Obj)} {s : Shared} {σ : L2.St} {H : Hp} {as ex : List Addr} {st : List D} {x y : V} {v u : Value} {Q : VK} {a b : D} {ys : List D} {k : Bool} (I : Inv X pins σ H s) (wd : Wd X.K X.w as ex H st)
    (rx : RelV x v) (ry : RelV y u) (ra : Rp X.K X.w as (gH as ex H) a x) (rb : Rp X.K X.w as (gH as ex H) b y) (hb : b = .tup ys ∨ b = .lst ys) (hk : isInL a ys = some k) :
    (Q (.bl k) H → wpAny (model X.prog X.w) X.A (compareOp .In v u) (EP X pins σ Q) X.xe s) ∧ (Q (.bl (!k)) H → wpAny (model X.prog X.w) X.A (compareOp .NotIn v u) (EP X pins σ Q) X.xe s) := by
  obtain ⟨p1, p2, rfl⟩ := isInL_of hk
  obtain ⟨pa, da⟩ := dp_of p1
  have pys := plL_of p2
  have ca := ra.rc I gH_same pa rx
  have hd : ∀ z ∈ ys, X.A.in1.units + min z.dp a.dp < cLine := fun z hz => by
    have := (dp_of (p2 z hz)).2
    simp only [Around.in1_units]
    omega
  rcases hb with rfl | rfl
  · cases rb with
    | tup h q =>
      cases ry
      obtain ⟨its, rv, ht, _⟩ := I.tuple (gSqT h.T)
      have cb := q.rc I gH_same pys rv
      have e : its.toArray.any (eqOf s.heap a) = ys.any fun y => D.beq y a := by rw [← any_eqOf cb]; simp
      exact ⟨fun q => SeqAt.in_tupleAt (eqOf s.heap a) ht (fun w hw => mem_eqOf ca cb hd w (by simpa using hw)) ⟨.bl _, H, I, rfl, by rw [e]; exact q⟩,
        fun q => SeqAt.notIn_tupleAt (eqOf s.heap a) ht (fun w hw => mem_eqOf ca cb hd w (by simpa using hw)) ⟨.bl _, H, I, rfl, by rw [e]; exact q⟩⟩
  · cases rb with
    | lst h q =>
      cases ry
      obtain ⟨its, rv, ht, _⟩ := I.list (.of (gH_same _ _ h))
      have cb := q.rc I gH_same pys rv
      have e : its.toArray.any (eqOf s.heap a) = ys.any fun y => D.beq y a := by rw [← any_eqOf cb]; simp
      exact ⟨fun q => SeqAt.in_listAt (eqOf s.heap a) ht.isList (fun w hw => mem_eqOf ca cb hd w (by simpa using hw)) ⟨.bl _, H, I, rfl, by rw [e]; exact q⟩,
        fun q => SeqAt.notIn_listAt (eqOf s.heap a) ht.isList (fun w hw => mem_eqOf ca cb hd w (by simpa using hw)) ⟨.bl _, H, I, rfl, by rw [e]; exact q⟩⟩
theorem isInN_eq (c : Nat) : ∀ l : List Nat, isInN c l = decide (c ∈ l)
  | [] => by simp [isInN]
  | d :: ds => by
    show (Nat.beq d c || isInN c ds) = _
    rw [isInN_eq c ds]
    have e : Nat.beq d c = decide (c = d) := by
      by_cases h : c = d
      · subst h; simp
      · rw [decide_eq_false h]
        cases q : Nat.beq d c with
        | false => rfl
        | true => exact absurd (Nat.eq_of_beq_eq_true q).symm h
    rw [e]
    by_cases h : c = d <;> simp [h]
end Q
end
section
set_option Elab.async false
set_option linter.all false
set_option maxRecDepth 100000
set_option maxHeartbeats 2000000
namespace Q
open PySem PySem.Spec PyProof.Rows L2
open PySem.SeqAt (EqAt)
open Ob (RcOp lexAt lexAt_succ lexAt_zero)
section
open PySem.AutoSeq1 (wpAny_loadPart')
open PySem.MeetsSeq PySem.MeetsSeq2 PySem.MeetsSeq3
abbrev tObj (its : Array Value) (n : Nat) (dd : Option Addr) (sl : Array (Option Value)) : Obj := { cls := .type "tuple", dict := dd, data := .seq its n, slots := sl }
theorem tuple_ltF (l b : Addr) (xs ys : Array Value) (n m : Nat) (d1 d2 : Option Addr) (s1 s2 : Array (Option Value)) (e r : Nat → Bool) :
    Meets (Builtin.«tuple.__lt__» ⟨[.ref l, .ref b], []⟩) (fun A R s => s.heap.get? l = some (tObj xs n d1 s1) ∧ s.heap.get? b = some (tObj ys m d2 s2) ∧
      (∀ j (h1 : j < xs.size) (h2 : j < ys.size), EqAt A.in1 s xs[j] ys[j] (e j)) ∧
      (∀ j (h1 : j < xs.size) (h2 : j < ys.size), (∀ i, i < j → e i = true) → e j = false → RcOp .Lt A.in1 s xs[j] ys[j] (r j)) ∧
      R (.ok (.ret (.bool (lexAt e r (decide (xs.size < ys.size)) 0 (min xs.size ys.size))))) s) :=
  .of_wp fun prog w A R s h => by
    obtain ⟨hp, g, d, tk, os⟩ := s
    obtain ⟨hl, hb, he, hr, h⟩ := h
    have f2 := AutoSeq1.sub_tuple_tuple
    have hZ : (xs.toList.zip ys.toList).length = min xs.size ys.size := by simp
    wp_walk using wpAny_loadPart' hl, wpAny_loadPart' hb, wpAny_forIn_list _ (fun rest q s' => q.1 = none ∧ s' = ⟨hp, g, d, tk, os⟩ ∧ ∃ i, rest = (xs.toList.zip ys.toList).drop i ∧ (∀ k, k < i → e k = true) ∧ R (.ok (.ret (.bool (lexAt e r (decide (xs.size < ys.size)) i (min xs.size ys.size - i))))) ⟨hp, g, d, tk, os⟩) _
    case turn =>
      rintro ⟨y, x⟩ rest q s' ⟨hq, rfl, i, hz, hall, hR⟩
      have hlt : i < (xs.toList.zip ys.toList).length := Nat.lt_of_not_le fun z => by rw [List.drop_of_length_le z] at hz; cases hz
      have hm : i < min xs.size ys.size := hZ ▸ hlt
      have h1 : i < xs.size := by omega
      have h2 : i < ys.size := by omega
      rw [List.drop_eq_getElem_cons hlt] at hz
      obtain ⟨hyx, hrest⟩ := List.cons.inj hz
      obtain rfl : y = xs[i] := by simpa using congrArg Prod.fst hyx
      obtain rfl : x = ys[i] := by simpa using congrArg Prod.snd hyx
      rw [show min xs.size ys.size - i = (min xs.size ys.size - (i + 1)) + 1 by omega, lexAt_succ] at hR
      refine wpAny_bind (he i h1 h2 prog w _ _ ?_)
      by_cases hei : e i = true
      · rw [if_pos hei] at hR
        rw [hei]
        wp_walk
        exact ⟨rfl, rfl, i + 1, hrest, fun k hk => (Nat.lt_succ_iff_lt_or_eq.mp hk).elim (hall k) fun z => z ▸ hei, hR⟩
      · rw [if_neg hei] at hR
        have hei : e i = false := by simpa using hei
        have hri := hr i h1 h2 hall hei prog w
        rw [hei]
        wp_walk using hri
        exact ⟨_, rfl, by simpa using hR⟩
    case fin =>
      rintro ⟨q1, q2⟩ s' ⟨hq, rfl, i, hz, hall, hR⟩
      cases hq
      have hge : min xs.size ys.size ≤ i := Nat.le_of_not_lt fun z => by rw [← hZ] at z; rw [List.drop_eq_getElem_cons z] at hz; cases hz
      rw [Nat.sub_eq_zero_of_le hge, lexAt_zero] at hR
      wp_walk
      exact ⟨_, rfl, by simpa [Builtin.Tuple.tupleCompareSizes] using hR⟩
    case h => exact ⟨rfl, rfl, 0, rfl, fun k hk => absurd hk (Nat.not_lt_zero k), by simpa using h⟩
theorem lt_tuples {A : Around} {s : Shared} {l b : Addr} {xs ys : Array Value} {e r : Nat → Bool} (hl : s.heap.IsTuple l xs) (hb : s.heap.IsTuple b ys) (hu : A.units < cLine)
    (he : ∀ j (h1 : j < xs.size) (h2 : j < ys.size), EqAt A.in1 s xs[j] ys[j] (e j)) (hr : ∀ j (h1 : j < xs.size) (h2 : j < ys.size), (∀ i, i < j → e i = true) → e j = false → RcOp .Lt A.in1 s xs[j] ys[j] (r j)) :
    RcOp .Lt A s (.ref l) (.ref b) (lexAt e r (decide (xs.size < ys.size)) 0 (min xs.size ys.size)) := fun prog w E Q h => by
  obtain ⟨⟨c1, dd, data, sl⟩, ho, hc, n, hd⟩ := id hl
  obtain ⟨⟨c2, dd2, data2, sl2⟩, ho2, hc2, n2, hd2⟩ := id hb
  cases hc
  cases hd
  cases hc2
  cases hd2
  exact richCompare_meets_room (op := .Lt) ⟨_, ho, rfl⟩ ⟨_, ho2, rfl⟩ F.slot_tuple_lt F.entry_tuple_lt (F.args_tuple_lt_2 _ _) (tuple_ltF l b xs ys n n2 dd dd2 sl sl2 e r) ⟨ho, ho2, he, hr, ⟨(fun x => nomatch x), h⟩⟩ hu
end
theorem lexAt_cons {e r : Nat → Bool} {z : Bool} : ∀ (k i : Nat), lexAt e r z (i + 1) k = lexAt (fun j => e (j + 1)) (fun j => r (j + 1)) z i k
  | 0, _ => rfl
  | k + 1, i => by rw [lexAt_succ, lexAt_succ, lexAt_cons k (i + 1)]
def rAt (xs ys : List D) (j : Nat) : Bool := match D.cmp (xs.getD j .non) (ys.getD j .non) with
  | some .lt => true
  | _ => false
theorem lexAt_D : ∀ (xs ys : List D) (o : Ordering), D.cmpL xs ys = some o → lexAt (dEqAt xs ys) (rAt xs ys) (decide (xs.length < ys.length)) 0 (min xs.length ys.length) = (o == .lt)
  | [], [], o, h => by rw [D.cmpL] at h; cases h; rfl
  | [], y :: ys, o, h => by rw [D.cmpL] at h; cases h; simp [lexAt_zero]
  | x :: xs, [], o, h => by rw [D.cmpL] at h; cases h; simp [lexAt_zero]
  | x :: xs, y :: ys, o, h => by
    rw [D.cmpL] at h
    have e1 : min (x :: xs).length (y :: ys).length = min xs.length ys.length + 1 := by simp only [List.length_cons]; omega
    have e2 : decide ((x :: xs).length < (y :: ys).length) = decide (xs.length < ys.length) := by simp
    rw [e1, e2, lexAt_succ]
    have e3 : dEqAt (x :: xs) (y :: ys) 0 = D.beq x y := rfl
    have e4 : rAt (x :: xs) (y :: ys) 0 = (match D.cmp x y with | some .lt => true | _ => false) := rfl
    cases e : D.beq x y with
    | true =>
      rw [e] at h
      rw [e3, e, if_pos rfl, lexAt_cons]
      exact lexAt_D xs ys o h
    | false =>
      rw [e] at h
      have h : D.cmp x y = some o := h
      rw [e3, e, if_neg Bool.false_ne_true, e4, h]
      cases o <;> rfl
mutual
theorem lt_D : ∀ (x y : D) (o : Ordering) (A : Around) (s : Shared) (a b : Value), D.ky x = true → D.ky y = true → Rc s.heap x a → Rc s.heap y b → D.cmp x y = some o → A.units + min x.dp y.dp < cLine → RcOp .Lt A s a b (o == .lt)
  | .int i, y, o, A, s, a, b, _, _, ra, rb, h, _ => by
    cases rb with
    | int j u =>
      cases ra with
      | int _ t =>
        rw [D.cmp] at h
        obtain rfl := Option.some.inj h
        have e : (D.cmpI i j == .lt) = decide (i < j) := by
          rw [Bool.eq_iff_iff, beq_iff_eq, D.cmpI_lt, decide_eq_true_eq]
        rw [e]
        exact RcOp.lt_int i j t u
    | _ => cases h
  | .str x, y, o, A, s, a, b, _, _, ra, rb, h, _ => by
    cases rb with
    | str z u =>
      cases ra with
      | str _ t =>
        rw [D.cmp] at h
        obtain rfl := Option.some.inj h
        rw [cmpN_lt]
        exact fun prog w E Q q => PyProof.Rows.lt_str q
    | _ => cases h
  | .tup xs, y, o, A, s, a, b, kx, ky, ra, rb, h, hu => by
    cases rb with
    | @tup l' vs' ys ht' r' =>
      cases ra with
      | @tup l vs _ ht r =>
        rw [D.cmp] at h
        have hz := lexAt_D xs ys o h
        rw [← hz]
        have n1 := r.length
        have n2 := r'.length
        have go := fun j h1 h2 => lt_DL xs ys A.in1 s vs vs' kx ky r r' (by
          simp only [D.dp, Around.in1_units] at hu ⊢
          omega) o h j h1 h2
        have eqs := fun j h1 h2 => eqAt_DL xs ys A.in1 s vs vs' r r' (by
          simp only [D.dp, Around.in1_units] at hu ⊢
          omega) j h1 h2
        have := lt_tuples (A := A) (s := s) (e := dEqAt xs ys) (r := rAt xs ys) ht ht' (by omega) (fun j h1 h2 => by simpa using eqs j (by simpa using h1) (by simpa using h2)) (fun j h1 h2 ha he => by simpa using go j (by simpa using h1) (by simpa using h2) ha he)
        simpa [n1, n2] using this
    | _ => cases h
  | .non, y, o, _, _, _, _, _, _, _, _, h, _ => by cases y <;> cases h
  | .bl _, _, _, _, _, _, _, k, _, _, _, _, _ => by cases k
  | .lst _, _, _, _, _, _, _, k, _, _, _, _, _ => by cases k
  | .dct _ _, _, _, _, _, _, _, k, _, _, _, _, _ => by cases k
  | .set _, _, _, _, _, _, _, k, _, _, _, _, _ => by cases k
  | .cell _, _, _, _, _, _, _, k, _, _, _, _, _ => by cases k
  | .exn _ _, _, _, _, _, _, _, k, _, _, _, _, _ => by cases k
  | .inp _, _, _, _, _, _, _, k, _, _, _, _, _ => by cases k
theorem lt_DL : ∀ (xs ys : List D) (A : Around) (s : Shared) (vs ws : List Value), D.kyL xs = true → D.kyL ys = true → RcL s.heap xs vs → RcL s.heap ys ws → A.units + min (D.dpL xs) (D.dpL ys) < cLine → ∀ o, D.cmpL xs ys = some o →
    ∀ j (h1 : j < vs.length) (h2 : j < ws.length), (∀ i, i < j → dEqAt xs ys i = true) → dEqAt xs ys j = false → RcOp .Lt A s vs[j] ws[j] (rAt xs ys j)
  | [], _, _, _, _, _, _, _, ra, _, _, _, _, j, h1, _, _, _ => by cases ra; exact absurd h1 (Nat.not_lt_zero _)
  | _ :: _, [], _, _, _, _, _, _, _, rb, _, _, _, j, _, h2, _, _ => by cases rb; exact absurd h2 (Nat.not_lt_zero _)
  | x :: xs, y :: ys, A, s, _, _, kx, ky, .cons r rs, .cons r' rs', hu, o, h, j, h1, h2, ha, he => by
    rw [D.kyL, Bool.and_eq_true] at kx ky
    rw [D.cmpL] at h
    simp only [D.dpL] at hu
    cases j with
    | zero =>
      have he : D.beq x y = false := he
      rw [he] at h
      have h : D.cmp x y = some o := h
      have q := lt_D x y o A s _ _ kx.1 ky.1 r r' h (by omega)
      have e : rAt (x :: xs) (y :: ys) 0 = (o == .lt) := by
        show (match D.cmp x y with | some .lt => true | _ => false) = _
        rw [h]
        cases o <;> rfl
      rw [e]
      exact q
    | succ j =>
      have h0 : D.beq x y = true := ha 0 (Nat.succ_pos j)
      rw [h0] at h
      exact lt_DL xs ys A s _ _ kx.2 ky.2 rs rs' (by omega) o h j (Nat.lt_of_succ_lt_succ h1) (Nat.lt_of_succ_lt_succ h2) (fun i hi => ha (i + 1) (Nat.succ_lt_succ hi)) he
end
end Q
end
section
set_option Elab.async false
set_option linter.all false
set_option maxRecDepth 100000
set_option maxHeartbeats 2000000
namespace Q
open PySem PySem.Spec PyProof.Rows L2
variable {K : PySem.W.Frag} {P : Program} {w : World} {as : List Addr} {G : Hp}
inductive Sv (K : PySem.W.Frag) (w : World) (as : List Addr) (G : Hp) : List D → List D → List (Str × Value) → Prop
  | nil : Sv K w as G [] [] []
  | cons {x : Str} {d : D} {v : V} {u : Value} {ks ds : List D} {kvs : List (Str × Value)} : Rp K w as G d v → RelV v u → Sv K w as G ks ds kvs → Sv K w as G (.str x :: ks) (d :: ds) ((x, u) :: kvs)
theorem Sv.keys : ∀ {ks ds : List D} {kvs : List (Str × Value)}, Sv K w as G ks ds kvs → ks = (kvs.map (·.1)).map D.str
  | _, _, _, .nil => rfl
  | _, _, _, .cons _ _ t => by rw [Sv.keys t]; rfl
theorem Sv.len : ∀ {ks ds : List D} {kvs : List (Str × Value)}, Sv K w as G ks ds kvs → kvs.length = ks.length ∧ ds.length = ks.length
  | _, _, _, .nil => ⟨rfl, rfl⟩
  | _, _, _, .cons _ _ t => by obtain ⟨a, b⟩ := Sv.len t; exact ⟨by simp [a], by simp [b]⟩
theorem Sv.allStr : ∀ {ks ds : List D} {kvs : List (Str × Value)}, Sv K w as G ks ds kvs → ks.all isStrD = true
  | _, _, _, .nil => rfl
  | _, _, _, .cons _ _ t => by rw [List.all_cons, Sv.allStr t]; rfl
theorem Sv.nodup {ks ds : List D} {kvs : List (Str × Value)} (h : Sv K w as G ks ds kvs) (n : ks.Nodup) : (kvs.map (·.1)).Nodup := by
  rw [h.keys] at n
  have aux : ∀ l : List Str, (l.map D.str).Nodup → l.Nodup := fun l => by
    induction l with
    | nil => exact fun _ => List.nodup_nil
    | cons x l ih =>
      intro h
      rw [List.map_cons, List.nodup_cons] at h
      exact List.nodup_cons.mpr ⟨fun z => h.1 (List.mem_map.mpr ⟨x, z, rfl⟩), ih h.2⟩
  exact aux _ n
theorem Sv.mono {as' : List Addr} {G' : Hp} (p : as <+: as') (s : Same G G') : ∀ {ks ds : List D} {kvs : List (Str × Value)}, Sv K w as G ks ds kvs → Sv K w as' G' ks ds kvs
  | _, _, _, .nil => .nil
  | _, _, _, .cons a b t => .cons (a.mono p s) b (Sv.mono p s t)
theorem beq_str (x y : Str) : D.beq (.str x) (.str y) = decide (x = y) := rfl
theorem Sv.look : ∀ {ks ds : List D} {kvs : List (Str × Value)}, Sv K w as G ks ds kvs → ∀ x : Str, (lookD ks ds (.str x) = none ∧ valueAt kvs x = none) ∨ ∃ d v u, lookD ks ds (.str x) = some d ∧ valueAt kvs x = some u ∧ RelV v u ∧ Rp K w as G d v
  | _, _, _, .nil, _ => .inl ⟨rfl, rfl⟩
  | _, _, _, @Sv.cons _ _ _ _ y d v u ks ds kvs a b t, x => by
    by_cases h : y = x
    · exact .inr ⟨d, v, u, by rw [lookD, beq_str, decide_eq_true h], by simp [valueAt, h], b, a⟩
    · have e1 : lookD (.str y :: ks) (d :: ds) (.str x) = lookD ks ds (.str x) := by rw [lookD, beq_str, decide_eq_false h]
      have e2 : valueAt ((y, u) :: kvs) x = valueAt kvs x := by simp [valueAt, h]
      rw [e1, e2]
      exact Sv.look t x
theorem any_keys : ∀ {ks ds : List D} {kvs : List (Str × Value)}, Sv K w as G ks ds kvs → ∀ x : Str, (kvs.any fun kv => decide (kv.1 = x)) = ks.any fun k => D.beq k (.str x)
  | _, _, _, .nil, _ => rfl
  | _, _, _, .cons _ _ t, x => by rw [List.any_cons, List.any_cons, any_keys t x]; rfl
theorem Sv.map_old : ∀ {ks ds : List D} {kvs : List (Str × Value)}, Sv K w as G ks ds kvs → ks.Nodup → ∀ (x : Str) (d : D) (v : V) (u : Value), (ks.any fun k => D.beq k (.str x)) = true → Rp K w as G d v → RelV v u →
    Sv K w as G (setD ks ds (.str x) d).1 (setD ks ds (.str x) d).2 (kvs.map fun kv => if kv.1 = x then (kv.1, u) else kv)
  | _, _, _, .nil, _, _, _, _, _, h, _, _ => by simp at h
  | _, _, _, @Sv.cons _ _ _ _ y d0 v0 u0 ks ds kvs a b t, n, x, d, v, u, h, r, ru => by
    rw [List.nodup_cons] at n
    by_cases e : y = x
    · subst e
      have z : kvs.map (fun kv => if kv.1 = y then (kv.1, u) else kv) = kvs := by
        refine map_store_of_not_mem kvs y u fun hm => n.1 ?_
        rw [t.keys]
        exact List.mem_map.mpr ⟨y, hm, rfl⟩
      rw [List.map_cons, z, if_pos rfl]
      have e1 : setD (.str y :: ks) (d0 :: ds) (.str y) d = (.str y :: ks, d :: ds) := by rw [setD, beq_str, decide_eq_true rfl]
      rw [e1]
      exact .cons r ru t
    · have e1 : setD (.str y :: ks) (d0 :: ds) (.str x) d = (.str y :: (setD ks ds (.str x) d).1, d0 :: (setD ks ds (.str x) d).2) := by rw [setD, beq_str, decide_eq_false e]
      rw [List.map_cons, if_neg e, e1]
      refine .cons a b (Sv.map_old t n.2 x d v u ?_ r ru)
      rw [List.any_cons, beq_str, decide_eq_false e, Bool.false_or] at h
      exact h
theorem setD_new : ∀ {ks ds : List D} (x d : D), ds.length = ks.length → (ks.any fun k => D.beq k x) = false → setD ks ds x d = (ks ++ [x], ds ++ [d])
  | [], [], _, _, _, _ => rfl
  | [], _ :: _, _, _, h, _ => by simp at h
  | _ :: _, [], _, _, h, _ => by simp at h
  | k :: ks, e :: ds, x, d, h, n => by
    rw [List.any_cons, Bool.or_eq_false_iff] at n
    rw [setD, n.1]
    show (k :: (setD ks ds x d).1, e :: (setD ks ds x d).2) = _
    rw [setD_new x d (by simpa using h) n.2]
    rfl
theorem Sv.snoc : ∀ {ks ds : List D} {kvs : List (Str × Value)}, Sv K w as G ks ds kvs → ∀ (x : Str) {d : D} {v : V} {u : Value}, Rp K w as G d v → RelV v u → Sv K w as G (ks ++ [.str x]) (ds ++ [d]) (kvs ++ [(x, u)])
  | _, _, _, .nil, _, _, _, _, r, ru => .cons r ru .nil
  | _, _, _, .cons a b t, x, _, _, _, r, ru => .cons a b (Sv.snoc t x r ru)
theorem Sv.put {ks ds : List D} {kvs : List (Str × Value)} (h : Sv K w as G ks ds kvs) (n : ks.Nodup) (x : Str) {d : D} {v : V} {u : Value} (r : Rp K w as G d v) (ru : RelV v u) :
    Sv K w as G (setD ks ds (.str x) d).1 (setD ks ds (.str x) d).2 (stored kvs x u) := by
  unfold stored
  rw [any_keys h x]
  by_cases c : (ks.any fun k => D.beq k (.str x)) = true
  · rw [if_pos c]
    exact h.map_old n x d v u c r ru
  · rw [if_neg c, setD_new _ _ h.len.2 (by simpa using c)]
    exact h.snoc x r ru
theorem setD_keys : ∀ {ks ds : List D} (x d : D), (setD ks ds x d).1 = ks ∨ (setD ks ds x d).1 = ks ++ [x] ∨ ds.length ≠ ks.length
  | [], [], _, _ => .inr (.inl rfl)
  | [], _ :: _, _, _ => .inr (.inr (by simp))
  | _ :: _, [], _, _ => .inr (.inr (by simp))
  | k :: ks, e :: ds, x, d => by
    cases h : D.beq k x with
    | true => exact .inl (by rw [setD, h])
    | false =>
      have e1 : setD (k :: ks) (e :: ds) x d = (k :: (setD ks ds x d).1, e :: (setD ks ds x d).2) := by rw [setD, h]
      rw [e1]
      rcases setD_keys (ks := ks) (ds := ds) x d with z | z | z
      · exact .inl (by rw [z])
      · exact .inr (.inl (by rw [z]; rfl))
      · exact .inr (.inr (by simpa using z))
theorem setD_nodup : ∀ {ks ds : List D} (x d : D), ks.Nodup → ds.length = ks.length → (setD ks ds x d).1.Nodup
  | ks, ds, x, d, n, l => by
    by_cases c : (ks.any fun k => D.beq k x) = true
    · have : (setD ks ds x d).1 = ks := by
        clear n
        induction ks generalizing ds with
        | nil => simp at c
        | cons k ks ih =>
          cases ds with
          | nil => simp at l
          | cons e ds =>
            cases h : D.beq k x with
            | true => rw [setD, h]
            | false =>
              rw [List.any_cons, h, Bool.false_or] at c
              have := ih (ds := ds) (by simpa using l) c
              rw [setD, h]
              show k :: (setD ks ds x d).1 = _
              rw [this]
      rw [this]
      exact n
    · have c : (ks.any fun k => D.beq k x) = false := by simpa using c
      rw [setD_new x d l c, List.nodup_append]
      refine ⟨n, by simp, fun a ha b hb => ?_⟩
      simp only [List.mem_singleton] at hb
      subst hb
      rintro rfl
      rw [List.any_eq_false] at c
      exact c a ha (D.beq_self a)
theorem sv_of : ∀ {ks vs : List D} {es : List DictEntry}, RpE K w as G ks vs es → ks.all isStrD = true →
    ∃ kvs, Sv K w as G ks vs kvs ∧ Pairs (strKind P w) es kvs ∧ ∀ e ∈ es, ∃ k, (strKind P w).is k e.key = true ∧ e.hash = (strKind P w).hash k
  | _, _, _, .nil, _ => ⟨[], .nil, .nil, fun _ h => by cases h⟩
  | _, _, _, @RpE.cons _ _ _ _ k d ks ds e es kv vv rk hk hh ik rv hv t, hs => by
    rw [List.all_cons, Bool.and_eq_true] at hs
    obtain ⟨kvs, h1, h2, h3⟩ := sv_of t hs.2
    cases rk with
    | str x =>
      obtain ⟨tk, ek⟩ := hk
      have hx : Value.isStrOf x e.key = true := by rw [ek]; simp [Value.isStrOf]
      refine ⟨(x, e.val) :: kvs, .cons rv hv h1, .cons hx rfl h2, fun e' he' => ?_⟩
      rcases List.mem_cons.mp he' with z | z
      · subst z
        exact ⟨x, hx, hh⟩
      · exact h3 e' z
    | _ => cases hs.1
theorem sv_dict {h : Heap} {a : Addr} {ks vs : List D} {es : List DictEntry} (raw : RawD a es h) (r : RpE K w as G ks vs es) (n : ks.Nodup) (hs : ks.all isStrD = true) :
    ∃ kvs, Sv K w as G ks vs kvs ∧ h.DictOf (strKind P w) a kvs := by
  obtain ⟨kvs, h1, h2, h3⟩ := sv_of (P := P) r hs
  obtain ⟨o, ep, ho, hc, hd⟩ := raw
  exact ⟨kvs, h1, o, es.toArray, ep, ho, hc, hd, fun e he => h3 e (by simpa using he), by simpa using h2, h1.nodup n⟩
theorem sv_to : ∀ {ks vs : List D} {kvs : List (Str × Value)} {es : List DictEntry}, Sv K w as G ks vs kvs → Pairs (strKind P w) es kvs → (∀ e ∈ es, ∃ k, (strKind P w).is k e.key = true ∧ e.hash = (strKind P w).hash k) → RpE K w as G ks vs es
  | _, _, _, _, .nil, .nil, _ => .nil
  | _, _, _, _, @Sv.cons _ _ _ _ x d v u ks ds kvs a b t, .cons hk hv p, hh => by
    obtain ⟨tk, ek⟩ := Value.isStrOf_shape hk
    obtain ⟨x', hx', hh'⟩ := hh _ List.mem_cons_self
    obtain rfl : x' = x := Value.isStrOf_inj _ _ _ hx' hk
    refine .cons (kv := .str x') (.str x') ⟨tk, ek⟩ ?_ rfl a (by rw [hv]; exact b) (sv_to t p fun e he => hh e (List.mem_cons_of_mem _ he))
    rw [hh']
    rfl
theorem dict_raw {h : Heap} {a : Addr} {ks vs : List D} {kvs : List (Str × Value)} (s : Sv K w as G ks vs kvs) (d : h.DictOf (strKind P w) a kvs) : ∃ es, RawD a es h ∧ RpE K w as G ks vs es ∧ es.length = ks.length := by
  obtain ⟨o, es, ep, ho, hc, hd, hk, hp, hn⟩ := d
  have r := sv_to (P := P) (es := es.toList) s hp fun e he => hk e (by simpa using he)
  exact ⟨es.toList, ⟨o, ep, ho, hc, by simpa using hd⟩, r, r.length.1⟩
theorem putAll_self : ∀ {ks vs ks0 vs0 : List D}, vs.length = ks.length → vs0.length = ks0.length → (ks0 ++ ks).Nodup → putAllD ks0 vs0 ks vs = (ks0 ++ ks, vs0 ++ vs)
  | [], [], _, _, _, _, _ => by simp [putAllD]
  | [], _ :: _, _, _, h, _, _ => by simp at h
  | _ :: _, [], _, _, h, _, _ => by simp at h
  | k :: ks, v :: vs, ks0, vs0, h, h0, n => by
    have c : (ks0.any fun z => D.beq z k) = false := by
      rw [List.any_eq_false]
      intro z hz hb
      rw [D.eq_of_beq _ _ hb] at hz
      exact (List.nodup_append.mp n).2.2 k hz k List.mem_cons_self rfl
    show putAllD (setD ks0 vs0 k v).1 (setD ks0 vs0 k v).2 ks vs = _
    rw [setD_new k v h0 c]
    show putAllD (ks0 ++ [k]) (vs0 ++ [v]) ks vs = _
    rw [putAll_self (by simpa using h) (by simp [h0]) (by simpa using n)]
    simp
theorem raw_stay {a : Addr} {es : List DictEntry} {h : Heap} (r : RawD a es h) : RawD a es h ∧ (∃ o, h.get? a = some o) ∧ ∀ h1 h2 : Heap, RawD a es h1 → (∀ o, h1.get? a = some o → h2.get? a = some o) → RawD a es h2 :=
  ⟨r, let ⟨o, _, e, _⟩ := r; ⟨o, e⟩, fun _ _ ⟨o, ep, e, c, d⟩ k => ⟨o, ep, k o e, c, d⟩⟩
end Q
end
section
set_option Elab.async false
set_option linter.all false
set_option maxRecDepth 100000
set_option maxHeartbeats 2000000
namespace Q
open PySem PySem.Spec PyProof.Rows L2
variable {X : Cx}
theorem atD_atI {α : Type} {xs : List α} {i : Int} {v : α} (h : atD xs i = some v) : atI xs i = some v := by
  cases i with
  | ofNat n => exact atI_nat h
  | negSucc n =>
    have h : (match Nat.blt n xs.length with | true => xs[xs.length - (n + 1)]? | false => none) = some v := h
    cases e : Nat.blt n xs.length with
    | false => rw [e] at h; cases h
    | true =>
      rw [e] at h
      have hl : n < xs.length := Nat.le_of_ble_eq_true e
      have e1 : ixN xs.length (Int.negSucc n) = some (xs.length - (n + 1)) := by
        unfold ixN
        rw [if_neg (by omega), if_pos (by omega)]
        congr 1
        omega
      unfold atI
      rw [e1]
      exact h
theorem atI_map {K : PySem.W.Frag} {w : World} {as : List Addr} {G : Hp} {ds : List D} {vs : List V} {i : Int} {d : D} (r : RpL K w as G ds vs) (h : atD ds i = some d) : ∃ v, atI vs i = some v ∧ Rp K w as G d v := by
  have h := atD_atI h
  unfold atI at h ⊢
  cases e : ixN ds.length i with
  | none => rw [e] at h; cases h
  | some j =>
    rw [e] at h
    obtain ⟨v, a, b⟩ := r.get (show ds[j]? = some d from h)
    exact ⟨v, by rw [r.length, e]; exact a, b⟩
theorem isKey_str {x : Str} : (D.str x).isKey = true := rfl
theorem hok_ext {pins : List (Addr × Obj)} {σ : L2.St} {H : Hp} {s : Shared} {as ex : List Addr} {a : Addr} {φ : Heap → Prop} (I : Inv X pins σ H s) (h : gH as ex H a = some (.ext φ)) : φ s.heap := (I.hok a _ (gH_same _ _ h)).1
theorem dview {pins : List (Addr × Obj)} {σ : L2.St} {H : Hp} {s : Shared} {as ex : List Addr} {a : Addr} {ks vs : List D} {es : List DictEntry} (I : Inv X pins σ H s) (h : gH as ex H a = some (.ext (RawD a es))) (r : RpE X.K X.w as (gH as ex H) ks vs es) (n : ks.Nodup) (hs : ks.all isStrD = true) :
    ∃ kvs, Sv X.K X.w as (gH as ex H) ks vs kvs ∧ s.heap.DictOf (strKind X.prog X.w) a kvs := sv_dict (hok_ext I h) r n hs
theorem kOk_of {ks : List D} {k : D} (h : (k.isKey && kOk ks k) = true) : (∃ x, k = .str x) ∧ ks.all isStrD = true := by
  rw [Bool.and_eq_true] at h
  obtain ⟨_, h⟩ := h
  unfold kOk at h
  rw [Bool.and_eq_true] at h
  cases k with
  | str x => exact ⟨⟨x, rfl⟩, h.2⟩
  | _ => cases h.1
theorem strIs {x : Str} {t : Tok} : Value.isStrOf x (.str x t) = true := by simp [Value.isStrOf]

def rIxQ (X : Cx) : R2 := fun x y H Q => ∃ a b d as ex st, Wd X.K X.w as ex H st ∧ Rp X.K X.w as (gH as ex H) a x ∧ Rp X.K X.w as (gH as ex H) b y ∧ ixM a b st = .ok d st ∧ Wn X as ex H st d Q
theorem ixM_of {a b : D} {st st' : St} {d : D} (h : ixM a b st = .ok d st') : st' = st ∧ ((∃ n k xs, a = .cell n ∧ b = .int k ∧ st[n]? = some (.lst xs) ∧ atD xs k = some d) ∨ opIx a b = some d) := by
  unfold ixM at h
  split at h
  · rename_i n k
    cases e : st[n]? with
    | none => rw [e] at h; cases h
    | some z =>
      rw [e] at h
      cases z with
      | lst xs =>
        cases e2 : atD xs k with
        | none => simp only [e2] at h; cases h
        | some d' =>
          simp only [e2] at h
          cases h
          exact ⟨rfl, .inl ⟨n, k, xs, rfl, rfl, e, e2⟩⟩
      | _ => cases h
  · cases e : opIx a b with
    | none => rw [e] at h; cases h
    | some d' =>
      rw [e] at h
      cases h
      exact ⟨rfl, .inr rfl⟩
theorem ix_q : IxR X (rIxQ X) := by
  rintro value slice pins s σ H x y v u Q I rx ry ⟨a, b, d, as, ex, st, wd, ra, rb, e, q⟩ hs
  rcases (ixM_of e).2 with ⟨n, k, xs, rfl, rfl, e1, e2⟩ | e
  · cases ra with
    | @cell a _ h =>
      cases rb
      obtain ⟨ds, vs, ed, hH, r⟩ := wd.cells n _ _ h e1
      cases ed
      obtain ⟨v', h1, h2⟩ := atI_map r e2
      exact ix_list value slice pins s σ H _ _ v u Q I rx ry ⟨_, _, _, _, rfl, rfl, .of hH, h1, Wn.here wd q h2⟩ hs
  cases ra with
  | tup h r =>
    cases rb with
    | int i =>
      obtain ⟨v', h1, h2⟩ := atI_map r (show atD _ i = some d from e)
      exact ix_tup value slice pins s σ H _ _ v u Q I rx ry ⟨_, _, _, _, rfl, rfl, gSqT h.T, h1, Wn.here wd q h2⟩ hs
    | _ => cases e
  | lst h r =>
    cases rb with
    | int i =>
      obtain ⟨v', h1, h2⟩ := atI_map r (show atD _ i = some d from e)
      exact ix_list value slice pins s σ H _ _ v u Q I rx ry ⟨_, _, _, _, rfl, rfl, .of (gH_same _ _ h), h1, Wn.here wd q h2⟩ hs
    | _ => cases e
  | str z =>
    cases rb with
    | int i =>
      have e : (match Nat.ble z.length LIM with | true => (atD z.cps.toList i).map fun c => D.str ⟨#[c]⟩ | false => none) = some d := e
      cases hz : Nat.ble z.length LIM with
      | false => rw [hz] at e; cases e
      | true =>
        rw [hz] at e
        obtain ⟨c, e1, rfl⟩ := Option.map_eq_some_iff.mp e
        exact ix_str value slice pins s σ H _ _ v u Q I rx ry ⟨z, i, c, rfl, rfl, by rw [← LIM_eq]; exact Nat.le_of_ble_eq_true hz, atD_atI e1, Wn.here wd q (.str _)⟩ hs
    | _ => cases e
  | @dct a ks vs es h hS hz r n =>
    have e : (match b.isKey && kOk ks b with | true => lookD ks vs b | false => none) = some d := e
    cases hk : b.isKey && kOk ks b with
    | false => rw [hk] at e; cases e
    | true =>
      rw [hk] at e
      obtain ⟨⟨x, rfl⟩, ha⟩ := kOk_of hk
      cases rb
      obtain ⟨t, rfl⟩ := ry
      cases rx
      obtain ⟨kvs, sv, dd⟩ := dview I h r n ha
      rcases sv.look x with ⟨z, _⟩ | ⟨d', v', u', e1, e2, ru, rd⟩
      · rw [z] at e; cases e
      · rw [e1] at e
        cases e
        exact tail_any dd.typeIs slot_dict_getitem.lookup (wpAny_getItem_of (k := x) (strIs (t := t)) dd.mapOf e2 ⟨v', H, I.tok _, ru, Wn.here wd q rd⟩) hs
  | _ => first | cases e | (cases rb <;> cases e)

theorem cutV_eq (vs : List V) (lo hi : Option Int) : cutV vs lo hi = sliceL vs lo hi := rfl
theorem RpL.slice {K : PySem.W.Frag} {w : World} {as : List Addr} {G : Hp} {ds : List D} {vs : List V} (r : RpL K w as G ds vs) (lo hi : Option Int) : RpL K w as G (sliceL ds lo hi) (sliceL vs lo hi) := by
  unfold sliceL
  rw [r.length]
  exact (r.drop _).take _
theorem slice_whole {α : Type} (xs : List α) (lo hi : Option Int) (h : HT.sIx xs.length 0 lo = 0 ∧ HT.sIx xs.length xs.length hi = xs.length) : sliceL xs lo hi = xs := by
  unfold sliceL
  rw [h.1, h.2, Nat.sub_zero, List.drop_zero, List.take_length]
def rSlQ (X : Cx) : V → Option Int → Option Int → Hp → VK → Prop := fun x lo hi H Q => ∃ a d as ex st, Wd X.K X.w as ex H st ∧ Rp X.K X.w as (gH as ex H) a x ∧ opSl a lo hi = some d ∧ Wn X as ex H st d Q
theorem sl_q : SlR X (rSlQ X) := by
  rintro pins s σ H x v vl vu lo hi sl Q I rx hs pl pu ⟨a, d, as, ex, st, wd, ra, e, q⟩
  cases ra with
  | tup h r =>
    obtain rfl := Option.some.inj e
    refine sl_tupN pins s σ H _ v vl vu lo hi sl Q I rx hs pl pu ⟨_, _, rfl, gSqT h.T, fun hw => ?_, fun _ => Wn.tup wd q (r.slice lo hi)⟩
    rw [r.length] at hw
    rw [slice_whole _ _ _ hw] at q
    exact Wn.here wd q (.tup h r)
  | lst h r =>
    obtain rfl := Option.some.inj e
    exact sl_list pins s σ H _ v vl vu lo hi sl Q I rx hs pl pu ⟨_, _, rfl, .of (gH_same _ _ h), Wn.lst wd q (r.slice lo hi)⟩
  | str z =>
    have e : (match Nat.ble z.length LIM with | true => some (D.str ⟨(sliceL z.cps.toList lo hi).toArray⟩) | false => none) = some d := e
    cases hz : Nat.ble z.length LIM with
    | false => rw [hz] at e; cases e
    | true =>
      rw [hz] at e
      obtain rfl := Option.some.inj e
      refine sl_str pins s σ H _ v vl vu lo hi sl Q I rx hs pl pu ⟨z, rfl, by rw [← LIM_eq]; exact Nat.le_of_ble_eq_true hz, ?_⟩
      have e1 : cutS z lo hi = ⟨(sliceL z.cps.toList lo hi).toArray⟩ := by
        unfold cutS sliceL
        rw [show z.cps.toList.length = z.length by simp [Str.length]]
      rw [e1]
      exact Wn.here wd q (.str _)
  | _ => cases e

theorem sgnOf {x z : Str} {k : Bool} (h : (match x.cps.toList with | [c] => some (isInN c z.cps.toList) | _ => none) = some k) : ∃ c, x = ⟨#[c]⟩ ∧ k = decide (c ∈ z.cps.toList) := by
  obtain ⟨⟨l⟩⟩ := x
  match l, h with
  | [c], h => exact ⟨c, rfl, by rw [← isInN_eq]; exact (Option.some.inj h).symm⟩
theorem o_isin (hu : X.A.units + 200 < cLine) : OpR X (compareOp .In) (r2B X (opC .isin)) := by
  rintro pins s σ H x y v u Q I rx ry ⟨a, b, d, as, ex, st, wd, ra, rb, e, q⟩
  obtain ⟨k, e0, rfl⟩ := Option.map_eq_some_iff.mp e
  clear e
  have e := e0
  clear e0
  have q := Wn.here wd q (.bl k)
  cases rb with
  | @tup _ ys _ h r => exact (in_seq hu I wd rx ry ra (.tup h r) (.inl rfl) (show isInL a ys = some k from e)).1 q
  | @lst _ ys _ h r => exact (in_seq hu I wd rx ry ra (.lst h r) (.inr rfl) (show isInL a ys = some k from e)).1 q
  | str z =>
    cases ra with
    | str x =>
      obtain ⟨c, rfl, rfl⟩ := sgnOf (show (match x.cps.toList with | [c] => some (isInN c z.cps.toList) | _ => none) = some k from e)
      exact op_in_sign pins s σ H _ _ v u Q I rx ry ⟨c, z, rfl, rfl, q⟩
    | _ => cases e
  | @dct a' ks vs es h hS hz r n =>
    have e : (match a.isKey && kOk ks a with | true => some (ks.any fun k => D.beq k a) | false => none) = some k := by cases ra <;> exact e
    cases hk : a.isKey && kOk ks a with
    | false => rw [hk] at e; cases e
    | true =>
      rw [hk] at e
      obtain ⟨⟨x, rfl⟩, ha⟩ := kOk_of hk
      cases ra
      obtain ⟨t, rfl⟩ := rx
      cases ry
      obtain ⟨kvs, sv, dd⟩ := dview I h r n ha
      refine wpAny_in_of (k := x) (strIs (t := t)) hS dd.mapOf ⟨.bl k, H, I.tok _, ?_, q⟩
      have e : (ks.any fun k => D.beq k (.str x)) = k := Option.some.inj e
      rw [← any_keys sv x] at e
      have : (valueAt kvs x).isSome = k := by
        rw [← e]
        unfold valueAt
        rw [Option.isSome_map]
        rw [Bool.eq_iff_iff, List.find?_isSome, List.any_eq_true]
      rw [this]
      rfl
  | _ => cases ra <;> cases e
theorem o_notin (hu : X.A.units + 200 < cLine) : OpR X (compareOp .NotIn) (r2B X (opC .notin)) := by
  rintro pins s σ H x y v u Q I rx ry ⟨a, b, d, as, ex, st, wd, ra, rb, e, q⟩
  obtain ⟨k, e0, rfl⟩ := Option.map_eq_some_iff.mp e
  clear e
  have e := e0
  clear e0
  have q := Wn.here wd q (.bl k)
  cases rb with
  | @tup _ ys _ h r =>
    obtain ⟨k', e', rfl⟩ := Option.map_eq_some_iff.mp (show (isInL a ys).map (!·) = some k from by cases ra <;> exact e)
    exact (in_seq hu I wd rx ry ra (.tup h r) (.inl rfl) e').2 q
  | @lst _ ys _ h r =>
    obtain ⟨k', e', rfl⟩ := Option.map_eq_some_iff.mp (show (isInL a ys).map (!·) = some k from by cases ra <;> exact e)
    exact (in_seq hu I wd rx ry ra (.lst h r) (.inr rfl) e').2 q
  | _ => cases ra <;> cases e
end Q
end
section
set_option Elab.async false
set_option linter.all false
set_option maxRecDepth 100000
set_option maxHeartbeats 2000000
namespace Q
open PySem PySem.Spec PyProof.Rows L2
variable {X : Cx}
theorem RpL.one {K : PySem.W.Frag} {w : World} {as : List Addr} {G : Hp} {d : D} {vs : List V} (r : RpL K w as G [d] vs) : ∃ v, vs = [v] ∧ Rp K w as G d v := by
  cases r with
  | cons a t => cases t; exact ⟨_, rfl, a⟩
def isLstD : D → Bool
  | .lst _ => true
  | _ => false
def isDctD : D → Bool
  | .dct _ _ => true
  | _ => false
def rMt (X : Cx) (m : Mt) (p : D → Bool) : V → List V → Hp → VK → Prop := fun x vs H Q => ∃ a ds d as ex st, Wd X.K X.w as ex H st ∧ Rp X.K X.w as (gH as ex H) a x ∧ p a = true ∧ RpL X.K X.w as (gH as ex H) ds vs ∧ opMt m a ds = some d ∧ Wn X as ex H st d Q
theorem countP_eqOf {h : Heap} {d : D} : ∀ {ds : List D} {us : List Value}, RcL h ds us → us.countP (eqOf h d) = (ds.filter fun y => D.beq y d).length
  | _, _, .nil => rfl
  | _, _, .cons r t => by
    rw [List.countP_cons, eqOf_of r, countP_eqOf t, List.filter_cons]
    cases D.beq _ d <;> simp
def cntD (xs ds : List D) : Option D := match ds with
  | [x] => (match x.isPlain && xs.all D.isPlain with
    | true => some (D.int ((xs.filter fun y => D.beq y x).length))
    | false => none)
  | _ => none
theorem cnt_tup (xs ds : List D) : opMt .count (.tup xs) ds = cntD xs ds := by
  cases ds with
  | nil => rfl
  | cons y t => cases t <;> rfl
theorem cnt_lst (xs ds : List D) : opMt .count (.lst xs) ds = cntD xs ds := by
  cases ds with
  | nil => rfl
  | cons y t => cases t <;> rfl
theorem count_of {xs ds : List D} {d : D} (h : cntD xs ds = some d) : ∃ x, ds = [x] ∧ x.isPlain = true ∧ (∀ y ∈ xs, y.isPlain = true) ∧ d = .int ((xs.filter fun y => D.beq y x).length) := by
  unfold cntD at h
  match ds, h with
  | [x], h =>
    cases e : x.isPlain && xs.all D.isPlain with
    | false => simp only [e] at h; cases h
    | true =>
      simp only [e] at h
      rw [Bool.and_eq_true] at e
      cases h
      exact ⟨x, rfl, e.1, fun y hy => List.all_eq_true.mp e.2 y hy, rfl⟩
theorem m_tup_count (hu : X.A.units + 200 < cLine) : MtR X "tuple.count" (rMt X .count isTupD) := by
  rintro pins s σ H x vs v us Q I rx rvs ⟨a, ds, d, as, ex, st, wd, ra, pa, rd, e, q⟩
  cases ra with
  | @tup _ xs _ h r =>
    obtain ⟨y, rfl, p1, p2, rfl⟩ := count_of ((cnt_tup xs ds).symm.trans e)
    obtain ⟨vy, rfl, ry⟩ := rd.one
    obtain ⟨u, rfl, ru⟩ := rvs.one
    obtain ⟨py, dy⟩ := dp_of p1
    cases rx
    obtain ⟨its, rv, ⟨⟨cls, dd, data, sl⟩, ho, hc, n, hd⟩, hlen⟩ := I.tuple (gSqT h.T)
    simp only at hc hd
    subst hc hd
    have cy := ry.rc I gH_same py ru
    have cx := r.rc I gH_same (plL_of p2) rv
    have hdp : ∀ z ∈ xs, X.A.in1.units + min z.dp y.dp < cLine := fun z hz => by
      have := (dp_of (p2 z hz)).2
      simp only [Around.in1_units]
      omega
    refine call_meets PySem.F.slot_tuple_count ⟨_, ho, rfl⟩ PySem.F.entry_tuple_count (PySem.F.args_tuple_count_2 _ _)
      (SeqAt.tuple_countAt _ its.toArray n dd sl u (eqOf s.heap y)) ⟨ho, fun w hw => mem_eqOf cy cx hdp w (by simpa using hw), ?_⟩
    refine ⟨.int _, H, I.tok _, ⟨s.toks, ?_⟩, Wn.here wd q (.int _)⟩
    rw [show its.toArray.toList = its by simp, countP_eqOf cx]
  | _ => cases pa
theorem m_lst_count (hu : X.A.units + 200 < cLine) : MtR X "list.count" (rMt X .count isLstD) := by
  rintro pins s σ H x vs v us Q I rx rvs ⟨a, ds, d, as, ex, st, wd, ra, pa, rd, e, q⟩
  cases ra with
  | @lst _ xs _ h r =>
    obtain ⟨y, rfl, p1, p2, rfl⟩ := count_of ((cnt_lst xs ds).symm.trans e)
    obtain ⟨vy, rfl, ry⟩ := rd.one
    obtain ⟨u, rfl, ru⟩ := rvs.one
    obtain ⟨py, dy⟩ := dp_of p1
    cases rx
    obtain ⟨its, rv, ⟨⟨cls, dd, data, sl⟩, n, ho, hc, hdn, hd⟩, hlen⟩ := I.list (.of (gH_same _ _ h))
    simp only at hc hd
    subst hc hd
    have cy := ry.rc I gH_same py ru
    have cx := r.rc I gH_same (plL_of p2) rv
    have hdp : ∀ z ∈ xs, X.A.in1.units + min z.dp y.dp < cLine := fun z hz => by
      have := (dp_of (p2 z hz)).2
      simp only [Around.in1_units]
      omega
    refine call_meets PySem.F.slot_list_count ⟨_, ho, rfl⟩ PySem.F.entry_list_count (PySem.F.args_list_count_2 _ _)
      (SeqAt.list_countAt _ its.toArray n dd sl u (eqOf s.heap y)) ⟨ho, fun w hw => mem_eqOf cy cx hdp w (by simpa using hw), ?_⟩
    refine ⟨.int _, H, I.tok _, ⟨s.toks, ?_⟩, Wn.here wd q (.int _)⟩
    rw [show its.toArray.toList = its by simp, countP_eqOf cx]
  | _ => cases pa
theorem m_dct_get : MtR X "dict.get" (rMt X .get isDctD) := by
  rintro pins s σ H x vs v us Q I rx rvs ⟨a, ds, d, as, ex, st, wd, ra, pa, rd, e, q⟩
  cases ra with
  | @dct _ ks ws es h hS hz r n =>
    match ds, e, rd with
    | [k, d0], e, .cons rk (.cons r0 .nil) =>
      have e : (match k.isKey && kOk ks k with | true => some ((lookD ks ws k).getD d0) | false => none) = some d := e
      cases hk : k.isKey && kOk ks k with
      | false => rw [hk] at e; cases e
      | true =>
        rw [hk] at e
        obtain ⟨⟨z, rfl⟩, ha⟩ := kOk_of hk
        cases rk
        obtain ⟨u1, u2, rfl, ⟨t, rfl⟩, ru2⟩ := rvs.two
        cases rx
        obtain ⟨kvs, sv, dd⟩ := dview I h r n ha
        refine call_meetsIn PySem.F.slot_dict_get dd.typeIs PySem.F.entry_dict_get (PySem.F.args_dict_get_3 _ _ _) (meets_dict_get_default (strKind X.prog X.w) _ (k := z) (show (strKind X.prog X.w).is z (.str z t) = true from strIs (t := t)) hS u2) ⟨_, dd.mapOf, ?_⟩
        rcases sv.look z with ⟨z1, z2⟩ | ⟨d', v', u', e1, e2, ru, rd'⟩
        · rw [z2]
          rw [z1] at e
          cases e
          exact ⟨_, H, I.tok _, ru2, Wn.here wd q r0⟩
        · rw [e2]
          rw [e1] at e
          cases e
          exact ⟨_, H, I.tok _, ru, Wn.here wd q rd'⟩
    | [], e, _ => cases e
    | [_], e, _ => cases e
    | _ :: _ :: _ :: _, e, _ => cases e
  | _ => cases pa
def mtName : Mt → Str
  | .count => "count"
  | .index => "index"
  | .get => "get"
  | .join => "join"
  | .startswith => "startswith"
theorem noD {s : Shared} {a : Addr} {ob : Obj} (h : s.heap.get? a = some ob) (hd : ob.dict = none) : ∀ b, Value.ref a = .ref b → ∃ o, s.heap.get? b = some o ∧ o.dict = none := fun b e => by
  cases e
  exact ⟨ob, h, hd⟩
theorem tup_nod {pins : List (Addr × Obj)} {σ : L2.St} {H : Hp} {s : Shared} {a : Addr} {xs : List V} {as ex : List Addr} (I : Inv X pins σ H s) (h : SqN X.K (gH as ex H) a xs) : ∃ ob, s.heap.get? a = some ob ∧ ob.cls = .type "tuple" ∧ ob.dict = none := by
  rcases h with ⟨o, h, h1, h2⟩ | ⟨o, _, _, h, h1, h2, _⟩
  · exact ⟨o, (I.hok a _ (gH_same _ _ h)).1, h1, h2⟩
  · exact ⟨o, I.kIn a o h, h1, h2⟩
theorem recv {m : Mt} {pins : List (Addr × Obj)} {σ : L2.St} {H : Hp} {s : Shared} {as ex : List Addr} {st : List D} {x : V} {v : Value} {a : D} (hu : X.A.units + 200 < cLine) (I : Inv X pins σ H s) (ra : Rp X.K X.w as (gH as ex H) a x) (rx : RelV x v) (hm : mtOk m a = true) :
    ∃ T id p, PlainAttrs T ∧ Slot T (mtName m) id ∧ typeOf (.builtin id) = pure (.type "method_descriptor") ∧ s.TypeIs v T ∧ (∀ b, v = .ref b → ∃ ob, s.heap.get? b = some ob ∧ ob.dict = none) ∧ p a = true ∧ MtR X id (rMt X m p) := by
  cases m with
  | count =>
    cases ra with
    | tup h r =>
      cases rx
      obtain ⟨ob, h1, h2, h3⟩ := tup_nod I h
      exact ⟨"tuple", "tuple.count", isTupD, PySem.F.plainAttrs_tuple, PySem.F.slot_tuple_count, PySem.F.type_tuple_count, ⟨ob, h1, h2⟩, noD h1 h3, rfl, m_tup_count hu⟩
    | lst h r =>
      cases rx
      obtain ⟨its, _, ⟨ob, n, e, c, hd, _⟩, _⟩ := I.list (.of (gH_same _ _ h))
      exact ⟨"list", "list.count", isLstD, PySem.F.plainAttrs_list, PySem.F.slot_list_count, PySem.F.type_list_count, ⟨ob, e, c⟩, noD e hd, rfl, m_lst_count hu⟩
    | _ => cases hm
  | get =>
    cases ra with
    | dct h hS hz r n =>
      cases rx
      obtain ⟨o, ep, e, c, hd⟩ := hok_ext I h
      exact ⟨"dict", "dict.get", isDctD, PySem.F.plainAttrs_dict, PySem.F.slot_dict_get, PySem.F.type_dict_get, ⟨o, e, c.1⟩, noD e c.2.1, rfl, m_dct_get⟩
    | _ => cases hm
  | _ => cases ra <;> cases hm
theorem q_mt {m : Mt} {o e : Expr} {es : List Expr} {mo : List (Option D) → M D} {ms : List (Option D) → M (List D)} {name : Str} {apos cpos : Pos} (hu : X.A.units + 200 < cLine) (hn : name = mtName m) (ho : PE X o (TmX X mo)) (ha : PA X (e :: es) (TmL X ms))
    (hbase : attributeBase o name X.env (eval o X.env) = eval o X.env)
    (hfew : ((backTo cpos (starEach (e :: es) X.env)).all (fun x => !x.1) && (backToKw cpos (keywordEach [] X.env)).all (fun x => x.1.isSome)
      && decide ((e :: es).length + ([] : List Keyword).length + (if ([] : List Keyword).isEmpty then 0 else 1) < 30)) = true)
    (hline : (apos.endLine == cpos.line) = true) (hs : starEach (e :: es) X.env = (false, eval e X.env) :: starEach es X.env) (hplain : (backTo cpos (starEach es X.env)).any (·.1) = false) :
    PE X (.Call (.Attribute o name apos) (e :: es) [] cpos) (TmX X fun ρ => M.bind (mo ρ) fun x => match mtOk m x with
      | true => M.bind (ms ρ) fun xs => M.ofO (opMt m x xs)
      | false => M.stuck) := by
  subst hn
  refine ⟨fun pins s σ H Q I ⟨ρ, as, ex, st, wd, er, h⟩ => ?_⟩
  refine wpAny_Call_method_late hbase hfew hline rfl (thn (ho.run pins s σ H _ I ⟨ρ, as, ex, st, wd, er, Aft.bind er h⟩) fun v s1 ⟨x, H1, I1, r1, a, st1, as1, _, md, h1⟩ => ?_)
  cases hm : mtOk m a with
  | false =>
    rw [hm] at h1
    exact False.elim h1
  | true =>
    rw [hm] at h1
    obtain ⟨T, id, p, pa, slot, hty, ht, hd, hp, hM⟩ := recv (as := as1) (ex := ex) (st := st1) hu I1 md.rp r1 hm
    refine ⟨T, id, pa, slot, hty, ht, hd, ?_⟩
    have hA := ha.run cpos pins s1 σ H1 _ I1 ⟨ρ, as1, ex, st1, md.wd, md.env, Aft.bind md.env h1⟩
    rw [hs] at hA ⊢
    refine Calls.callWith_builtin (by show (false || (backTo cpos (starEach es X.env)).any (·.1)) = false; rw [hplain] <;> rfl) (Calls.evalArgs_plain ?_)
    refine thn hA fun us s2 ⟨vs, H2, I2, r2, ds, st2, as2, _, md2, h2⟩ => ?_
    obtain ⟨d, e, h2⟩ := h2.ofO
    exact hM pins s2 σ H2 x vs v us Q I2 r1 r2 ⟨a, ds, d, as2, ex, st2, md2.wd, md.rp.mono md2.ext.pre md2.ext.same, hp, md2.rp, e, h2⟩
end Q
end
section
set_option Elab.async false
set_option linter.all false
set_option maxRecDepth 100000
set_option maxHeartbeats 2000000
namespace Q
open PySem PySem.Spec PyProof.Rows L2
variable {X : Cx}
def rBi (X : Cx) (b : Bi) : List V → Hp → VK → Prop := fun vs H Q => ∃ ds d as ex st, Wd X.K X.w as ex H st ∧ RpL X.K X.w as (gH as ex H) ds vs ∧ opBi b ds = some d ∧ Wn X as ex H st d Q
theorem one_of {b : Bi} {ds : List D} {d : D} (h : opBi b ds = some d) : ∃ x, ds = [x] := by
  cases ds with
  | nil => cases b <;> cases h
  | cons x r =>
    cases r with
    | nil => exact ⟨x, rfl⟩
    | cons y r => cases b <;> (cases x <;> cases h)
theorem b_tuple : CallR X (.type "tuple") (rBi X .tuple) := by
  rintro pins s σ H vs us Q I rv ⟨ds, d, as, ex, st, wd, rd, e, q⟩
  obtain ⟨x, rfl⟩ := one_of e
  obtain ⟨v, rfl, r⟩ := rd.one
  cases r with
  | tup h t =>
    obtain rfl := Option.some.inj e
    exact call_tupleN pins s σ H _ us Q I rv ⟨_, _, rfl, .inr ⟨gSqT h.T, Wn.here wd q (.tup h t)⟩⟩
  | lst h t =>
    obtain rfl := Option.some.inj e
    exact call_tupleN pins s σ H _ us Q I rv ⟨_, _, rfl, .inl ⟨.of (gH_same _ _ h), Wn.tup wd q t⟩⟩
  | _ => cases e
theorem b_list : CallR X (.type "list") (rBi X .list) := by
  rintro pins s σ H vs us Q I rv ⟨ds, d, as, ex, st, wd, rd, e, q⟩
  obtain ⟨x, rfl⟩ := one_of e
  obtain ⟨v, rfl, r⟩ := rd.one
  cases r with
  | tup h t =>
    obtain rfl := Option.some.inj e
    exact call_list_of pins s σ H _ us Q I rv ⟨_, _, rfl, .inr (gSqT h.T), Wn.lst wd q t⟩
  | lst h t =>
    obtain rfl := Option.some.inj e
    exact call_list_of pins s σ H _ us Q I rv ⟨_, _, rfl, .inl (.of (gH_same _ _ h)), Wn.lst wd q t⟩
  | inp h t =>
    obtain rfl := Option.some.inj e
    exact call_list_of pins s σ H _ us Q I rv ⟨_, _, rfl, .inl (gSqL h), Wn.lst wd q t⟩
  | _ => cases e
theorem allInt_of {K : PySem.W.Frag} {w : World} {as : List Addr} {G : Hp} : ∀ {ds : List D} {vs : List V} {l : List Int}, RpL K w as G ds vs → allInt ds = some l → vs = l.map V.int
  | [], _, _, .nil, h => by cases h; rfl
  | d :: ds, _, l, .cons r t, h => by
    cases r with
    | int i =>
      have h : (allInt ds).map (i :: ·) = some l := h
      obtain ⟨l', e, rfl⟩ := Option.map_eq_some_iff.mp h
      rw [allInt_of t e]
      rfl
    | _ => cases h
theorem allBl_of {K : PySem.W.Frag} {w : World} {as : List Addr} {G : Hp} : ∀ {ds : List D} {vs : List V} {l : List Bool}, RpL K w as G ds vs → allBl ds = some l → vs = l.map V.bl
  | [], _, _, .nil, h => by cases h; rfl
  | d :: ds, _, l, .cons r t, h => by
    cases r with
    | bl i =>
      have h : (allBl ds).map (i :: ·) = some l := h
      obtain ⟨l', e, rfl⟩ := Option.map_eq_some_iff.mp h
      rw [allBl_of t e]
      rfl
    | _ => cases h
theorem sumI_eq : ∀ l : List Int, sumI l = l.sum
  | [] => rfl
  | i :: r => by show i + sumI r = _; rw [sumI_eq r, List.sum_cons]
theorem b_sum (hc : X.calm = true) : CallR X (.builtin "sum") (rBi X .sum) := by
  rintro pins s σ H vs us Q I rv ⟨ds, d, as, ex, st, wd, rd, e, q⟩
  obtain ⟨x, rfl⟩ := one_of e
  obtain ⟨v, rfl, r⟩ := rd.one
  cases r with
  | lst h t =>
    obtain ⟨l, el, rfl⟩ := Option.map_eq_some_iff.mp (show (allInt _).map (fun l => D.int (sumI l)) = some d from e)
    have ev := allInt_of t el
    subst ev
    exact cr_sum hc pins s σ H _ us Q I rv ⟨_, l, rfl, .of (gH_same _ _ h), by rw [← sumI_eq]; exact Wn.here wd q (.int _)⟩
  | _ => cases e
theorem maxI_mem : ∀ (l : List Int) (m : Int), maxI m l ∈ m :: l
  | [], m => List.mem_cons_self
  | i :: r, m => by
    have := maxI_mem r (if m < i then i else m)
    show maxI (if m < i then i else m) r ∈ _
    rcases List.mem_cons.mp this with h | h
    · rw [h]
      split <;> simp
    · exact List.mem_cons_of_mem _ (List.mem_cons_of_mem _ h)
theorem maxI_ge : ∀ (l : List Int) (m : Int), m ≤ maxI m l ∧ ∀ y ∈ l, y ≤ maxI m l
  | [], m => ⟨Int.le_refl _, fun _ h => by cases h⟩
  | i :: r, m => by
    obtain ⟨h1, h2⟩ := maxI_ge r (if m < i then i else m)
    show m ≤ maxI (if m < i then i else m) r ∧ ∀ y ∈ i :: r, y ≤ maxI (if m < i then i else m) r
    refine ⟨?_, fun y hy => ?_⟩
    · by_cases h : m < i
      · rw [if_pos h] at h1 ⊢; omega
      · rw [if_neg h] at h1 ⊢; exact h1
    · rcases List.mem_cons.mp hy with e | hy
      · subst e
        by_cases h : m < y
        · rw [if_pos h] at h1 ⊢; exact h1
        · rw [if_neg h] at h1 ⊢; omega
      · exact h2 y hy
theorem minI_mem : ∀ (l : List Int) (m : Int), minI m l ∈ m :: l
  | [], m => List.mem_cons_self
  | i :: r, m => by
    have := minI_mem r (if i < m then i else m)
    show minI (if i < m then i else m) r ∈ _
    rcases List.mem_cons.mp this with h | h
    · rw [h]
      split <;> simp
    · exact List.mem_cons_of_mem _ (List.mem_cons_of_mem _ h)
theorem minI_le : ∀ (l : List Int) (m : Int), minI m l ≤ m ∧ ∀ y ∈ l, minI m l ≤ y
  | [], m => ⟨Int.le_refl _, fun _ h => by cases h⟩
  | i :: r, m => by
    obtain ⟨h1, h2⟩ := minI_le r (if i < m then i else m)
    show minI (if i < m then i else m) r ≤ m ∧ ∀ y ∈ i :: r, minI (if i < m then i else m) r ≤ y
    refine ⟨?_, fun y hy => ?_⟩
    · by_cases h : i < m
      · rw [if_pos h] at h1 ⊢; omega
      · rw [if_neg h] at h1 ⊢; exact h1
    · rcases List.mem_cons.mp hy with e | hy
      · subst e
        by_cases h : y < m
        · rw [if_pos h] at h1 ⊢; exact h1
        · rw [if_neg h] at h1 ⊢; omega
      · exact h2 y hy
theorem b_max (hc : X.calm = true) : CallR X (.builtin "max") (rBi X .max) := by
  rintro pins s σ H vs us Q I rv ⟨ds, d, as, ex, st, wd, rd, e, q⟩
  obtain ⟨x, rfl⟩ := one_of e
  obtain ⟨v, rfl, r⟩ := rd.one
  cases r with
  | @lst a ds vs h t =>
    have e : (match allInt ds with | some (i :: r) => some (D.int (maxI i r)) | _ => none) = some d := e
    cases el : allInt ds with
    | none => rw [el] at e; cases e
    | some l =>
      rw [el] at e
      cases l with
      | nil => cases e
      | cons i r =>
        obtain rfl := Option.some.inj e
        have ev := allInt_of t el
        subst ev
        refine cr_max hc pins s σ H _ us Q I rv ⟨_, i :: r, rfl, .of (gH_same _ _ h), Nat.succ_pos _, fun m hm hl => ?_⟩
        have g := maxI_ge r i
        have : m = maxI i r := by
          have h1 := hl _ (maxI_mem r i)
          rcases List.mem_cons.mp hm with e | hm
          · rw [e] at h1 ⊢; omega
          · have := g.2 m hm; omega
        rw [this]
        exact Wn.here wd q (.int _)
  | _ => cases e
theorem b_min (hc : X.calm = true) : CallR X (.builtin "min") (rBi X .min) := by
  rintro pins s σ H vs us Q I rv ⟨ds, d, as, ex, st, wd, rd, e, q⟩
  obtain ⟨x, rfl⟩ := one_of e
  obtain ⟨v, rfl, r⟩ := rd.one
  cases r with
  | @lst a ds vs h t =>
    have e : (match allInt ds with | some (i :: r) => some (D.int (minI i r)) | _ => none) = some d := e
    cases el : allInt ds with
    | none => rw [el] at e; cases e
    | some l =>
      rw [el] at e
      cases l with
      | nil => cases e
      | cons i r =>
        obtain rfl := Option.some.inj e
        have ev := allInt_of t el
        subst ev
        refine cr_min hc pins s σ H _ us Q I rv ⟨_, i :: r, rfl, .of (gH_same _ _ h), Nat.succ_pos _, fun m hm hl => ?_⟩
        have g := minI_le r i
        have : m = minI i r := by
          have h1 := hl _ (minI_mem r i)
          rcases List.mem_cons.mp hm with e | hm
          · rw [e] at h1 ⊢; omega
          · have := g.2 m hm; omega
        rw [this]
        exact Wn.here wd q (.int _)
  | _ => cases e
theorem b_all (hc : X.calm = true) : CallR X (.builtin "all") (rBi X .all) := by
  rintro pins s σ H vs us Q I rv ⟨ds, d, as, ex, st, wd, rd, e, q⟩
  obtain ⟨x, rfl⟩ := one_of e
  obtain ⟨v, rfl, r⟩ := rd.one
  cases r with
  | lst h t =>
    obtain ⟨l, el, rfl⟩ := Option.map_eq_some_iff.mp (show (allBl _).map (fun l => D.bl (l.all id)) = some d from e)
    have ev := allBl_of t el
    subst ev
    exact cr_all hc pins s σ H _ us Q I rv ⟨_, l, rfl, .of (gH_same _ _ h), Wn.here wd q (.bl _)⟩
  | _ => cases e
theorem b_any (hc : X.calm = true) : CallR X (.builtin "any") (rBi X .any) := by
  rintro pins s σ H vs us Q I rv ⟨ds, d, as, ex, st, wd, rd, e, q⟩
  obtain ⟨x, rfl⟩ := one_of e
  obtain ⟨v, rfl, r⟩ := rd.one
  cases r with
  | lst h t =>
    obtain ⟨l, el, rfl⟩ := Option.map_eq_some_iff.mp (show (allBl _).map (fun l => D.bl (l.any id)) = some d from e)
    have ev := allBl_of t el
    subst ev
    exact cr_any hc pins s σ H _ us Q I rv ⟨_, l, rfl, .of (gH_same _ _ h), Wn.here wd q (.bl _)⟩
  | _ => cases e
theorem b_abs : CallR X (.builtin "abs") (rBi X .abs) := by
  rintro pins s σ H vs us Q I rv ⟨ds, d, as, ex, st, wd, rd, e, q⟩
  obtain ⟨x, rfl⟩ := one_of e
  obtain ⟨v, rfl, r⟩ := rd.one
  cases r with
  | int i =>
    obtain rfl := Option.some.inj e
    exact call_abs pins s σ H _ us Q I rv ⟨i, rfl, Wn.here wd q (.int _)⟩
  | _ => cases e
theorem b_int : CallR X (.type "int") (rBi X .int) := by
  rintro pins s σ H vs us Q I rv ⟨ds, d, as, ex, st, wd, rd, e, q⟩
  obtain ⟨x, rfl⟩ := one_of e
  obtain ⟨v, rfl, r⟩ := rd.one
  cases r with
  | int i =>
    obtain rfl := Option.some.inj e
    exact call_int1 pins s σ H _ us Q I rv (.inl ⟨i, rfl, Wn.here wd q (.int _)⟩)
  | bl i =>
    obtain rfl := Option.some.inj e
    exact call_int1 pins s σ H _ us Q I rv (.inr ⟨i, rfl, Wn.here wd q (.int _)⟩)
  | _ => cases e
end Q
end
section
set_option Elab.async false
set_option linter.all false
set_option maxRecDepth 100000
set_option maxHeartbeats 2000000
namespace Q
open PySem PySem.Spec PyProof.Rows L2
open SrtO (Swo Srtd Stb Cmp SortableO lt2)
section
variable {prog : Program} {w : World} {A : Around} {E : Value → Shared → Prop} {s : Shared}
noncomputable def dOf (h : Heap) (v : Value) : D := @Classical.epsilon D ⟨.non⟩ fun d => Rc h d v
theorem dOf_eq {h : Heap} {d : D} {v : Value} (r : Rc h d v) : dOf h v = d := Rc.inj (@Classical.epsilon_spec D (fun d => Rc h d v) ⟨d, r⟩) r
noncomputable def ltV (h : Heap) (v u : Value) : Bool := D.ltT (dOf h v) (dOf h u)
theorem swoV (h : Heap) : Swo (ltV h) := ⟨fun x y => D.ltT_asym, fun x y z h1 h2 => D.ltT_tr h2 h1⟩
theorem ltV_eq {h : Heap} {x y : D} {v u : Value} (r : Rc h x v) (q : Rc h y u) : ltV h v u = D.ltT x y := by unfold ltV; rw [dOf_eq r, dOf_eq q]
mutual
theorem Rc.keep' {h h' : Heap} (k : ∀ b o, o.cls = .type "tuple" → h.get? b = some o → h'.get? b = some o) : ∀ (d : D) (v : Value), Rc h d v → D.ky d = true → Rc h' d v
  | .non, _, r, _ => by cases r; exact .non
  | .int _, _, r, _ => by cases r; exact .int _ _
  | .str _, _, r, _ => by cases r; exact .str _ _
  | .tup ds, _, r, hd => by
    cases r with
    | @tup _ us _ ht rs =>
      obtain ⟨o, e, c, n, dd⟩ := ht
      exact .tup ⟨o, k _ _ c e, c, n, dd⟩ (RcL.keep' k ds us rs hd)
  | .bl _, _, _, hd => by cases hd
  | .lst _, _, _, hd => by cases hd
  | .dct _ _, _, _, hd => by cases hd
  | .set _, _, _, hd => by cases hd
  | .cell _, _, _, hd => by cases hd
  | .exn _ _, _, _, hd => by cases hd
  | .inp _, _, _, hd => by cases hd
theorem RcL.keep' {h h' : Heap} (k : ∀ b o, o.cls = .type "tuple" → h.get? b = some o → h'.get? b = some o) : ∀ (ds : List D) (us : List Value), RcL h ds us → D.kyL ds = true → RcL h' ds us
  | [], _, r, _ => by cases r; exact .nil
  | d :: ds, _, r, hd => by
    cases r with
    | cons a t =>
      rw [D.kyL, Bool.and_eq_true] at hd
      exact .cons (Rc.keep' k d _ a hd.1) (RcL.keep' k ds _ t hd.2)
end
theorem Rc.keep {h h' : Heap} (k : ∀ b o, o.cls = .type "tuple" → h.get? b = some o → h'.get? b = some o) {d : D} {v : Value} (r : Rc h d v) (hd : D.ky d = true) : Rc h' d v := Rc.keep' k d v r hd
theorem lt_of_cmp {x y : D} {o : Ordering} (kx : D.ky x = true) (ky : D.ky y = true) (h : D.cmp x y = some o) : (o == .lt) = D.ltT x y := by
  unfold D.ltT
  rw [D.cmp_T x y kx ky o h]
  cases o <;> rfl
theorem katLex_D {b : Bool} {Q : Bool → Shared → Prop} : ∀ (xs ys : List D) (i : Nat) (vs us : List Value) (o : Ordering), D.kyL xs = true → D.kyL ys = true → RcL s.heap xs vs → RcL s.heap ys us → D.cmpL xs ys = some o →
    (b = true → i = 0 → ∃ p q xs' ys', xs = .str p :: xs' ∧ ys = .str q :: ys') → A.units + min (D.dpL xs) (D.dpL ys) < cLine → Q (o == .lt) s → PySem.W.KatLex prog w A b (decide (xs.length < ys.length)) Q (vs.zip us) i s
  | [], ys, i, _, us, o, _, _, .nil, ru, h, _, _, q => by
    have e : decide (([] : List D).length < ys.length) = (o == .lt) := by
      cases ys with
      | nil => rw [D.cmpL] at h; cases h; rfl
      | cons y ys => rw [D.cmpL] at h; cases h; simp
    rw [e, List.zip_nil_left]
    exact PySem.W.kat_nil q
  | x :: xs, [], i, _, _, o, _, _, .cons _ _, .nil, h, _, _, q => by
    rw [D.cmpL] at h
    cases h
    have e : decide ((x :: xs).length < ([] : List D).length) = ((.gt : Ordering) == .lt) := by simp
    rw [e, List.zip_nil_right]
    exact PySem.W.kat_nil q
  | x :: xs, y :: ys, i, v :: vs, u :: us, o, kx, ky, .cons rv rvs, .cons ru rus, h, hb, hu, q => by
    rw [D.kyL, Bool.and_eq_true] at kx ky
    rw [D.cmpL] at h
    simp only [D.dpL] at hu
    rw [List.zip_cons_cons]
    have e2 : decide ((x :: xs).length < (y :: ys).length) = decide (xs.length < ys.length) := by simp
    rw [e2]
    refine PySem.W.kat_cons (eqAt_D x y A s _ _ rv ru (by omega) prog w _ _ ?_)
    cases e : D.beq x y with
    | true =>
      rw [e] at h
      exact PySem.W.kat_yes (katLex_D xs ys (i + 1) vs us o kx.2 ky.2 rvs rus h (fun _ z => by omega) (by omega) q)
    | false =>
      rw [e] at h
      have h : D.cmp x y = some o := h
      refine PySem.W.kat_no ?_
      cases hc : (b && i == 0) with
      | true =>
        rw [Bool.and_eq_true, beq_iff_eq] at hc
        obtain ⟨p, z, xs', ys', g1, g2⟩ := hb hc.1 hc.2
        obtain ⟨rfl, rfl⟩ := List.cons.inj g1
        obtain ⟨rfl, rfl⟩ := List.cons.inj g2
        cases rv
        cases ru
        refine oneLt_str ?_
        rw [D.cmp] at h
        obtain rfl := Option.some.inj h
        rw [← cmpN_lt]
        exact q
      | false => exact PySem.W.kat_one _ _ (lt_D x y o A s _ _ kx.1 ky.1 rv ru h (by omega) prog w _ _ q)
def Its (h : Heap) (ds : List D) (vs : List Value) : Prop := RcL h ds vs
theorem its_mem {h : Heap} : ∀ {ds : List D} {vs : List Value}, RcL h ds vs → ∀ v ∈ vs, ∃ d ∈ ds, Rc h d v
  | _, _, .nil, v, hv => by cases hv
  | _, _, .cons r t, v, hv => by
    rcases List.mem_cons.mp hv with e | hv
    · rw [e]; exact ⟨_, List.mem_cons_self, r⟩
    · obtain ⟨d, hd, q⟩ := its_mem t v hv
      exact ⟨d, List.mem_cons_of_mem _ hd, q⟩
theorem cmp_strs {ds : List D} {vs : List Value} (r : RcL s.heap ds vs) (hs : ds.all isStrD = true) : Cmp prog w A s oneType' (fun p => p.1 ∈ vs) (lt2 (ltV s.heap)) := by
  intro p q hp hq
  obtain ⟨x, hx, rx⟩ := its_mem r _ hp
  obtain ⟨y, hy, ry⟩ := its_mem r _ hq
  have sx := List.all_eq_true.mp hs x hx
  have sy := List.all_eq_true.mp hs y hy
  show wpAny (model prog w) A (keyLt' oneType' p.1 q.1) (fun r s' => s' = s ∧ r = ltV s.heap p.1 q.1) (fun _ _ => False) s
  rw [ltV_eq rx ry]
  generalize p.1 = a at rx ⊢
  generalize q.1 = b at ry ⊢
  cases rx with
  | str x t =>
    cases ry with
    | str y u =>
      rw [keyLt'_oneType]
      refine oneLt_str ⟨rfl, ?_⟩
      rw [← cmpN_lt, ← lt_of_cmp (x := .str x) (y := .str y) rfl rfl (by rw [D.cmp])]
    | _ => cases sy
  | _ => cases sx
theorem cmp_tups {b : Bool} {ds : List D} {vs : List Value} (r : RcL s.heap ds vs) (hk : ∀ d ∈ ds, d.isKey = true) (hc : ∀ x ∈ ds, ∀ y ∈ ds, (D.cmp x y).isSome = true) (ht : ∀ d ∈ ds, ∃ z xs, d = .tup (z :: xs) ∧ (b = true → isStrD z = true)) (hu : A.units + 200 < cLine) :
    Cmp prog w A s (tuples' b) (fun p => p.1 ∈ vs) (lt2 (ltV s.heap)) := by
  intro p q hp hq
  obtain ⟨x, hx, rx⟩ := its_mem r _ hp
  obtain ⟨y, hy, ry⟩ := its_mem r _ hq
  show wpAny (model prog w) A (keyLt' (tuples' b) p.1 q.1) (fun r s' => s' = s ∧ r = ltV s.heap p.1 q.1) (fun _ _ => False) s
  rw [ltV_eq rx ry]
  generalize p.1 = a at rx ⊢
  generalize q.1 = c at ry ⊢
  have kx := hk x hx
  have ky := hk y hy
  obtain ⟨o, ho⟩ := Option.isSome_iff_exists.mp (hc x hx y hy)
  obtain ⟨z1, xs, rfl, b1⟩ := ht x hx
  obtain ⟨z2, ys, rfl, b2⟩ := ht y hy
  unfold D.isKey at kx ky
  rw [Bool.and_eq_true] at kx ky
  have e := lt_of_cmp kx.1 ky.1 ho
  have d1 := Nat.le_of_ble_eq_true kx.2
  rw [D.cmp] at ho
  cases rx with
  | @tup a us _ ht1 r1 =>
    cases ry with
    | @tup c us2 _ ht2 r2 =>
      obtain ⟨o1, e1, c1, n1, dd1⟩ := ht1
      obtain ⟨o2, e2, c2, n2, dd2⟩ := ht2
      refine PySem.W.kat_lt e1 dd1 e2 dd2 ?_
      have n3 := r1.length
      have n4 := r2.length
      have := katLex_D (prog := prog) (w := w) (A := A) (b := b) (Q := fun r s' => s' = s ∧ r = D.ltT (.tup (z1 :: xs)) (.tup (z2 :: ys))) (z1 :: xs) (z2 :: ys) 0 us us2 o kx.1 ky.1 r1 r2 ho (fun hb _ => ?_) ?_ ⟨rfl, e⟩
      · simpa [n3, n4] using this
      · have s1 := b1 hb
        have s2 := b2 hb
        cases z1 with
        | str p =>
          cases z2 with
          | str q => exact ⟨p, q, xs, ys, rfl, rfl⟩
          | _ => cases s2
        | _ => cases s1
      · have : D.dpL (z1 :: xs) ≤ 8 := by
          simp only [D.dp] at d1
          omega
        omega
theorem rcL_cons {h : Heap} {d : D} {ds : List D} {vs : List Value} (r : RcL h (d :: ds) vs) : ∃ v us, vs = v :: us ∧ Rc h d v ∧ RcL h ds us := by
  cases r with
  | cons a t => exact ⟨_, _, rfl, a, t⟩
theorem rc_tup {h : Heap} {ds : List D} {v : Value} (r : Rc h (.tup ds) v) : ∃ a us, v = .ref a ∧ IsTup h a us.toArray ∧ RcL h ds us := by
  cases r with
  | tup ht rs => exact ⟨_, _, rfl, ht, rs⟩
theorem katTups_D {h : Heap} : ∀ (ds : List D) (vs : List Value), RcL h ds vs → (∀ d ∈ ds, ∃ z xs, d = .tup (z :: xs)) → ∃ fs, PySem.W.KatTups h vs fs ∧ fs.length = ds.length ∧ ∀ f ∈ fs, ∃ d ∈ ds, ∃ z xs, d = .tup (z :: xs) ∧ Rc h z f
  | [], _, r, _ => by cases r; exact ⟨[], .nil, rfl, fun _ h => by cases h⟩
  | d :: ds, _, r, ht => by
    obtain ⟨v, us, rfl, r1, r2⟩ := rcL_cons r
    obtain ⟨fs, k1, k2, k3⟩ := katTups_D ds us r2 fun d hd => ht d (List.mem_cons_of_mem _ hd)
    obtain ⟨z, xs, rfl⟩ := ht _ List.mem_cons_self
    obtain ⟨a, ws, rfl, ⟨o, e, c, n, dd⟩, q⟩ := rc_tup r1
    obtain ⟨f, ws', rfl, q1, q2⟩ := rcL_cons q
    refine ⟨f :: fs, PySem.W.KatTups.cons e c dd (by simp) k1, by simp [k2], fun g hg => ?_⟩
    rcases List.mem_cons.mp hg with e | hg
    · rw [e]; exact ⟨_, List.mem_cons_self, z, xs, rfl, q1⟩
    · obtain ⟨d, hd, q⟩ := k3 g hg
      exact ⟨d, List.mem_cons_of_mem _ hd, q⟩
theorem strsAre_D {h : Heap} : ∀ (ds : List D) (vs : List Value), RcL h ds vs → ds.all isStrD = true → ∃ ss, StrsAre vs ss
  | [], _, r, _ => by cases r; exact ⟨[], .nil⟩
  | d :: ds, _, r, hs => by
    obtain ⟨v, us, rfl, r1, r2⟩ := rcL_cons r
    rw [List.all_cons, Bool.and_eq_true] at hs
    obtain ⟨ss, q⟩ := strsAre_D ds us r2 hs.2
    cases r1 with
    | str x t => exact ⟨_, .cons x t q⟩
    | _ => cases hs.1
theorem allCmp_of {ds : List D} (h : D.allCmp ds = true) : (∀ d ∈ ds, d.isKey = true) ∧ ∀ x ∈ ds, ∀ y ∈ ds, (D.cmp x y).isSome = true := by
  unfold D.allCmp at h
  rw [List.all_eq_true] at h
  refine ⟨fun d hd => (Bool.and_eq_true_iff.mp (h d hd)).1, fun x hx y hy => ?_⟩
  exact List.all_eq_true.mp (Bool.and_eq_true_iff.mp (h x hx)).2 y hy
theorem rcL_keep {h h' : Heap} (k : ∀ b o, o.cls = .type "tuple" → h.get? b = some o → h'.get? b = some o) : ∀ {ds : List D} {us : List Value}, RcL h ds us → (∀ d ∈ ds, d.isKey = true) → RcL h' ds us
  | _, _, .nil, _ => .nil
  | _, _, .cons a t, hd => .cons (Rc.keep k a (Bool.and_eq_true_iff.mp (hd _ List.mem_cons_self)).1) (rcL_keep k t fun d hm => hd d (List.mem_cons_of_mem _ hm))
theorem isKey_ky {d : D} (h : d.isKey = true) : D.ky d = true := (Bool.and_eq_true_iff.mp h).1
theorem ltV_keep {h h' : Heap} (k : ∀ b o, o.cls = .type "tuple" → h.get? b = some o → h'.get? b = some o) {ds : List D} {vs : List Value} (r : RcL h ds vs) (hk : ∀ d ∈ ds, d.isKey = true) : ∀ v ∈ vs, ∀ u ∈ vs, ltV h' v u = ltV h v u := fun v hv u hu => by
  obtain ⟨x, hx, rx⟩ := its_mem r v hv
  obtain ⟨y, hy, ry⟩ := its_mem r u hu
  rw [ltV_eq rx ry, ltV_eq (Rc.keep k rx (isKey_ky (hk x hx))) (Rc.keep k ry (isKey_ky (hk y hy)))]
theorem cmp_congr {κ : SortKind} {P : Keyed → Prop} {lt lt' : Keyed → Keyed → Bool} (h : Cmp prog w A s κ P lt) (e : ∀ p q, P p → P q → lt' p q = lt p q) : Cmp prog w A s κ P lt' := fun p q hp hq => by
  rw [e p q hp hq]
  exact h p q hp hq
theorem sortable_D {a : Addr} {ds : List D} {vs : List Value} (r : RcL s.heap ds vs) (hA : D.allCmp ds = true) (hK : sortK ds = true) (h2 : 2 ≤ vs.length) (hu : A.units + 200 < cLine) (ha : ∀ o, s.heap.get? a = some o → o.cls ≠ .type "tuple") :
    SortableO prog w A s a vs (ltV s.heap) := by
  intro h' keep
  obtain ⟨hk, hc⟩ := allCmp_of hA
  have kp : ∀ b o, o.cls = .type "tuple" → s.heap.get? b = some o → h'.get? b = some o := fun b o c e => keep b o (fun z => by subst z; exact ha o e c) e
  have r' : RcL h' ds vs := rcL_keep kp r hk
  have lk := ltV_keep kp r hk
  have hl := r.length
  have K1 : ds.all isStrD = true ∨ (∀ d ∈ ds, ∃ z xs, d = .tup (z :: xs) ∧ isStrD z = true) ∨ ∀ d ∈ ds, ∃ z xs, d = .tup (z :: xs) ∧ isTupD z = true := by
    unfold sortK at hK
    rw [Bool.or_eq_true, Bool.or_eq_true, Bool.or_eq_true] at hK
    rcases hK with ((hK | hK) | hK) | hK
    · have := Nat.le_of_ble_eq_true hK
      omega
    · exact .inl hK
    · refine .inr (.inl fun d hd => ?_)
      have := List.all_eq_true.mp hK d hd
      unfold headS at this
      split at this
      · exact ⟨_, _, rfl, rfl⟩
      · cases this
    · refine .inr (.inr fun d hd => ?_)
      have := List.all_eq_true.mp hK d hd
      unfold headT at this
      split at this
      · exact ⟨_, _, rfl, rfl⟩
      · cases this
  rcases K1 with hs | ht | ht
  · refine ⟨oneType', fun Q E hq => ?_, cmp_congr (cmp_strs (s := { s with heap := h' }) r' hs) fun p q hp hq => (lk _ hp _ hq).symm⟩
    obtain ⟨ss, q⟩ := strsAre_D _ _ r' hs
    match vs, h2, q with
    | v1 :: v2 :: vs, _, q =>
      rw [keyKind_strs q]
      exact wpAny_pure hq
  · obtain ⟨fs, k1, k2, k3⟩ := katTups_D _ _ r' fun d hd => let ⟨z, xs, e, _⟩ := ht d hd; ⟨z, xs, e⟩
    refine ⟨tuples' true, fun Q E hq => ?_, cmp_congr (cmp_tups (s := { s with heap := h' }) r' hk hc (fun d hd => let ⟨z, xs, e, y⟩ := ht d hd; ⟨z, xs, e, fun _ => y⟩) hu) fun p q hp hq => (lk _ hp _ hq).symm⟩
    refine PySem.W.kat_kind (T := .type "str") k1 (by omega) (fun f hf => ?_) (by rfl) ?_
    · obtain ⟨d, hd, z, xs, e, rz⟩ := k3 f hf
      obtain ⟨z', xs', e', y⟩ := ht d hd
      rw [e] at e'
      cases e'
      cases rz with
      | str x t => exact PySem.W.Looks.now
      | _ => cases y
    · rw [show (Value.type "str" != Value.type "tuple") = true by decide +kernel]
      exact hq
  · obtain ⟨fs, k1, k2, k3⟩ := katTups_D _ _ r' fun d hd => let ⟨z, xs, e, _⟩ := ht d hd; ⟨z, xs, e⟩
    refine ⟨tuples' false, fun Q E hq => ?_, cmp_congr (cmp_tups (s := { s with heap := h' }) r' hk hc (fun d hd => let ⟨z, xs, e, _⟩ := ht d hd; ⟨z, xs, e, fun h => by cases h⟩) hu) fun p q hp hq => (lk _ hp _ hq).symm⟩
    refine PySem.W.kat_kind (T := .type "tuple") k1 (by omega) (fun f hf => ?_) (by rfl) ?_
    · obtain ⟨d, hd, z, xs, e, rz⟩ := k3 f hf
      obtain ⟨z', xs', e', y⟩ := ht d hd
      rw [e] at e'
      cases e'
      cases rz with
      | tup hT _ =>
        obtain ⟨o, eo, c, _⟩ := hT
        exact c ▸ (show PySem.W.Looks _ h' (typeOf (.ref _)) o.cls from (PySem.W.Looks.ld eo).andThen .now)
      | _ => cases y
    · rw [show (Value.type "tuple" != Value.type "tuple") = false by decide +kernel]
      exact hq
theorem map_dOf {h : Heap} : ∀ {ds : List D} {vs : List Value}, RcL h ds vs → vs.map (dOf h) = ds
  | _, _, .nil => rfl
  | _, _, .cons a t => by rw [List.map_cons, dOf_eq a, map_dOf t]
theorem sorted_D {h : Heap} {ds : List D} {vs out : List Value} (r : RcL h ds vs) (hk : ∀ d ∈ ds, d.isKey = true) (h1 : Srtd (ltV h) out) (h2 : Stb (ltV h) out vs) : RcL h (D.isort ds) out := by
  have all : ∀ v ∈ vs, ∃ d ∈ ds, Rc h d v := its_mem r
  have e1 : vs.map (dOf h) = ds := by
    exact map_dOf r
  have rel : ∀ {l : List Value}, (∀ v ∈ l, v ∈ vs) → RcL h (l.map (dOf h)) l := by
    intro l
    induction l with
    | nil => exact fun _ => .nil
    | cons v l ih =>
      intro hv
      obtain ⟨d, _, q⟩ := all v (hv v List.mem_cons_self)
      exact .cons (by rw [dOf_eq q]; exact q) (ih fun u hu => hv u (List.mem_cons_of_mem _ hu))
  have p := h2.perm
  have e2 : out.map (dOf h) = D.isort ds := by
    refine D.isort_of (fun d hd => isKey_ky (hk d hd)) ?_ ?_
    · refine List.pairwise_map.mpr (h1.imp fun z => ?_)
      exact z
    · rw [← e1]
      exact p.map _
  rw [← e2]
  exact rel fun v hv => p.mem_iff.mp hv
theorem sortable_congr {a : Addr} {vs : List Value} {l l' : Value → Value → Bool} (h : SortableO prog w A s a vs l) (e : ∀ v ∈ vs, ∀ u ∈ vs, l' v u = l v u) : SortableO prog w A s a vs l' := fun h' k =>
  let ⟨κ, h1, h2⟩ := h h' k
  ⟨κ, h1, cmp_congr h2 fun p q hp hq => e _ hp _ hq⟩
end
mutual
theorem pl_ky : ∀ d : D, D.ky d = true → D.pl d = true
  | .non, _ => rfl
  | .int _, _ => rfl
  | .str _, _ => rfl
  | .tup ds, h => plL_ky ds h
  | .bl _, h => by cases h
  | .lst _, h => by cases h
  | .dct _ _, h => by cases h
  | .set _, h => by cases h
  | .cell _, h => by cases h
  | .exn _ _, h => by cases h
  | .inp _, h => by cases h
theorem plL_ky : ∀ ds : List D, D.kyL ds = true → D.plL ds = true
  | [], _ => rfl
  | d :: ds, h => by
    rw [D.kyL, Bool.and_eq_true] at h
    rw [D.plL, pl_ky d h.1, plL_ky ds h.2]
    rfl
end
theorem plL_keys {ds : List D} (h : ∀ d ∈ ds, d.isKey = true) : D.plL ds = true := by
  induction ds with
  | nil => rfl
  | cons d ds ih => rw [D.plL, pl_ky d (isKey_ky (h d List.mem_cons_self)), ih fun x hx => h x (List.mem_cons_of_mem _ hx)]; rfl
section
variable {X : Cx}
theorem rp_mem {K : PySem.W.Frag} {w : World} {as : List Addr} {G : Hp} {h : Heap} : ∀ (ds : List D) (vs : List V) (us : List Value), RpL K w as G ds vs → Vals vs us → RcL h ds us → ∀ u ∈ us, ∃ d x, Rc h d u ∧ RelV x u ∧ Rp K w as G d x
  | [], _, _, r, v, _, u, hu => by cases r; cases v; cases hu
  | d :: ds, _, _, r, v, c, u, hu => by
    cases r with
    | cons r1 r2 =>
      cases v with
      | cons v1 v2 =>
        cases c with
        | cons c1 c2 =>
          rcases List.mem_cons.mp hu with e | hu
          · rw [e]; exact ⟨d, _, c1, v1, r1⟩
          · exact rp_mem ds _ _ r2 v2 c2 u hu
theorem rp_list {K : PySem.W.Frag} {w : World} {as : List Addr} {G : Hp} {h : Heap} : ∀ (us : List Value), (∀ u ∈ us, ∃ d x, Rc h d u ∧ RelV x u ∧ Rp K w as G d x) → ∃ xs, Vals xs us ∧ RpL K w as G (us.map (dOf h)) xs
  | [], _ => ⟨[], .nil, .nil⟩
  | u :: us, k => by
    obtain ⟨xs, a, b⟩ := rp_list us fun z hz => k z (List.mem_cons_of_mem _ hz)
    obtain ⟨d, x, c1, c2, c3⟩ := k u List.mem_cons_self
    exact ⟨x :: xs, .cons c2 a, .cons (by rw [dOf_eq c1]; exact c3) b⟩
theorem sortD_of {xs : List D} {d : D} (h : sortD xs = some d) : D.allCmp xs = true ∧ sortK xs = true ∧ xs.length ≤ sizeLine ∧ d = .lst (D.isort xs) := by
  unfold sortD at h
  cases e : D.allCmp xs && sortK xs with
  | false => rw [e] at h; cases h
  | true =>
    rw [e] at h
    rw [Bool.and_eq_true] at e
    obtain ⟨hz, q⟩ := sizeOk_ok h
    exact ⟨e.1, e.2, hz, q.symm⟩
theorem list_not_tup {h : Heap} {a : Addr} {vs : List Value} {n : Nat} (e : h.get? a = some (seqObj "list" vs.toArray n)) : ∀ o, h.get? a = some o → o.cls ≠ .type "tuple" := fun o eo c => by
  rw [e] at eo
  cases eo
  exact absurd (Value.type.inj c) (by decide)
theorem sorted_list (hu : X.A.units + 300 < cLine) {pins : List (Addr × Obj)} {s : Shared} {σ : L2.St} {H : Hp} {as ex : List Addr} {st : List D} {a : Addr} {ds : List D} {vs : List V} {Q : VK} {d : D} (I : Inv X pins σ H s) (wd : Wd X.K X.w as ex H st)
    (hL : SqL X.K H a vs) (t : RpL X.K X.w as (gH as ex H) ds vs) (e : sortD ds = some d) (q : Wn X as ex H st d Q) : wpAny (model X.prog X.w) X.A (call (.builtin "sorted") [.ref a]) (EP X pins σ Q) X.xe s := by
  obtain ⟨hA, hK, hz, rfl⟩ := sortD_of e
  obtain ⟨hk, hc⟩ := allCmp_of hA
  obtain ⟨its, rv, hl, hz2⟩ := I.list hL
  have rc := t.rc I gH_same (plL_keys hk) rv
  have hlen := rv.length
  refine SrtO.sorted_ord (swoV s.heap) hl.isList (by omega) (fun h2 h1 b hb kk => ?_) fun out hs hb => ?_
  · have kp : ∀ b o, o.cls = .type "tuple" → s.heap.get? b = some o → h1.get? b = some o := fun b o _ e => (kk b o e).2
    have := sortable_D (prog := X.prog) (w := X.w) (A := X.A.in1.in1) (s := { s with heap := h1 }) (a := b) (rcL_keep kp rc hk) hA hK h2 (by simp only [Around.in1_units]; omega) (list_not_tup hb)
    exact sortable_congr this fun v hv u hu' => (ltV_keep kp rc hk v hv u hu').symm
  · obtain ⟨ep, he'⟩ := PyProof.Rows.sortedAll_at s.heap its out.toArray
    have ro := sorted_D rc hk hs hb
    have em := map_dOf ro
    obtain ⟨xs, rx, rp⟩ := rp_list (K := X.K) (w := X.w) (as := as) (G := gH as ex H) (h := s.heap) out fun u hu' => rp_mem ds vs its t rv rc u (hb.perm.mem_iff.mp hu')
    rw [em] at rp
    have hlo : xs.length ≤ sizeLine := by
      have h1 := rx.length
      have h2 := hb.len
      omega
    have hp : H (s.heap.objs.size + 1) = none := I.hok.fresh (Nat.le_succ _)
    exact ⟨.ref _, upd H (s.heap.objs.size + 1) (.lst xs), I.laid (t' := s.toks) (fun _ _ => PyProof.Rows.sortedAll_old) (Nat.le_succ _) ⟨hlo, out, ep, rx, he'⟩, rfl, Wn.lst wd q rp _ hp⟩
end
end Q
end
section
set_option Elab.async false
set_option linter.all false
set_option maxRecDepth 100000
set_option maxHeartbeats 4000000
namespace Q
open PySem PySem.Spec PyProof.Rows L2
variable {P : Program} {w : World} {A : Around} {E : Value → Shared → Prop} {s : Shared}
mutual
theorem rc_nested {h : Heap} : ∀ (d : D) (v : Value), Rc h d v → D.ky d = true → NestedIs h (toK d) v
  | .non, _, r, _ => by cases r; exact .none
  | .int _, _, r, _ => by cases r; exact .int _ _
  | .str _, _, r, _ => by cases r; exact .text _ _
  | .tup ds, _, r, hd => by
    obtain ⟨a, us, rfl, ⟨o, e, c, n, dd⟩, q⟩ := rc_tup r
    exact .tup e c dd (by simpa using rcL_nested ds us q hd)
  | .bl _, _, _, hd => by cases hd
  | .lst _, _, _, hd => by cases hd
  | .dct _ _, _, _, hd => by cases hd
  | .set _, _, _, hd => by cases hd
  | .cell _, _, _, hd => by cases hd
  | .exn _ _, _, _, hd => by cases hd
  | .inp _, _, _, hd => by cases hd
theorem rcL_nested {h : Heap} : ∀ (ds : List D) (us : List Value), RcL h ds us → D.kyL ds = true → NestedAll h (toKs ds) us
  | [], _, r, _ => by cases r; exact .nil
  | d :: ds, _, r, hd => by
    obtain ⟨v, us, rfl, r1, r2⟩ := rcL_cons r
    rw [D.kyL, Bool.and_eq_true] at hd
    exact .cons (rc_nested d v r1 hd.1) (rcL_nested ds us r2 hd.2)
end
mutual
theorem toK_depth : ∀ d : D, D.ky d = true → (toK d).depth = d.dp
  | .non, _ => rfl
  | .int _, _ => rfl
  | .str _, _ => rfl
  | .tup ds, h => by
    rw [toK, NestedKey.depth, D.dp, toKs_depth ds h]
  | .bl _, hd => by cases hd
  | .lst _, hd => by cases hd
  | .dct _ _, hd => by cases hd
  | .set _, hd => by cases hd
  | .cell _, hd => by cases hd
  | .exn _ _, hd => by cases hd
  | .inp _, hd => by cases hd
theorem toKs_depth : ∀ ds : List D, D.kyL ds = true → NestedKey.depthAll (toKs ds) = D.dpL ds
  | [], _ => rfl
  | d :: ds, h => by
    rw [D.kyL, Bool.and_eq_true] at h
    rw [toKs, NestedKey.depthAll, D.dpL, toK_depth d h.1, toKs_depth ds h.2]
end
def KT (h : Heap) (k : D) (b : Addr) : Prop := Rc h k (.ref b) ∧ k.isKey = true
abbrev hsh (w : World) (d : D) : Int := (toK d).hash w
theorem KT.nest {h : Heap} {k : D} {b : Addr} (x : KT h k b) : NestedIs h (toK k) (.ref b) ∧ (toK k).depth ≤ 8 := by
  have y := x.2
  unfold D.isKey at y
  rw [Bool.and_eq_true] at y
  exact ⟨rc_nested _ _ x.1 y.1, by rw [toK_depth _ y.1]; exact Nat.le_of_ble_eq_true y.2⟩
theorem KT.dp {h : Heap} {k : D} {b : Addr} (x : KT h k b) : k.dp ≤ 8 := Nat.le_of_ble_eq_true (Bool.and_eq_true_iff.mp x.2).2
theorem KT.keep {h h' : Heap} {k : D} {b : Addr} (x : KT h k b) (hk : ∀ b o, o.cls = .type "tuple" → h.get? b = some o → h'.get? b = some o) : KT h' k b := ⟨Rc.keep hk x.1 (isKey_ky x.2), x.2⟩
theorem KT.hash {k : D} {b : Addr} {Q : Int → Shared → Prop} (x : KT s.heap k b) (hu : A.units + 8 < cLine) (h : Q (hsh w k) { s with toks := s.toks + (toK k).draws }) : wpAny (model P w) A (pyHash (.ref b)) Q E s :=
  pyHash_key _ _ _ _ _ x.nest.1 (by have := x.nest.2; omega) h
theorem KT.eq {x y : D} {a b : Addr} {Q : Bool → Shared → Prop} (hx : KT s.heap x a) (hy : KT s.heap y b) (hu : A.units + 8 < cLine) (h : Q (D.beq x y) s) : wpAny (model P w) A (eqBool (.ref a) (.ref b)) Q E s :=
  eqAt_D x y A s _ _ hx.1 hy.1 (by have := hx.dp; omega) P w E Q h
theorem KT.quiet {k : D} {b : Addr} {Q : Bool → Shared → Prop} (x : KT s.heap k b) (h : Q true s) : wpAny (model P w) A (eqIsQuiet 8 (.ref b)) Q E s := quiet_key _ _ 8 s x.nest.1 x.nest.2 A E Q h
theorem dpL_mem : ∀ {ds : List D} {d : D}, d ∈ ds → d.dp ≤ D.dpL ds
  | d :: ds, x, hx => by
    rw [D.dpL]
    rcases List.mem_cons.mp hx with e | hx
    · rw [e]; omega
    · have := dpL_mem hx
      omega
theorem ofAClass_D : ∀ (n : Nat) (d : D) (v : Value), Rc s.heap d v → D.ky d = true → d.dp ≤ n → ∀ (A : Around) (E : Value → Shared → Prop) (Q : Bool → Shared → Prop), Q false s → wpAny (model P w) A (ofAClassStatement n v) Q E s
  | n, .non, _, r, _, _, A, E, Q, h => by cases r; cases n <;> exact wpAny_pure h
  | n, .int _, _, r, _, _, A, E, Q, h => by cases r; cases n <;> exact wpAny_pure h
  | n, .str _, _, r, _, _, A, E, Q, h => by cases r; cases n <;> exact wpAny_pure h
  | 0, .tup ds, _, _, _, hn, A, E, Q, h => by simp [D.dp] at hn
  | n + 1, .tup ds, _, r, hd, hn, A, E, Q, h => by
    obtain ⟨a, us, rfl, ⟨o, ho, hc, m, hdt⟩, q⟩ := rc_tup r
    have all : ∀ v ∈ us, ∀ (A : Around) (E : Value → Shared → Prop) (Q : Bool → Shared → Prop), Q false s → wpAny (model P w) A (ofAClassStatement n v) Q E s := fun v hv => by
      obtain ⟨d, hm, rd⟩ := its_mem q v hv
      refine ofAClass_D n d v rd (D.kyL_mem hd d hm) ?_
      have : d.dp ≤ D.dpL ds := dpL_mem hm
      simp only [D.dp] at hn
      omega
    unfold ofAClassStatement
    refine wpAny_bind (wpAny_typeOf ⟨o, ho, hc⟩ ?_)
    dsimp only
    have e : (("tuple" : String) == "tuple") = true := by decide
    simp only [e, if_true, Bool.not_true, Bool.false_eq_true, if_false]
    try refine wpAny_bind (wpAny_pure ?_)
    try simp only [Bool.not_true, Bool.false_eq_true, if_false]
    show wpAny _ _ (seqItems? (.ref a) >>= _) _ _ s
    refine wpAny_bind (wpAny_seqItems ho hdt (wpAny_bind ?_))
    show wpAny _ _ (forIn us.toArray _ _) _ _ s
    rw [← Array.forIn_toList]
    refine wpAny_forIn_list _ (fun rest r s' => r.1 = none ∧ s' = s ∧ ∀ v ∈ rest, v ∈ us) _ ?_ ?_ _ _ ⟨rfl, rfl, fun v hv => hv⟩
    · rintro v rest r s' ⟨hr, rfl, hall⟩
      refine wpAny_bind (all v (hall v List.mem_cons_self) A E _ ?_)
      simp only [Bool.false_eq_true, if_false]
      exact wpAny_pure ⟨rfl, rfl, fun u hu' => hall u (List.mem_cons_of_mem _ hu')⟩
    · rintro ⟨r1, r2⟩ s' ⟨hr, rfl, _⟩
      cases hr
      exact wpAny_pure h
  | _, .bl _, _, _, hd, _, _, _, _, _ => by cases hd
  | _, .lst _, _, _, hd, _, _, _, _, _ => by cases hd
  | _, .dct _ _, _, _, hd, _, _, _, _, _ => by cases hd
  | _, .set _, _, _, hd, _, _, _, _, _ => by cases hd
  | _, .cell _, _, _, hd, _, _, _, _, _ => by cases hd
  | _, .exn _ _, _, _, hd, _, _, _, _, _ => by cases hd
  | _, .inp _, _, _, hd, _, _, _, _, _ => by cases hd
theorem hashBy_D : ∀ (n : Nat) (d : D) (v : Value), Rc s.heap d v → D.ky d = true → ∃ b : Bool, ∀ (A : Around) (E : Value → Shared → Prop) (Q : Bool → Shared → Prop), Q b s → wpAny (model P w) A (hashByValue n v) Q E s
  | n, .non, _, r, _ => by cases r; exact ⟨true, fun A E Q h => by cases n <;> exact wpAny_pure h⟩
  | n, .int _, _, r, _ => by cases r; exact ⟨true, fun A E Q h => by cases n <;> exact wpAny_pure h⟩
  | n, .str _, _, r, _ => by cases r; exact ⟨false, fun A E Q h => by cases n <;> exact wpAny_pure h⟩
  | 0, .tup ds, _, r, hd => by
    obtain ⟨a, us, rfl, _, _⟩ := rc_tup r
    exact ⟨false, fun A E Q h => wpAny_pure h⟩
  | n + 1, .tup ds, _, r, hd => by
    obtain ⟨a, us, rfl, ⟨o, ho, hc, m, hdt⟩, q⟩ := rc_tup r
    have all : ∀ v ∈ us, ∃ b : Bool, ∀ (A : Around) (E : Value → Shared → Prop) (Q : Bool → Shared → Prop), Q b s → wpAny (model P w) A (hashByValue n v) Q E s := fun v hv => by
      obtain ⟨d, hm, rd⟩ := its_mem q v hv
      exact hashBy_D n d v rd (D.kyL_mem hd d hm)
    by_cases c : ∀ v ∈ us, ∀ (A : Around) (E : Value → Shared → Prop) (Q : Bool → Shared → Prop), Q true s → wpAny (model P w) A (hashByValue n v) Q E s
    · refine ⟨true, fun A E Q h => ?_⟩
      unfold hashByValue
      refine wpAny_bind (wpAny_specialOf ⟨o, ho, hc⟩ F.slot_tuple_hash.lookup ?_)
      show wpAny _ _ (seqItems? (.ref a) >>= _) _ _ s
      refine wpAny_bind (wpAny_seqItems ho hdt (wpAny_bind ?_))
      show wpAny _ _ (forIn us.toArray _ _) _ _ s
      rw [← Array.forIn_toList]
      refine wpAny_forIn_list _ (fun rest r s' => r.1 = none ∧ s' = s ∧ ∀ v ∈ rest, v ∈ us) _ ?_ ?_ _ _ ⟨rfl, rfl, fun v hv => hv⟩
      · rintro v rest r s' ⟨hr, rfl, hall⟩
        refine wpAny_bind (c v (hall v List.mem_cons_self) _ _ _ ?_)
        simp only [Bool.not_true, Bool.false_eq_true, if_false]
        exact wpAny_pure ⟨rfl, rfl, fun u hu' => hall u (List.mem_cons_of_mem _ hu')⟩
      · rintro ⟨r1, r2⟩ s' ⟨hr, rfl, _⟩
        cases hr
        exact wpAny_pure h
    · refine ⟨false, fun A E Q h => ?_⟩
      unfold hashByValue
      refine wpAny_bind (wpAny_specialOf ⟨o, ho, hc⟩ F.slot_tuple_hash.lookup ?_)
      show wpAny _ _ (seqItems? (.ref a) >>= _) _ _ s
      refine wpAny_bind (wpAny_seqItems ho hdt (wpAny_bind ?_))
      show wpAny _ _ (forIn us.toArray _ _) _ _ s
      rw [← Array.forIn_toList]
      refine wpAny_forIn_list _ (fun rest r s' => r.1 = none ∧ s' = s ∧ (∀ v ∈ rest, v ∈ us) ∧ ¬ ∀ v ∈ rest, ∀ (A : Around) (E : Value → Shared → Prop) (Q : Bool → Shared → Prop), Q true s → wpAny (model P w) A (hashByValue n v) Q E s) _ ?_ ?_ _ _ ⟨rfl, rfl, fun v hv => hv, c⟩
      · rintro v rest r s' ⟨hr, rfl, hall, hno⟩
        obtain ⟨b, hb⟩ := all v (hall v List.mem_cons_self)
        refine wpAny_bind (hb _ _ _ ?_)
        cases b with
        | true =>
          simp only [Bool.not_true, Bool.false_eq_true, if_false]
          refine wpAny_pure ⟨rfl, rfl, fun u hu' => hall u (List.mem_cons_of_mem _ hu'), fun z => hno fun u hu' => ?_⟩
          rcases List.mem_cons.mp hu' with e | hu'
          · rw [e]; exact hb
          · exact z u hu'
        | false =>
          simp only [Bool.not_false, if_true]
          exact wpAny_pure (wpAny_pure h)
      · rintro ⟨r1, r2⟩ s' ⟨_, _, _, hno⟩
        exact absurd (fun v hv => by cases hv) hno
  | _, .bl _, _, _, hd => by cases hd
  | _, .lst _, _, _, hd => by cases hd
  | _, .dct _ _, _, _, hd => by cases hd
  | _, .set _, _, _, hd => by cases hd
  | _, .cell _, _, _, hd => by cases hd
  | _, .exn _ _, _, _, hd => by cases hd
  | _, .inp _, _, _, hd => by cases hd

def rowsD (w : World) (L : List (Addr × D)) : List (Int × Value) := L.map fun p => (hsh w p.2, Value.ref p.1)
structure StR (w : World) (h : Heap) (a : Addr) (L : List (Addr × D)) (es : Array (Int × Value)) (ep : Nat) (t : SetTable) : Prop where
  ob : ∃ o, h.get? a = some o ∧ o.ExactSet ∧ o.data = .set es ep t
  rows : es.toList = rowsD w L
  tab : TabOk t (L.map fun p => hsh w p.2)
  nd : (L.map (·.2)).Nodup
  key : ∀ p ∈ L, KT h p.2 p.1
  led : w.params.followText "set-order" = true ∨ t.led = true
  room : L.length * 5 < t.mask * 3
  few : L.length < 64
section
variable {a : Addr} {L : List (Addr × D)} {es : Array (Int × Value)} {ep : Nat} {t : SetTable}
theorem rowsD_len {L : List (Addr × D)} {es : Array (Int × Value)} (h : es.toList = rowsD w L) : es.size = L.length := by
  have := congrArg List.length h
  simpa [rowsD] using this
theorem rowsD_get {L : List (Addr × D)} {es : Array (Int × Value)} (r : es.toList = rowsD w L) {i : Nat} {p : Addr × D} (h : L[i]? = some p) : es[i]? = some (hsh w p.2, Value.ref p.1) := by
  have e : es.toList[i]? = some (hsh w p.2, Value.ref p.1) := by rw [r, rowsD, List.getElem?_map, h]; rfl
  simpa using e
theorem StR.fits (R : StR w s.heap a L es ep t) : t.fits es.size = true := by
  have h1 := R.tab.sz
  have h2 := rowsD_len R.rows
  have h3 := R.room
  rw [List.length_map] at h1
  have e : t.dummies.size = 0 := by rw [R.tab.dm]; rfl
  unfold SetTable.fits SetTable.fill
  rw [e, Bool.and_eq_true, beq_iff_eq, decide_eq_true_eq]
  omega
theorem StR.gw (R : StR w s.heap a L es ep t) : t.gaveWay = false := by
  unfold SetTable.gaveWay
  rw [mask_odd R.tab.mok]
  rfl
theorem seen_D {k : D} {b : Addr} {Q : Bool → Shared → Prop} (hk : KT s.heap k b) {ys : List Value} (hy : ∀ y ∈ ys, ∃ k' c, y = Value.ref c ∧ KT s.heap k' c) (h : Q false s) : wpAny (model P w) A (searchCouldBeSeen (.ref b) ys) Q E s := by
  have cls : ∀ {k : D} {b : Addr} {Q : Bool → Shared → Prop}, KT s.heap k b → Q false s → wpAny (model P w) A (ofAClassStatement 8 (.ref b)) Q E s := fun x q => ofAClass_D 8 _ _ x.1 (isKey_ky x.2) x.dp A E _ q
  have qui : ∀ {k : D} {b : Addr} {Q : Bool → Shared → Prop}, KT s.heap k b → Q true s → wpAny (model P w) A (eqIsQuiet 8 (.ref b)) Q E s := fun x q => x.quiet q
  unfold searchCouldBeSeen
  refine wpAny_bind (wpAny_forIn_list _ (fun rest r s' => s' = s ∧ r.1 = none ∧ ∀ y ∈ rest, ∃ k' c, y = Value.ref c ∧ KT s.heap k' c) _ ?_ ?_ _ _ ⟨rfl, rfl, hy⟩)
  · rintro v rest r s' ⟨rfl, hr, hall⟩
    obtain ⟨k', c, rfl, hc⟩ := hall v List.mem_cons_self
    have next : (none : Option Bool) = none ∧ ∀ y ∈ rest, ∃ k' c, y = Value.ref c ∧ KT s'.heap k' c := ⟨rfl, fun u hu => hall u (List.mem_cons_of_mem _ hu)⟩
    dsimp only
    by_cases hv : (b == c || (carriedByValue (.ref b) && carriedByValue (.ref c))) = true
    · exact wp_if_pos hv (wpAny_pure ⟨rfl, next⟩)
    · refine wp_if_neg hv (wpAny_bind (qui hk ?_))
      simp only [Bool.not_true, Bool.false_eq_true, if_false]
      refine wpAny_bind (qui hc ?_)
      simp only [Bool.not_true, Bool.false_eq_true, if_false]
      refine wpAny_bind (cls hk ?_)
      simp only [Bool.false_eq_true, if_false]
      refine wpAny_bind (cls hc ?_)
      simp only [Bool.false_eq_true, if_false]
      exact wpAny_pure ⟨rfl, next⟩
  · rintro ⟨r1, r2⟩ s' ⟨rfl, hr, _⟩
    cases hr
    exact wpAny_pure h
abbrev prb (m : Nat) (h : Int) (n : Nat) : SetTable.Probe := nth m (runAt m (SetTable.bits h % (m + 1)) (SetTable.bits h)) n
theorem prb_dummy (m : Nat) (h : Int) (n : Nat) : (prb m h n).dummy = none := by
  have key : ∀ (n : Nat) (p : SetTable.Probe), p.dummy = none → (nth m p n).dummy = none := by
    intro n
    induction n with
    | zero => exact fun _ h => h
    | succ n ih => exact fun p h => ih _ (by unfold adv; split <;> exact h)
  exact key n _ rfl
theorem prb_add (m : Nat) (h : Int) (c q : Nat) : nth m (prb m h c) q = prb m h (c + q) := (nth_add m c _ q).symm
theorem find_from (R : StR w s.heap a L es ep t) {x : Addr} {k : D} (hx : KT s.heap k x) (hu : A.units + 8 < cLine) {K : Nat} (hf0 : K < 10 * SetTable.turns t.mask) (hK : way t.mask (hsh w k) K ∉ t.place.toList)
    (hKb : ∀ c, c < K → way t.mask (hsh w k) c ∈ t.place.toList) {Q : SetFound → Shared → Prop} (hin : k ∈ L.map (·.2) → Q (.there none) s) (hout : k ∉ L.map (·.2) → Q (.free (way t.mask (hsh w k) K) false) s) :
    ∀ (f c : Nat) (stand : Option SetTable.Probe), stand.getD (t.probeStart (hsh w k)) = prb t.mask (hsh w k) c → c ≤ K → K - c < f →
      (∀ (i : Nat) p, L[i]? = some p → p.2 = k → ∃ c', c ≤ c' ∧ c' < K ∧ t.place.toList[i]? = some (way t.mask (hsh w k) c')) → wpAny (model P w) A (setSearchFrom a (.ref x) (hsh w k) true f stand) Q E s
  | 0, _, _, _, _, hf, _ => absurd hf (Nat.not_lt_zero _)
  | f + 1, c, stand, hst, hc, hf, hre => by
    obtain ⟨o, ho, hex, hd⟩ := R.ob
    have hsz : t.place.toList.length = L.length := by have := R.tab.sz; rw [List.length_map] at this; rw [Array.length_toList]; exact this
    rw [setSearchFrom_succ]
    refine wpAny_bind (wpAny_setState_of ho hd R.fits ?_)
    dsimp only
    refine wp_if_neg (by rw [R.gw]; exact Bool.false_ne_true) ?_
    try refine wpAny_bind (wpAny_pure ?_)
    have e1 : ∀ q, (nth t.mask (prb t.mask (hsh w k) c) q).j = way t.mask (hsh w k) (c + q) := fun q => congrArg SetTable.Probe.j (prb_add _ _ c q)
    have cK : c + (K - c) = K := by omega
    have hashAt : ∀ (i : Nat) p, L[i]? = some p → (fun i => (es[i]?.map (·.1)).getD 0) i = hsh w p.2 := fun i p hp => by
      show (es[i]?.map (·.1)).getD 0 = _
      rw [rowsD_get R.rows hp]
      rfl
    have hit0 : ∀ (i : Nat) p, L[i]? = some p → p.2 = k → (∀ (q i' : Nat), q < K - c → t.place.toList[i']? = some (way t.mask (hsh w k) (c + q)) → (fun i => (es[i]?.map (·.1)).getD 0) i' ≠ hsh w k) → False := fun i p hp hk hno => by
      obtain ⟨c', a1, a2, a3⟩ := hre i p hp hk
      exact hno (c' - c) i (by omega) (by rw [show c + (c' - c) = c' by omega]; exact a3) ((hashAt i p hp).trans (by rw [hk]))
    have spec := go_spec t R.tab.ris R.tab.dm (fun i => (es[i]?.map (·.1)).getD 0) (hsh w k) (10 * SetTable.turns t.mask) (K - c) _ (prb_dummy t.mask (hsh w k) c) (by omega) (fun q hq => by rw [e1]; exact hKb (c + q) (by omega)) (by rw [e1, cK]; exact hK)
    rcases spec with ⟨q, i, hq, hi, hh, hno, hpr⟩ | ⟨hno, hpr⟩
    · rw [e1, prb_add] at hpr
      rw [e1] at hi
      have hpr' : t.probe (fun i => (es[i]?.map (·.1)).getD 0) (hsh w k) (stand.getD (t.probeStart (hsh w k))) = some (.candidate (way t.mask (hsh w k) (c + q)) i (prb t.mask (hsh w k) (c + (q + 1)))) := by
        rw [hst]
        exact hpr
      rw [hpr']
      dsimp only
      have hil : i < L.length := by rw [← hsz]; exact (List.getElem?_eq_some_iff.mp hi).1
      obtain ⟨p, hp⟩ : ∃ p, L[i]? = some p := ⟨_, List.getElem?_eq_getElem hil⟩
      have hmem : p ∈ L := List.mem_of_getElem? hp
      have hent := rowsD_get R.rows hp
      have hsl : t.slot (way t.mask (hsh w k) (c + q)) = .live i := slot_live R.tab.ris hi
      have rest : wpAny (model P w) A (searchRest a (.ref x) (hsh w k) true f es t (way t.mask (hsh w k) (c + q)) i (prb t.mask (hsh w k) (c + (q + 1)))) Q E s := by
        unfold searchRest
        rw [hent]
        dsimp only
        refine wpAny_bind (wpAny_holding ((R.key p hmem).eq hx hu (wpAny_bind (wpAny_setState_of ho hd R.fits ?_))))
        dsimp only
        cases hkk : D.beq p.2 k with
        | true => exact wp_if_pos (by simp) (wpAny_pure (hin (List.mem_map.mpr ⟨p, hmem, D.eq_of_beq _ _ hkk⟩)))
        | false =>
          refine wp_if_neg (by simp) ?_
          try refine wpAny_bind (wpAny_pure ?_)
          rw [sameMem]
          dsimp only
          simp only [if_true, hsl, hent]
          refine wpAny_bind (wpAny_isSame_ref_self (wpAny_bind (wpAny_pure ?_)))
          simp only [if_true]
          refine wp_if_neg (by simp) (find_from R hx hu hf0 hK hKb hin hout f (c + (q + 1)) _ rfl (by omega) (by omega) fun i0 p0 h0 hk0 => ?_)
          obtain ⟨c', a1, a2, a3⟩ := hre i0 p0 h0 hk0
          refine ⟨c', ?_, a2, a3⟩
          have n1 : ¬ c' < c + q := fun z => hno (c' - c) i0 (by omega) (by rw [e1, show c + (c' - c) = c' by omega]; exact a3) ((hashAt i0 p0 h0).trans (by rw [hk0]))
          have n2 : c' ≠ c + q := fun z => by
            rw [z] at a3
            have s0 := slot_live R.tab.ris a3
            rw [hsl] at s0
            injection s0 with s0
            rw [← s0, hp] at h0
            have : p.2 = k := (congrArg Prod.snd (Option.some.inj h0)).trans hk0
            rw [this, D.beq_self] at hkk
            cases hkk
          omega
      by_cases hl : t.led = true
      · refine wp_if_neg (by simp [hl]) ?_
        try refine wpAny_bind (wpAny_pure ?_)
        exact rest
      · refine wp_if_pos (by simp [hl]) (wpAny_bind (seen_D hx (fun y hy => ?_) (wp_if_neg (by decide) ?_)))
        · obtain ⟨e, he, ee⟩ := List.mem_map.mp hy
          have he2 : e ∈ es.toList := by
            have : e ∈ es ∧ e.1 = hsh w k := by simpa using he
            simpa using this.1
          rw [R.rows] at he2
          obtain ⟨p2, hp2, e2⟩ := List.mem_map.mp he2
          exact ⟨p2.2, p2.1, by rw [← ee, ← e2], R.key p2 hp2⟩
        · try refine wpAny_bind (wpAny_pure ?_)
          exact rest
    · rw [e1, cK] at hpr
      have hpr' : t.probe (fun i => (es[i]?.map (·.1)).getD 0) (hsh w k) (stand.getD (t.probeStart (hsh w k))) = some (.empty (way t.mask (hsh w k) K) none) := by
        rw [hst]
        exact hpr
      rw [hpr']
      dsimp only
      refine wpAny_pure (hout fun hm => ?_)
      obtain ⟨p0, h0, hk0⟩ := List.mem_map.mp hm
      obtain ⟨i0, hi0, e0⟩ := List.getElem_of_mem h0
      exact hit0 i0 p0 (by rw [List.getElem?_eq_getElem hi0, e0]) hk0 fun q i' hq hi' => hno q i' hq (by rw [e1]; exact hi')
theorem find_at (R : StR w s.heap a L es ep t) {x : Addr} {k : D} (hx : KT s.heap k x) (hu : A.units + 8 < cLine) {Q : SetFound → Shared → Prop} (hin : k ∈ L.map (·.2) → Q (.there none) s)
    (hout : ∀ K, k ∉ L.map (·.2) → way t.mask (hsh w k) K ∉ t.place.toList → (∀ c, c < K → way t.mask (hsh w k) c ∈ t.place.toList) → Q (.free (way t.mask (hsh w k) K) false) s) : wpAny (model P w) A (setSearch a (.ref x) (hsh w k) true) Q E s := by
  have hroom := R.room
  obtain ⟨K, hf0, hK, hKb⟩ := R.tab.first (by rw [List.length_map]; omega) (hsh w k)
  have hbig : K < 100000 := by
    have : 10 * SetTable.turns t.mask ≤ 1420 := by unfold SetTable.turns; rcases R.tab.mok with e | e | e <;> omega
    omega
  unfold setSearch
  refine find_from R hx hu hf0 hK hKb hin (fun hn => hout K hn hK hKb) 100000 0 none rfl (Nat.zero_le _) (by omega) fun i p hp hk => ?_
  have hi : (L.map fun p => hsh w p.2)[i]? = some (hsh w k) := by rw [List.getElem?_map, hp, ← hk]; rfl
  have hil : i < t.place.toList.length := by
    have h1 : i < L.length := (List.getElem?_eq_some_iff.mp hp).1
    have h2 := R.tab.sz
    rw [List.length_map] at h2
    rw [Array.length_toList]
    omega
  have hj := List.getElem?_eq_getElem hil
  obtain ⟨c, hc, e⟩ := R.tab.before hK hi hj
  exact ⟨c, Nat.zero_le _, hc, by rw [hj, e]⟩
end
end Q
end
section
set_option Elab.async false
set_option linter.all false
set_option maxRecDepth 100000
set_option maxHeartbeats 4000000
namespace Q
open PySem PySem.Spec PyProof.Rows L2
variable {P : Program} {w : World} {A : Around} {E : Value → Shared → Prop} {s : Shared}
section
variable {a : Addr} {L : List (Addr × D)} {es : Array (Int × Value)} {ep : Nat} {t : SetTable}
theorem rowsD_put (L : List (Addr × D)) (p : Nat) (x : Addr) (k : D) : rowsD w (L.take p ++ (x, k) :: L.drop p) = (rowsD w L).take p ++ (hsh w k, Value.ref x) :: (rowsD w L).drop p := by
  simp [rowsD, List.map_take, List.map_drop]
theorem KT.same {h h' : Heap} {k : D} {a b : Addr} {o : Obj} {es : Array (Int × Value)} {ep : Nat} {t : SetTable} (x : KT h k b) (ho : h.get? a = some o) (hc : o.cls = .type "set") (hs : Heap.SameBut a h h') : KT h' k b := x.keep fun c u hu e => by
  refine (hs.2 c fun z => ?_).trans e
  rw [z, ho] at e
  cases e
  rw [hc] at hu
  exact absurd (Value.type.inj hu) (by decide)
theorem filterMap_range {α : Type} (L : List α) : (List.range L.length).filterMap (fun i => L[i]?) = L := by
  have key : ∀ n, n ≤ L.length → (List.range n).filterMap (fun i => L[i]?) = L.take n := fun n => by
    induction n with
    | zero => exact fun _ => rfl
    | succ n ih =>
      intro hn
      have e := List.getElem?_eq_getElem (l := L) (i := n) hn
      rw [List.range_succ, List.filterMap_append, ih (Nat.le_of_lt hn), List.take_succ, e, List.filterMap_cons_some e]
      rfl
  rw [key _ (Nat.le_refl _), List.take_length]
theorem rows_ordered (L : List (Addr × D)) (es : Array (Int × Value)) (order : Array Nat) (hr : es.toList = rowsD w L) (hp : order.toList.Perm (List.range L.length)) :
    ∃ L2, (order.filterMap (es[·]?)).toList = rowsD w L2 ∧ L2.Perm L ∧ (L2.map fun p => hsh w p.2) = order.toList.map fun i => (es.map (·.1)).getD i 0 := by
  have key : ∀ l : List Nat, (∀ i ∈ l, i < L.length) → l.filterMap (fun i => es[i]?) = rowsD w (l.filterMap fun i => L[i]?) ∧ ((l.filterMap fun i => L[i]?).map fun p => hsh w p.2) = l.map fun i => (es.map (·.1)).getD i 0 := fun l => by
    induction l with
    | nil => exact fun _ => ⟨rfl, rfl⟩
    | cons i l ih =>
      intro hl
      obtain ⟨e1, e2⟩ := ih fun j hj => hl j (List.mem_cons_of_mem _ hj)
      have e3 := List.getElem?_eq_getElem (l := L) (hl i List.mem_cons_self)
      have e4 := rowsD_get hr e3
      have e5 : (es.map (·.1)).getD i 0 = hsh w (L[i]'(hl i List.mem_cons_self)).2 := by simp [Array.getD_eq_getD_getElem?, e4]
      rw [List.filterMap_cons_some e4, List.filterMap_cons_some e3, e1, List.map_cons, List.map_cons, e2, e5]
      exact ⟨rfl, rfl⟩
  obtain ⟨k1, k2⟩ := key order.toList fun i hi => List.mem_range.mp (hp.mem_iff.mp hi)
  refine ⟨_, by simpa using k1, ?_, k2⟩
  have := hp.filterMap fun i => L[i]?
  rwa [filterMap_range] at this
theorem relay_D {o : Obj} (ho : s.heap.get? a = some o) (hex : o.ExactSet) (hd : o.data = .set es ep t) (hrows : es.toList = rowsD w L) (hsz : t.place.size = es.size) (hdm : t.dummies = #[]) (hfl : es.size ≤ t.mask)
    (nd : (L.map (·.2)).Nodup) (key : ∀ p ∈ L, KT s.heap p.2 p.1) (ld : w.params.followText "set-order" = true ∨ t.led = true) (few : L.length < 64) {wanted M : Nat}
    (hw : SetTable.sizeAbove wanted - 1 = M) (hM : MaskOk M) (hw2 : SetTable.sizeAbove wanted ≤ 128) (hn : L.length * 5 < M * 3) {Q : Unit → Shared → Prop}
    (hQ : ∀ h' L' es' ep' t', Heap.SameBut a s.heap h' → StR w h' a L' es' ep' t' → L'.Perm L → Q () { s with heap := h' }) : wpAny (model P w) A (setRelay a wanted) Q E s := by
  have hsl := rowsD_len hrows
  have hfits : t.fits es.size = true := by
    have e : t.dummies.size = 0 := by rw [hdm]; rfl
    unfold SetTable.fits SetTable.fill
    rw [e, Bool.and_eq_true, beq_iff_eq, decide_eq_true_eq]
    omega
  obtain ⟨t', order, e, hp, T, em, el, _, ed⟩ := relaid_ok t (hs := es.map (·.1)) (wanted := wanted) hw hM (by rw [Array.size_map, hsl]; omega)
  rw [Array.size_map, hsl] at hp
  obtain ⟨L2, r1, r2, r3⟩ := rows_ordered L es order hrows hp
  rw [← r3] at T
  have hl2 := r2.length_eq
  have hs2 : (order.filterMap (es[·]?)).size = es.size := by rw [rowsD_len r1, hl2, hsl]
  rw [setRelay_eq]
  refine wpAny_bind (wpAny_setState_of ho hd hfits ?_)
  dsimp only
  refine wp_if_neg (by rw [sizeLine_eq]; omega) ?_
  try refine wpAny_bind (wpAny_pure ?_)
  rw [e]
  dsimp only
  refine wpAny_bind (wp_if_neg (by rw [hs2]; simp) ?_)
  try refine wpAny_bind (wpAny_pure ?_)
  refine wpAny_pure ?_
  dsimp only
  refine wpAny_storeSet_of ho hd ?_ (by rw [hs2, hsl, sizeLine_eq]; omega)
  have sb : Heap.SameBut a s.heap (s.heap.update a (Obj.putSet (order.filterMap (es[·]?)) t')) := Heap.SameBut.update ..
  refine hQ _ L2 (order.filterMap (es[·]?)) (ep + 1) t' sb ⟨⟨_, store_at ho hd, ⟨hex.1, hex.2.1, hex.2.2⟩, rfl⟩, r1, T, (r2.map (·.2)).nodup_iff.mpr nd, fun p hpm => (key p (r2.mem_iff.mp hpm)).same (es := es) (ep := ep) (t := t) ho hex.1 sb, by rw [el]; exact ld, ?_, by rw [hl2]; exact few⟩ r2
  rw [hl2, em]
  exact hn
theorem add_D (R : StR w s.heap a L es ep t) {x : Addr} {k : D} (hx : KT s.heap k x) (hu : A.units + 8 < cLine) (hfew : L.length + 1 < 64) {Q : Bool → Shared → Prop}
    (hQ : ∀ b h' L' es' ep' t', Heap.SameBut a s.heap h' → StR w h' a L' es' ep' t' → (k ∈ L.map (·.2) → L' = L) → (k ∉ L.map (·.2) → L'.Perm ((x, k) :: L)) → Q b { s with heap := h' }) : wpAny (model P w) A (setAddHashed a (.ref x) (hsh w k)) Q E s := by
  obtain ⟨o, ho, hex, hd⟩ := R.ob
  have hsl := rowsD_len R.rows
  have hroom := R.room
  unfold setAddHashed
  refine wpAny_holding ?_
  rw [show (100000 : Nat) = 99999 + 1 from rfl, setAddHashedIn_succ]
  refine wpAny_bind (wpAny_setState_of ho hd R.fits ?_)
  dsimp only
  refine wp_if_neg (by simp [byScan, Value.scannable]) ?_
  try refine wpAny_bind (wpAny_pure ?_)
  refine wpAny_bind (find_at R hx hu (fun hm => ?_) fun K hm hK hb => ?_)
  · dsimp only
    exact wpAny_pure (hQ false s.heap L es ep t (Heap.SameBut.refl a s.heap) R (fun _ => rfl) fun z => absurd hm z)
  dsimp only
  refine wpAny_bind (wpAny_setState_of ho hd R.fits ?_)
  dsimp only
  obtain ⟨q1, q2, q3, q4, q5, q6, q7, q8, q9⟩ := R.tab.put hK hb
  generalize hpt : t.put (way t.mask (hsh w k) K) = pt at q1 q3 q4 q5 q6 q7 q8 q9 ⊢
  obtain ⟨t1, p⟩ := pt
  dsimp only at q1 q3 q4 q5 q6 q7 q8 q9 ⊢
  subst q1
  have hin : (SetTable.insertAt es (SetTable.below t.place (way t.mask (hsh w k) K)) (hsh w k, Value.ref x)).toList = rowsD w (L.take (SetTable.below t.place (way t.mask (hsh w k) K)) ++ (x, k) :: L.drop (SetTable.below t.place (way t.mask (hsh w k) K))) := by
    rw [SetTable.toList_insertAt, rowsD_put, R.rows]
  generalize hpp : SetTable.below t.place (way t.mask (hsh w k) K) = p at q2 q3 hin ⊢
  have pm := put_perm L p (x, k)
  have hlen : (L.take p ++ (x, k) :: L.drop p).length = L.length + 1 := pm.length_eq
  have hhs : (L.take p ++ (x, k) :: L.drop p).map (fun p => hsh w p.2) = (L.map fun p => hsh w p.2).take p ++ hsh w k :: (L.map fun p => hsh w p.2).drop p := by
    rw [List.map_append, List.map_cons, List.map_take, List.map_drop]
  rw [← hhs] at q3
  have nd1 : ((L.take p ++ (x, k) :: L.drop p).map (·.2)).Nodup := (pm.map (·.2)).nodup_iff.mpr (List.nodup_cons.mpr ⟨hm, R.nd⟩)
  have hes : (SetTable.insertAt es p (hsh w k, Value.ref x)).size = L.length + 1 := by rw [rowsD_len hin, hlen]
  generalize SetTable.insertAt es p (hsh w k, Value.ref x) = es1 at hin hes ⊢
  generalize L.take p ++ (x, k) :: L.drop p = L1 at pm hlen q3 nd1 hin
  have fin : ∀ t2 : SetTable, (t2 = t1 ∨ t2 = { t1 with plain := false }) → wpAny (model P w) A (do
      storeSet a es1 t2
      if (!false && t2.tooFull) = true then setRelay a (SetTable.grown (es.size + 1))
      pure true) Q E s := fun t2 h2 => by
    have T2 : TabOk t2 (L1.map fun p => hsh w p.2) := h2.elim (fun e => e ▸ q3) fun e => e ▸ ⟨q3.ris, q3.dm, q3.sz, q3.mok, q3.bd, q3.reach⟩
    have m2 : t2.mask = t.mask := by rcases h2 with rfl | rfl <;> exact q4
    have l2 : t2.led = t.led := by rcases h2 with rfl | rfl <;> exact q5
    have f2 : t2.tooFull = t1.tooFull := by rcases h2 with rfl | rfl <;> rfl
    refine wpAny_bind (wpAny_storeSet_of ho hd ?_ (by rw [hes, sizeLine_eq]; omega))
    have sb : Heap.SameBut a s.heap (s.heap.update a (Obj.putSet es1 t2)) := Heap.SameBut.update ..
    have ho1 := store_at (es' := es1) (t' := t2) ho hd
    generalize s.heap.update a (Obj.putSet es1 t2) = h1 at sb ho1 ⊢
    have key1 : ∀ p ∈ L1, KT h1 p.2 p.1 := fun p hp => by
      rcases List.mem_cons.mp (pm.mem_iff.mp hp) with e | hp
      · rw [e]; exact hx.same (es := es) (ep := ep) (t := t) ho hex.1 sb
      · exact (R.key p hp).same (es := es) (ep := ep) (t := t) ho hex.1 sb
    have ld1 : w.params.followText "set-order" = true ∨ t2.led = true := by rw [l2]; exact R.led
    have tf : t2.tooFull = decide ((L.length + 1) * 5 ≥ t.mask * 3) := by
      rw [f2]
      unfold SetTable.tooFull
      rw [q9, List.length_map, q4]
    by_cases hf : (L.length + 1) * 5 ≥ t.mask * 3
    · have hf' : (!false && t2.tooFull) = true := by rw [tf, decide_eq_true hf]; rfl
      have hsz1 : t2.place.size = es1.size := by rw [T2.sz, List.length_map, hlen, hes]
      have cases2 : (t.mask = 7 ∧ L.length = 4) ∨ (t.mask = 31 ∧ L.length = 18) := by
        rcases R.tab.mok with e | e | e
        · left; omega
        · right; omega
        · exfalso; omega
      have go : ∀ M, SetTable.sizeAbove (SetTable.grown (L.length + 1)) - 1 = M → MaskOk M → SetTable.sizeAbove (SetTable.grown (L.length + 1)) ≤ 128 → (L.length + 1) * 5 < M * 3 →
          wpAny (model P w) A (setRelay a (SetTable.grown (L.length + 1))) (fun _ s' => wpAny (model P w) A (pure true) Q E s') E { s with heap := h1 } := fun M g1 g2 g3 g4 => by
        refine relay_D (s := { s with heap := h1 }) ho1 ⟨hex.1, hex.2.1, hex.2.2⟩ rfl hin hsz1 T2.dm (by rw [hes, m2]; omega) nd1 key1 ld1 (by rw [hlen]; exact hfew) g1 g2 g3 (by rw [hlen]; exact g4) ?_
        intro h2 L2 es2 ep2 t2 sb2 R2 pm2
        exact wpAny_pure (hQ true h2 L2 es2 ep2 t2 (sb.trans sb2) R2 (fun z => absurd z hm) fun _ => pm2.trans pm)
      rw [hsl]
      refine wp_if_pos hf' (wpAny_bind ?_) <;> skip
      rcases cases2 with ⟨_, e2⟩ | ⟨_, e2⟩
      · exact go 31 (by rw [e2, size_20]) (.inr (.inl rfl)) (by rw [e2, size_20]; decide) (by omega)
      · exact go 127 (by rw [e2, size_76]) (.inr (.inr rfl)) (by rw [e2, size_76]; decide) (by omega)
    · have hf' : ¬ (!false && t2.tooFull) = true := by rw [tf, decide_eq_false hf]; exact Bool.false_ne_true
      refine wp_if_neg hf' ?_
      try refine wpAny_bind (wpAny_pure ?_)
      exact wpAny_pure (hQ true h1 L1 es1 (ep + 1) t2 sb ⟨⟨_, ho1, ⟨hex.1, hex.2.1, hex.2.2⟩, rfl⟩, hin, T2, nd1, key1, ld1, by rw [hlen, m2]; omega, by rw [hlen]; exact hfew⟩ (fun z => absurd z hm) fun _ => pm)
  obtain ⟨hb1, hby⟩ := hashBy_D (P := P) (w := w) (s := s) 8 k (.ref x) hx.1 (isKey_ky hx.2)
  by_cases hp1 : t1.plain = true
  · refine wp_if_pos hp1 (wpAny_bind (hby _ _ _ ?_))
    cases hb1 with
    | true => exact fin t1 (.inl rfl)
    | false => exact fin _ (.inr rfl)
  · refine wp_if_neg hp1 (wpAny_bind (wpAny_pure ?_))
    exact fin t1 (.inl rfl)
end
end Q
end
section
set_option Elab.async false
set_option linter.all false
set_option maxRecDepth 100000
set_option maxHeartbeats 4000000
namespace Q
open PySem PySem.Spec PyProof.Rows L2 PySem.Froz
variable {P : Program} {w : World} {A : Around} {E : Value → Shared → Prop} {s : Shared}
structure TxR (P : Program) (w : World) (h : Heap) (a : Addr) (l : List Str) (V : SD) : Prop where
  ob : h.get? a = some (sObj "set" V)
  tx : TxOk P w V l
  ris : Ris V.2.2.place.toList
  led : w.params.followText "set-order" = true ∨ V.2.2.led = true
  nd : l.Nodup
theorem addTx_ris (h : Int) (v : Value) (V : SD) (r : Ris V.2.2.place.toList) : Ris (addTx h v V).2.2.place.toList ∧ (addTx h v V).2.2.led = V.2.2.led := by
  obtain ⟨es, ep, t⟩ := V
  have r1 := layNew_ris t es h v r
  have l1 := layNew_led t es h v
  unfold addTx
  dsimp only
  generalize layNew t es h v = N at r1 l1 ⊢
  obtain ⟨es1, t1, wd, gv⟩ := N
  dsimp only at r1 l1 ⊢
  have r2 : Ris (if t1.plain = true then { t1 with plain := false } else t1).place.toList := by split <;> exact r1
  have l2 : (if t1.plain = true then { t1 with plain := false } else t1).led = t.led := by split <;> exact l1
  generalize (if t1.plain = true then { t1 with plain := false } else t1) = t2 at r2 l2 ⊢
  unfold tailTx
  split
  · exact ⟨relayAll_ris t2 es1 _, (relayAll_led t2 es1 _).trans l2⟩
  · exact ⟨r2, l2⟩
theorem had_x {a : Addr} {V : SD} {l : List Str} {k : Str} {u : Tok} {Q : Bool → Shared → Prop} (ho : s.heap.get? a = some (sObj "set" V)) (F : TxOk P w V l) (hk : k ∈ l) (hb : l.length < scanBound) (h : Q false s) : wpAny (model P w) A (setAddHashed a (.str k u) (hashStr w k)) Q E s := by
  obtain ⟨es, ep, t⟩ := V
  have hf : t.fits es.size = true := F.fit
  have hel : ElemsOf (PySem.strKind P w) es.toList := F.el
  have hsz : es.size = l.length := F.sz
  have hkey : (PySem.strKind P w).is k (.str k u) = true := is_str k u
  obtain ⟨e, he, hp⟩ := (F.mem k).mp hk
  obtain ⟨j, hj⟩ : ∃ j, List.findIdx? (fun e => (PySem.strKind P w).is k e.2) es.toList = some j := by
    cases hr : List.findIdx? (fun e => (PySem.strKind P w).is k e.2) es.toList with
    | some j => exact ⟨j, rfl⟩
    | none =>
      have := List.findIdx?_eq_none_iff.mp hr e he
      rw [hp] at this
      cases this
  unfold setAddHashed setAddHashedIn
  refine wpAny_holding (wpAny_bind (wpAny_setState_of ho rfl hf ?_))
  dsimp only
  rw [byScan_of rfl (by omega) hel]
  simp only [↓reduceIte]
  unfold setAddByScan
  refine wpAny_bind (wpAny_bind (wpAny_rule (wpAny_bind (wpAny_setScan_of (knd := PySem.strKind P w) (k := k) hkey ho rfl hf hel ?_))))
  rw [hj]
  dsimp only
  exact wpAny_pure (wpAny_pure h)
structure Adds (P : Program) (w : World) (ok : Heap → Addr → List D → Prop) (el : Heap → D → Value → Prop) : Prop where
  add : ∀ {A : Around} {E : Value → Shared → Prop} {s : Shared} {S : Addr} {ds : List D} {d : D} {v : Value} {Q : Bool → Shared → Prop}, ok s.heap S ds → el s.heap d v → A.units + 8 < cLine → ds.length + 1 < 64 →
    (∀ b h' ds' tk, s.toks ≤ tk → Heap.SameBut S s.heap h' → ok h' S ds' → (d ∈ ds → ds' = ds) → (d ∉ ds → ds'.Perm (d :: ds)) → Q b { s with heap := h', toks := tk }) → wpAny (model P w) A (setAdd S v) Q E s
  keep : ∀ {h h' : Heap} {S : Addr} {ds : List D}, ok h S ds → (∀ o, h.get? S = some o → h'.get? S = some o) → (∀ b o, o.cls = .type "tuple" → h.get? b = some o → h'.get? b = some o) → ok h' S ds
  elk : ∀ {h h' : Heap} {d : D} {v : Value}, el h d v → (∀ b o, o.cls = .type "tuple" → h.get? b = some o → h'.get? b = some o) → el h' d v
  new : ∀ {h : Heap} {S : Addr}, h.get? S = some { cls := .type "set", dict := none, data := .set #[] 0 (.fresh 0 0 (!w.params.followText "set-order")) } → ok h S []
theorem led_new : w.params.followText "set-order" = true ∨ (!w.params.followText "set-order") = true := by
  cases w.params.followText "set-order"
  · exact .inr rfl
  · exact .inl rfl
def okT (w : World) (pr : D → Value → Prop) (h : Heap) (S : Addr) (ds : List D) : Prop := ∃ L es ep t, StR w h S L es ep t ∧ L.map (·.2) = ds ∧ ∀ p ∈ L, pr p.2 (.ref p.1)
def elT (pr : D → Value → Prop) (h : Heap) (d : D) (v : Value) : Prop := ∃ b, v = .ref b ∧ KT h d b ∧ pr d v
theorem adds_T {pr : D → Value → Prop} : Adds P w (okT w pr) (elT pr) where
  add := by
    rintro A E s S ds d v Q ⟨L, es, ep, t, R, rfl, hp⟩ ⟨b, rfl, hb, hp2⟩ hu hf h
    unfold setAdd
    refine wpAny_holding (wpAny_bind (hb.hash hu ?_))
    refine add_D (s := { s with toks := s.toks + (toK d).draws }) R hb hu (by rw [List.length_map] at hf; exact hf) fun b h' L' es' ep' t' sb R' c1 c2 => ?_
    refine h b h' (L'.map (·.2)) _ (Nat.le_add_right _ _) sb ⟨L', es', ep', t', R', rfl, fun p hm => ?_⟩ (fun m => by rw [c1 m]) fun m => (c2 m).map (·.2)
    by_cases c : d ∈ L.map (·.2)
    · rw [c1 c] at hm
      exact hp p hm
    · rcases List.mem_cons.mp ((c2 c).mem_iff.mp hm) with e | hm
      · rw [e]; exact hp2
      · exact hp p hm
  keep := by
    rintro h h' S ds ⟨L, es, ep, t, R, rfl, hp⟩ k kt
    obtain ⟨o, ho, r⟩ := R.ob
    exact ⟨L, es, ep, t, ⟨⟨o, k o ho, r⟩, R.rows, R.tab, R.nd, fun p hp => (R.key p hp).keep kt, R.led, R.room, R.few⟩, rfl, hp⟩
  elk := fun ⟨b, e, x, y⟩ k => ⟨b, e, x.keep k, y⟩
  new := by
    intro h S ho
    refine ⟨[], #[], 0, _, ⟨⟨_, ho, ⟨rfl, rfl, rfl⟩, rfl⟩, rfl, ⟨List.Pairwise.nil, rfl, rfl, .inl rfl, fun x hx => (by cases hx), fun i h j hi => (by simp at hi)⟩, List.nodup_nil, fun p hp => (by cases hp), led_new, ?_, ?_⟩, rfl, fun p hp => (by cases hp)⟩
    · show 0 * 5 < 7 * 3
      decide
    · show 0 < 64
      decide
def okS (P : Program) (w : World) (h : Heap) (S : Addr) (ds : List D) : Prop := ∃ l V, TxR P w h S l V ∧ l.map D.str = ds
def elS (h : Heap) (d : D) (v : Value) : Prop := ∃ x t, d = .str x ∧ v = .str x t
theorem adds_S : Adds P w (okS P w) elS where
  add := by
    rintro A E s S ds d v Q ⟨l, V, R, rfl⟩ ⟨x, t, rfl, rfl⟩ hu hf h
    rw [List.length_map] at hf
    have sb0 : (64 : Nat) ≤ scanBound := by decide
    unfold setAdd
    refine wpAny_holding (wpAny_bind (wpAny_pyHash_str ?_))
    by_cases c : x ∈ l
    · exact had_x (s := { s with toks := s.toks + 1 }) R.ob R.tx c (by omega) (h false s.heap _ _ (Nat.le_succ _) (Heap.SameBut.refl _ _) ⟨l, V, R, rfl⟩ (fun _ => rfl) fun n => absurd (List.mem_map.mpr ⟨x, c, rfl⟩) n)
    · refine add_x (s := { s with toks := s.toks + 1 }) R.ob R.tx c (by omega) ?_
      obtain ⟨r1, r2⟩ := addTx_ris (hashStr w x) (.str x t) V R.ris
      refine h true _ ((x :: l).map D.str) _ (Nat.le_succ _) (Heap.SameBut.update ..) ⟨x :: l, _, ⟨get_upd _ R.ob rfl, add_ok t R.tx, r1, by rw [r2]; exact R.led, List.nodup_cons.mpr ⟨c, R.nd⟩⟩, rfl⟩ (fun m => ?_) fun _ => List.Perm.refl _
      obtain ⟨y, hy, e⟩ := List.mem_map.mp m
      cases e
      exact absurd hy c
  keep := fun ⟨l, V, R, e⟩ k _ => ⟨l, V, ⟨k _ R.ob, R.tx, R.ris, R.led, R.nd⟩, e⟩
  elk := fun x _ => x
  new := fun ho => ⟨[], (#[], 0, .fresh 0 0 (!w.params.followText "set-order")), ⟨ho, TxOk.nil (by rfl), List.Pairwise.nil, led_new, List.nodup_nil⟩, rfl⟩
structure GotD (ks : List D) (i : Nat) (L : List D) : Prop where
  sub : ∀ p ∈ L, p ∈ ks.take i
  all : ∀ p ∈ ks.take i, p ∈ L
  nd : L.Nodup
theorem GotD.len {ks L : List D} {i : Nat} (g : GotD ks i L) : L.length ≤ i := by
  have h1 := nat_le_of_sub g.nd g.sub
  rw [List.length_take] at h1
  omega
where nat_le_of_sub : ∀ {l m : List D}, l.Nodup → (∀ x ∈ l, x ∈ m) → l.length ≤ m.length
  | [], _, _, _ => Nat.zero_le _
  | x :: l, m, n, h => by
    have hx := h x List.mem_cons_self
    rw [List.nodup_cons] at n
    have := nat_le_of_sub (m := m.erase x) n.2 fun y hy => (List.mem_erase_of_ne (fun e => n.1 (by rw [← e]; exact hy))).mpr (h y (List.mem_cons_of_mem _ hy))
    rw [List.length_erase_of_mem hx] at this
    have : 0 < m.length := List.length_pos_of_mem hx
    simp only [List.length_cons]
    omega
theorem GotD.same {ks L : List D} {i : Nat} {x : D} (g : GotD ks i L) (h : ks[i]? = some x) (hm : x ∈ L) : GotD ks (i + 1) L := by
  refine ⟨fun p hp => ?_, fun p hp => ?_, g.nd⟩
  · rw [take_next h]; exact List.mem_append_left _ (g.sub p hp)
  · rw [take_next h] at hp
    rcases List.mem_append.mp hp with z | z
    · exact g.all p z
    · rw [List.mem_singleton.mp z]; exact hm
theorem GotD.more {ks L L' : List D} {i : Nat} {x : D} (g : GotD ks i L) (h : ks[i]? = some x) (hm : x ∉ L) (pm : L'.Perm (x :: L)) : GotD ks (i + 1) L' := by
  refine ⟨fun p hp => ?_, fun p hp => ?_, pm.nodup_iff.mpr (List.nodup_cons.mpr ⟨hm, g.nd⟩)⟩
  · rw [take_next h]
    rcases List.mem_cons.mp (pm.mem_iff.mp hp) with z | z
    · exact List.mem_append_right _ (List.mem_singleton.mpr z)
    · exact List.mem_append_left _ (g.sub p z)
  · rw [take_next h] at hp
    refine pm.mem_iff.mpr ?_
    rcases List.mem_append.mp hp with z | z
    · exact List.mem_cons_of_mem _ (g.all p z)
    · rw [List.mem_singleton.mp z]; exact List.mem_cons_self
section
variable {ok : Heap → Addr → List D → Prop} {el : Heap → D → Value → Prop}
theorem update_D (K : Adds P w ok el) {I : Addr} {fp wr : List Addr} {G : Array GenState → Array GenState → Prop} {n : Nat} {Pv : Nat → Value → Prop} {St : Nat → Shared → Prop} {R : Result → Shared → Prop}
    (W : WalksS P w A.in1 I fp wr G n Pv St) (S : Addr) (hSf : S ∉ fp) (ks : List D) (hn : n = ks.length) (hfew : ks.length < 64) (h0 : Heap) (hval : ∀ i v, Pv i v → ∃ d, ks[i]? = some d ∧ el h0 d v)
    (hS0 : h0.get? S = none) (hw0 : ∀ b ∈ wr, h0.get? b = none) (hwt : ∀ b ∈ wr, ∀ (s : Shared) o, (∃ i, i ≤ n ∧ St i s) → s.heap.get? b = some o → o.cls ≠ .type "tuple") (hu : A.in1.units + 8 < cLine) :
    ∀ (k i : Nat) (s : Shared), n - i = k → i ≤ n → St i s → (∀ b o, h0.get? b = some o → s.heap.get? b = some o) → (∃ L, ok s.heap S L ∧ GotD ks i L) →
      (∀ s' L, Moved (S :: wr) G s s' → ok s'.heap S L → GotD ks n L → (∀ b o, h0.get? b = some o → s'.heap.get? b = some o) → R (.ok (.ret .none)) s') →
      codeAny (model P w) A (.builtin "set.update.loop" ⟨[.ref S, .ref I], []⟩) R s := by
  have hSw : S ∉ wr := fun h => hSf (W.sub _ h)
  have hsub : ∀ b ∈ wr, b ∈ S :: wr := fun b hb => List.mem_cons_of_mem _ hb
  have keepM : ∀ {s s' : Shared}, Moved wr G s s' → (∀ b o, h0.get? b = some o → s.heap.get? b = some o) → ∀ b o, h0.get? b = some o → s'.heap.get? b = some o := fun hm hkp b o e =>
    hm.heap b o (fun hb => by rw [hw0 b hb] at e; cases e) (hkp b o e)
  have keepT : ∀ {i : Nat} {s s' : Shared}, i ≤ n → St i s → Moved wr G s s' → ∀ b o, o.cls = .type "tuple" → s.heap.get? b = some o → s'.heap.get? b = some o := fun {i s s'} hi st hm b o c e => hm.heap b o (fun hb => hwt b hb s o ⟨i, hi, st⟩ e c) e
  intro k
  induction k with
  | zero =>
    intro i s hk' hi hst hkp ⟨L, hS, g⟩ hR
    obtain rfl : i = n := by omega
    refine codeAny_builtin F.entry_set_update_loop ?_
    rw [Around.under_plainId F.plain_set_update_loop _]
    show wpAny _ A.in1 (pyNext (.ref I) >>= _) _ _ s
    refine wpAny_bind (W.done s _ _ hst fun s' hm => ?_)
    show wpAny _ A.in1 (ret Value.none) _ _ s'
    exact wpAny_pure (hR s' L (hm.mono hsub) (K.keep hS (fun o e => hm.heap S o hSw e) (keepT (Nat.le_refl _) hst hm)) g (keepM hm hkp))
  | succ k ih =>
    intro i s hk' hi hst hkp ⟨L, hS, g⟩ hR
    have hlt : i < n := by omega
    refine codeAny_builtin F.entry_set_update_loop ?_
    rw [Around.under_plainId F.plain_set_update_loop _]
    show wpAny _ A.in1 (pyNext (.ref I) >>= _) _ _ s
    refine wpAny_bind (W.item i s _ _ hlt hst fun v s' hP hst' hm => ?_)
    obtain ⟨d, hd, hel⟩ := hval i v hP
    have hkp' := keepM hm hkp
    have hS' : ok s'.heap S L := K.keep hS (fun o e => hm.heap S o hSw e) (keepT hi hst hm)
    have hx : el s'.heap d v := K.elk hel fun b o _ e => hkp' b o e
    show wpAny _ A.in1 (holding [v] (setAdd S v) >>= _) _ _ s'
    have gl := g.len
    refine wpAny_bind (wpAny_holding (K.add hS' hx hu (by omega) fun b h' L' tk htk hsb hS2 c1 c2 => ?_))
    have g' : GotD ks (i + 1) L' := by
      by_cases c : d ∈ L
      · rw [c1 c]; exact g.same hd c
      · exact g.more hd c (c2 c)
    have hkp2 : ∀ b o, h0.get? b = some o → h'.get? b = some o := fun b o e => (hsb.2 b (fun z => by rw [z, hS0] at e; cases e)).trans (hkp' b o e)
    have hst2 := W.frame _ s' h' tk hst' htk fun b hb o e => by rw [hsb.2 b (fun h : b = S => hSf (by rw [← h]; exact hb))]; exact e
    refine wpAny_pure ⟨plainId_quiet F.plain_set_update_loop _, ih (i + 1) _ (by omega) hlt hst2 hkp2 ⟨L', hS2, g'⟩ fun s'' L2 hm'' hS'' g'' hkp'' => ?_⟩
    refine hR s'' L2 (Moved.trans W.gtrans ((hm.mono hsub).then_heap htk fun b o hb e => ?_) hm'') hS'' g'' hkp''
    rw [hsb.2 b (fun h : b = S => hb (by rw [h]; exact List.mem_cons_self))]
    exact e
end
end Q
end
section
set_option Elab.async false
set_option linter.all false
set_option maxRecDepth 100000
set_option maxHeartbeats 4000000
namespace Q
open PySem PySem.Spec PyProof.Rows L2 PySem.Froz
variable {P : Program} {w : World} {A : Around} {E : Value → Shared → Prop} {s : Shared}
abbrev nuS (w : World) : Obj := { cls := .type "set", dict := none, data := .set #[] 0 (.fresh 0 0 (!w.params.followText "set-order")) }
abbrev nuH (w : World) (s : Shared) : Shared := { s with heap := s.heap.push (nuS w) }
section
variable {ok : Heap → Addr → List D → Prop} {el : Heap → D → Value → Prop}

theorem call_set_list (K : Adds P w ok el) {l : Addr} {items : Array Value} (ks : List D) {Q : Value → Shared → Prop} (hh : A.handled = none) (hl : s.heap.IsList l items) (hit : ∀ (i : Nat) (v : Value), items[i]? = some v → ∃ d, ks[i]? = some d ∧ el s.heap d v)
    (hsz : items.size = ks.length) (hfew : ks.length < 64) (hu : A.units + 16 < cLine)
    (h : ∀ (h' : Heap) (tk : Nat) (L : List D), ok h' s.heap.objs.size L → GotD ks ks.length L → (∀ b o, s.heap.get? b = some o → h'.get? b = some o) → Q (.ref s.heap.objs.size) { s with heap := h', toks := tk }) : wpAny (model P w) A (call (.type "set") [.ref l]) Q E s := by
  obtain ⟨c, tl, hmro⟩ := F.called_set.mro
  have hmade := F.called_set.made
  have hsub := F.called_set.sub
  refine wpAny_call (codeAny_of_tree ?_)
  show wpAny _ _ (callAny (.type "set") _) _ _ _
  refine wpAny_pure ⟨Code.quiet_builtin _ (by decide +kernel), codeAny_builtin F.entry_type_call ?_⟩
  rw [Around.under_plain (weight_type_call_type "set" [.ref l] []) rfl]
  have h1 := F.called_set.notType
  have h2 := F.called_set.canCreate
  have hct := F.typeCall_set_1 (.ref l)
  repeat (any_goals (first | assumption | wp_step))
  refine codeAny_mono (code_set_led1 (.ref l) (E := E) (Q₁ := fun obj s₁ => obj = .ref s.heap.objs.size ∧ s₁ = nuH w s) ⟨rfl, rfl⟩) fun r s₁ hr => ?_
  match r, hr with
  | .error e, hr => exact hr
  | .ok .next, hr => exact hr.elim
  | .ok .brk, hr => exact hr.elim
  | .ok .cont, hr => exact hr.elim
  | .ok (.ret obj), hr =>
    obtain ⟨rfl, rfl⟩ := hr
    have hS : (nuH w s).heap.get? s.heap.objs.size = some (nuS w) := Heap.get?_push_size _ rfl
    have hT : Shared.TypeIs (nuH w s) (.ref s.heap.objs.size) "set" := ⟨_, hS, rfl⟩
    have hli := F.called_set.init.lookup
    have hbi := F.called_set.init.bind (.ref s.heap.objs.size)
    repeat (any_goals (first | assumption | wp_step))
    refine codeAny_mono (codeAny_call_builtin (R := wants (fun r s₂ => r = .none ∧ ∃ h' tk L, s₂ = { s with heap := h', toks := tk } ∧ ok h' s.heap.objs.size L ∧ GotD ks ks.length L ∧ (∀ b o, s.heap.get? b = some o → h'.get? b = some o)) E) F.called_set.init.plain F.entry_set_init (check_set_init_1 hT ?_)) fun r₂ s₂ hr₂ => ?_
    · obtain ⟨⟨ocls, odict, odata, oslots⟩, hol, hcl, nl, hdl⟩ := id hl
      cases hcl
      cases hdl
      have hol' : (nuH w s).heap.get? l = some { cls := .type "list", dict := odict, data := .seq items nl, slots := oslots } := Heap.get?_push_of_some _ hol
      have g1 := F.sub_list_set
      have g2 := F.sub_list_frozenset
      have hne : (Value.type "list" == Value.type "dict") = false := by decide
      have hl1 : (nuH w s).heap.IsList l items := ⟨_, hol', rfl, nl, rfl⟩
      unfold Builtin.«set.__init__» noKeywords Builtin.Frozenset.updateFrom
      generalize hPI : pyIter = PI
      wp_walk
      subst hPI
      refine wpAny_pyIter_list hl1 (wpAny_bind (wpAny_runValue ?_))
      have hlS : l < s.heap.objs.size := Heap.lt_size hol
      have hz1 : (nuH w s).heap.objs.size = s.heap.objs.size + 1 := Heap.size_push ..
      have hneI : l ≠ (nuH w s).heap.objs.size := by rw [hz1]; exact Nat.ne_of_lt (Nat.lt_succ_of_lt hlS)
      have hSf : s.heap.objs.size ∉ [(nuH w s).heap.objs.size, l] := by
        rw [hz1]
        intro m
        rcases List.mem_cons.mp m with m | m
        · omega
        · exact Nat.ne_of_gt hlS (List.mem_singleton.mp m)
      have free : ∀ b, s.heap.objs.size ≤ b → s.heap.get? b = none := fun b hb => by
        cases q : s.heap.get? b with
        | none => rfl
        | some o => exact absurd (Nat.lt_of_lt_of_le (Heap.lt_size q) hb) (Nat.lt_irrefl _)
      refine update_D K ((Walks.list (A := A.in1.in1.in1) (by simp [hh]) _ l hneI items).toS) s.heap.objs.size hSf ks hsz hfew s.heap hit (free _ (Nat.le_refl _)) (fun b hb => free b (by rw [List.mem_singleton.mp hb]; omega)) (fun b hb s' o ⟨i, _, st⟩ e c => ?hwt)
        (by simp only [Around.in1_units]; omega) (items.size - 0) 0 _ (by omega) (Nat.zero_le _) ⟨⟨_, Heap.get?_push_size _ rfl, rfl, rfl⟩, (hl1.push _)⟩ (fun b o e => Heap.get?_push_of_some _ (Heap.get?_push_of_some _ e)) ?hS0 ?hR
      case hwt =>
        obtain ⟨⟨o', e', c', _⟩, _⟩ := st
        rw [List.mem_singleton.mp hb, e'] at e
        cases e
        rw [c'] at c
        exact absurd (Value.type.inj c) (by decide)
      case hS0 => exact ⟨[], K.new (Heap.get?_push_of_some _ hS), ⟨fun p hp => (by cases hp), fun p hp => (by simp at hp), List.nodup_nil⟩⟩
      case hR =>
        intro s' L hm hS' g' hkp
        obtain ⟨h', gn, d', tk', os'⟩ := s'
        obtain rfl : gn = s.gens := hm.gens
        obtain rfl : d' = s.drawn := hm.drawn
        obtain rfl : os' = s.os := hm.os
        show wpAny _ _ _ _ _ _
        refine wpAny_pure ?_
        show wpAny _ _ (ret Value.none) _ _ _
        rw [hsz] at g'
        exact wpAny_pure ⟨rfl, h', tk', L, rfl, hS', g', hkp⟩
    · match r₂, hr₂ with
      | .error e, hr₂ => exact hr₂
      | .ok .next, hr₂ => exact hr₂.elim
      | .ok .brk, hr₂ => exact hr₂.elim
      | .ok .cont, hr₂ => exact hr₂.elim
      | .ok (.ret r), hr₂ =>
        obtain ⟨rfl, h', tk, L, rfl, hS', g', hk'⟩ := hr₂
        repeat (any_goals (first | assumption | wp_step))
        exact h _ _ _ hS' g' hk'

theorem call_set_tuple (K : Adds P w ok el) {l : Addr} {items : Array Value} (ks : List D) {Q : Value → Shared → Prop} (hh : A.handled = none) (hl : s.heap.IsTuple l items) (hit : ∀ (i : Nat) (v : Value), items[i]? = some v → ∃ d, ks[i]? = some d ∧ el s.heap d v)
    (hsz : items.size = ks.length) (hfew : ks.length < 64) (hu : A.units + 16 < cLine)
    (h : ∀ (h' : Heap) (tk : Nat) (L : List D), ok h' s.heap.objs.size L → GotD ks ks.length L → (∀ b o, s.heap.get? b = some o → h'.get? b = some o) → Q (.ref s.heap.objs.size) { s with heap := h', toks := tk }) : wpAny (model P w) A (call (.type "set") [.ref l]) Q E s := by
  obtain ⟨c, tl, hmro⟩ := F.called_set.mro
  have hmade := F.called_set.made
  have hsub := F.called_set.sub
  refine wpAny_call (codeAny_of_tree ?_)
  show wpAny _ _ (callAny (.type "set") _) _ _ _
  refine wpAny_pure ⟨Code.quiet_builtin _ (by decide +kernel), codeAny_builtin F.entry_type_call ?_⟩
  rw [Around.under_plain (weight_type_call_type "set" [.ref l] []) rfl]
  have h1 := F.called_set.notType
  have h2 := F.called_set.canCreate
  have hct := F.typeCall_set_1 (.ref l)
  repeat (any_goals (first | assumption | wp_step))
  refine codeAny_mono (code_set_led1 (.ref l) (E := E) (Q₁ := fun obj s₁ => obj = .ref s.heap.objs.size ∧ s₁ = nuH w s) ⟨rfl, rfl⟩) fun r s₁ hr => ?_
  match r, hr with
  | .error e, hr => exact hr
  | .ok .next, hr => exact hr.elim
  | .ok .brk, hr => exact hr.elim
  | .ok .cont, hr => exact hr.elim
  | .ok (.ret obj), hr =>
    obtain ⟨rfl, rfl⟩ := hr
    have hS : (nuH w s).heap.get? s.heap.objs.size = some (nuS w) := Heap.get?_push_size _ rfl
    have hT : Shared.TypeIs (nuH w s) (.ref s.heap.objs.size) "set" := ⟨_, hS, rfl⟩
    have hli := F.called_set.init.lookup
    have hbi := F.called_set.init.bind (.ref s.heap.objs.size)
    repeat (any_goals (first | assumption | wp_step))
    refine codeAny_mono (codeAny_call_builtin (R := wants (fun r s₂ => r = .none ∧ ∃ h' tk L, s₂ = { s with heap := h', toks := tk } ∧ ok h' s.heap.objs.size L ∧ GotD ks ks.length L ∧ (∀ b o, s.heap.get? b = some o → h'.get? b = some o)) E) F.called_set.init.plain F.entry_set_init (check_set_init_1 hT ?_)) fun r₂ s₂ hr₂ => ?_
    · obtain ⟨⟨ocls, odict, odata, oslots⟩, hol, hcl, nl, hdl⟩ := id hl
      cases hcl
      cases hdl
      have hol' : (nuH w s).heap.get? l = some { cls := .type "tuple", dict := odict, data := .seq items nl, slots := oslots } := Heap.get?_push_of_some _ hol
      have g1 := F.sub_tuple_set
      have g2 := F.sub_tuple_frozenset
      have hne : (Value.type "tuple" == Value.type "dict") = false := by decide
      have hl1 : (nuH w s).heap.IsTuple l items := ⟨_, hol', rfl, nl, rfl⟩
      unfold Builtin.«set.__init__» noKeywords Builtin.Frozenset.updateFrom
      generalize hPI : pyIter = PI
      wp_walk
      subst hPI
      refine wpAny_pyIter_tuple hl1 (wpAny_bind (wpAny_runValue ?_))
      have hlS : l < s.heap.objs.size := Heap.lt_size hol
      have hz1 : (nuH w s).heap.objs.size = s.heap.objs.size + 1 := Heap.size_push ..
      have hneI : l ≠ (nuH w s).heap.objs.size := by rw [hz1]; exact Nat.ne_of_lt (Nat.lt_succ_of_lt hlS)
      have hSf : s.heap.objs.size ∉ [(nuH w s).heap.objs.size, l] := by
        rw [hz1]
        intro m
        rcases List.mem_cons.mp m with m | m
        · omega
        · exact Nat.ne_of_gt hlS (List.mem_singleton.mp m)
      have free : ∀ b, s.heap.objs.size ≤ b → s.heap.get? b = none := fun b hb => by
        cases q : s.heap.get? b with
        | none => rfl
        | some o => exact absurd (Nat.lt_of_lt_of_le (Heap.lt_size q) hb) (Nat.lt_irrefl _)
      refine update_D K ((Walks.tuple (A := A.in1.in1.in1) (by simp [hh]) _ l hneI items).toS) s.heap.objs.size hSf ks hsz hfew s.heap hit (free _ (Nat.le_refl _)) (fun b hb => free b (by rw [List.mem_singleton.mp hb]; omega)) (fun b hb s' o ⟨i, _, st⟩ e c => ?hwt)
        (by simp only [Around.in1_units]; omega) (items.size - 0) 0 _ (by omega) (Nat.zero_le _) ⟨⟨_, Heap.get?_push_size _ rfl, rfl, rfl⟩, (hl1.push _)⟩ (fun b o e => Heap.get?_push_of_some _ (Heap.get?_push_of_some _ e)) ?hS0 ?hR
      case hwt =>
        obtain ⟨⟨o', e', c', _⟩, _⟩ := st
        rw [List.mem_singleton.mp hb, e'] at e
        cases e
        rw [c'] at c
        exact absurd (Value.type.inj c) (by decide)
      case hS0 => exact ⟨[], K.new (Heap.get?_push_of_some _ hS), ⟨fun p hp => (by cases hp), fun p hp => (by simp at hp), List.nodup_nil⟩⟩
      case hR =>
        intro s' L hm hS' g' hkp
        obtain ⟨h', gn, d', tk', os'⟩ := s'
        obtain rfl : gn = s.gens := hm.gens
        obtain rfl : d' = s.drawn := hm.drawn
        obtain rfl : os' = s.os := hm.os
        show wpAny _ _ _ _ _ _
        refine wpAny_pure ?_
        show wpAny _ _ (ret Value.none) _ _ _
        rw [hsz] at g'
        exact wpAny_pure ⟨rfl, h', tk', L, rfl, hS', g', hkp⟩
    · match r₂, hr₂ with
      | .error e, hr₂ => exact hr₂
      | .ok .next, hr₂ => exact hr₂.elim
      | .ok .brk, hr₂ => exact hr₂.elim
      | .ok .cont, hr₂ => exact hr₂.elim
      | .ok (.ret r), hr₂ =>
        obtain ⟨rfl, h', tk, L, rfl, hS', g', hk'⟩ := hr₂
        repeat (any_goals (first | assumption | wp_step))
        exact h _ _ _ hS' g' hk'
end
end Q
end
section
set_option Elab.async false
set_option linter.all false
set_option maxRecDepth 100000
set_option maxHeartbeats 4000000
namespace Q
open PySem PySem.Spec PyProof.Rows L2 PySem.Froz
section
variable {prog : Program} {w : World} {A : Around} {E : Value → Shared → Prop} {s : Shared}
theorem len_raw {d : Addr} {es : Array DictEntry} {ep : Nat} {Q : Value → Shared → Prop} (hd : (d == sysModules) = false) (hm : s.heap.DictRaw d es ep) (hfit : (es.size : Int) < 2 ^ 63) (h : Q (.int es.size (s.toks + 1)) { s with toks := s.toks + 1 + 1 }) :
    wpAny (model prog w) A (call (.builtin "len") [.ref d]) Q E s := by
  refine Calls.call_function_entry kind_len plain_len entry_len (args_len1 _) ?_
  unfold Builtin.«len»
  refine wpAny_bind (m := oneArg "len" _) (wpAny_pure (wpAny_bind (m := callSpecial? (.ref d) (Str.ofString "__len__")) ?_))
  refine wpAny_callSpecial?_slot (name := Str.ofString "__len__") hm.typeIs F.slot_dict_len (call_meetsIn F.slot_dict_len hm.typeIs F.entry_dict_len (F.args_dict_len_1 _) (meets_dict_len_raw d hd) ⟨es, ep, hm, ?_⟩)
  show wpAny _ _ _ _ _ { s with toks := s.toks + 1 }
  refine wpAny_bind (wpAny_holding (wpAny_pure (wpAny_bind (wpAny_letGo ?_))))
  show wpAny _ _ (if ((es.size : Nat) : Int) < 0 then _ else _) _ _ _
  rw [if_neg (by omega)]
  show wpAny _ _ (if ((es.size : Nat) : Int) ≥ 2 ^ 63 then _ else _) _ _ _
  rw [if_neg (by omega)]
  exact wpAny_bind (wpAny_mkInt (wpAny_pure ⟨_, rfl, h⟩))
theorem kdl_raw {d : Addr} {es : Array DictEntry} {ep : Nat} (lo : (d == sysModules) = false) : PySem.W.KdlSrc prog w "dict" d d es.size (fun i v => ∃ hi : i < es.size, v = es[i].key) (fun h => h.DictRaw d es ep) where
  type := fun _ hm => hm.typeIs
  there := fun _ hm => let ⟨_, ho, _⟩ := hm; ⟨Heap.lt_size ho, Heap.lt_size ho⟩
  keep := fun _ _ hm hk => hm.at fun o e => hk d (.inl rfl) o e
  notList := by decide
  notTuple := by decide
  hint := fun _ _ _ _ hm hq => PySem.W.kdl_hint_dict hm.typeIs hq
  iter := fun A s hh hm => by
    have hlt : d < s.heap.objs.size := let ⟨_, ho, _⟩ := hm; Heap.lt_size ho
    exact ⟨_, _, (fun _ _ hq => wpAny_pyIter_dict_raw lo hm hq), Walks.rawKeys hh _ d (Nat.ne_of_lt hlt) es ep, ⟨⟨_, Heap.get?_push_size _ rfl, rfl, rfl⟩, hm.at fun o e => Heap.get?_push_of_some _ e⟩⟩
end

section
variable {X : Cx}
theorem sort_tail (hu : X.A.units + 300 < cLine) {pins : List (Addr × Obj)} {s s1 : Shared} {σ : L2.St} {H : Hp} {as ex : List Addr} {st : List D} {out0 : List Value} {ds : List D} {Q : VK} (I1 : Inv X pins σ H s1) (wd : Wd X.K X.w as ex H st) (A : Around) (hA : A.units ≤ X.A.units + 16)
    (kp : ∀ b o, s.heap.get? b = some o → s1.heap.get? b = some o) (rc : RcL s.heap ds out0)
    (hrp : ∀ u ∈ out0, ∃ d x, Rc s.heap d u ∧ RelV x u ∧ Rp X.K X.w as (gH as ex H) d x) (hC : D.allCmp ds = true) (hK : sortK ds = true) (hz : ds.length ≤ sizeLine) (q : Wn X as ex H st (.lst (D.isort ds)) Q) (E : Value → Shared → Prop) :
    wpAny (model X.prog X.w) A (newList out0 >>= fun l => holding [l] (call (.builtin "list.sort") [l]) >>= fun _ => ret l) (fun fin s' => ∃ r, fin = .done (.ret r) ∧ EP X pins σ Q r s') E s1 := by
  obtain ⟨hk, hc⟩ := allCmp_of hC
  have hl := rc.length
  have kt : ∀ b o, o.cls = .type "tuple" → s.heap.get? b = some o → s1.heap.get? b = some o := fun b o _ e => kp b o e
  have rc1 : RcL s1.heap ds out0 := rcL_keep kt rc hk
  refine wpAny_bind (wpAny_newList ?_ (by omega))
  have hoL : (s1.heap.push (seqObj "list" out0.toArray 0)).get? s1.heap.objs.size = some (seqObj "list" out0.toArray 0) := Heap.get?_push_size _ rfl
  have kt2 : ∀ b o, o.cls = .type "tuple" → s1.heap.get? b = some o → (s1.heap.push (seqObj "list" out0.toArray 0)).get? b = some o := fun b o _ e => Heap.get?_push_of_some _ e
  have rc2 := rcL_keep kt2 rc1 hk
  refine wpAny_bind (wpAny_holding (wpAny_call_entry slot_list_sort ⟨_, hoL, rfl⟩ entry_list_sort (SrtO.list_sort_ord (s := { s1 with heap := s1.heap.push (seqObj "list" out0.toArray 0) }) (swoV (s1.heap.push (seqObj "list" out0.toArray 0))) hoL (by omega)
    (fun h2 => sortable_D (s := { s1 with heap := s1.heap.push (seqObj "list" out0.toArray 0) }) rc2 hC hK h2 (by simp only [Around.in1_units]; omega) (list_not_tup hoL)) fun out hs hb => ⟨_, rfl, ?_⟩) (args_list_sort _)))
  obtain ⟨c, he'⟩ := sortedHeap_at (vs := out0) (out := out.toArray) hoL
  have ro := sorted_D rc2 hk hs hb
  have em := map_dOf ro
  have same : ∀ u ∈ out, dOf (s1.heap.push (seqObj "list" out0.toArray 0)) u = dOf s.heap u := fun u hm => by
    obtain ⟨d, hd, r⟩ := its_mem rc u (hb.perm.mem_iff.mp hm)
    rw [dOf_eq r, dOf_eq (Rc.keep kt2 (Rc.keep kt r (isKey_ky (hk d hd))) (isKey_ky (hk d hd)))]
  obtain ⟨xs, rx, rp⟩ := rp_list (K := X.K) (w := X.w) (as := as) (G := gH as ex H) (h := s.heap) out fun u hm => hrp u (hb.perm.mem_iff.mp hm)
  rw [← List.map_congr_left same, em] at rp
  have hlx : xs.length ≤ sizeLine := by
    have h1 := rx.length
    have h2 := hb.len
    omega
  have hn : H s1.heap.objs.size = none := I1.hok.fresh (Nat.le_refl _)
  have k2 : ∀ b o, s1.heap.get? b = some o → (sortedHeap (s1.heap.push (seqObj "list" out0.toArray 0)) s1.heap.objs.size out0 out.toArray).get? b = some o := fun b o e1 => by
    have hlt := Heap.lt_size e1
    rw [sortedHeap_old (Nat.ne_of_lt hlt) (by rw [size_push']; exact Nat.lt_succ_of_lt hlt)]
    exact Heap.get?_push_of_some _ e1
  exact wpAny_pure ⟨_, rfl, .ref s1.heap.objs.size, upd H s1.heap.objs.size (.lst xs), I1.laid (t' := s1.toks) k2 (Nat.le_refl _) ⟨hlx, out, c, rx, he'⟩, rfl, Wn.lst wd q rp _ hn⟩
end

section
variable {X : Cx}
theorem plL_perm {ds ds' : List D} (p : ds'.Perm ds) (hk : ∀ d ∈ ds, d.isKey = true) : D.plL ds' = true := plL_keys fun d hd => hk d (p.mem_iff.mp hd)
theorem isort_perm_eq {ds ds' : List D} (p : ds'.Perm ds) (hk : ∀ d ∈ ds, d.isKey = true) : D.isort ds' = D.isort ds :=
  D.sorted_uniq (fun x hx => isKey_ky (hk x (p.mem_iff.mp ((D.isort_perm ds').mem_iff.mp hx)))) (D.isort_sorted ds') (D.isort_sorted ds) ((D.isort_perm ds').trans (p.trans (D.isort_perm ds).symm))
theorem allCmp_perm {ds ds' : List D} (p : ds'.Perm ds) (h : D.allCmp ds = true) : D.allCmp ds' = true := by
  obtain ⟨h1, h2⟩ := allCmp_of h
  unfold D.allCmp
  rw [List.all_eq_true]
  exact fun x hx => Bool.and_eq_true_iff.mpr ⟨h1 x (p.mem_iff.mp hx), List.all_eq_true.mpr fun y hy => h2 x (p.mem_iff.mp hx) y (p.mem_iff.mp hy)⟩
theorem all_perm {ds ds' : List D} (p : ds'.Perm ds) (f : D → Bool) : ds'.all f = ds.all f := by
  rw [Bool.eq_iff_iff, List.all_eq_true, List.all_eq_true]
  exact ⟨fun h x hx => h x (p.mem_iff.mpr hx), fun h x hx => h x (p.mem_iff.mp hx)⟩
theorem sortK_perm {ds ds' : List D} (p : ds'.Perm ds) : sortK ds' = sortK ds := by
  unfold sortK
  rw [p.length_eq, all_perm p, all_perm p, all_perm p]
theorem keysV {K : PySem.W.Frag} {w : World} {as : List Addr} {G : Hp} : ∀ {ks vs : List D} {es : List DictEntry}, RpE K w as G ks vs es → ∃ xs, RpL K w as G ks xs ∧ Vals xs (es.map (·.key)) ∧ ∀ d ∈ ks, d.isKey = true
  | _, _, _, .nil => ⟨[], .nil, .nil, fun _ h => by cases h⟩
  | _, _, _, .cons rk hk hh ik rv hv t => by
    obtain ⟨xs, a, b, c⟩ := keysV t
    refine ⟨_ :: xs, .cons rk a, .cons hk b, fun d hd => ?_⟩
    rcases List.mem_cons.mp hd with e | hd
    · rw [e]; exact ik
    · exact c d hd
theorem itemsOf_keys {es : Array DictEntry} {acc : Array Value} (h : ItemsOf (fun i v => ∃ hi : i < es.size, v = es[i].key) acc es.size) : acc.toList = es.toList.map (·.key) := by
  refine List.ext_getElem? fun j => ?_
  rw [List.getElem?_map]
  obtain ⟨h1, h2⟩ := h
  by_cases hj : j < es.size
  · have hj2 : j < acc.size := by omega
    obtain ⟨_, e⟩ := h2 j acc[j] (by simp [hj2])
    simp [hj, hj2, e]
  · have hj2 : ¬ j < acc.size := by omega
    simp [hj, hj2]
theorem b_sorted (hcl : X.calm = true) (hu : X.A.units + 300 < cLine) : CallR X (.builtin "sorted") (rBi X .sorted) := by
  rintro pins s σ H vs us Q I rv ⟨ds, d, as, ex, st, wd, rd, e, q⟩
  obtain ⟨x, rfl⟩ := one_of e
  obtain ⟨v, rfl, r⟩ := rd.one
  obtain ⟨u, rfl, ru⟩ := rv.one
  cases r with
  | @lst a xs ws h t =>
    cases ru
    exact sorted_list hu I wd (.of (gH_same _ _ h)) t (show sortD xs = some d from e) q
  | @set a xs ds' ws es h t hv hp hn hk =>
    cases ru
    obtain ⟨hC, hK, hz, rfl⟩ := sortD_of (show sortD xs = some d from e)
    obtain ⟨o, ep, tb, ho, hex, hd, hf, hr, hl, hb⟩ := hok_ext I h
    have rc : RcL s.heap ds' (es.map (·.2)) := t.rc I gH_same (plL_perm hp hk) hv
    refine Calls.call_function_entry kind_sorted plain_sorted entry_sorted (args_sorted1 _) ?_
    unfold Builtin.«sorted»
    refine wpAny_bind (m := checkCount "sorted" 1 1 _) (wpAny_pure ?_)
    refine wpAny_bind (collect_set (A := X.A.in1) (es := es.toArray) (by simp [I.ok.hd hcl]) ⟨o, ho, hex.1, hd⟩ (by simpa using hf) (by simpa using hb) hr hl fun s1 out k1 hz1 g1 o1 pm => ?_)
    rw [show (es.toArray.toList.map (·.2)) = es.map (·.2) by simp] at pm
    have all : ∀ u ∈ out, ∃ d x, Rc s.heap d u ∧ RelV x u ∧ Rp X.K X.w as (gH as ex H) d x := fun u hm => rp_mem ds' ws _ t hv rc u (pm.mem_iff.mp hm)
    have e1 := map_dOf rc
    have po : (out.map (dOf s.heap)).Perm ds' := by
      rw [← e1]
      exact pm.map _
    have ro : RcL s.heap (out.map (dOf s.heap)) out := by
      have : ∀ l : List Value, (∀ u ∈ l, u ∈ out) → RcL s.heap (l.map (dOf s.heap)) l := fun l => by
        induction l with
        | nil => exact fun _ => .nil
        | cons u l ih =>
          intro hm
          obtain ⟨d, x, r, _⟩ := all u (hm u List.mem_cons_self)
          exact .cons (by rw [dOf_eq r]; exact r) (ih fun z hz => hm z (List.mem_cons_of_mem _ hz))
      exact this out fun _ h => h
    have pp := po.trans hp
    have I1 : Inv X pins σ H s1 := I.call' (ch := []) o1 (Un.kept k1) (I.hok.kept k1) (by rw [g1]; exact I.bare) fun _ z => nomatch z
    refine sort_tail (s := s) hu I1 wd X.A.in1 (by simp only [Around.in1_units]; omega) k1 ro all (allCmp_perm pp hC) (by rw [sortK_perm pp]; exact hK) (by rw [pp.length_eq]; exact hz) ?_ _
    rw [isort_perm_eq pp hk]
    exact q
  | @dct a ks ws es h hS hz r n =>
    cases ru
    obtain ⟨hC, hK, hz2, rfl⟩ := sortD_of (show sortD ks = some d from e)
    obtain ⟨o, ep, ho, hex, hd⟩ := hok_ext I h
    obtain ⟨xs, t, hv, hk⟩ := keysV r
    have rc : RcL s.heap ks (es.map (·.key)) := t.rc I gH_same (plL_keys hk) hv
    refine Calls.call_function_entry kind_sorted plain_sorted entry_sorted (args_sorted1 _) ?_
    unfold Builtin.«sorted»
    refine wpAny_bind (m := checkCount "sorted" 1 1 _) (wpAny_pure ?_)
    refine wpAny_bind (PySem.W.kdu_collect (A := X.A.in1) (kdl_raw (es := es.toArray) (ep := ep) hS) (by simp [I.ok.hd hcl]) ⟨o, ho, hex, hd⟩ (by simpa using hz) fun h' tk acc hk' hacc => ?_)
    have ea : acc.toList = es.map (·.key) := by
      rw [itemsOf_keys hacc]
    rw [ea]
    have I1 : Inv X pins σ H { s with heap := h', toks := tk } := I.kept hk'
    exact sort_tail (s := s) hu I1 wd X.A.in1 (by simp only [Around.in1_units]; omega) hk' rc (rp_mem ks xs _ t hv rc) hC hK hz2 q _
  | _ => cases e
end
end Q
end
section
set_option Elab.async false
set_option linter.all false
set_option maxRecDepth 100000
set_option maxHeartbeats 4000000
namespace Q
open PySem PySem.Spec PyProof.Rows L2 PySem.Froz
section
variable {X : Cx}
theorem b_len : CallR X (.builtin "len") (rBi X .len) := by
  rintro pins s σ H vs us Q I rv ⟨ds, d, as, ex, st, wd, rd, e, q⟩
  obtain ⟨x, rfl⟩ := one_of e
  obtain ⟨v, rfl, r⟩ := rd.one
  have hn := line63
  cases r with
  | tup h t =>
    obtain rfl := Option.some.inj e
    exact call_len_seq pins s σ H _ us Q I rv ⟨_, _, rfl, .inr (gSqT h.T), by rw [t.length]; exact Wn.here wd q (.int _)⟩
  | lst h t =>
    obtain rfl := Option.some.inj e
    exact call_len_seq pins s σ H _ us Q I rv ⟨_, _, rfl, .inl (.of (gH_same _ _ h)), by rw [t.length]; exact Wn.here wd q (.int _)⟩
  | inp h t =>
    obtain rfl := Option.some.inj e
    exact call_len_seq pins s σ H _ us Q I rv ⟨_, _, rfl, .inl (gSqL h), by rw [t.length]; exact Wn.here wd q (.int _)⟩
  | str x =>
    obtain ⟨hz, rfl⟩ := sizeOk_ok e
    exact call_len_str pins s σ H _ us Q I rv ⟨x, rfl, hz, Wn.here wd q (.int _)⟩
  | @dct a ks ws es h hS hz r n =>
    obtain rfl := Option.some.inj e
    obtain ⟨u, rfl, ru⟩ := rv.one
    cases ru
    obtain ⟨o, ep, ho, hex, hd⟩ := hok_ext I h
    have hl := r.length.1
    refine len_raw (es := es.toArray) hS ⟨o, ho, hex, hd⟩ (by rw [List.size_toArray]; omega) ?_
    rw [List.size_toArray, hl]
    exact ⟨.int _, H, I.tok _, ⟨_, rfl⟩, Wn.here wd q (.int _)⟩
  | @set a xs ds' ws es h t hv hp hn2 hk =>
    obtain rfl := Option.some.inj e
    obtain ⟨u, rfl, ru⟩ := rv.one
    cases ru
    obtain ⟨o, ep, tb, ho, hex, hd, hf, hr, hl, hb⟩ := hok_ext I h
    have h1 := hv.length
    have h2 := t.length
    have h3 := hp.length_eq
    rw [List.length_map] at h1
    have hl2 : es.length = xs.length := by omega
    have hb2 : scanBound ≤ sizeLine := by decide
    refine call_len_set (es := es.toArray) ho hex hd (by simpa using hf) (by rw [List.size_toArray]; omega) ?_
    rw [List.size_toArray, hl2]
    exact ⟨.int _, H, I.tok _, ⟨_, rfl⟩, Wn.here wd q (.int _)⟩
  | _ => cases e
theorem setOk_of {xs : List D} (h : setOk xs = true) : (∀ d ∈ xs, d.isKey = true) ∧ xs.length < 64 ∧ (xs.all isStrD = true ∨ xs.all isTupD = true) := by
  unfold setOk at h
  rw [Bool.and_eq_true, Bool.and_eq_true, Bool.or_eq_true] at h
  obtain ⟨⟨h1, h2⟩, h3⟩ := h
  exact ⟨fun d hd => List.all_eq_true.mp h1 d hd, Nat.lt_succ_of_le (Nat.le_of_ble_eq_true h2), h3⟩
theorem dedup_mem : ∀ (xs seen : List D) (d : D), d ∈ D.dedup seen xs ↔ d ∈ xs ∧ d ∉ seen
  | [], seen, d => by simp [D.dedup]
  | x :: xs, seen, d => by
    rw [D.dedup]
    cases e : seen.any (D.beq x) with
    | true =>
      rw [List.any_eq_true] at e
      obtain ⟨z, hz, ez⟩ := e
      have hx : x ∈ seen := by rw [D.eq_of_beq _ _ ez]; exact hz
      show d ∈ D.dedup seen xs ↔ _
      rw [dedup_mem xs seen d]
      constructor
      · exact fun ⟨a, b⟩ => ⟨List.mem_cons_of_mem _ a, b⟩
      · rintro ⟨a, b⟩
        rcases List.mem_cons.mp a with e | a
        · rw [e] at b; exact absurd hx b
        · exact ⟨a, b⟩
    | false =>
      have hx : x ∉ seen := fun hx => by
        rw [List.any_eq_false] at e
        exact e x hx (D.beq_self x)
      show d ∈ x :: D.dedup (x :: seen) xs ↔ _
      rw [List.mem_cons, dedup_mem xs (x :: seen) d]
      constructor
      · rintro (e | ⟨a, b⟩)
        · rw [e]; exact ⟨List.mem_cons_self, hx⟩
        · exact ⟨List.mem_cons_of_mem _ a, fun z => b (List.mem_cons_of_mem _ z)⟩
      · rintro ⟨a, b⟩
        by_cases e : d = x
        · exact .inl e
        · rcases List.mem_cons.mp a with z | a
          · exact absurd z e
          · exact .inr ⟨a, fun z => by rcases List.mem_cons.mp z with z | z; exact e z; exact b z⟩
theorem dedup_nodup : ∀ (xs seen : List D), (D.dedup seen xs).Nodup
  | [], _ => List.nodup_nil
  | x :: xs, seen => by
    rw [D.dedup]
    cases e : seen.any (D.beq x) with
    | true => exact dedup_nodup xs seen
    | false => exact List.nodup_cons.mpr ⟨fun z => ((dedup_mem xs (x :: seen) x).mp z).2 List.mem_cons_self, dedup_nodup xs (x :: seen)⟩
theorem perm_of_nodup {l m : List D} (hl : l.Nodup) (hm : m.Nodup) (h : ∀ d, d ∈ l ↔ d ∈ m) : l.Perm m := (List.perm_ext_iff_of_nodup hl hm).mpr h
theorem perm_of_sub : ∀ {l m : List D}, l.Nodup → (∀ x ∈ l, x ∈ m) → m.length ≤ l.length → m.Perm l
  | [], m, _, _, h => by rw [List.eq_nil_of_length_eq_zero (Nat.le_zero.mp h)]
  | x :: l, m, n, h, hl => by
    have hx := h x List.mem_cons_self
    rw [List.nodup_cons] at n
    have h1 := perm_of_sub (m := m.erase x) n.2 (fun y hy => (List.mem_erase_of_ne (fun e => n.1 (by rw [← e]; exact hy))).mpr (h y (List.mem_cons_of_mem _ hy))) (by rw [List.length_erase_of_mem hx]; simp only [List.length_cons] at hl; omega)
    exact (List.perm_cons_erase hx).trans (h1.cons x)
theorem set_laid {pins : List (Addr × Obj)} {s : Shared} {σ : L2.St} {H : Hp} {as ex : List Addr} {st : List D} {xs : List D} {Q : VK} {h' : Heap} {tk : Nat} {es : List (Int × Value)} {ds' : List D} {ws : List V} (I : Inv X pins σ H s) (wd : Wd X.K X.w as ex H st) (kp : ∀ b o, s.heap.get? b = some o → h'.get? b = some o)
    (raw : RawS X.w s.heap.objs.size es h') (t : RpL X.K X.w as (gH as ex H) ds' ws) (hv : Vals ws (es.map (·.2))) (hn : ds'.Nodup) (hm : ∀ d, d ∈ ds' ↔ d ∈ xs) (hk : ∀ d ∈ xs, d.isKey = true) (q : Wn X as ex H st (.set (D.dedup [] xs)) Q) :
    EP X pins σ Q (.ref s.heap.objs.size) { s with heap := h', toks := tk } := by
  have hp : H s.heap.objs.size = none := I.hok.fresh (Nat.le_refl _)
  have hm2 : ∀ d, d ∈ D.dedup [] xs ↔ d ∈ xs := fun d => by rw [dedup_mem]; simp
  have ok : ObjOk X.prog X.w (upd H s.heap.objs.size (.ext (RawS X.w s.heap.objs.size es))) h' s.heap.objs.size (.ext (RawS X.w s.heap.objs.size es)) := by
    refine ⟨raw, let ⟨o, _, _, e, _⟩ := raw; ⟨o, e⟩, fun h1 h2 r k => ?_⟩
    obtain ⟨o, ep, tb, e, r⟩ := r
    exact ⟨o, ep, tb, k o e, r⟩
  refine ⟨.ref s.heap.objs.size, _, I.laid (t' := tk) kp (Nat.le_refl _) ok, rfl, q as _ _ (Ext.laid hp) (wd.laid hp) (.set (gH_laid wd hp) (t.mono (List.prefix_refl _) (Ext.laid hp).same) hv ?_ (dedup_nodup xs []) fun d hd => hk d ((hm2 d).mp hd))⟩
  exact perm_of_nodup hn (dedup_nodup xs []) fun d => (hm d).trans (hm2 d).symm
theorem strL {K : PySem.W.Frag} {w : World} {as : List Addr} {G : Hp} : ∀ (us : List Value), (∀ u ∈ us, ∃ x t, u = .str x t) → ∃ l : List Str, RpL K w as G (l.map D.str) (l.map V.str) ∧ Vals (l.map V.str) us ∧ ∀ x, x ∈ l ↔ ∃ t, Value.str x t ∈ us
  | [], _ => ⟨[], .nil, .nil, by simp⟩
  | u :: us, h => by
    obtain ⟨l, a, b, c⟩ := strL us fun z hz => h z (List.mem_cons_of_mem _ hz)
    obtain ⟨x, t, rfl⟩ := h u List.mem_cons_self
    refine ⟨x :: l, .cons (.str x) a, .cons ⟨t, rfl⟩ b, fun y => ?_⟩
    rw [List.mem_cons, c y]
    constructor
    · rintro (rfl | ⟨t', h'⟩)
      · exact ⟨t, List.mem_cons_self⟩
      · exact ⟨t', List.mem_cons_of_mem _ h'⟩
    · rintro ⟨t', h'⟩
      rcases List.mem_cons.mp h' with e | h'
      · cases e; exact .inl rfl
      · exact .inr ⟨t', h'⟩
theorem set_fin {pins : List (Addr × Obj)} {s : Shared} {σ : L2.St} {H : Hp} {as ex : List Addr} {st : List D} {xs : List D} {Q : VK} {l : Addr} {its : List Value} {ws : List V} (hcl : X.calm = true) (hu : X.A.units + 300 < cLine) (I : Inv X pins σ H s) (wd : Wd X.K X.w as ex H st) (t : RpL X.K X.w as (gH as ex H) xs ws) (rv : Vals ws its)
    (hl : s.heap.IsList l its.toArray ∨ s.heap.IsTuple l its.toArray) (ok : setOk xs = true) (q : Wn X as ex H st (.set (D.dedup [] xs)) Q) : wpAny (model X.prog X.w) X.A (call (.type "set") [.ref l]) (EP X pins σ Q) X.xe s := by
  obtain ⟨hk, h64, hcase⟩ := setOk_of ok
  have rc := t.rc I gH_same (plL_keys hk) rv
  have hlen := rc.length
  have hsz : its.toArray.size = xs.length := by rw [List.size_toArray]; exact hlen
  have go : ∀ {okp : Heap → Addr → List D → Prop} {el : Heap → D → Value → Prop}, Adds X.prog X.w okp el → (∀ (i : Nat) (v : Value), its.toArray[i]? = some v → ∃ d, xs[i]? = some d ∧ el s.heap d v) →
      (∀ (h' : Heap) (tk : Nat) (L : List D), okp h' s.heap.objs.size L → GotD xs xs.length L → (∀ b o, s.heap.get? b = some o → h'.get? b = some o) → EP X pins σ Q (.ref s.heap.objs.size) { s with heap := h', toks := tk }) → wpAny (model X.prog X.w) X.A (call (.type "set") [.ref l]) (EP X pins σ Q) X.xe s := fun K hit fin => by
    rcases hl with hl | hl
    · exact call_set_list K xs (I.ok.hd hcl) hl hit hsz h64 (by omega) fin
    · exact call_set_tuple K xs (I.ok.hd hcl) hl hit hsz h64 (by omega) fin
  have at_i : ∀ (i : Nat) (v : Value), its.toArray[i]? = some v → ∃ d, xs[i]? = some d ∧ Rc s.heap d v ∧ v ∈ its := fun i v hv => by
    have hv' : its[i]? = some v := by simpa using hv
    have hi : i < xs.length := by rw [← hlen]; exact (List.getElem?_eq_some_iff.mp hv').1
    refine ⟨xs[i], List.getElem?_eq_getElem hi, ?_, List.mem_of_getElem? hv'⟩
    have e := map_dOf rc
    have e2 : xs[i]? = some (dOf s.heap v) := by rw [← e, List.getElem?_map, hv']; rfl
    rw [List.getElem?_eq_getElem hi] at e2
    rw [Option.some.inj e2]
    obtain ⟨d, _, r⟩ := its_mem rc v (List.mem_of_getElem? hv')
    rw [dOf_eq r]
    exact r
  have got : ∀ {L : List D}, GotD xs xs.length L → ∀ d, d ∈ L ↔ d ∈ xs := fun g d => ⟨fun h => by have := g.sub d h; rwa [List.take_length] at this, fun h => g.all d (by rwa [List.take_length])⟩
  rcases hcase with hs | ht
  · refine go (adds_S (P := X.prog) (w := X.w)) (fun i v hv => ?_) fun h' tk L ⟨tl, V, R, eL⟩ g kp => ?_
    · obtain ⟨d, hd, r, _⟩ := at_i i v hv
      have hs' := List.all_eq_true.mp hs d (List.mem_of_getElem? hd)
      cases r with
      | str x t => exact ⟨_, hd, x, t, rfl, rfl⟩
      | _ => cases hs'
    · have es_str : ∀ u ∈ V.1.toList.map (·.2), ∃ x t, u = .str x t := fun u hm => by
        obtain ⟨e, he, rfl⟩ := List.mem_map.mp hm
        obtain ⟨⟨k, hk', _⟩, _⟩ := R.tx.el e he
        obtain ⟨t, e2⟩ := Value.isStrOf_shape hk'
        exact ⟨k, t, e2⟩
      obtain ⟨l2, a, b, c⟩ := strL (K := X.K) (w := X.w) (as := as) (G := gH as ex H) _ es_str
      have hmem : ∀ x, x ∈ l2 ↔ x ∈ tl := fun x => by
        rw [c x, R.tx.mem x]
        constructor
        · rintro ⟨t, hm⟩
          obtain ⟨e, he, e2⟩ := List.mem_map.mp hm
          exact ⟨e, he, by rw [e2]; exact is_str x t⟩
        · rintro ⟨e, he, h⟩
          obtain ⟨t, e2⟩ := Value.isStrOf_shape h
          exact ⟨t, List.mem_map.mpr ⟨e, he, e2⟩⟩
      have gl := g.len
      have hsz2 : V.1.size = tl.length := R.tx.sz
      have htl : tl.length = L.length := by rw [← eL, List.length_map]
      have hl2 : l2.length = V.1.toList.length := by
        have := b.length
        rw [List.length_map, List.length_map] at this
        exact this
      have dn : (l2.map D.str).Nodup := by
        have p := perm_of_sub (l := tl.map D.str) (m := l2.map D.str) (by rw [eL]; exact g.nd) (fun d hd => by
          obtain ⟨x, hx, rfl⟩ := List.mem_map.mp hd
          exact List.mem_map.mpr ⟨x, (hmem x).mpr hx, rfl⟩) (by rw [List.length_map, List.length_map, hl2, Array.length_toList, hsz2]; exact Nat.le_refl _)
        exact p.nodup_iff.mpr (by rw [eL]; exact g.nd)
      have fit := R.tx.fit
      refine set_laid I wd kp (es := V.1.toList) ⟨_, V.2.1, V.2.2, R.ob, ⟨rfl, rfl, rfl⟩, by simp [sObj], by rw [Array.length_toList]; exact fit, R.ris, R.led, ?_⟩ a b dn (fun d => ?_) hk q
      · have : (64 : Nat) ≤ scanBound := by decide
        rw [Array.length_toList]
        omega
      · rw [← got g d, ← eL]
        constructor
        · intro hd
          obtain ⟨x, hx, rfl⟩ := List.mem_map.mp hd
          exact List.mem_map.mpr ⟨x, (hmem x).mp hx, rfl⟩
        · intro hd
          obtain ⟨x, hx, rfl⟩ := List.mem_map.mp hd
          exact List.mem_map.mpr ⟨x, (hmem x).mpr hx, rfl⟩
  · refine go (adds_T (P := X.prog) (w := X.w) (pr := fun d v => ∃ x, RelV x v ∧ Rp X.K X.w as (gH as ex H) d x)) (fun i v hv => ?_) fun h' tk L ⟨M, es, ep, tb, R, eL, hpr⟩ g kp => ?_
    · obtain ⟨d, hd, r, hm⟩ := at_i i v hv
      have ht' := List.all_eq_true.mp ht d (List.mem_of_getElem? hd)
      obtain ⟨d2, x, r2, rx, rp⟩ := rp_mem xs ws its t rv rc v hm
      obtain rfl : d2 = d := r2.inj r
      cases d2 with
      | tup ds =>
        obtain ⟨a, us, rfl, _⟩ := rc_tup r
        exact ⟨_, hd, a, rfl, ⟨r, hk _ (List.mem_of_getElem? hd)⟩, x, rx, rp⟩
      | _ => cases ht'
    · have lists : ∀ M : List (Addr × D), (∀ p ∈ M, ∃ x, RelV x (.ref p.1) ∧ Rp X.K X.w as (gH as ex H) p.2 x) → ∃ zs, RpL X.K X.w as (gH as ex H) (M.map (·.2)) zs ∧ Vals zs ((rowsD X.w M).map (·.2)) := fun M => by
        induction M with
        | nil => exact fun _ => ⟨[], .nil, .nil⟩
        | cons p M ih =>
          intro hp
          obtain ⟨zs, a, b⟩ := ih fun r hr => hp r (List.mem_cons_of_mem _ hr)
          obtain ⟨x, h1, h2⟩ := hp p List.mem_cons_self
          exact ⟨x :: zs, .cons h2 a, .cons h1 b⟩
      obtain ⟨zs, a, b⟩ := lists M hpr
      rw [← R.rows] at b
      obtain ⟨o, ho, hex, hd⟩ := R.ob
      have hf := StR.fits (s := { s with heap := h' }) R
      have hsz3 := rowsD_len R.rows
      refine set_laid I wd kp (es := es.toList) ⟨o, ep, tb, ho, hex, by simpa using hd, by rw [Array.length_toList]; exact hf, R.tab.ris, R.led, ?_⟩ a b R.nd (fun d => by rw [eL]; exact got g d) hk q
      have : (64 : Nat) ≤ scanBound := by decide
      have := R.few
      rw [Array.length_toList]
      omega
theorem b_set (hcl : X.calm = true) (hu : X.A.units + 300 < cLine) : CallR X (.type "set") (rBi X .set) := by
  rintro pins s σ H vs us Q I rv ⟨ds, d, as, ex, st, wd, rd, e, q⟩
  obtain ⟨x, rfl⟩ := one_of e
  obtain ⟨v, rfl, r⟩ := rd.one
  obtain ⟨u, rfl, ru⟩ := rv.one
  cases r with
  | @lst a xs ws h t =>
    cases ru
    have e : (match setOk xs with | true => some (D.set (D.dedup [] xs)) | false => none) = some d := e
    cases ho : setOk xs with
    | false => rw [ho] at e; cases e
    | true =>
      rw [ho] at e
      obtain rfl := Option.some.inj e
      obtain ⟨its, rv, hl, _⟩ := I.list (.of (gH_same _ _ h))
      exact set_fin hcl hu I wd t rv (.inl hl.isList) ho q
  | @tup a xs ws h t =>
    cases ru
    have e : (match setOk xs with | true => some (D.set (D.dedup [] xs)) | false => none) = some d := e
    cases ho : setOk xs with
    | false => rw [ho] at e; cases e
    | true =>
      rw [ho] at e
      obtain rfl := Option.some.inj e
      obtain ⟨its, rv, hl, _⟩ := I.tuple (gSqT h.T)
      exact set_fin hcl hu I wd t rv (.inr hl) ho q
  | _ => cases e
end
end Q
end
section
set_option Elab.async false
set_option linter.all false
set_option maxRecDepth 100000
set_option maxHeartbeats 4000000
namespace Q
open PySem PySem.Spec PyProof.Rows L2
variable {X : Cx}
def rIsiQ (X : Cx) (t : Ty) : List V → Hp → VK → Prop := fun vs H Q => ∃ a v d as ex st, vs = [v, .ty t.name] ∧ Wd X.K X.w as ex H st ∧ Rp X.K X.w as (gH as ex H) a v ∧ (isInst t a).map D.bl = some d ∧ Wn X as ex H st d Q
theorem kit_of_ty (K : PySem.W.Frag) (t : Ty) : PySem.W.kitOne K (.type "NoneType") (.type t.name) = some false ∧ (∀ b, isInst t (.bl b) = PySem.W.kitOne K (.type "bool") (.type t.name)) ∧ (∀ b, isInst t (.int b) = PySem.W.kitOne K (.type "int") (.type t.name)) ∧
    (∀ b, isInst t (.str b) = PySem.W.kitOne K (.type "str") (.type t.name)) ∧ (∀ b, isInst t (.tup b) = PySem.W.kitOne K (.type "tuple") (.type t.name)) ∧ (∀ b, isInst t (.lst b) = PySem.W.kitOne K (.type "list") (.type t.name)) := by
  cases t <;> exact ⟨by rfl, fun b => by rfl, fun b => by rfl, fun b => by rfl, fun b => by rfl, fun b => by rfl⟩
theorem isi_none (t : Ty) : isInst t .non = some false := by cases t <;> rfl
theorem call_isiQ (t : Ty) : CallR X (.builtin "isinstance") (rIsiQ X t) := by
  rintro pins s σ H vs us Q I rv ⟨a, v, d, as, ex, st, rfl, wd, ra, e, q⟩
  obtain ⟨b, eb, rfl⟩ := Option.map_eq_some_iff.mp e
  have q := Wn.here wd q (.bl b)
  obtain ⟨k0, k1, k2, k3, k4, k5⟩ := kit_of_ty X.K t
  have go : ∀ (ty : Value), TyX X.K H v ty → PySem.W.kitOne X.K ty (.type t.name) = some b → wpAny (model X.prog X.w) X.A (call (.builtin "isinstance") us) (EP X pins σ Q) X.xe s := fun ty hx hk =>
    call_isi pins s σ H _ us Q I rv ⟨v, .ty t.name, ty, .type t.name, b, rfl, .ty _, hx, hk, q⟩
  cases ra with
  | non =>
    rw [isi_none] at eb
    exact go _ (.base .non) (k0.trans eb)
  | bl x => exact go _ (.base (.bl x)) ((k1 x).symm.trans eb)
  | int x => exact go _ (.base (.int x)) ((k2 x).symm.trans eb)
  | str x => exact go _ (.base (.str x)) ((k3 x).symm.trans eb)
  | @tup a' ds ws h r =>
    refine go (.type "tuple") ?_ ((k4 ds).symm.trans eb)
    rcases h with ⟨o, h, _⟩ | ⟨o, _, _, h, c, _⟩
    · exact .fTuple (gH_same _ _ h)
    · exact .kTuple h c
  | @lst a' ds ws h r => exact go _ (.base (.lst (gH_same _ _ h))) ((k5 ds).symm.trans eb)
  | _ => cases t <;> cases eb
theorem pairsOf_cons {d : D} {r : List D} {p : List D × List D} (h : pairsOf (d :: r) = some p) : ∃ x v q, d = .tup [.str x, v] ∧ pairsOf r = some q ∧ p = (.str x :: q.1, v :: q.2) ∧ q.1.all isStrD = true := by
  match d, h with
  | .tup [k, v], h =>
    have h : (match pairsOf r with | some (ks, vs) => (match k.isKey && kOk ks k with | true => some (k :: ks, v :: vs) | false => none) | none => none) = some p := h
    cases e : pairsOf r with
    | none => rw [e] at h; cases h
    | some q =>
      obtain ⟨ks, vs⟩ := q
      rw [e] at h
      cases e2 : k.isKey && kOk ks k with
      | false => simp only [e2] at h; cases h
      | true =>
        simp only [e2] at h
        obtain ⟨⟨x, rfl⟩, ha⟩ := kOk_of e2
        cases h
        exact ⟨x, v, (ks, vs), rfl, rfl, rfl, ha⟩
theorem putAll_sv {K : PySem.W.Frag} {w : World} {as : List Addr} {G : Hp} : ∀ {ks vs : List D} {kvs : List (Str × Value)} {ks0 vs0 : List D} {acc : List (Str × Value)}, Sv K w as G ks vs kvs → Sv K w as G ks0 vs0 acc → ks0.Nodup →
    Sv K w as G (putAllD ks0 vs0 ks vs).1 (putAllD ks0 vs0 ks vs).2 (merged acc kvs) ∧ (putAllD ks0 vs0 ks vs).1.Nodup
  | _, _, _, _, _, _, .nil, h, n => ⟨h, n⟩
  | _, _, _, ks0, vs0, acc, @Sv.cons _ _ _ _ x d v u ks ds kvs a b t, h, n => by
    show Sv K w as G (putAllD (setD ks0 vs0 (.str x) d).1 (setD ks0 vs0 (.str x) d).2 ks ds).1 (putAllD (setD ks0 vs0 (.str x) d).1 (setD ks0 vs0 (.str x) d).2 ks ds).2 (merged (stored acc x u) kvs) ∧ _
    exact putAll_sv t (h.put n x a b) (setD_nodup (.str x) d n h.len.2)
theorem keys_str {ks : List D} (h : ks.all isStrD = true) : ∀ k ∈ ks, k.isKey = true := fun k hk => by
  have := List.all_eq_true.mp h k hk
  cases k with
  | str x => rfl
  | _ => cases this
theorem dict_laid {pins : List (Addr × Obj)} {s : Shared} {σ : L2.St} {H : Hp} {as ex : List Addr} {st : List D} {ks vs : List D} {kvs : List (Str × Value)} {Q : VK} {h' : Heap} {tk : Nat} {p : Addr} (I : Inv X pins σ H s) (wd : Wd X.K X.w as ex H st) (kp : ∀ b o, s.heap.get? b = some o → h'.get? b = some o) (hp : s.heap.objs.size ≤ p)
    (sv : Sv X.K X.w as (gH as ex H) ks vs kvs) (n : ks.Nodup) (dd : h'.DictOf (PySem.strKind X.prog X.w) p kvs) (hz : ks.length ≤ sizeLine) (q : Wn X as ex H st (.dct ks vs) Q) : EP X pins σ Q (.ref p) { s with heap := h', toks := tk } := by
  have hn : H p = none := I.hok.fresh hp
  obtain ⟨es, raw, re, hl⟩ := dict_raw sv dd
  have big : (p == sysModules) = false := beq_eq_false_iff_ne.mpr (Nat.ne_of_gt (Nat.lt_of_lt_of_le I.big hp))
  exact ⟨.ref p, _, I.laid (t' := tk) kp hp (o := .ext (RawD p es)) (raw_stay raw), rfl, q as _ _ (Ext.laid hn) (wd.laid hn) (.dct (gH_laid wd hn) big (by omega) (re.mono (List.prefix_refl _) (Ext.laid hn).same) n)⟩
theorem rpL_cons {K : PySem.W.Frag} {w : World} {as : List Addr} {G : Hp} {d : D} {ds : List D} {vs : List V} (r : RpL K w as G (d :: ds) vs) : ∃ v us, vs = v :: us ∧ Rp K w as G d v ∧ RpL K w as G ds us := by
  cases r with
  | cons a t => exact ⟨_, _, rfl, a, t⟩
theorem rp_tup {K : PySem.W.Frag} {w : World} {as : List Addr} {G : Hp} {ds : List D} {v : V} (r : Rp K w as G (.tup ds) v) : ∃ a vs, v = .ref a ∧ SqN K G a vs ∧ RpL K w as G ds vs := by
  cases r with
  | tup h t => exact ⟨_, _, rfl, h, t⟩
theorem pairs_read {pins : List (Addr × Obj)} {s : Shared} {σ : L2.St} {H : Hp} {as ex : List Addr} (I : Inv X pins σ H s) : ∀ (xs : List D) (ws : List V) (its : List Value) (p : List D × List D), RpL X.K X.w as (gH as ex H) xs ws → Vals ws its → pairsOf xs = some p →
    ∃ (kvs : List (Str × Value)) (ps : List (Value × Value)) (Ts : Nat → Addr), Sv X.K X.w as (gH as ex H) p.1 p.2 kvs ∧ PairItems s.heap its.toArray Ts ps ∧ kvs.length = ps.length ∧ ∀ (i : Nat) (key v : Value), ps[i]? = some (key, v) → ∃ k, kvs[i]? = some (k, v) ∧ (PySem.strKind X.prog X.w).is k key = true
  | [], _, _, p, r, rv, e => by
    cases r
    cases rv
    cases e
    exact ⟨[], [], fun _ => 0, .nil, ⟨rfl, fun j k v h => by simp at h⟩, rfl, fun i k v h => by simp at h⟩
  | d :: xs, _, _, p, r, rv, e => by
    obtain ⟨x, dv, q, rfl, e2, rfl, _⟩ := pairsOf_cons e
    obtain ⟨w1, ws, rfl, r1, r2⟩ := rpL_cons r
    obtain ⟨a, zs, rfl, h, t⟩ := rp_tup r1
    obtain ⟨wk, zs', rfl, tk, t2⟩ := rpL_cons t
    obtain ⟨wv, zs'', rfl, tv, t3⟩ := rpL_cons t2
    cases t3
    cases tk
    cases rv with
    | cons v1 v2 =>
      obtain ⟨kvs, ps, Ts, sv, pi, hl, hr⟩ := pairs_read I xs ws _ q r2 v2 e2
      obtain ⟨its2, rv2, hT, _⟩ := I.tuple (gSqT h.T)
      obtain ⟨uk, uv, rfl, ⟨tt, rfl⟩, ruv⟩ := rv2.two
      cases v1
      refine ⟨(x, uv) :: kvs, (.str x tt, uv) :: ps, fun j => match j with | 0 => a | j + 1 => Ts j, .cons tv ruv sv, ⟨by have := pi.1; simp at this ⊢; exact this, fun j k v hj => ?_⟩, by simp [hl], fun i key v hi => ?_⟩
      · cases j with
        | zero =>
          cases hj
          exact ⟨by simp, .inl hT⟩
        | succ j =>
          have := pi.2 j k v (by simpa using hj)
          exact ⟨by simpa using this.1, this.2⟩
      · cases i with
        | zero =>
          cases hi
          exact ⟨x, by simp, strIs (t := tt)⟩
        | succ i => simpa using hr i key v (by simpa using hi)
theorem b_dict (hcl : X.calm = true) : CallR X (.type "dict") (rBi X .dict) := by
  rintro pins s σ H vs us Q I rv ⟨ds, d, as, ex, st, wd, rd, e, q⟩
  obtain ⟨x, rfl⟩ := one_of e
  obtain ⟨v, rfl, r⟩ := rd.one
  obtain ⟨u, rfl, ru⟩ := rv.one
  cases r with
  | @lst a xs ws h t =>
    cases ru
    obtain ⟨p, e2, rfl⟩ := Option.map_eq_some_iff.mp (show (pairsOf xs).map (fun p => let r := putAllD [] [] p.1 p.2; D.dct r.1 r.2) = some d from e)
    obtain ⟨its, rv, ⟨o, nn, ho, hc, hd0, hdt⟩, hz⟩ := I.list (.of (gH_same _ _ h))
    obtain ⟨kvs, ps, Ts, sv, pi, hl, hr⟩ := pairs_read I xs ws its p t rv e2
    obtain ⟨sv2, nd⟩ := putAll_sv sv .nil List.nodup_nil
    have hps : ps.length ≤ sizeLine := by
      have h1 := pi.1
      have h2 := rv.length
      rw [List.size_toArray] at h1
      omega
    have hm := merged_length_le ([] : List (Str × Value)) kvs
    have hks := sv2.len.1
    refine PySem.call_dict_pairs (knd := PySem.strKind X.prog X.w) (kvs := kvs) (PairArg.list a its.toArray Ts ps) (I.ok.hd hcl) ⟨⟨o, nn, ho, hc, hd0, hdt⟩, pi⟩ ⟨hl, hr⟩ hps fun h' tk dd kp => ?_
    exact dict_laid I wd (fun b o e => kp b o (fun z => nomatch z) e) (Nat.le_refl _) sv2 nd dd (by rw [List.length_nil] at hm; omega) q
  | _ => cases e
end Q
end
section
set_option Elab.async false
set_option linter.all false
set_option maxRecDepth 100000
set_option maxHeartbeats 4000000
namespace Q
open PySem PySem.Spec PyProof.Rows L2
section
variable {prog : Program} {w : World} {A : Around} {E : Value → Shared → Prop} {s : Shared}
section
variable {K : Type} [DecidableEq K] {knd : PySem.KeyKind prog w K}
theorem put_pairs {d : Addr} {kvs : List (K × Value)} {k : K} {key v : Value} {Q : Unit → Shared → Prop} (hkey : knd.is k key = true) (hm : s.heap.DictOf knd d kvs)
    (hQ : ∀ h', h'.DictOf knd d (stored kvs k v) → Heap.SameBut d s.heap h' → Q () { s with heap := h' }) (hsz : kvs.length ≤ sizeLine) : wpAny (model prog w) A (dictPut d (knd.hash k) key v) Q E s := by
  obtain ⟨o, es, ep, ho, hc, hd, hk, hp, hn⟩ := hm
  have hes : es.size ≤ sizeLine := by
    have e1 := hp.length
    rw [Array.length_toList] at e1
    omega
  unfold dictPut
  refine wpAny_bind (wpAny_dictFind_of hkey ho hd hk ?_)
  have hidx : (es.findIdx? fun e => knd.is k e.key) = kvs.findIdx? fun kv => decide (kv.1 = k) := by
    rw [← hp.findIdx k]
    obtain ⟨l⟩ := es
    simp
  cases hi : es.findIdx? fun e => knd.is k e.key with
  | some i =>
    have hany := any_of_findIdx_some (hidx ▸ hi)
    have hl : (es.toList.findIdx? fun e => knd.is k e.key) = some i := by
      rw [← hi]
      obtain ⟨l⟩ := es
      simp
    have hmod := hp.modify hn hl v
    refine wpAny_updateDict ho hd (hQ _ ⟨_, _, ep, Heap.get?_update_self _ ho (Obj.isFreed_of_dict (Obj.data_mapDict hd _)), hc.mapDict _, Obj.data_mapDict hd _, hk.modify _ _, ?_, ?_⟩ (Heap.SameBut.update ..))
    · rw [stored, if_pos hany]
      obtain ⟨l⟩ := es
      simpa using hmod
    · rw [stored, if_pos hany, keys_map_store]
      exact hn
  | none =>
    have hnot : k ∉ kvs.map (·.1) := not_mem_of_findIdx_none (hidx ▸ hi)
    have hany : ¬ (kvs.any fun kv => decide (kv.1 = k)) = true := fun z => by
      obtain ⟨kv, hkv, he⟩ := List.any_eq_true.mp z
      exact hnot (List.mem_map.mpr ⟨kv, hkv, of_decide_eq_true he⟩)
    have happ := hp.append hkey (knd.hash k) v
    refine wpAny_updateDictKeys (hz := hes) ho hd (hQ _ ⟨_, _, ep + 1, Heap.get?_update_self _ ho (Obj.isFreed_of_dict (Obj.data_mapDictKeys hd _)), hc.mapDictKeys _, Obj.data_mapDictKeys hd _, hk.push hkey _, ?_, ?_⟩ (Heap.SameBut.update ..))
    · rw [stored, if_neg hany]
      obtain ⟨l⟩ := es
      simpa using happ
    · rw [stored, if_neg hany, List.map_append, List.nodup_append]
      refine ⟨hn, by simp, fun a ha b hb => ?_⟩
      rw [List.map_cons, List.map_nil, List.mem_singleton] at hb
      subst hb
      exact fun e => hnot (e ▸ ha)
end
theorem tail_D {d o : Addr} {es : Array DictEntry} {ep : Nat} {Q : Unit → Shared → Prop} (hdo : d ≠ o) (hm : s.heap.DictRaw o es ep) (Tab : Nat → Heap → Prop) (h0 : Tab 0 s.heap)
    (step : ∀ i (hi : i < es.size) (h : Heap) (tk : Nat) (Q : Unit → Shared → Prop), Tab i h → Heap.SameBut d s.heap h → (∀ h' tk', Tab (i + 1) h' → Heap.SameBut d h h' → Q () { s with heap := h', toks := tk' }) → wpAny (model prog w) A (dictPut d es[i].hash es[i].key es[i].val) Q E { s with heap := h, toks := tk })
    (hQ : ∀ h' tk, Tab es.size h' → Heap.SameBut d s.heap h' → Q () { s with heap := h', toks := tk }) : wpAny (model prog w) A (do
      let __do_lift ← dictEntries o
      have size : Nat := __do_lift.size
      let epoch ← dictEpoch o
      forIn (List.range size) PUnit.unit fun i __s => do
          let __do_lift ← dictEntries o
          match __do_lift[i]? with
            | some e => do
              holding [e.key, e.val]
                  (have __do_jp := fun (__r : Unit) => dictPut d e.hash e.key e.val;
                  if false = true then do
                    let __do_lift ← dictFind d e.key e.hash
                    if __do_lift.isSome = true then do
                        rule "dict.merge.duplicate-key"
                        let __do_lift ← newExc (Value.type "KeyError") [e.key]
                        let __r ← raiseNew __do_lift
                        __do_jp __r
                      else __do_jp ()
                  else __do_jp ())
              let __do_lift ← dictEpoch o
              if (__do_lift != epoch) = true then do
                  unsupported "dict.changed-during-merge"
                  pure (ForInStep.yield PUnit.unit)
                else pure (ForInStep.yield PUnit.unit)
            | x => do
              unsupported "dict.changed-during-merge"
              pure (ForInStep.yield PUnit.unit)
      pure ()) Q E s := by
  obtain ⟨oo, hoo, hco, hdo'⟩ := id hm
  refine wpAny_bind (wpAny_dictEntries hoo hdo' (wpAny_bind (wpAny_dictEpoch hoo hdo' (wpAny_bind ?_))))
  rw [List.range_eq_range']
  refine wpAny_forIn_list _ (fun rest _ s' => ∃ h' tk i, s' = { s with heap := h', toks := tk } ∧ rest = List.range' i (es.size - i) ∧ i ≤ es.size ∧ Tab i h' ∧ Heap.SameBut d s.heap h') _ ?_ ?_ _ _ ⟨s.heap, s.toks, 0, rfl, rfl, Nat.zero_le _, h0, Heap.SameBut.refl _ _⟩
  · rintro x rest b s' ⟨h', tk, i, rfl, hr, hi, hT, hs'⟩
    have hlt : i < es.size := Nat.lt_of_not_le fun z => by rw [Nat.sub_eq_zero_of_le z] at hr; cases hr
    rw [show es.size - i = (es.size - (i + 1)) + 1 by omega, List.range'_succ] at hr
    obtain ⟨rfl, hrest⟩ := List.cons.inj hr
    have hoo' : h'.get? o = some oo := (hs'.2 o (Ne.symm hdo)).trans hoo
    refine wpAny_bind (wpAny_dictEntries hoo' hdo' ?_)
    rw [Array.getElem?_eq_getElem hlt]
    dsimp only
    refine wpAny_bind (wpAny_holding ?_)
    simp only [Bool.false_eq_true, if_false]
    refine step x hlt h' tk _ hT hs' fun h'' tk' hT' hs'' => ?_
    have hoo'' : h''.get? o = some oo := (hs''.2 o (Ne.symm hdo)).trans hoo'
    refine wpAny_bind (wpAny_dictEpoch hoo'' hdo' ?_)
    rw [if_neg (by simp)]
    exact wpAny_pure ⟨h'', tk', x + 1, rfl, hrest, hlt, hT', hs'.trans hs''⟩
  · rintro b s' ⟨h', tk, i, rfl, hr, hi, hT, hs'⟩
    have hin : i = es.size := Nat.le_antisymm hi (Nat.le_of_not_lt fun z => by
      rw [show es.size - i = (es.size - (i + 1)) + 1 by omega, List.range'_succ] at hr
      cases hr)
    subst hin
    exact wpAny_pure (hQ h' tk hT hs')
theorem merge_D {d o : Addr} {es : Array DictEntry} {ep : Nat} {Q : Unit → Shared → Prop} (hdo : d ≠ o) (hoS : (o == sysModules) = false) (hm : s.heap.DictRaw o es ep) (hck : es.size ≤ 1 ∨ ∀ e ∈ es.toList, ∀ a, e.key ≠ .ref a)
    (hkT : ∀ e ∈ es.toList, ∀ a, e.key = .ref a → s.TypeIs (.ref a) "tuple") (Tab : Nat → Heap → Prop) (h0 : Tab 0 s.heap) (hd : ∃ es' ep', s.heap.DictRaw d es' ep')
    (step : ∀ i (hi : i < es.size) (h : Heap) (tk : Nat) (Q : Unit → Shared → Prop), Tab i h → Heap.SameBut d s.heap h → (∀ h' tk', Tab (i + 1) h' → Heap.SameBut d h h' → Q () { s with heap := h', toks := tk' }) → wpAny (model prog w) A (dictPut d es[i].hash es[i].key es[i].val) Q E { s with heap := h, toks := tk })
    (hQ : ∀ h' tk, Tab es.size h' → Heap.SameBut d s.heap h' → Q () { s with heap := h', toks := tk }) : wpAny (model prog w) A (mergeMapping d (.ref o) false) Q E s := by
  obtain ⟨oo, hoo, hco, hdo'⟩ := id hm
  obtain ⟨es', ep', od, hod, hcd, hdd⟩ := hd
  unfold mergeMapping
  refine wpAny_bind (wpAny_isInstance hm.typeIs F.sub_dict_dict ?_)
  simp only [if_true]
  refine wpAny_bind (wpAny_specialOf hm.typeIs F.slot_dict_iter.lookup (wpAny_bind (wpAny_pure ?_)))
  have e1 : (some (Value.builtin "dict.__iter__") == some (Value.builtin "dict.__iter__")) = true := by decide
  rw [e1]
  dsimp only
  refine wp_if_neg (by rw [hoS]; exact Bool.false_ne_true) ?_
  try refine wpAny_bind (wpAny_pure ?_)
  refine wpAny_bind (wpAny_dictEntries hod hdd ?_)
  have check : ∀ R : PUnit → Shared → Prop, R PUnit.unit s → wpAny (model prog w) A (forIn es PUnit.unit fun e __s => (match e.key with
      | Value.ref a => do
        let __do_lift ← specialOf e.key (Str.ofString "__eq__")
        if (__do_lift != some (Value.builtin "object.__eq__")) = true then
            if (Array.filter (fun x => x.hash == e.hash) es).size > 1 then do
              unsupported "dict.merge-into-an-empty-dict:keys-of-equal-hash"
              pure (ForInStep.yield PUnit.unit)
            else pure (ForInStep.yield PUnit.unit)
          else pure (ForInStep.yield PUnit.unit)
      | x => pure (ForInStep.yield PUnit.unit) : Sem (ForInStep PUnit))) R E s := fun R hR => by
    rw [← Array.forIn_toList]
    refine wpAny_forIn_list _ (fun rest _ s' => s' = s ∧ ∀ e ∈ rest, e ∈ es.toList) _ ?_ ?_ _ _ ⟨rfl, fun e h => h⟩
    · rintro e rest b s' ⟨rfl, hall⟩
      have hin := hall e List.mem_cons_self
      have nx : ∀ e ∈ rest, e ∈ es.toList := fun e h => hall e (List.mem_cons_of_mem _ h)
      cases hk : e.key with
      | ref a =>
        have hT := hkT e hin a hk
        rcases hck with h1 | h1
        · dsimp only
          refine wpAny_bind (wpAny_specialOf hT F.slot_tuple_eq.lookup (wp_if_pos (by decide) (wp_if_neg (fun z => ?_) (wpAny_pure ⟨rfl, nx⟩))))
          have := Array.size_filter_le (p := fun x => x.hash == e.hash) (xs := es)
          omega
        · exact absurd hk (h1 e hin a)
      | _ => exact wpAny_pure ⟨rfl, nx⟩
    · rintro b s' ⟨rfl, _⟩
      exact hR
  by_cases hemp : es'.isEmpty = true
  · refine wp_if_pos hemp (wpAny_bind (wpAny_dictEntries hoo hdo' (wpAny_bind (check _ ?_))))
    exact tail_D hdo hm Tab h0 step hQ
  · refine wp_if_neg hemp ?_
    try refine wpAny_bind (wpAny_pure ?_)
    exact tail_D hdo hm Tab h0 step hQ
end
end Q
end
section
set_option Elab.async false
set_option linter.all false
set_option maxRecDepth 100000
set_option maxHeartbeats 4000000
namespace Q
open PySem PySem.Spec PyProof.Rows L2
section
variable {prog : Program} {w : World} {A : Around} {E : Value → Shared → Prop} {s : Shared}
theorem eval_dput {ke de ve : Expr} {pos : Pos} {env : PySem.Env} {Q : Value → Shared → Prop}
    (h : wpAny (model prog w) A (eval de env) (fun m s1 => wpAny (model prog w) A (mergeMapping s.heap.objs.size m false) (fun _ s2 =>
      wpAny (model prog w) A (subDict [(eval ke env, do let x ← eval ve env; standAt pos; pure x)]) (fun sub s3 => wpAny (model prog w) A (mergeMapping s.heap.objs.size (.ref sub) false) (fun _ s4 => Q (.ref s.heap.objs.size) s4) (fun _ _ => False) s3) E s2) (fun _ _ => False) s1) E
      { s with heap := s.heap.push { cls := .type "dict", data := .dict #[] } }) : wpAny (model prog w) A (eval (.Dict [none, some ke] [de, ve] pos) env) Q E s := by
  rw [arm_eval_Dict]
  refine wpAny_bind (wpAny_standAt ?_)
  show wpAny _ A (dictDisplay [(none, do let x ← eval de env; standAt pos; pure x), (some (eval ke env), do let x ← eval ve env; standAt pos; pure x)]) Q E s
  unfold dictDisplay
  simp only [List.forIn_cons, List.forIn_nil, List.isEmpty_nil, if_true, List.nil_append, List.length_cons, List.length_nil, pure_bind, bind_assoc]
  refine wpAny_bind (wpAny_alloc ?_)
  refine wpAny_bind (wpAny_holding (wpAny_bind (wpAny_mono h (fun m s1 h1 => wpAny_bind (wpAny_standAt (wpAny_pure ?_))) fun _ _ z => z)))
  refine wpAny_bind (wpAny_onRaise (wpAny_tryCatch (wpAny_onRaise (wpAny_holding (wpAny_mono h1 (fun _ s2 h2 => ?_) fun _ _ z => z.elim)))))
  rw [if_neg (show ¬ (0 + 1 == 17) = true by decide)]
  simp only [pure_bind, bind_assoc, List.isEmpty_cons, Bool.false_eq_true, if_false]
  refine wpAny_bind (wpAny_holding (wpAny_mono h2 (fun sub s3 h3 => ?_) fun _ _ z => z))
  refine wpAny_bind (wpAny_onRaise (wpAny_holding (wpAny_mono h3 (fun _ s4 h4 => ?_) fun _ _ z => z.elim)))
  exact wpAny_pure h4
end
end Q
end
section
set_option Elab.async false
set_option linter.all false
set_option maxRecDepth 100000
set_option maxHeartbeats 4000000
namespace Q
open PySem PySem.Spec PyProof.Rows L2
section
variable {K : PySem.W.Frag} {w : World} {as as' ex : List Addr} {H H' : Hp} {d : Addr} {o o' : HO} {st : List D} {ρ : List (Option D)} {σ : L2.St}
theorem same_under (h : H d = none) : Same (gH as ex H) (gH as (d :: ex) (upd H d o)) := fun b u q => by
  obtain ⟨h1, h2, h3⟩ := gH_some.mp q
  have hb : b ≠ d := fun z => by rw [z, h] at h1; cases h1
  exact gH_some.mpr ⟨by rw [upd_ne hb]; exact h1, h2, fun z => (List.mem_cons.mp z).elim hb h3⟩
theorem Wd.notin (x : Wd K w as ex H st) (h : H d = none) : d ∉ as ∧ d ∉ ex :=
  ⟨fun z => (by obtain ⟨vs, q⟩ := x.there z; rw [h] at q; cases q), fun z => (by obtain ⟨u, q⟩ := x.exs d z; rw [h] at q; cases q)⟩
theorem Wd.under (x : Wd K w as ex H st) (h : H d = none) : Wd K w as (d :: ex) (upd H d o) st := by
  obtain ⟨n1, n2⟩ := x.notin h
  refine ⟨x.nd, x.len, fun a ha z => ?_, fun a ha => ?_, fun i a e h1 h2 => ?_⟩
  · rcases List.mem_cons.mp z with z | z
    · exact n1 (z ▸ ha)
    · exact x.ax a ha z
  · by_cases e : a = d
    · exact ⟨o, by rw [e]; exact upd_same⟩
    · rw [upd_ne e]
      exact x.exs a ((List.mem_cons.mp ha).resolve_left e)
  · obtain ⟨ds, vs, e, q, r⟩ := x.cells i a e h1 h2
    have ha : a ≠ d := fun z => n1 (z ▸ List.mem_of_getElem? h1)
    exact ⟨ds, vs, e, by rw [upd_ne ha]; exact q, r.mono (List.prefix_refl _) (same_under h)⟩
theorem Wd.over (x : Wd K w as (d :: ex) H st) : Wd K w as ex H st := by
  refine ⟨x.nd, x.len, fun a ha z => x.ax a ha (List.mem_cons_of_mem _ z), fun a ha => x.exs a (List.mem_cons_of_mem _ ha), fun i a e h1 h2 => ?_⟩
  obtain ⟨ds, vs, e, q, r⟩ := x.cells i a e h1 h2
  exact ⟨ds, vs, e, q, r.mono (List.prefix_refl _) (gH_ex fun b hb => List.mem_cons_of_mem _ hb)⟩
theorem same_over : Same (gH as (d :: ex) H) (gH as ex H) := gH_ex fun b hb => List.mem_cons_of_mem _ hb
theorem Ext.under (e : Ext as (upd H d o) as' H') (h : H d = none) : Ext as H as' H' := by
  refine ⟨e.pre, fun a ha hn => ?_, fun b u hn q => ?_⟩
  · have z := e.new a ha hn
    by_cases hd : a = d
    · rw [hd]; exact h
    · rw [upd_ne hd] at z; exact z
  · have hb : b ≠ d := fun z => by rw [z, h] at q; cases q
    exact e.keep b u hn (by rw [upd_ne hb]; exact q)
theorem same_put (hd : d ∈ ex) : Same (gH as ex H) (gH as ex (upd H d o)) := fun b u q => by
  obtain ⟨h1, h2, h3⟩ := gH_some.mp q
  have hb : b ≠ d := fun z => h3 (z ▸ hd)
  exact gH_some.mpr ⟨by rw [upd_ne hb]; exact h1, h2, h3⟩
theorem Wd.put (x : Wd K w as ex H st) (hd : d ∈ ex) : Wd K w as ex (upd H d o) st := by
  refine ⟨x.nd, x.len, x.ax, fun a ha => ?_, fun i a e h1 h2 => ?_⟩
  · by_cases e : a = d
    · exact ⟨o, by rw [e]; exact upd_same⟩
    · rw [upd_ne e]; exact x.exs a ha
  · obtain ⟨ds, vs, e, q, r⟩ := x.cells i a e h1 h2
    have ha : a ≠ d := fun z => x.ax a (List.mem_of_getElem? h1) (z ▸ hd)
    exact ⟨ds, vs, e, by rw [upd_ne ha]; exact q, r.mono (List.prefix_refl _) (same_put hd)⟩
theorem Ext.put (e : Ext as H as' H') (h : H d = none) : Ext as H as' (upd H' d o) := by
  refine ⟨e.pre, e.new, fun b u hn q => ?_⟩
  have hb : b ≠ d := fun z => by rw [z, h] at q; cases q
  rw [upd_ne hb]
  exact e.keep b u hn q
theorem Ext.here (e : Ext as H as' H') (x : Wd K w as ex H st) (hd : d ∈ ex) (h : H d = some o) : H' d = some o := e.keep d o (fun z => x.ax d z hd) h
theorem Aft.ofOk {α β : Type} {R : List Addr → Hp → α → β → Prop} {r : Res α} {x : α} {st1 : List D} (e : r = .ok x st1) {Q : β → Hp → Prop} (h : ∀ as' H' v, Ext as H as' H' → Wd K w as' ex H' st1 → R as' (gH as' ex H') x v → Q v H') : Aft K w R as ex H r Q := by
  rw [e]; exact h
theorem Aft.got {α β : Type} {R : List Addr → Hp → α → β → Prop} {r : Res α} {x : α} {st1 : List D} (e : r = .ok x st1) {Q : β → Hp → Prop} (h : Aft K w R as ex H r Q) : ∀ as' H' v, Ext as H as' H' → Wd K w as' ex H' st1 → R as' (gH as' ex H') x v → Q v H' := by
  rw [e] at h; exact h
theorem Aft.isOk {α β γ : Type} {R : List Addr → Hp → α → β → Prop} {m : M γ} {f : γ → M α} {Q : β → Hp → Prop} (h : Aft K w R as ex H (M.bind m f st) Q) : ∃ x st1, m st = .ok x st1 ∧ Aft K w R as ex H (f x st1) Q := by
  unfold M.bind at h
  cases e : m st with
  | ok x st1 => rw [e] at h; exact ⟨x, st1, rfl, h⟩
  | err x st1 => rw [e] at h; exact h.elim
  | stuck => rw [e] at h; exact h.elim
end
end Q
end
section
set_option Elab.async false
set_option linter.all false
set_option maxRecDepth 100000
set_option maxHeartbeats 2000000
namespace Q
open PySem PySem.Spec PyProof.Rows L2

structure Walk (K : PySem.W.Frag) (w : World) (R : List Addr → Hp → D → V → Prop) (as ex : List Addr) (H : Hp) (J : It) (items : List D) : Prop where
  go : ∀ (i : Nat) (as' ex' : List Addr) (H' : Hp) (st : List D), i < items.length → as <+: as' → Same (gH as ex H) (gH as' ex' H') → Wd K w as' ex' H' st → J.go i H'
  yld : ∀ (i : Nat) (d : D) (as' ex' : List Addr) (H' : Hp) (st : List D) (x : V) (H2 : Hp), items[i]? = some d → as <+: as' → Same (gH as ex H) (gH as' ex' H') → Wd K w as' ex' H' st → J.yld i H' x H2 → Ext as' H' as' H2 ∧ Wd K w as' ex' H2 st ∧ R as' (gH as' ex' H2) d x
  stop : ∀ (as' ex' : List Addr) (H' : Hp) (st : List D), as <+: as' → Same (gH as ex H) (gH as' ex' H') → Wd K w as' ex' H' st → J.stop items.length H'
def TmI (K : PySem.W.Frag) (w : World) (P : List Addr → Hp → D → V → Prop) (m : List (Option D) → M (List D)) : TI := fun σ H R => ∃ ρ as ex st items st1, Wd K w as ex H st ∧ EnvR K w as (gH as ex H) ρ σ ∧ m ρ st = .ok items st1 ∧
  ∀ as1 H1 J, Ext as H as1 H1 → Wd K w as1 ex H1 st1 → Walk K w P as1 ex H1 J items → R J H1
theorem AftS.isOk {α : Type} {K : PySem.W.Frag} {w : World} {as ex : List Addr} {H : Hp} {De : Ends} {m : List (Option D) → M α} {k : α → MS} {ρ : List (Option D)} {st : List D} (h : AftS K w as ex H (liftE m k ρ st) De) : ∃ d st1, m ρ st = .ok d st1 ∧ AftS K w as ex H (k d ρ st1) De := by
  unfold liftE at h
  cases e : m ρ st with
  | ok d st1 => rw [e] at h; exact ⟨d, st1, rfl, h⟩
  | err x st1 => rw [e] at h; exact h.elim
  | stuck => rw [e] at h; exact h.elim
section
variable {X : Cx} {cl : Str → List D → M D} {pos : Pos}
theorem loopW_turn {c : List (Option D) → M D} {b : MS} {n : Nat} {K : PySem.W.Frag} {w : World} {as ex : List Addr} {H : Hp} {ρ : List (Option D)} {st : List D} {De : Ends}
    (h : AftS K w as ex H (loopW c b (n + 1) ρ st) De) : ∃ k st1, c ρ st = .ok (.bl k) st1 ∧ (if k = true then AftS K w as ex H (b ρ st1) { De with nx := TmS K w (loopW c b n) De, ct := TmS K w (loopW c b n) De, bk := De.nx } else AftS K w as ex H (.ok .next ρ st1) De) := by
  unfold loopW at h
  cases e : c ρ st with
  | err x st1 => rw [e] at h; exact h.elim
  | stuck => rw [e] at h; exact h.elim
  | ok d st1 =>
    rw [e] at h
    cases d with
    | bl k =>
      refine ⟨k, st1, rfl, ?_⟩
      cases k with
      | false => exact h
      | true =>
        dsimp only at h
        show AftS K w as ex H (b ρ st1) _
        cases e2 : b ρ st1 with
        | ok f ρ' st' =>
          rw [e2] at h
          cases f with
          | next => exact fun as2 H2 σ2 x y z => ⟨ρ', as2, ex, st', y, z, AftS.ext x h⟩
          | cont => exact fun as2 H2 σ2 x y z => ⟨ρ', as2, ex, st', y, z, AftS.ext x h⟩
          | brk => exact h
          | ret d => exact h
        | err x ρ' st' => rw [e2] at h; exact h.elim
        | stuck => rw [e2] at h; exact h.elim
    | _ => exact h.elim
theorem s_while {c : Expr} {body rest : List Stmt} {ec : E} {eb r : S} (hp : PassesOwn (model X.prog X.w) X.A X.env X.xe) (hc : PT X c (tB (TmX X (evE cl ec)))) (hb : PSs X body (TmSX X (evS cl eb))) (hr : PSs X rest (TmSX X (evS cl r))) :
    PSs X (.While c body [] pos :: rest) (TmSX X (evS cl (.whileS ec eb r))) :=
  (pss_cons (ps_while hp hc hb) hr).imp fun De σ H ⟨ρ, as, ex, st, wd, er, h⟩ => by
    have h : AftS X.K X.w as ex H (andThen (loopL (evE cl ec) (evS cl eb) ρ st) (evS cl r)) De := h
    obtain ⟨wf, hwf⟩ : ∃ n, loopL (evE cl ec) (evS cl eb) ρ st = loopW (evE cl ec) (evS cl eb) n ρ st := by
      unfold loopL
      split
      · exact ⟨_, rfl⟩
      · exact ⟨0, rfl⟩
    rw [hwf] at h
    refine ⟨fun m σ H => TmS X.K X.w (loopW (evE cl ec) (evS cl eb) m) { De with nx := TmSX X (evS cl r) De } σ H, ⟨wf, ρ, as, ex, st, wd, er, AftS.andThen h⟩, ?_⟩
    rintro m σ1 H1 ⟨ρ1, as1, ex1, st1, wd1, er1, h1⟩
    cases m with
    | zero => exact h1.elim
    | succ m =>
      obtain ⟨k, st2, e, h2⟩ := loopW_turn h1
      refine ⟨ρ1, as1, ex1, st1, wd1, er1, Aft.ofOk e fun as2 H2 v x2 w2 r2 => ?_⟩
      cases r2
      refine ⟨k, rfl, ?_⟩
      have er2 := er1.mono x2.pre (x2.same (ex := ex1))
      cases k with
      | true =>
        dsimp only
        rw [if_pos rfl] at h2 ⊢
        exact ⟨TmS X.K X.w (loopW (evE cl ec) (evS cl eb) m) { De with nx := TmSX X (evS cl r) De }, fun σ' H' h => ⟨m, Nat.lt_succ_self _, h⟩, ρ1, as2, ex1, st2, w2, er2, AftS.ext x2 h2⟩
      | false =>
        dsimp only
        rw [if_neg Bool.false_ne_true] at h2 ⊢
        exact h2 as2 H2 σ1 x2 w2 er2
def Nxt (K : PySem.W.Frag) (w : World) (as ex : List Addr) (H : Hp) (m : MS) (De : Ends) : L2.St → Hp → Prop := fun σ' H' => ∃ ρ' as' st', Ext as H as' H' ∧ Wd K w as' ex H' st' ∧ EnvR K w as' (gH as' ex H') ρ' σ' ∧ AftS K w as' ex H' (m ρ' st') De
theorem loopF_turn {f : D → MS} {d : D} {ds : List D} {K : PySem.W.Frag} {w : World} {as ex : List Addr} {H : Hp} {ρ : List (Option D)} {st : List D} {De : Ends}
    (h : AftS K w as ex H (loopF f (d :: ds) ρ st) De) : AftS K w as ex H (f d ρ st) { De with nx := Nxt K w as ex H (loopF f ds) De, ct := Nxt K w as ex H (loopF f ds) De, bk := De.nx } := by
  unfold loopF at h
  cases e2 : f d ρ st with
  | ok fl ρ' st' =>
    rw [e2] at h
    cases fl with
    | next => exact fun as2 H2 σ2 x y z => ⟨ρ', as2, st', x, y, z, AftS.ext x h⟩
    | cont => exact fun as2 H2 σ2 x y z => ⟨ρ', as2, st', x, y, z, AftS.ext x h⟩
    | brk => exact h
    | ret d => exact h
  | err x ρ' st' => rw [e2] at h; exact h.elim
  | stuck => rw [e2] at h; exact h.elim
theorem s_for {R : List Addr → Hp → D → V → Prop} {tg iter : Expr} {body rest : List Stmt} {t : T} {it : E} {eb r : S} (hp : PassesOwn (model X.prog X.w) X.A X.env X.xe) (hc : X.calm = true) (hi : PI X tg iter (TmI X.K X.w R (evI cl it))) (hg : PG X tg (TmG X.K X.w R t)) (hb : PSs X body (TmSX X (evS cl eb))) (hr : PSs X rest (TmSX X (evS cl r)))
    (hs : ∀ x, foldedSetIterable iter X.env x = pure x := by intro _; rfl) : PSs X (.For tg iter body [] pos :: rest) (TmSX X (evS cl (.forS t it eb r))) :=
  (pss_cons (ps_for hp hc hi hg hb hs) hr).imp fun De σ H ⟨ρ, as, ex, st, wd, er, h⟩ => by
    rw [evS] at h
    obtain ⟨items', st1, e1, h1⟩ := h.isOk
    refine ⟨ρ, as, ex, st, items', st1, wd, er, e1, fun as1 H1 J x1 wd1 wk => ?_⟩
    have h1 := AftS.andThen (AftS.ext x1 h1)
    have er1 := er.mono x1.pre (x1.same (ex := ex))
    refine ⟨fun i m σ H => ∃ ρ2 as2 st2, as1 <+: as2 ∧ Same (gH as1 ex H1) (gH as2 ex H) ∧ Wd X.K X.w as2 ex H st2 ∧ EnvR X.K X.w as2 (gH as2 ex H) ρ2 σ ∧ i ≤ items'.length ∧ m = items'.length - i ∧
      AftS X.K X.w as2 ex H (loopF (fun x ρ st => match bindT t x ρ with
        | some ρ' => evS cl eb ρ' st
        | none => .stuck) (items'.drop i) ρ2 st2) { De with nx := TmSX X (evS cl r) De }, ⟨_, ρ, as1, st1, List.prefix_refl _, (fun _ _ q => q), wd1, er1, Nat.zero_le _, rfl, h1⟩, ?_⟩
    rintro i m σ2 H2 ⟨ρ2, as2, st2, p2, s2, w2, er2, hi2, rfl, h2⟩
    by_cases hlt : i < items'.length
    · refine .inr ⟨wk.go i as2 ex H2 st2 hlt p2 s2 w2, ?_⟩
      rw [List.drop_eq_getElem_cons hlt] at h2
      have h3 := loopF_turn h2
      generalize hD : ({ De with nx := TmSX X (evS cl r) De } : Ends) = D2 at h2 h3
      refine ⟨Nxt X.K X.w as2 ex H2 (loopF (fun x ρ st => match bindT t x ρ with
        | some ρ' => evS cl eb ρ' st
        | none => .stuck) (items'.drop (i + 1))) D2, fun σ' H' ⟨ρ', as', st', x', w', er', h'⟩ => ⟨items'.length - (i + 1), by omega, ρ', as', st', p2.trans x'.pre, fun b o q => x'.same b o (s2 b o q), w', er', hlt, rfl, h'⟩, fun x H3 hy => ?_⟩
      obtain ⟨x3, w3, r3⟩ := wk.yld i items'[i] as2 ex H2 st2 x H3 (List.getElem?_eq_getElem hlt) p2 s2 w2 hy
      cases e : bindT t items'[i] ρ2 with
      | none => rw [e] at h3; exact h3.elim
      | some ρ3 =>
        rw [e] at h3
        refine ⟨ρ2, as2, ex, st2, items'[i], ρ3, w3, er2.mono x3.pre x3.same, r3, e, fun σ3 er3 _ => ⟨ρ3, as2, ex, st2, w3, er3, ?_⟩⟩
        subst hD
        exact AftS.ext x3 h3
    · have e : i = items'.length := by omega
      subst e
      refine .inl ⟨wk.stop as2 ex H2 st2 p2 s2 w2, ?_⟩
      rw [List.drop_length] at h2
      exact h2 as2 H2 σ2 (Ext.refl _ _) w2 er2
end
end Q
end
section
set_option Elab.async false
set_option linter.all false
set_option maxRecDepth 100000
set_option maxHeartbeats 2000000
namespace Q
open PySem PySem.Spec PyProof.Rows L2
theorem bind_ok {α β : Type} {m : M α} {f : α → M β} {st st' : List D} {y : β} (h : M.bind m f st = .ok y st') : ∃ x st1, m st = .ok x st1 ∧ f x st1 = .ok y st' := by
  unfold M.bind at h
  cases e : m st with
  | ok x st1 => rw [e] at h; exact ⟨x, st1, rfl, h⟩
  | err x st1 => rw [e] at h; cases h
  | stuck => rw [e] at h; cases h
theorem loopC_cons {f : D → M (List D)} {d : D} {ds : List D} {st stE : List D} {zs : List D} (h : loopC f (d :: ds) st = .ok zs stE) : ∃ ys stm zs', f d st = .ok ys stm ∧ loopC f ds stm = .ok zs' stE ∧ zs = ys ++ zs' := by
  obtain ⟨ys, stm, e1, h⟩ := bind_ok (show M.bind (f d) (fun ys => M.bind (loopC f ds) fun zs => M.pure (ys ++ zs)) st = _ from h)
  obtain ⟨zs', st2, e2, h⟩ := bind_ok h
  cases h
  exact ⟨ys, stm, zs', e1, e2, rfl⟩
theorem truth_ok {d : D} {k : Bool} {st st' : List D} (h : truth d st = .ok k st') : d = .bl k ∧ st' = st := by
  cases d with
  | bl b => cases h; exact ⟨rfl, rfl⟩
  | _ => cases h
section
variable {X : Cx} {cl : Str → List D → M D} {pos : Pos}
theorem _root_.L2.PTs.imp {X : Cx} {ifs : List Expr} {t t' : TT} (h : PTs X ifs t) (i : ∀ σ H Q, t' σ H Q → t σ H Q) : PTs X ifs t' := ⟨fun pins s σ H Q I q => h.run pins s σ H Q I (i σ H Q q)⟩
theorem t_none : PTs X [] (tB (TmX X (evE cl (.const (.bl true))))) := pts_nil.imp fun σ H Q ⟨ρ, as, ex, st, wd, er, h⟩ => by
  obtain ⟨c, e, q⟩ := h as H (.bl true) (Ext.refl _ _) wd (.bl true)
  cases e
  exact q
theorem t_one {c : Expr} {ec : E} (h : PT X c (tB (TmX X (evE cl ec)))) : PTs X [c] (tB (TmX X (evE cl ec))) := pts_one h
def lcF (cl : Str → List D → M D) (elt : E) (t : T) (c : E) (ρ : List (Option D)) : D → M (List D) := fun x => match bindT t x ρ with
  | some ρ' => M.bind (evE cl c ρ') fun k => M.bind (truth k) fun k => match k with
    | true => M.bind (evE cl elt ρ') fun y => M.pure [y]
    | false => M.pure []
  | none => M.stuck
theorem lcF_ok {elt c : E} {t : T} {ρ : List (Option D)} {d : D} {st stm ys : List D} (h : lcF cl elt t c ρ d st = .ok ys stm) : ∃ ρ' k st1, bindT t d ρ = some ρ' ∧ evE cl c ρ' st = .ok (.bl k) st1 ∧ ((k = true ∧ ∃ y, evE cl elt ρ' st1 = .ok y stm ∧ ys = [y]) ∨ (k = false ∧ ys = [] ∧ stm = st1)) := by
  unfold lcF at h
  cases e : bindT t d ρ with
  | none => rw [e] at h; cases h
  | some ρ' =>
    rw [e] at h
    obtain ⟨kd, st1, e1, h⟩ := bind_ok h
    obtain ⟨k, st2, e2, h⟩ := bind_ok h
    obtain ⟨rfl, rfl⟩ := truth_ok e2
    refine ⟨ρ', k, _, rfl, e1, ?_⟩
    cases k with
    | true =>
      obtain ⟨y, st3, e3, h⟩ := bind_ok (show M.bind (evE cl elt ρ') (fun y => M.pure [y]) _ = _ from h)
      cases h
      exact .inl ⟨rfl, y, e3, rfl⟩
    | false =>
      cases h
      exact .inr ⟨rfl, rfl, rfl⟩
structure Lc (K : PySem.W.Frag) (w : World) (as1 ex : List Addr) (H1 : Hp) (L : Addr) (F : D → M (List D)) (items ys stE : List D) (i : Nat) (H : Hp) : Prop where
  all : ∃ (as2 : List Addr) (st2 acc : List D) (accV : List V) (zs : List D), Ext as1 H1 as2 H ∧ Wd K w as2 (L :: ex) H st2 ∧ Same (gH as1 ex H1) (gH as2 (L :: ex) H) ∧ H L = some (.lst accV) ∧ RpL K w as2 (gH as2 (L :: ex) H) acc accV ∧ loopC F (items.drop i) st2 = .ok zs stE ∧ acc ++ zs = ys
theorem s_lc {R : List Addr → Hp → D → V → Prop} {te : E} {t : T} {it c : E} {vs : List Nat} {σ : L2.St} {H : Hp} {Q : VK} (hv : ∀ i ∈ t.slots, i ∈ vs)
    (h : TmX X (evE cl (.lc te t it c vs)) σ H Q) : tLc (TmI X.K X.w R (evI cl it)) (TmG X.K X.w R t) (tB (TmX X (evE cl c))) (TmX X (evE cl te)) vs σ H Q := by
  obtain ⟨ρ, as, ex, st, wd, er, h⟩ := h
  have h : Aft X.K X.w (Rp X.K X.w) as ex H (M.bind (evI cl it ρ) (fun items => M.bind (loopC (lcF cl te t c (wipeE ρ vs)) items) fun ys => M.ofO (sizeOk ys.length (.lst ys))) st) Q := h
  obtain ⟨items', st1, e1, h1⟩ := h.isOk
  refine ⟨ρ, as, ex, st, items', st1, wd, er, e1, fun as1 H1 J x1 wd1 wk L hL => ?_⟩
  have er1 := er.mono x1.pre (x1.same (ex := ex))
  obtain ⟨ys, stE, eloop, h2⟩ := (h1.ext x1).isOk
  obtain ⟨d, ed, hW⟩ := h2.ofO
  obtain ⟨hlen, rfl⟩ := sizeOk_ok ed
  generalize hF : lcF cl te t c (wipeE ρ vs) = F at eloop
  have nL := wd1.notin hL
  refine ⟨fun i m H => i ≤ items'.length ∧ m = items'.length - i ∧ Lc X.K X.w as1 ex H1 L F items' ys stE i H, ⟨_, Nat.zero_le _, rfl, as1, st1, [], [], ys, (Ext.refl as1 H1).put hL, wd1.under hL, same_under hL, upd_same, .nil, eloop, rfl⟩, ?_⟩
  rintro i m H2 ⟨hi, rfl, as2, st2, acc, accV, zs, x2, w2, s2, hL2, racc, el, eacc⟩
  by_cases hlt : i < items'.length
  · refine .inr ⟨wk.go i as2 _ H2 st2 hlt x2.pre s2 w2, fun H => Lc X.K X.w as1 ex H1 L F items' ys stE (i + 1) H, fun H' q => ⟨items'.length - (i + 1), by omega, hlt, rfl, q⟩, fun x H3 hy => ?_⟩
    obtain ⟨x3, w3, r3⟩ := wk.yld i items'[i] as2 _ H2 st2 x H3 (List.getElem?_eq_getElem hlt) x2.pre s2 w2 hy
    rw [List.drop_eq_getElem_cons hlt] at el
    obtain ⟨ys1, stm, zs', ef, el', rfl⟩ := loopC_cons el
    subst hF
    obtain ⟨ρ', k, st4, eb, ec, alt⟩ := lcF_ok ef
    have er3 : EnvR X.K X.w as2 (gH as2 (L :: ex) H3) ρ σ := er1.mono x2.pre fun b o q => x3.same b o (s2 b o q)
    have hl : accV.length = acc.length := racc.length
    refine ⟨_, as2, L :: ex, st2, items'[i], ρ', w3, er3.wipe vs, r3, eb, fun σ' er' ag => ⟨wipe_agr ag hv, ρ', as2, L :: ex, st2, w3, er', Aft.ofOk ec fun as4 H4 v x4 w4 r4 => ?_⟩⟩
    cases r4
    refine ⟨k, rfl, ?_⟩
    have x14 : Ext as2 H2 as4 H4 := x3.trans x4
    have hL4 : H4 L = some (.lst accV) := x14.here w2 List.mem_cons_self hL2
    rcases alt with ⟨rfl, y, ee, rfl⟩ | ⟨rfl, rfl, rfl⟩
    · dsimp only
      rw [if_pos rfl]
      refine ⟨ρ', as4, L :: ex, st4, w4, er'.mono x4.pre x4.same, Aft.ofOk ee fun as5 H5 yv x5 w5 r5 => ⟨accV, x5.here w4 List.mem_cons_self hL4, ?_, ?_⟩⟩
      · rw [← eacc] at hlen
        simp at hlen
        omega
      · have x25 := x14.trans x5
        have sm : Same (gH as2 (L :: ex) H2) (gH as5 (L :: ex) (upd H5 L (.lst (accV ++ [yv])))) := fun b o q => same_put List.mem_cons_self b o (x25.same b o q)
        exact ⟨as5, stm, acc ++ [y], accV ++ [yv], zs', (x2.trans x25).put hL, w5.put List.mem_cons_self, fun b o q => sm b o (s2 b o q), upd_same, (racc.mono x25.pre sm).append (.cons (r5.mono (List.prefix_refl _) (same_put List.mem_cons_self)) .nil), el', by rw [← eacc]; simp⟩
    · dsimp only
      rw [if_neg Bool.false_ne_true]
      exact ⟨as4, stm, acc, accV, zs', x2.trans x14, w4, fun b o q => x14.same b o (s2 b o q), hL4, racc.mono x14.pre x14.same, el', by rw [← eacc]; simp⟩
  · obtain rfl : i = items'.length := by omega
    rw [List.drop_length] at el
    cases el
    rw [List.append_nil] at eacc
    subst eacc
    refine .inl ⟨wk.stop as2 _ H2 _ x2.pre s2 w2, hW as2 H2 (.ref L) x2 w2.over (.lst (gH_some.mpr ⟨hL2, fun q => w2.ax L q List.mem_cons_self, nL.2⟩) (racc.mono (List.prefix_refl _) same_over))⟩
theorem e_lc {R : List Addr → Hp → D → V → Prop} {elt tg iter : Expr} {ifs : List Expr} {scope : Scope} {own : List (Str × Nat)} {te : E} {t : T} {it c : E} (hc : X.calm = true) (hN : X.N.Nodup) (hi : PI X tg iter (TmI X.K X.w R (evI cl it))) (ok : BlkOk X.N X.env.scope scope own) (hv : ∀ i ∈ t.slots, i ∈ own.map (·.2))
    (hg : ∀ (s : Shared) (H : Hp) (C : Addr) (cl : List (Str × Addr)) (fp : List Addr), PG (X.blk s H scope (compEnvC scope cl C X.env) fp) tg (TmG X.K X.w R t)) (ht : ∀ (s : Shared) (H : Hp) (C : Addr) (ce : List (Str × Addr)) (fp : List Addr), PTs (X.blk s H scope (compEnvC scope ce C X.env) fp) ifs (tB (TmX X (evE cl c))))
    (he : ∀ (s : Shared) (H : Hp) (C : Addr) (ce : List (Str × Addr)) (fp : List Addr), PE (X.blk s H scope (compEnvC scope ce C X.env) fp) elt (TmX X (evE cl te))) (hs : ∀ x, foldedSetIterable iter X.env x = pure x := by intro _; rfl) :
    PE X (.ListComp elt [⟨tg, iter, ifs, 0⟩] scope pos) (TmX X (evE cl (.lc te t it c (own.map (·.2))))) := (pe_lc hc hN hi ok hg ht he hs).imp fun σ H Q h => s_lc hv h
theorem asg_slot {t : TE} {m : List (Option D) → M D} {i : Nat} (h : ∀ σ H Q, TmX X m σ H Q → t σ H Q) : ∀ De σ H, tAsg (TmX X m) (TmGX X (.slot i)) De σ H → tAsg t (gName i) De σ H := fun De σ H ⟨ρ, as, ex, st, wd, er, q⟩ =>
  h σ H _ ⟨ρ, as, ex, st, wd, er, q.mono fun v H1 ⟨ρ1, as1, ex1, st1, d, ρ', wd1, er1, rd, e, z⟩ => by
    cases e
    exact z _ (er1.set rd) (Agr.set ..)⟩
theorem a_lc {R : List Addr → Hp → D → V → Prop} {i : Nat} {y : Str} {py spos : Pos} {elt tg iter : Expr} {ifs : List Expr} {scope : Scope} {own : List (Str × Nat)} {te : E} {t : T} {it c : E} (hc : X.calm = true) (hN : X.N.Nodup) (hy : X.N[i]? = some y) (hyl : X.env.scope.names.lookup y = some .local)
    (hsw : swapsWith (.ListComp elt [⟨tg, iter, ifs, 0⟩] scope pos) (some (.Name y py)) spos.line X.env = pure true) (hi : PI X tg iter (TmI X.K X.w R (evI cl it))) (ok : BlkOk X.N X.env.scope scope own) (hv : ∀ i ∈ t.slots, i ∈ own.map (·.2))
    (hg : ∀ (s : Shared) (H : Hp) (C : Addr) (cl : List (Str × Addr)) (fp : List Addr), PG (X.blk s H scope (compEnvC scope cl C X.env) fp) tg (TmG X.K X.w R t)) (ht : ∀ (s : Shared) (H : Hp) (C : Addr) (ce : List (Str × Addr)) (fp : List Addr), PTs (X.blk s H scope (compEnvC scope ce C X.env) fp) ifs (tB (TmX X (evE cl c))))
    (he : ∀ (s : Shared) (H : Hp) (C : Addr) (ce : List (Str × Addr)) (fp : List Addr), PE (X.blk s H scope (compEnvC scope ce C X.env) fp) elt (TmX X (evE cl te))) (hs : ∀ x, foldedSetIterable iter X.env x = pure x := by intro _; rfl) :
    PS X (.Assign [.Name y py] (.ListComp elt [⟨tg, iter, ifs, 0⟩] scope pos) spos) (tAsg (TmX X (evE cl (.lc te t it c (own.map (·.2))))) (TmGX X (.slot i))) :=
  (ps_setLc hc hN hy hyl hsw hi ok hg ht he hs).imp (asg_slot fun σ H Q h => s_lc hv h)
theorem a_set {i : Nat} {x : Str} {e : Expr} {ee : E} {pos' : Pos} (hN : X.N.Nodup) (hi : X.N[i]? = some x) (hx : Loc X.env.scope x) (he : PE X e (TmX X (evE cl ee))) (hs : swapsWith e (some (.Name x pos')) pos.line X.env = pure false := by rfl) (hf : X.fn x = true ∨ X.env.scope.names.lookup x = some .local := by first | exact .inl rfl | exact .inr rfl | assumption) :
    PS X (.Assign [.Name x pos'] e pos) (tAsg (TmX X (evE cl ee)) (TmGX X (.slot i))) := (ps_set hN hi hx he hs hf).imp (asg_slot fun σ H Q h => h)
def lcF2 (cl : Str → List D → M D) (elt : E) (t : T) (c : E) (t1 : T) (it1 c1 : E) (vs1 : List Nat) (ρ : List (Option D)) : D → M (List D) := fun x => match bindT t x ρ with
  | some ρ' => M.bind (evE cl c ρ') fun k => M.bind (truth k) fun k => match k with
    | true => M.bind (evI cl it1 ρ') fun items1 => loopC (lcF cl elt t1 c1 (wipeE ρ' vs1)) items1
    | false => M.pure []
  | none => M.stuck
theorem lcF2_ok {elt c c1 it1 : E} {t t1 : T} {vs1 : List Nat} {ρ : List (Option D)} {d : D} {st stm ys : List D} (h : lcF2 cl elt t c t1 it1 c1 vs1 ρ d st = .ok ys stm) : ∃ ρ' k st1, bindT t d ρ = some ρ' ∧ evE cl c ρ' st = .ok (.bl k) st1 ∧
    ((k = true ∧ ∃ items1 st2, evI cl it1 ρ' st1 = .ok items1 st2 ∧ loopC (lcF cl elt t1 c1 (wipeE ρ' vs1)) items1 st2 = .ok ys stm) ∨ (k = false ∧ ys = [] ∧ stm = st1)) := by
  unfold lcF2 at h
  cases e : bindT t d ρ with
  | none => rw [e] at h; cases h
  | some ρ' =>
    rw [e] at h
    obtain ⟨kd, st1, e1, h⟩ := bind_ok h
    obtain ⟨k, st2, e2, h⟩ := bind_ok h
    obtain ⟨rfl, rfl⟩ := truth_ok e2
    refine ⟨ρ', k, _, rfl, e1, ?_⟩
    cases k with
    | true =>
      obtain ⟨items1, st3, e3, h⟩ := bind_ok (show M.bind (evI cl it1 ρ') (fun items1 => loopC (lcF cl elt t1 c1 (wipeE ρ' vs1)) items1) _ = _ from h)
      exact .inl ⟨rfl, items1, st3, e3, h⟩
    | false =>
      cases h
      exact .inr ⟨rfl, rfl, rfl⟩
structure Lc1 (K : PySem.W.Frag) (w : World) (as1 ex : List Addr) (H1 : Hp) (L : Addr) (as4 : List Addr) (H4 : Hp) (F : D → M (List D)) (items ys stE : List D) (i : Nat) (H : Hp) : Prop where
  all : ∃ (as2 : List Addr) (st2 acc : List D) (accV : List V) (zs : List D), Ext as1 H1 as2 H ∧ Wd K w as2 (L :: ex) H st2 ∧ as4 <+: as2 ∧ Same (gH as4 (L :: ex) H4) (gH as2 (L :: ex) H) ∧ H L = some (.lst accV) ∧ RpL K w as2 (gH as2 (L :: ex) H) acc accV ∧ loopC F (items.drop i) st2 = .ok zs stE ∧ acc ++ zs = ys
theorem s_lc2 {R R1 : List Addr → Hp → D → V → Prop} {te : E} {t t1 : T} {it c it1 c1 : E} {vs vs1 : List Nat} {σ : L2.St} {H : Hp} {Q : VK} (hv : ∀ i ∈ t.slots, i ∈ vs) (hv1 : ∀ i ∈ t1.slots, i ∈ vs1)
    (h : TmX X (evE cl (.lc2 te t it c t1 it1 c1 vs vs1)) σ H Q) : tLc2 (TmI X.K X.w R (evI cl it)) (TmG X.K X.w R t) (tB (TmX X (evE cl c))) (TmI X.K X.w R1 (evI cl it1)) (TmG X.K X.w R1 t1) (tB (TmX X (evE cl c1))) (TmX X (evE cl te)) vs vs1 σ H Q := by
  obtain ⟨ρ, as, ex, st, wd, er, h⟩ := h
  have h : Aft X.K X.w (Rp X.K X.w) as ex H (M.bind (evI cl it ρ) (fun items => M.bind (loopC (lcF2 cl te t c t1 it1 c1 vs1 (wipeE ρ vs)) items) fun ys => M.ofO (sizeOk ys.length (.lst ys))) st) Q := h
  obtain ⟨items', st1, e1, h1⟩ := h.isOk
  refine ⟨ρ, as, ex, st, items', st1, wd, er, e1, fun as1 H1 J x1 wd1 wk L hL => ?_⟩
  have er1 := er.mono x1.pre (x1.same (ex := ex))
  obtain ⟨ys, stE, eloop, h2⟩ := (h1.ext x1).isOk
  obtain ⟨d, ed, hW⟩ := h2.ofO
  obtain ⟨hlen, rfl⟩ := sizeOk_ok ed
  generalize hF : lcF2 cl te t c t1 it1 c1 vs1 (wipeE ρ vs) = F at eloop
  have nL := wd1.notin hL
  refine ⟨fun i m H => i ≤ items'.length ∧ m = items'.length - i ∧ Lc X.K X.w as1 ex H1 L F items' ys stE i H, ⟨_, Nat.zero_le _, rfl, as1, st1, [], [], ys, (Ext.refl as1 H1).put hL, wd1.under hL, same_under hL, upd_same, .nil, eloop, rfl⟩, ?_⟩
  rintro i m H2 ⟨hi, rfl, as2, st2, acc, accV, zs, x2, w2, s2, hL2, racc, el, eacc⟩
  by_cases hlt : i < items'.length
  · refine .inr ⟨wk.go i as2 _ H2 st2 hlt x2.pre s2 w2, fun H => Lc X.K X.w as1 ex H1 L F items' ys stE (i + 1) H, fun H' q => ⟨items'.length - (i + 1), by omega, hlt, rfl, q⟩, fun x H3 hy => ?_⟩
    obtain ⟨x3, w3, r3⟩ := wk.yld i items'[i] as2 _ H2 st2 x H3 (List.getElem?_eq_getElem hlt) x2.pre s2 w2 hy
    rw [List.drop_eq_getElem_cons hlt] at el
    obtain ⟨ys1, stm, zs', ef, el', rfl⟩ := loopC_cons el
    have ef0 := ef
    rw [← hF] at ef0
    obtain ⟨ρ', k, st4, eb, ec, alt⟩ := lcF2_ok ef0
    have er3 : EnvR X.K X.w as2 (gH as2 (L :: ex) H3) ρ σ := er1.mono x2.pre fun b o q => x3.same b o (s2 b o q)
    refine ⟨_, as2, L :: ex, st2, items'[i], ρ', w3, er3.wipe vs, r3, eb, fun σ' er' ag => ⟨wipe_agr ag hv, ρ', as2, L :: ex, st2, w3, er', Aft.ofOk ec fun as4 H4 v x4 w4 r4 => ?_⟩⟩
    cases r4
    refine ⟨k, rfl, ?_⟩
    have x14 : Ext as2 H2 as4 H4 := x3.trans x4
    have hL4 : H4 L = some (.lst accV) := x14.here w2 List.mem_cons_self hL2
    rcases alt with ⟨rfl, items1, st5, ee, ein⟩ | ⟨rfl, rfl, rfl⟩
    · dsimp only
      rw [if_pos rfl]
      have er4 := er'.mono x4.pre (x4.same (ex := L :: ex))
      refine ⟨ρ', as4, L :: ex, st4, items1, st5, w4, er4, ee, fun as5 H5 J1 x5 w5 wk1 => ?_⟩
      have x25 : Ext as2 H2 as5 H5 := x14.trans x5
      have er5 := er4.mono x5.pre (x5.same (ex := L :: ex))
      generalize hF1 : lcF cl te t1 c1 (wipeE ρ' vs1) = F1 at ein
      refine ⟨fun j k H => j ≤ items1.length ∧ k = items1.length - j ∧ Lc1 X.K X.w as1 ex H1 L as5 H5 F1 items1 (acc ++ ys1) stm j H, ⟨_, Nat.zero_le _, rfl, as5, st5, acc, accV, ys1, x2.trans x25, w5, List.prefix_refl _, (fun _ _ q => q), x5.here w4 List.mem_cons_self hL4, racc.mono x25.pre x25.same, ein, rfl⟩, ?_⟩
      rintro j k H6 ⟨hj, rfl, as6, st6, acc6, accV6, zs6, x6, w6, p6, s6, hL6, racc6, el6, eacc6⟩
      have hl6 : accV6.length = acc6.length := racc6.length
      by_cases hlt1 : j < items1.length
      · refine .inr ⟨wk1.go j as6 _ H6 st6 hlt1 p6 s6 w6, fun H => Lc1 X.K X.w as1 ex H1 L as5 H5 F1 items1 (acc ++ ys1) stm (j + 1) H, fun H' q => ⟨items1.length - (j + 1), by omega, hlt1, rfl, q⟩, fun x' H7 hy1 => ?_⟩
        obtain ⟨x7, w7, r7⟩ := wk1.yld j items1[j] as6 _ H6 st6 x' H7 (List.getElem?_eq_getElem hlt1) p6 s6 w6 hy1
        rw [List.drop_eq_getElem_cons hlt1] at el6
        obtain ⟨ys2, stm2, zs7, ef1, el7, rfl⟩ := loopC_cons el6
        rw [← hF1] at ef1
        obtain ⟨ρ2, k2, st7, eb1, ec1, alt1⟩ := lcF_ok ef1
        have er7 : EnvR X.K X.w as6 (gH as6 (L :: ex) H7) ρ' σ' := er5.mono p6 fun b o q => x7.same b o (s6 b o q)
        refine ⟨_, as6, L :: ex, st6, items1[j], ρ2, w7, er7.wipe vs1, r7, eb1, fun σ2 er8 ag1 => ⟨wipe_agr ag1 hv1, ρ2, as6, L :: ex, st6, w7, er8, Aft.ofOk ec1 fun as8 H8 v8 x8 w8 r8 => ?_⟩⟩
        cases r8
        refine ⟨k2, rfl, ?_⟩
        have x68 : Ext as6 H6 as8 H8 := x7.trans x8
        have hL8 : H8 L = some (.lst accV6) := x68.here w6 List.mem_cons_self hL6
        rcases alt1 with ⟨rfl, y, ey, rfl⟩ | ⟨rfl, rfl, rfl⟩
        · dsimp only
          rw [if_pos rfl]
          refine ⟨ρ2, as8, L :: ex, st7, w8, er8.mono x8.pre x8.same, Aft.ofOk ey fun as9 H9 yv x9 w9 r9 => ⟨accV6, x9.here w8 List.mem_cons_self hL8, ?_, ?_⟩⟩
          · have h1 := congrArg List.length eacc
            have h2 := congrArg List.length eacc6
            simp at h1 h2
            omega
          · have x69 := x68.trans x9
            have sm : Same (gH as6 (L :: ex) H6) (gH as9 (L :: ex) (upd H9 L (.lst (accV6 ++ [yv])))) := fun b o q => same_put List.mem_cons_self b o (x69.same b o q)
            exact ⟨as9, stm2, acc6 ++ [y], accV6 ++ [yv], zs7, (x6.trans x69).put hL, w9.put List.mem_cons_self, p6.trans x69.pre, fun b o q => sm b o (s6 b o q), upd_same, (racc6.mono x69.pre sm).append (.cons (r9.mono (List.prefix_refl _) (same_put List.mem_cons_self)) .nil), hF1 ▸ el7, by rw [← eacc6]; simp⟩
        · dsimp only
          rw [if_neg Bool.false_ne_true]
          exact ⟨as8, _, acc6, accV6, zs7, x6.trans x68, w8, p6.trans x68.pre, fun b o q => x68.same b o (s6 b o q), hL8, racc6.mono x68.pre x68.same, el7, by rw [← eacc6]; simp⟩
      · obtain rfl : j = items1.length := by omega
        rw [List.drop_length] at el6
        cases el6
        refine .inl ⟨wk1.stop as6 _ H6 _ p6 s6 w6, as6, stm, acc6, accV6, zs', x6, w6, fun b o q => s6 b o (x25.same b o (s2 b o q)), hL6, racc6, el', ?_⟩
        rw [List.append_nil] at eacc6
        rw [eacc6, ← eacc]
        simp
    · dsimp only
      rw [if_neg Bool.false_ne_true]
      exact ⟨as4, _, acc, accV, zs', x2.trans x14, w4, fun b o q => x14.same b o (s2 b o q), hL4, racc.mono x14.pre x14.same, el', by rw [← eacc]; simp⟩
  · obtain rfl : i = items'.length := by omega
    rw [List.drop_length] at el
    cases el
    rw [List.append_nil] at eacc
    subst eacc
    refine .inl ⟨wk.stop as2 _ H2 _ x2.pre s2 w2, hW as2 H2 (.ref L) x2 w2.over (.lst (gH_some.mpr ⟨hL2, fun q => w2.ax L q List.mem_cons_self, nL.2⟩) (racc.mono (List.prefix_refl _) same_over))⟩
theorem e_lc2 {R R1 : List Addr → Hp → D → V → Prop} {elt tg iter tg1 iter1 : Expr} {ifs ifs1 : List Expr} {scope : Scope} {own : List (Str × Nat)} {vs1 : List Nat} {te : E} {t t1 : T} {it c it1 c1 : E} (hc : X.calm = true) (hN : X.N.Nodup) (hi : PI X tg iter (TmI X.K X.w R (evI cl it))) (ok : BlkOk X.N X.env.scope scope own) (hvs : ∀ i ∈ vs1, i ∈ own.map (·.2)) (hv : ∀ i ∈ t.slots, i ∈ own.map (·.2)) (hv1 : ∀ i ∈ t1.slots, i ∈ vs1)
    (hg : ∀ (s : Shared) (H : Hp) (C : Addr) (ce : List (Str × Addr)) (fp : List Addr), PG (X.blk s H scope (compEnvC scope ce C X.env) fp) tg (TmG X.K X.w R t)) (ht : ∀ (s : Shared) (H : Hp) (C : Addr) (ce : List (Str × Addr)) (fp : List Addr), PTs (X.blk s H scope (compEnvC scope ce C X.env) fp) ifs (tB (TmX X (evE cl c))))
    (hi1 : ∀ (s : Shared) (H : Hp) (C : Addr) (ce : List (Str × Addr)) (fp : List Addr), PI (X.blk s H scope (compEnvC scope ce C X.env) fp) tg1 iter1 (TmI X.K X.w R1 (evI cl it1)))
    (hg1 : ∀ (s : Shared) (H : Hp) (C : Addr) (ce : List (Str × Addr)) (fp : List Addr), PG (X.blk s H scope (compEnvC scope ce C X.env) fp) tg1 (TmG X.K X.w R1 t1)) (ht1 : ∀ (s : Shared) (H : Hp) (C : Addr) (ce : List (Str × Addr)) (fp : List Addr), PTs (X.blk s H scope (compEnvC scope ce C X.env) fp) ifs1 (tB (TmX X (evE cl c1))))
    (he : ∀ (s : Shared) (H : Hp) (C : Addr) (ce : List (Str × Addr)) (fp : List Addr), PE (X.blk s H scope (compEnvC scope ce C X.env) fp) elt (TmX X (evE cl te))) (hs : ∀ x, foldedSetIterable iter X.env x = pure x := by intro _; rfl) (hs1 : ∀ env x, foldedSetIterable iter1 env x = pure x := by intro _ _; rfl) :
    PE X (.ListComp elt [⟨tg, iter, ifs, 0⟩, ⟨tg1, iter1, ifs1, 0⟩] scope pos) (TmX X (evE cl (.lc2 te t it c t1 it1 c1 (own.map (·.2)) vs1))) := (pe_lc2 hc hN hi ok hvs hg ht hi1 hg1 ht1 he hs hs1).imp fun σ H Q h => s_lc2 hv hv1 h
theorem a_lc2 {R R1 : List Addr → Hp → D → V → Prop} {i : Nat} {y : Str} {py spos : Pos} {elt tg iter tg1 iter1 : Expr} {ifs ifs1 : List Expr} {scope : Scope} {own : List (Str × Nat)} {vs1 : List Nat} {te : E} {t t1 : T} {it c it1 c1 : E} (hc : X.calm = true) (hN : X.N.Nodup) (hy : X.N[i]? = some y) (hyl : X.env.scope.names.lookup y = some .local)
    (hsw : swapsWith (.ListComp elt [⟨tg, iter, ifs, 0⟩, ⟨tg1, iter1, ifs1, 0⟩] scope pos) (some (.Name y py)) spos.line X.env = pure true) (hi : PI X tg iter (TmI X.K X.w R (evI cl it))) (ok : BlkOk X.N X.env.scope scope own) (hvs : ∀ i ∈ vs1, i ∈ own.map (·.2)) (hv : ∀ i ∈ t.slots, i ∈ own.map (·.2)) (hv1 : ∀ i ∈ t1.slots, i ∈ vs1)
    (hg : ∀ (s : Shared) (H : Hp) (C : Addr) (ce : List (Str × Addr)) (fp : List Addr), PG (X.blk s H scope (compEnvC scope ce C X.env) fp) tg (TmG X.K X.w R t)) (ht : ∀ (s : Shared) (H : Hp) (C : Addr) (ce : List (Str × Addr)) (fp : List Addr), PTs (X.blk s H scope (compEnvC scope ce C X.env) fp) ifs (tB (TmX X (evE cl c))))
    (hi1 : ∀ (s : Shared) (H : Hp) (C : Addr) (ce : List (Str × Addr)) (fp : List Addr), PI (X.blk s H scope (compEnvC scope ce C X.env) fp) tg1 iter1 (TmI X.K X.w R1 (evI cl it1)))
    (hg1 : ∀ (s : Shared) (H : Hp) (C : Addr) (ce : List (Str × Addr)) (fp : List Addr), PG (X.blk s H scope (compEnvC scope ce C X.env) fp) tg1 (TmG X.K X.w R1 t1)) (ht1 : ∀ (s : Shared) (H : Hp) (C : Addr) (ce : List (Str × Addr)) (fp : List Addr), PTs (X.blk s H scope (compEnvC scope ce C X.env) fp) ifs1 (tB (TmX X (evE cl c1))))
    (he : ∀ (s : Shared) (H : Hp) (C : Addr) (ce : List (Str × Addr)) (fp : List Addr), PE (X.blk s H scope (compEnvC scope ce C X.env) fp) elt (TmX X (evE cl te))) (hs : ∀ x, foldedSetIterable iter X.env x = pure x := by intro _; rfl) (hs1 : ∀ env x, foldedSetIterable iter1 env x = pure x := by intro _ _; rfl) :
    PS X (.Assign [.Name y py] (.ListComp elt [⟨tg, iter, ifs, 0⟩, ⟨tg1, iter1, ifs1, 0⟩] scope pos) spos) (tAsg (TmX X (evE cl (.lc2 te t it c t1 it1 c1 (own.map (·.2)) vs1))) (TmGX X (.slot i))) :=
  (ps_setLc2 hc hN hy hyl hsw hi ok hvs hg ht hi1 hg1 ht1 he hs hs1).imp (asg_slot fun σ H Q h => s_lc2 hv hv1 h)
end
end Q
end
section
set_option Elab.async false
set_option linter.all false
set_option maxRecDepth 100000
set_option maxHeartbeats 2000000
namespace Q
open PySem PySem.Spec PyProof.Rows L2
section
variable {K : PySem.W.Frag} {w : World} {as ex : List Addr} {H : Hp}
theorem walk_list {a : Addr} {ds : List D} {vs : List V} (h : SqL K (gH as ex H) a vs) (r : RpL K w as (gH as ex H) ds vs) : Walk K w (Rp K w) as ex H (Itl K a) ds := by
  have hl : vs.length = ds.length := r.length
  refine ⟨fun i as' ex' H' st hi p s wd => ?_, fun i d as' ex' H' st x H2 hi p s wd hy => ?_, fun as' ex' H' st p s wd => ⟨vs, gH_same.seq (s.seq h), by omega⟩⟩
  · exact ⟨vs, vs[i]'(by omega), gH_same.seq (s.seq h), by simp⟩
  · obtain ⟨e, hy⟩ := hy
    subst e
    obtain ⟨v, e1, e2⟩ := r.get hi
    have e3 := hy vs (gH_same.seq (s.seq h))
    rw [e1] at e3
    cases e3
    exact ⟨Ext.refl _ _, wd, e2.mono p s⟩
theorem walk_tup {a : Addr} {ds : List D} {vs : List V} (h : SqT K (gH as ex H) a vs) (r : RpL K w as (gH as ex H) ds vs) : Walk K w (Rp K w) as ex H (Itt K a) ds := by
  have hl : vs.length = ds.length := r.length
  refine ⟨fun i as' ex' H' st hi p s wd => ?_, fun i d as' ex' H' st x H2 hi p s wd hy => ?_, fun as' ex' H' st p s wd => ⟨vs, gH_same.seqT (s.seqT h), by omega⟩⟩
  · exact ⟨vs, vs[i]'(by omega), gH_same.seqT (s.seqT h), by simp⟩
  · obtain ⟨e, hy⟩ := hy
    subst e
    obtain ⟨v, e1, e2⟩ := r.get hi
    have e3 := hy vs (gH_same.seqT (s.seqT h))
    rw [e1] at e3
    cases e3
    exact ⟨Ext.refl _ _, wd, e2.mono p s⟩
theorem walk_str {x : Str} : Walk K w (Rp K w) as ex H (L2.Its x) (x.cps.toList.map fun c => D.str ⟨#[c]⟩) := by
  refine ⟨fun i as' ex' H' st hi p s wd => ?_, fun i d as' ex' H' st y H2 hi p s wd hy => ?_, fun as' ex' H' st p s wd => ?_⟩
  · show i < x.cps.size
    simpa using hi
  · obtain ⟨e, c, hc, rfl⟩ := hy
    subst e
    have : d = .str ⟨#[c]⟩ := by
      rw [List.getElem?_map] at hi
      have hc' : x.cps.toList[i]? = some c := by simpa using hc
      rw [hc'] at hi
      exact (Option.some.inj hi).symm
    subst this
    exact ⟨Ext.refl _ _, wd, .str _⟩
  · show x.cps.size ≤ _
    simp
end
section
variable {X : Cx} {cl : Str → List D → M D} {pos : Pos} {tg : Expr}
theorem i_plain {e : Expr} {ee : E} (he : PE X e (TmX X (evE cl ee))) : PI X tg e (TmI X.K X.w (Rp X.K X.w) (evI cl (.plain ee))) := by
  refine ⟨fun pins s σ H R I ⟨ρ, as, ex, st, items, st1, wd, er, e0, go⟩ => ?_⟩
  obtain ⟨x, st2, e1, e2⟩ := bind_ok (show M.bind (evE cl ee ρ) (fun x => M.ofO (walked x)) st = _ from e0)
  obtain ⟨e5, e4⟩ : walked x = some items ∧ st2 = st1 := by
    cases e : walked x with
    | none => rw [e] at e2; cases e2
    | some a =>
      rw [e] at e2
      cases e2
      exact ⟨rfl, rfl⟩
  subst e4
  cases x with
  | lst ds =>
    cases e5
    refine (pi_list he).run pins s σ H R I ⟨ρ, as, ex, st, wd, er, Aft.ofOk e1 fun as1 H1 v x1 w1 r1 => ?_⟩
    cases r1 with
    | lst a b => exact ⟨_, rfl, ⟨_, .of (gH_same _ _ a)⟩, go as1 H1 _ x1 w1 (walk_list (.of a) b)⟩
  | tup ds =>
    cases e5
    refine (pi_tup he).run pins s σ H R I ⟨ρ, as, ex, st, wd, er, Aft.ofOk e1 fun as1 H1 v x1 w1 r1 => ?_⟩
    cases r1 with
    | tup a b => exact ⟨_, rfl, ⟨_, gH_same.seqT a.T⟩, go as1 H1 _ x1 w1 (walk_tup a.T b)⟩
  | str y =>
    obtain ⟨_, rfl⟩ := sizeOk_ok e5
    refine (pi_str he).run pins s σ H R I ⟨ρ, as, ex, st, wd, er, Aft.ofOk e1 fun as1 H1 v x1 w1 r1 => ?_⟩
    cases r1
    exact ⟨_, rfl, go as1 H1 _ x1 w1 walk_str⟩
  | _ => cases e5
end
end Q
namespace Q
open PySem PySem.Spec PyProof.Rows L2
theorem ofO_ok {α : Type} {o : Option α} {x : α} {st st' : List D} (h : M.ofO o st = .ok x st') : o = some x ∧ st' = st := by
  cases o with
  | none => cases h
  | some a => cases h; exact ⟨rfl, rfl⟩
theorem upto_len : ∀ (n : Nat) (a : Int), (upto a n).length = n
  | 0, _ => rfl
  | n + 1, a => by rw [upto, List.length_cons, upto_len n]
theorem upto_get : ∀ (n : Nat) (a : Int) (i : Nat) (d : D), (upto a n)[i]? = some d → d = .int (a + i)
  | 0, _, _, _, h => by simp [upto] at h
  | n + 1, a, 0, d, h => by
    rw [upto] at h
    cases h
    simp
  | n + 1, a, i + 1, d, h => by
    rw [upto] at h
    have := upto_get n (a + 1) i d (by simpa using h)
    rw [this]
    congr 1
    omega
section
variable {K : PySem.W.Frag} {w : World} {as ex : List Addr} {H : Hp}
theorem walk_range {lo : Int} {n : Nat} : Walk K w (Rp K w) as ex H (Itr lo n) (upto lo n) := by
  refine ⟨fun i as' ex' H' st hi p s wd => ?_, fun i d as' ex' H' st x H2 hi p s wd hy => ?_, fun as' ex' H' st p s wd => ?_⟩
  · rw [upto_len] at hi
    exact hi
  · obtain ⟨e, hy⟩ := hy
    have := upto_get n lo i d hi
    subst this e hy
    exact ⟨Ext.refl _ _, wd, .int _⟩
  · rw [upto_len]
    exact Nat.le_refl _
end
section
variable {X : Cx} {cl : Str → List D → M D} {pos : Pos} {tg : Expr}
theorem range_ok {a b : Int} {l : List D} (h : rangeD a b = some l) : (-(2 ^ 62) ≤ a ∧ a < 2 ^ 62 ∧ -(2 ^ 62) ≤ b ∧ b < 2 ^ 62) ∧ l = upto a (b - a).toNat := by
  unfold rangeD at h
  split at h
  · rename_i e
    rw [Bool.and_eq_true, Bool.and_eq_true] at e
    have e1 : a.natAbs < 4611686018427387904 := by simpa [Nat.blt_eq] using e.1
    have e2 : b.natAbs < 4611686018427387904 := by simpa [Nat.blt_eq] using e.2.1
    cases h
    refine ⟨⟨?_, ?_, ?_, ?_⟩, rfl⟩ <;> omega
  · cases h
theorem i_range {a : Expr} {ea : E} {p : Pos} (hg : Gl X "range") (hm : X.mg "range" = none) (ha : PE X a (TmX X (evE cl ea))) (hs : starEach [a] X.env = [(false, eval a X.env)] := by rfl) : PI X tg (.Call (.Name "range" p) [a] [] pos) (TmI X.K X.w (Rp X.K X.w) (evI cl (.range ea))) := by
  refine ⟨fun pins s σ H R I ⟨ρ, as, ex, st, items, st1, wd, er, e0, go⟩ => ?_⟩
  obtain ⟨x, st2, e1, e2⟩ := bind_ok e0
  cases x with
  | int n =>
    obtain ⟨e3, rfl⟩ := ofO_ok (o := rangeD 0 n) e2
    obtain ⟨⟨_, _, b1, b2⟩, rfl⟩ := range_ok e3
    refine (pi_range1 hg hm (pa_cons ha pa_nil hs) hs).run pins s σ H R I ⟨ρ, as, ex, st, wd, er, Aft.ofOk e1 fun as1 H1 v x1 w1 r1 => ?_⟩
    cases r1
    refine ⟨n, rfl, b1, b2, go as1 H1 _ x1 w1 ?_⟩
    rw [Int.sub_zero]
    exact walk_range
  | _ => cases e2
theorem zipD_get : ∀ (as bs : List D) (i : Nat) (d : D), (zipD as bs)[i]? = some d → ∃ a b, as[i]? = some a ∧ bs[i]? = some b ∧ d = .tup [a, b]
  | [], _, _, _, h => by simp [zipD] at h
  | _ :: _, [], _, _, h => by simp [zipD] at h
  | a :: as, b :: bs, 0, d, h => by
    rw [zipD] at h
    cases h
    exact ⟨a, b, rfl, rfl, rfl⟩
  | a :: as, b :: bs, i + 1, d, h => by
    rw [zipD] at h
    simpa using zipD_get as bs i d (by simpa using h)
theorem zipD_len : ∀ (as bs : List D), (zipD as bs).length = min as.length bs.length
  | [], _ => by simp [zipD]
  | _ :: _, [] => by simp [zipD]
  | a :: as, b :: bs => by
    rw [zipD, List.length_cons, zipD_len as bs, List.length_cons, List.length_cons]
    omega
theorem rt_new {K : PySem.W.Frag} {w : World} {as ex : List Addr} {H : Hp} {st : List D} {T : Addr} {a b : D} {x y : V} (wd : Wd K w as ex H st) (hT : H T = none) (ra : Rp K w as (gH as ex H) a x) (rb : Rp K w as (gH as ex H) b y) : RT K w as (gH as ex (upd H T (.tup [x, y]))) (.tup [a, b]) (.ref T) :=
  ⟨T, [a, b], [x, y], rfl, rfl, .inl (.inl (gH_laid wd hT)), .cons (ra.mono (List.prefix_refl _) (Ext.laid hT).same) (.cons (rb.mono (List.prefix_refl _) (Ext.laid hT).same) .nil)⟩
theorem walk_zipL {K : PySem.W.Frag} {w : World} {as ex : List Addr} {H : Hp} {a b : Addr} {ds es : List D} {vs us : List V} (h : SqL K (gH as ex H) a vs) (r : RpL K w as (gH as ex H) ds vs) (h' : SqL K (gH as ex H) b us) (r' : RpL K w as (gH as ex H) es us) : Walk K w (RT K w) as ex H (Itz K a b) (zipD ds es) := by
  have hl : vs.length = ds.length := r.length
  have hl' : us.length = es.length := r'.length
  have hz := zipD_len ds es
  refine ⟨fun i as' ex' H' st hi p s wd => ?_, fun i d as' ex' H' st x H2 hi p s wd hy => ?_, fun as' ex' H' st p s wd => ⟨vs, us, gH_same.seq (s.seq h), gH_same.seq (s.seq h'), by omega⟩⟩
  · exact ⟨vs, us, vs[i]'(by omega), us[i]'(by omega), gH_same.seq (s.seq h), gH_same.seq (s.seq h'), by simp, by simp⟩
  · obtain ⟨T, x1, y1, rfl, hT, rfl, e1, e2⟩ := hy
    obtain ⟨da, db, i1, i2, rfl⟩ := zipD_get _ _ _ _ hi
    obtain ⟨v, f1, f2⟩ := r.get i1
    obtain ⟨v', f1', f2'⟩ := r'.get i2
    have g1 := e1 vs (gH_same.seq (s.seq h))
    have g2 := e2 us (gH_same.seq (s.seq h'))
    rw [f1] at g1
    rw [f1'] at g2
    cases g1
    cases g2
    exact ⟨Ext.laid hT, wd.laid hT, rt_new wd hT (f2.mono p s) (f2'.mono p s)⟩
theorem walk_zipT {K : PySem.W.Frag} {w : World} {as ex : List Addr} {H : Hp} {a b : Addr} {ds es : List D} {vs us : List V} (h : SqT K (gH as ex H) a vs) (r : RpL K w as (gH as ex H) ds vs) (h' : SqT K (gH as ex H) b us) (r' : RpL K w as (gH as ex H) es us) : Walk K w (RT K w) as ex H (RZ.ItzT K a b) (zipD ds es) := by
  have hl : vs.length = ds.length := r.length
  have hl' : us.length = es.length := r'.length
  have hz := zipD_len ds es
  refine ⟨fun i as' ex' H' st hi p s wd => ?_, fun i d as' ex' H' st x H2 hi p s wd hy => ?_, fun as' ex' H' st p s wd => ⟨vs, us, gH_same.seqT (s.seqT h), gH_same.seqT (s.seqT h'), by omega⟩⟩
  · exact ⟨vs, us, vs[i]'(by omega), us[i]'(by omega), gH_same.seqT (s.seqT h), gH_same.seqT (s.seqT h'), by simp, by simp⟩
  · obtain ⟨T, x1, y1, rfl, hT, rfl, e1, e2⟩ := hy
    obtain ⟨da, db, i1, i2, rfl⟩ := zipD_get _ _ _ _ hi
    obtain ⟨v, f1, f2⟩ := r.get i1
    obtain ⟨v', f1', f2'⟩ := r'.get i2
    have g1 := e1 vs (gH_same.seqT (s.seqT h))
    have g2 := e2 us (gH_same.seqT (s.seqT h'))
    rw [f1] at g1
    rw [f1'] at g2
    cases g1
    cases g2
    exact ⟨Ext.laid hT, wd.laid hT, rt_new wd hT (f2.mono p s) (f2'.mono p s)⟩
end
end Q
namespace Q
open PySem PySem.Spec PyProof.Rows L2
section
variable {X : Cx} {cl : Str → List D → M D} {pos : Pos} {tg : Expr}
theorem i_zip {e e2 : Expr} {ea eb : E} {p tpos : Pos} {elts : List Expr} {kk : Nat} (hg : Gl X "zip") (hm : X.mg "zip" = none) (ha : PE X e (TmX X (evE cl ea))) (hb : PE X e2 (TmX X (evE cl eb)))
    (hs : starEach [e, e2] X.env = (false, eval e X.env) :: starEach [e2] X.env := by rfl) (hs2 : starEach [e2] X.env = (false, eval e2 X.env) :: starEach [] X.env := by rfl) (hpl : (backTo pos (starEach [e2] X.env)).any (·.1) = false := by rfl) :
    PI X (.Tuple elts kk tpos) (.Call (.Name "zip" p) [e, e2] [] pos) (TmI X.K X.w (RT X.K X.w) (evI cl (.zip ea eb))) := by
  refine ⟨fun pins s σ H R I ⟨ρ, as, ex, st, items, st1, wd, er, e0, go⟩ => ?_⟩
  rw [evI] at e0
  obtain ⟨x, st2, e1, e2⟩ := bind_ok e0
  obtain ⟨y, st3, e3, e4⟩ := bind_ok e2
  refine (RZ.pi_zipA hg hm (pa_cons ha (pa_cons hb pa_nil hs2) hs) hs hpl).run pins s σ H R I ⟨ρ, as, ex, st, wd, er, Aft.ofOk e1 fun as1 H1 v x1 w1 r1 => ⟨ρ, as1, ex, st2, w1, er.mono x1.pre (x1.same (ex := ex)), Aft.ofOk e3 fun as2 H2 u x2 w2 r2 => ?_⟩⟩
  have r1 := r1.mono x2.pre (x2.same (ex := ex))
  cases x with
  | lst xs =>
    cases y with
    | lst ys =>
      cases e4
      cases r1 with
      | lst a b =>
        cases r2 with
        | lst a' b' => exact ⟨_, _, _, _, rfl, .inl ⟨.of (gH_same _ _ a), .of (gH_same _ _ a'), go as2 H2 _ (x1.trans x2) w2 (walk_zipL (.of a) b (.of a') b')⟩⟩
    | _ => cases e4
  | tup xs =>
    cases y with
    | tup ys =>
      cases e4
      cases r1 with
      | tup a b =>
        cases r2 with
        | tup a' b' => exact ⟨_, _, _, _, rfl, .inr ⟨gH_same.seqT a.T, gH_same.seqT a'.T, go as2 H2 _ (x1.trans x2) w2 (walk_zipT a.T b a'.T b')⟩⟩
    | _ => cases e4
  | _ => cases y <;> cases e4
theorem i_range2 {a b : Expr} {ea eb : E} {p : Pos} (hg : Gl X "range") (hm : X.mg "range" = none) (ha : PE X a (TmX X (evE cl ea))) (hb : PE X b (TmX X (evE cl eb))) (hs : starEach [a, b] X.env = [(false, eval a X.env), (false, eval b X.env)] := by rfl) (hs2 : starEach [b] X.env = [(false, eval b X.env)] := by rfl) :
    PI X tg (.Call (.Name "range" p) [a, b] [] pos) (TmI X.K X.w (Rp X.K X.w) (evI cl (.range2 ea eb))) := by
  refine ⟨fun pins s σ H R I ⟨ρ, as, ex, st, items, st1, wd, er, e0, go⟩ => ?_⟩
  rw [evI] at e0
  obtain ⟨x, st2, e1, e2⟩ := bind_ok e0
  obtain ⟨y, st3, e3, e4⟩ := bind_ok e2
  cases x with
  | int m =>
    cases y with
    | int n =>
      obtain ⟨e5, rfl⟩ := ofO_ok (o := rangeD m n) e4
      obtain ⟨⟨b1, b2, b3, b4⟩, rfl⟩ := range_ok e5
      refine (pi_range2 hg hm (pa_cons ha (pa_cons hb pa_nil hs2) (by rw [hs, hs2])) hs hs2).run pins s σ H R I ⟨ρ, as, ex, st, wd, er, Aft.ofOk e1 fun as1 H1 v x1 w1 r1 => ⟨ρ, as1, ex, st2, w1, er.mono x1.pre (x1.same (ex := ex)), Aft.ofOk e3 fun as2 H2 u x2 w2 r2 => ?_⟩⟩
      cases r1
      cases r2
      exact ⟨m, n, rfl, ⟨b1, b2, b3, b4⟩, go as2 H2 _ (x1.trans x2) w2 walk_range⟩
    | _ => cases e4
  | _ => cases y <;> cases e4
end
end Q
end
section
set_option Elab.async false
set_option linter.all false
set_option maxRecDepth 100000
set_option maxHeartbeats 4000000
namespace Q
open PySem PySem.Spec PyProof.Rows L2
section
variable {P : Program} {w : World} {A : Around} {E : Value → Shared → Prop} {s : Shared} {K : PySem.W.Frag} {as : List Addr} {G : Hp}
theorem kv_cases {k : List D} {y : D} (ok : (y.isKey && kvOk k y) = true) : (∃ x, y = .str x ∧ k.all isStrD = true) ∨ ∃ ds, y = .tup ds ∧ k = [] ∧ y.isKey = true := by
  rw [Bool.and_eq_true] at ok
  obtain ⟨h1, h2⟩ := ok
  unfold kvOk kOk at h2
  cases y with
  | str x =>
    refine .inl ⟨x, rfl, ?_⟩
    simpa [isStrD, isTupD] using h2
  | tup ds =>
    refine .inr ⟨ds, rfl, ?_, h1⟩
    have z : Nat.beq k.length 0 = true := by simpa [isStrD, isTupD] using h2
    exact List.length_eq_zero_iff.mp (Nat.eq_of_beq_eq_true z)
  | _ => simp [isStrD, isTupD] at h2
theorem setD_len {k v : List D} (y z : D) (h : v.length = k.length) : (setD k v y z).1.length ≤ k.length + 1 := by
  rcases setD_keys (ks := k) (ds := v) y z with e | e | e
  · rw [e]; omega
  · rw [e]; simp
  · exact absurd h e
theorem put_D {d : Addr} {es : List DictEntry} {k v : List D} {y z : D} {kv vv : V} {key val : Value} {Q : Unit → Shared → Prop} (hu : A.units + 8 < cLine) (raw : RawD d es s.heap) (re : RpE K w as G k v es) (n : k.Nodup) (ok : (y.isKey && kvOk k y) = true)
    (ry : Rp K w as G y kv) (rk : RelV kv key) (rc : Rc s.heap y key) (rz : Rp K w as G z vv) (rv : RelV vv val) (hz : es.length ≤ sizeLine)
    (hQ : ∀ h' es', RawD d es' h' → RpE K w as G (setD k v y z).1 (setD k v y z).2 es' → (setD k v y z).1.Nodup → Heap.SameBut d s.heap h' → Q () { s with heap := h' }) : wpAny (model P w) A (dictPut d ((toK y).hash w) key val) Q E s := by
  have hl := re.length
  rcases kv_cases ok with ⟨x, rfl, hs⟩ | ⟨ds, rfl, rfl, hk⟩
  · obtain ⟨kvs, sv, dd⟩ := sv_dict (P := P) raw re n hs
    cases ry
    obtain ⟨tk, rfl⟩ := rk
    refine put_pairs (knd := PySem.strKind P w) (k := x) (strIs (t := tk)) dd (fun h' dd' sb => ?_) (by have := sv.len.1; omega)
    obtain ⟨es', raw', re', _⟩ := dict_raw (sv.put n x rz rv) dd'
    exact hQ h' es' raw' re' (setD_nodup _ _ n hl.2) sb
  · cases re
    obtain ⟨a, vs, rfl, h1, h2⟩ := rp_tup ry
    cases rk
    obtain ⟨o, ep, ho, hc, hd⟩ := raw
    have kt : KT s.heap (.tup ds) a := ⟨rc, hk⟩
    unfold dictPut
    refine wpAny_bind (wpAny_dictFind_heap (knd := PySem.nestedKind P w) (k := toK (.tup ds)) (xs := []) hu kt.nest ho hd rfl (fun x hx => by cases hx) List.nodup_nil (fun _ => ?_) fun j p hj => by simp at hj)
    refine wpAny_updateDictKeys (hz := by show (0 : Nat) ≤ _; omega) ho hd (hQ _ _ ⟨_, ep + 1, Heap.get?_update_self _ ho (Obj.isFreed_of_dict (Obj.data_mapDictKeys hd _)), hc.mapDictKeys _, Obj.data_mapDictKeys hd _⟩ (.cons ry rfl rfl hk rz rv .nil) (by show [D.tup ds].Nodup; simp) (Heap.SameBut.update ..))
theorem set1_D {d : Addr} {y z : D} {kv vv : V} {key val : Value} {Q : Unit → Shared → Prop} (hu : A.units + 8 < cLine) (raw : RawD d [] s.heap) (ok : (y.isKey && kvOk [] y) = true)
    (ry : Rp K w as G y kv) (rk : RelV kv key) (rc : Rc s.heap y key) (rz : Rp K w as G z vv) (rv : RelV vv val)
    (hQ : ∀ h' e tk, RawD d [e] h' → RpE K w as G [y] [z] [e] → Heap.SameBut d s.heap h' → Q () { s with heap := h', toks := tk }) : wpAny (model P w) A (dictSet d key val) Q E s := by
  rcases kv_cases ok with ⟨x, rfl, hs⟩ | ⟨ds, rfl, _, hk⟩
  · obtain ⟨kvs, sv, dd⟩ := sv_dict (K := K) (as := as) (G := G) (P := P) (w := w) raw .nil List.nodup_nil rfl
    cases sv
    cases ry
    obtain ⟨tk, rfl⟩ := rk
    refine wpAny_dictSet_pairs (knd := PySem.strKind P w) (k := x) (strIs (t := tk)) dd (fun h' dd' sb => ?_) (by show (0 : Nat) ≤ _; omega)
    obtain ⟨es', raw', re', hl⟩ := dict_raw (Sv.put .nil List.nodup_nil x rz rv) dd'
    have : es'.length = 1 := hl
    match es', this with
    | [e], _ => exact hQ h' e _ raw' re' sb
  · obtain ⟨a, vs, rfl, h1, h2⟩ := rp_tup ry
    cases rk
    obtain ⟨o, ep, ho, hc, hd⟩ := raw
    have kt : KT s.heap (.tup ds) a := ⟨rc, hk⟩
    refine wpAny_dictSet_heap (knd := PySem.nestedKind P w) (k := toK (.tup ds)) (xs := []) hu kt.nest ⟨o, _, ep, ho, hc, hd, rfl, (fun x hx => by cases hx), List.nodup_nil⟩ (fun h' dd sb => ?_) (by show (0 : Nat) ≤ _; omega)
    obtain ⟨o', es', ep', ho', hc', hd', he', _⟩ := dd
    have : es' = #[⟨(PySem.nestedKind P w).hash (toK (.tup ds)), .ref a, val⟩] := by
      obtain ⟨l⟩ := es'
      simpa [storedH, atKey, entryOfKey] using he'
    subst this
    exact hQ h' _ _ ⟨o', ep', ho', hc', hd'⟩ (.cons ry rfl rfl hk rz rv .nil) sb
theorem spread_D {d o : Addr} {es : List DictEntry} {k v : List D} {Q : Unit → Shared → Prop} (hdo : d ≠ o) (hoS : (o == sysModules) = false) (raw : RawD o es s.heap) (re : RpE K w as G k v es) (n : k.Nodup) (hs : k.all isStrD = true) (rd : RawD d [] s.heap) (hz : es.length ≤ sizeLine)
    (hQ : ∀ h' es' tk, RawD d es' h' → RpE K w as G k v es' → Heap.SameBut d s.heap h' → Q () { s with heap := h', toks := tk }) : wpAny (model P w) A (mergeMapping d (.ref o) false) Q E s := by
  obtain ⟨kvs, sv, dd⟩ := sv_dict (P := P) raw re n hs
  obtain ⟨kv0, sv0, dd0⟩ := sv_dict (K := K) (as := as) (G := G) (P := P) (w := w) rd .nil List.nodup_nil rfl
  cases sv0
  obtain ⟨oo, es1, ep, ho, hc, hd, hk, hp, hn⟩ := dd
  have hl : es1.size = kvs.length := by
    have := hp.length
    simpa using this
  have at_ : ∀ i (hi : i < es1.size), ∃ x u, kvs[i]? = some (x, u) ∧ (strKind P w).is x es1[i].key = true ∧ es1[i].hash = (strKind P w).hash x ∧ es1[i].val = u := fun i hi => by
    have key : ∀ (l : List DictEntry) (m : List (Str × Value)) (i : Nat) (e : DictEntry), Pairs (strKind P w) l m → l[i]? = some e → ∃ x u, m[i]? = some (x, u) ∧ (strKind P w).is x e.key = true ∧ e.val = u := fun l m i e hp => by
      induction hp generalizing i with
      | nil => intro h; simp at h
      | @cons e' kv es kvs a b p ih =>
        intro h
        cases i with
        | zero =>
          simp at h
          subst h
          exact ⟨kv.1, kv.2, rfl, a, b⟩
        | succ i => simpa using ih i (by simpa using h)
    obtain ⟨x, u, a, b, c⟩ := key _ _ i es1[i] hp (by simp)
    obtain ⟨x', b', c'⟩ := hk _ (Array.getElem_mem hi)
    have : x' = x := Value.isStrOf_inj _ _ _ b' b
    subst this
    exact ⟨_, u, a, b, c', c⟩
  have noref : ∀ e ∈ es1.toList, ∀ a, e.key ≠ .ref a := fun e he a q => by
    obtain ⟨x, b, _⟩ := hk e (by simpa using he)
    obtain ⟨t, z⟩ := Value.isStrOf_shape b
    rw [q] at z
    cases z
  have hkl := sv.len.1
  have hre := re.length.1
  refine merge_D (prog := P) (es := es1) (ep := ep) hdo hoS ⟨oo, ho, hc, hd⟩ (.inr noref) (fun e he a q => absurd q (noref e he a)) (fun i h => h.DictOf (strKind P w) d (merged [] (kvs.take i))) (by simpa [merged] using dd0) ?_ (fun i hi h tk Q' hT hs' hq => ?_) fun h' tk hT sb => ?_
  · obtain ⟨a, b, c, e, f⟩ := rd
    exact ⟨_, b, a, c, e, f⟩
  · obtain ⟨x, u, a, b, c, e⟩ := at_ i hi
    rw [c, e]
    have hlen := merged_length_le ([] : List (Str × Value)) (kvs.take i)
    refine put_pairs (knd := PySem.strKind P w) (k := x) (s := { s with heap := h, toks := tk }) b hT (fun h' dd' sb => hq h' tk ?_ sb) (by rw [List.length_nil, List.length_take] at hlen; omega)
    rw [merged_take_succ [] kvs i _ a]
    exact dd'
  · rw [hl, List.take_length] at hT
    obtain ⟨sv2, nd⟩ := putAll_sv sv .nil List.nodup_nil
    rw [putAll_self (ks0 := []) (vs0 := []) sv.len.2 rfl (by simpa using n)] at sv2
    obtain ⟨es', raw', re', _⟩ := dict_raw sv2 hT
    exact hQ h' es' tk raw' re' sb
end
end Q
end
section
set_option Elab.async false
set_option linter.all false
set_option maxRecDepth 100000
set_option maxHeartbeats 4000000
namespace Q
open PySem PySem.Spec PyProof.Rows L2
section
variable {X : Cx} {cl : Str → List D → M D}
theorem raw_empty (h : Heap) : RawD h.objs.size [] (h.push { cls := .type "dict", data := .dict #[] }) := ⟨_, 0, Heap.get?_push_size _ rfl, ⟨rfl, rfl, rfl⟩, rfl⟩
theorem big_of {pins : List (Addr × Obj)} {s : Shared} {σ : L2.St} {H : Hp} {p : Addr} (I : Inv X pins σ H s) (hp : s.heap.objs.size ≤ p) : (p == sysModules) = false := beq_eq_false_iff_ne.mpr (Nat.ne_of_gt (Nat.lt_of_lt_of_le I.big hp))
theorem q_dnil {pos : Pos} : PE X (.Dict [] [] pos) (TmX X (evE cl (.dct .enil))) := by
  refine ⟨fun pins s σ H Q I ⟨ρ, as, ex, st, wd, er, h⟩ => wpAny_Dict_empty ?_⟩
  have hn : H s.heap.objs.size = none := I.hok.fresh (Nat.le_refl _)
  have h : Aft X.K X.w (Rp X.K X.w) as ex H (.ok (.dct [] []) st) Q := h
  exact ⟨.ref s.heap.objs.size, _, I.laid (a := s.heap.objs.size) (o := .ext (RawD s.heap.objs.size [])) (t' := s.toks) (fun _ _ q => Heap.get?_push_of_some _ q) (Nat.le_refl _) (raw_stay (raw_empty s.heap)), rfl,
    h as _ _ (Ext.laid hn) (wd.laid hn) (.dct (gH_laid wd hn) (big_of I (Nat.le_refl _)) (Nat.zero_le _) .nil List.nodup_nil)⟩
theorem spr_str {k : List D} (h : sprOk [] k = true) : k.all isStrD = true := by
  unfold sprOk at h
  rw [Bool.and_eq_true, Bool.or_eq_true] at h
  rcases h.1 with h | h
  · rw [List.length_eq_zero_iff.mp (Nat.eq_of_beq_eq_true h)]; rfl
  · exact (Bool.and_eq_true_iff.mp h).2
theorem spr_few {ks k : List D} (h : sprOk ks k = true) : k.length ≤ 1000 := by
  unfold sprOk at h
  exact Nat.le_of_ble_eq_true (Bool.and_eq_true_iff.mp h).2
theorem dput_read {ed ek ev : E} {ρ : List (Option D)} {as ex : List Addr} {H : Hp} {st : List D} {Q : VK} (h : Aft X.K X.w (Rp X.K X.w) as ex H (evE cl (.dct (.spread ed (.kv ek ev .enil))) ρ st) Q) :
    ∃ k v y z st1 st2 st3, evE cl ed ρ st = .ok (.dct k v) st1 ∧ sprOk [] k = true ∧ evE cl ek ρ st1 = .ok y st2 ∧ evE cl ev ρ st2 = .ok z st3 ∧ (y.isKey && kvOk (putAllD [] [] k v).1 y) = true ∧
      Wn X as ex H st3 (.dct (setD (putAllD [] [] k v).1 (putAllD [] [] k v).2 y z).1 (setD (putAllD [] [] k v).1 (putAllD [] [] k v).2 y z).2) Q := by
  simp only [evE, evKV, M.bind] at h
  cases e1 : evE cl ed ρ st with
  | err x st1 => rw [e1] at h; exact h.elim
  | stuck => rw [e1] at h; exact h.elim
  | ok x st1 =>
    rw [e1] at h
    dsimp only at h
    cases x with
    | dct k v =>
      dsimp only at h
      cases e2 : sprOk [] k with
      | false => rw [e2] at h; exact h.elim
      | true =>
        rw [e2] at h
        dsimp only at h
        simp only [M.bind] at h
        cases e3 : evE cl ek ρ st1 with
        | err x st1 => rw [e3] at h; exact h.elim
        | stuck => rw [e3] at h; exact h.elim
        | ok y st2 =>
          rw [e3] at h
          simp only [M.bind] at h
          cases e4 : evE cl ev ρ st2 with
          | err x st1 => rw [e4] at h; exact h.elim
          | stuck => rw [e4] at h; exact h.elim
          | ok z st3 =>
            rw [e4] at h
            dsimp only at h
            cases e5 : (y.isKey && kvOk (putAllD [] [] k v).1 y) with
            | false => rw [e5] at h; exact h.elim
            | true =>
              rw [e5] at h
              exact ⟨k, v, y, z, st1, st2, st3, rfl, e2, e3, e4, e5, h⟩
    | _ => exact h.elim
theorem rp_dct {K : PySem.W.Frag} {w : World} {as : List Addr} {G : Hp} {k v : List D} {x : V} (r : Rp K w as G (.dct k v) x) : ∃ a es, x = .ref a ∧ G a = some (.ext (RawD a es)) ∧ (a == sysModules) = false ∧ es.length ≤ sizeLine ∧ RpE K w as G k v es ∧ k.Nodup := by
  cases r with
  | dct h1 h2 h3 r n => exact ⟨_, _, rfl, h1, h2, h3, r, n⟩
theorem q_dput {ed ek ev : E} {de ke ve : Expr} {pos : Pos} (hu : X.A.units + 8 < cLine) (hd : PE X de (TmX X (evE cl ed))) (hk : PE X ke (TmX X (evE cl ek))) (hv : PE X ve (TmX X (evE cl ev))) :
    PE X (.Dict [none, some ke] [de, ve] pos) (TmX X (evE cl (.dct (.spread ed (.kv ek ev .enil))))) := by
  refine ⟨fun pins s σ H Q I ⟨ρ, as, ex, st, wd, er, h⟩ => eval_dput ?_⟩
  obtain ⟨k, v, y, z, st1, st2, st3, e1, e2, e3, e4, e5, hq⟩ := dput_read h
  have hs := spr_str e2
  have hn : H s.heap.objs.size = none := I.hok.fresh (Nat.le_refl _)
  have bigd := big_of I (Nat.le_refl s.heap.objs.size)
  generalize hd0 : s.heap.objs.size = d at hn bigd
  have I1 : Inv X pins σ (upd H d (.ext (RawD d []))) { s with heap := s.heap.push { cls := .type "dict", data := .dict #[] } } :=
    I.laid (a := d) (o := .ext (RawD d [])) (t' := s.toks) (fun _ _ q => Heap.get?_push_of_some _ q) (Nat.le_of_eq hd0) (raw_stay (hd0 ▸ raw_empty s.heap))
  refine thn (hd.run pins _ σ _ (fun x H1 => ∃ as1, Ext as (upd H d (.ext (RawD d []))) as1 H1 ∧ Wd X.K X.w as1 (d :: ex) H1 st1 ∧ Rp X.K X.w as1 (gH as1 (d :: ex) H1) (.dct k v) x) I1
    ⟨ρ, as, d :: ex, st, wd.under hn, er.mono (List.prefix_refl _) (same_under hn), Aft.ofOk e1 fun as1 H1 v1 x1 w1 r1 => ⟨as1, x1, w1, r1⟩⟩) fun m s2 ⟨vd, H2, I2, rel, as1, x1, w1, r1⟩ => ?_
  obtain ⟨o, es, rfl, g1, bo, lo, re, nd⟩ := rp_dct r1
  cases rel
  have hd2 : H2 d = some (.ext (RawD d [])) := x1.here (wd.under hn) List.mem_cons_self upd_same
  have hdo : d ≠ o := fun z => (gH_some.mp g1).2.2 (z ▸ List.mem_cons_self)
  refine spread_D (P := X.prog) hdo bo (I2.hok o _ (gH_same _ _ g1)).1 re nd hs (I2.hok d _ hd2).1 lo fun h3 es3 tk3 raw3 re3 sb3 => ?_
  have I3 : Inv X pins σ (upd H2 d (.ext (RawD d es3))) { s2 with heap := h3, toks := tk3 } :=
    I2.write (x := d) (e := d) (t' := tk3) (by rw [hd2]; exact True.intro) (.inl rfl) (fun b u hb q => (sb3.2 b hb).trans q) (let ⟨o, _, q, _⟩ := raw3; ⟨o, q⟩) (raw_stay raw3)
  have w3 := w1.put (o := .ext (RawD d es3)) (List.mem_cons_self (a := d))
  have x3 : Ext as H as1 (upd H2 d (.ext (RawD d es3))) := (x1.under hn).put hn
  have er3 : EnvR X.K X.w as1 (gH as1 (d :: ex) (upd H2 d (.ext (RawD d es3)))) ρ σ := er.mono x1.pre fun b u q => same_put List.mem_cons_self b u (x1.same b u (same_under hn b u q))
  have re3 := re3.mono (List.prefix_refl _) (same_put (o := .ext (RawD d es3)) (as := as1) (H := H2) (List.mem_cons_self (a := d) (l := ex)))
  generalize hH3 : upd H2 d (.ext (RawD d es3)) = H3 at I3 w3 x3 er3 re3
  have hd3 : H3 d = some (.ext (RawD d es3)) := by rw [← hH3]; exact upd_same
  have hn4 : H3 h3.objs.size = none := I3.hok.fresh (Nat.le_refl _)
  have big4 := big_of I3 (Nat.le_refl h3.objs.size)
  generalize hb0 : h3.objs.size = b at hn4 big4
  have I4 : Inv X pins σ (upd H3 b (.ext (RawD b []))) { s2 with heap := h3.push { cls := .type "dict", data := .dict #[] }, toks := tk3 } :=
    I3.laid (a := b) (o := .ext (RawD b [])) (t' := tk3) (fun _ _ q => Heap.get?_push_of_some _ q) (Nat.le_of_eq hb0) (raw_stay (hb0 ▸ raw_empty h3))
  refine wpAny_subDict_any (by show 1 ≤ 15; omega) ?_
  show wpAny _ _ (evalPairs [_]) (fun vs s₁ => wpAny _ _ (storeAll h3.objs.size vs) (fun _ s₂ => wpAny _ _ (mergeMapping d (.ref h3.objs.size) false) _ _ s₂) _ s₁) _ { s2 with heap := h3.push { cls := .type "dict", data := .dict #[] }, toks := tk3 }
  rw [hb0]
  refine evalPairs_cons (thn (hk.run pins _ σ _ (fun x H5 => ∃ as2, Ext as1 (upd H3 b (.ext (RawD b []))) as2 H5 ∧ Wd X.K X.w as2 (b :: d :: ex) H5 st2 ∧ Rp X.K X.w as2 (gH as2 (b :: d :: ex) H5) y x) I4
    ⟨ρ, as1, b :: d :: ex, st1, w3.under hn4, er3.mono (List.prefix_refl _) (same_under hn4), Aft.ofOk e3 fun as2 H5 v1 x1 w1 r1 => ⟨as2, x1, w1, r1⟩⟩) fun uk s5 ⟨vk, H5, I5, rk, as2, x5, w5, ry⟩ => ?_)
  have er5 := er3.mono (as' := as2) (G' := gH as2 (b :: d :: ex) H5) x5.pre fun c u q => x5.same c u (same_under hn4 c u q)
  refine wpAny_bind (thn (hv.run pins _ σ _ (fun x H6 => ∃ as3, Ext as2 H5 as3 H6 ∧ Wd X.K X.w as3 (b :: d :: ex) H6 st3 ∧ Rp X.K X.w as3 (gH as3 (b :: d :: ex) H6) z x) I5
    ⟨ρ, as2, b :: d :: ex, st2, w5, er5, Aft.ofOk e4 fun as2 H5 v1 x1 w1 r1 => ⟨as2, x1, w1, r1⟩⟩) fun uv s6 ⟨vv, H6, I6, rv, as3, x6, w6, rz⟩ => wpAny_bind (wpAny_standAt (wpAny_pure (evalPairs_nil ?_))))
  have x7 := x5.trans x6
  have ry := ry.mono x6.pre (x6.same (ex := b :: d :: ex))
  have hb6 : H6 b = some (.ext (RawD b [])) := x7.here (w3.under hn4) List.mem_cons_self upd_same
  have hdb : d ≠ b := fun z => by rw [z, hn4] at hd3; cases hd3
  have hd6 : H6 d = some (.ext (RawD d es3)) := x7.here (w3.under hn4) (List.mem_cons_of_mem _ List.mem_cons_self) (by rw [upd_ne hdb]; exact hd3)
  have hp : y.pl = true := pl_ky _ (isKey_ky (Bool.and_eq_true_iff.mp e5).1)
  have sd : putAllD [] [] k v = (k, v) := by
    have := putAll_self (ks0 := []) (vs0 := []) re.length.2 rfl (by simpa using nd)
    simpa using this
  rw [sd] at e5 hq
  have e5' : (y.isKey && kvOk [] y) = true := by
    rw [Bool.and_eq_true] at e5 ⊢
    refine ⟨e5.1, ?_⟩
    rcases kv_cases (by rw [Bool.and_eq_true]; exact e5) with ⟨x, rfl, _⟩ | ⟨ds, rfl, _, _⟩ <;> rfl
  have rc6 : Rc s6.heap y uk := ry.rc I6 gH_same hp rk
  show wpAny _ _ (forIn [(uk, uv)] PUnit.unit _) _ _ _
  rw [List.forIn_cons]
  refine wpAny_bind (wpAny_bind (set1_D (P := X.prog) hu (I6.hok b _ hb6).1 e5' ry rk rc6 rz rv fun h7 e7 tk7 raw7 re7 sb7 => wpAny_pure ?_))
  show wpAny _ _ (forIn [] PUnit.unit _) _ _ _
  rw [List.forIn_nil]
  refine wpAny_pure ?_
  have I7 : Inv X pins σ (upd H6 b (.ext (RawD b [e7]))) { s6 with heap := h7, toks := tk7 } :=
    I6.write (x := b) (e := b) (t' := tk7) (by rw [hb6]; exact True.intro) (.inl rfl) (fun c u hc q => (sb7.2 c hc).trans q) (let ⟨o, _, q, _⟩ := raw7; ⟨o, q⟩) (raw_stay raw7)
  have w7 := w6.put (o := .ext (RawD b [e7])) (List.mem_cons_self (a := b))
  have sm7 : Same (gH as3 (b :: d :: ex) H6) (gH as3 (b :: d :: ex) (upd H6 b (.ext (RawD b [e7])))) := same_put List.mem_cons_self
  have hd7 : (upd H6 b (.ext (RawD b [e7]))) d = some (.ext (RawD d es3)) := by rw [upd_ne hdb]; exact hd6
  have re8 : RpE X.K X.w as3 (gH as3 (b :: d :: ex) (upd H6 b (.ext (RawD b [e7])))) k v es3 := re3.mono x7.pre fun c u q => sm7 c u (x7.same c u (same_under hn4 c u q))
  have ry := ry.mono (List.prefix_refl _) sm7
  have rz := rz.mono (List.prefix_refl _) sm7
  have re7 := re7.mono (List.prefix_refl _) sm7
  have x8 : Ext as H as3 (upd H6 b (.ext (RawD b [e7]))) := x3.trans ((x7.under hn4).put hn4)
  have hb7 : (upd H6 b (.ext (RawD b [e7]))) b = some (.ext (RawD b [e7])) := upd_same
  generalize upd H6 b (.ext (RawD b [e7])) = H7 at I7 w7 sm7 hd7 re8 ry rz re7 x8 hb7
  obtain ⟨kv7, vv7, ry7, rk7, hh7, ik7, rz7, rv7⟩ : ∃ kv vv, Rp X.K X.w as3 (gH as3 (b :: d :: ex) H7) y kv ∧ RelV kv e7.key ∧ e7.hash = (toK y).hash X.w ∧ y.isKey = true ∧ Rp X.K X.w as3 (gH as3 (b :: d :: ex) H7) z vv ∧ RelV vv e7.val := by
    cases re7 with
    | cons a b c d e f g => exact ⟨_, _, a, b, c, d, e, f⟩
  have rc7 : Rc h7 y e7.key := ry7.rc I7 gH_same hp rk7
  have raw7' := raw7
  obtain ⟨ob, epb, hob, hcb, hdb'⟩ := raw7'
  have hlen3 : es3.length ≤ sizeLine := by
    have a := re3.length.1
    have b := re.length.1
    omega
  refine merge_D (prog := X.prog) (es := #[e7]) (ep := epb) hdb big4 ⟨ob, hob, hcb, hdb'⟩ (.inl (by show 1 ≤ 1; omega)) (fun e he a q => ?_)
    (fun i h => (i = 0 → h = h7) ∧ (i = 1 → ∃ es', RawD d es' h ∧ RpE X.K X.w as3 (gH as3 (b :: d :: ex) H7) (setD k v y z).1 (setD k v y z).2 es' ∧ (setD k v y z).1.Nodup)) ⟨fun _ => rfl, fun z => by cases z⟩ ?_
    (fun i hi h tk Q' hT hs' hq' => ?_) fun h8 tk8 hT sb8 => ?_
  · simp only [List.mem_singleton] at he
    subst he
    have hq2 := rc7
    rw [q] at hq2
    cases y with
    | tup ds =>
      obtain ⟨a', us, e', ⟨o, e, c, n, dd⟩, _⟩ := rc_tup hq2
      cases e'
      exact ⟨o, e, c⟩
    | str x => cases hq2
    | _ => simp [kvOk, kOk, isStrD, isTupD, D.isKey, D.ky] at e5'
  · obtain ⟨o, ep, a, c, e⟩ := (I7.hok d _ hd7).1
    exact ⟨_, ep, o, a, c, e⟩
  · have : i = 0 := by
      have : i < 1 := hi
      omega
    subst this
    obtain rfl := hT.1 rfl
    show wpAny _ _ (dictPut d e7.hash e7.key e7.val) _ _ _
    rw [hh7]
    exact put_D (P := X.prog) (s := { s6 with heap := h, toks := tk }) hu (I7.hok d _ hd7).1 re8 nd e5 ry7 rk7 rc7 rz7 rv7 hlen3 fun h' es' raw' re' n' sb' => hq' h' tk ⟨(fun z => by cases z), fun _ => ⟨es', raw', re', n'⟩⟩ sb'
  · obtain ⟨es', raw', re', n'⟩ := hT.2 rfl
    have I8 : Inv X pins σ (upd H7 d (.ext (RawD d es'))) { s6 with heap := h8, toks := tk8 } :=
      I7.write (x := d) (e := d) (t' := tk8) (by rw [hd7]; exact True.intro) (.inl rfl) (fun c u hc q => (sb8.2 c hc).trans q) (let ⟨o, _, q, _⟩ := raw'; ⟨o, q⟩) (raw_stay raw')
    have w8 := (w7.put (o := .ext (RawD d es')) (List.mem_cons_of_mem b (List.mem_cons_self (a := d)))).over
    have nda : d ∉ as3 := fun q => w8.ax d q List.mem_cons_self
    have re9 : RpE X.K X.w as3 (gH as3 ex (upd H7 d (.ext (RawD d es')))) (setD k v y z).1 (setD k v y z).2 es' := re'.mono (List.prefix_refl _) fun c u q => same_over c u (same_over c u (same_put (List.mem_cons_of_mem b List.mem_cons_self) c u q))
    have hl := setD_len (k := k) (v := v) y z re.length.2
    have hl2 := re'.length.1
    refine ⟨.ref d, _, I8, rfl, hq as3 _ _ (x8.put hn) w8.over (.dct (gH_some.mpr ⟨upd_same, nda, (wd.notin hn).2⟩) bigd ?_ re9 n')⟩
    have h9 := spr_few e2
    rw [sizeLine_eq]
    omega
end
end Q
end
section
set_option Elab.async false
set_option linter.all false
set_option maxRecDepth 100000
set_option maxHeartbeats 2000000
namespace Q
open PySem PySem.Spec PyProof.Rows L2
section
variable {X : Cx} {cl : Str → List D → M D} {pos : Pos}
theorem e_slot {i : Nat} {x : Str} (hN : X.N[i]? = some x) (hv : Vis X.env.scope x) (hd : (x == ("__debug__" : Str)) = false := by decide) (hcd : (x == ("__classdict__" : Str)) = false := by decide) : PE X (.Name x pos) (TmX X (evE cl (.slot i))) := q_slot hN hv hd hcd
theorem e_int {i : Int} {j : Nat} : PE X (.Constant (.int i) j pos) (TmX X (evE cl (.const (.int i)))) := q_val pe_int fun _ _ => .int i
theorem e_str {x : Str} {j : Nat} : PE X (.Constant (.str x) j pos) (TmX X (evE cl (.const (.str x)))) := q_val pe_str fun _ _ => .str x
theorem e_bl {b : Bool} {j : Nat} : PE X (.Constant (.bool b) j pos) (TmX X (evE cl (.const (.bl b)))) := q_val pe_bl fun _ _ => .bl b
theorem e_non {j : Nat} : PE X (.Constant .none j pos) (TmX X (evE cl (.const .non))) := q_val pe_non fun _ _ => .non
theorem t_val {e : Expr} {ee : E} (h : PE X e (TmX X (evE cl ee))) (he : ∀ whole, isTrue e X.env whole = (do let v ← whole; standAt e.pos; holding [v] (truthy v)) := by intro _; rfl) : PT X e (tB (TmX X (evE cl ee))) := pt_val h he
theorem bl_of {as : List Addr} {G : Hp} {d : D} {v : V} {k : Bool} (r : Rp X.K X.w as G d v) (e : d = .bl k) : v = .bl k := by
  subst e
  cases r
  rfl
theorem t_not {a : Expr} {ea : E} (h : PT X a (tB (TmX X (evE cl ea)))) : PT X (.UnaryOp .Not a pos) (tB (TmX X (evE cl (.not ea)))) := (pt_not h).imp fun σ H Q ⟨ρ, as, ex, st, wd, er, q⟩ => by
  have q : Aft X.K X.w (Rp X.K X.w) as ex H (M.bind (evE cl ea ρ) (fun x => M.bind (truth x) fun b => M.pure (.bl (!b))) st) _ := q
  obtain ⟨x, st1, e1, q1⟩ := q.isOk
  obtain ⟨k, st2, e2, q2⟩ := q1.isOk
  obtain ⟨rfl, rfl⟩ := truth_ok e2
  refine ⟨ρ, as, ex, st, wd, er, Aft.ofOk e1 fun as1 H1 v x1 w1 r1 => ⟨k, bl_of r1 rfl, ?_⟩⟩
  obtain ⟨c, ec, z⟩ := q2 as1 H1 (.bl (!k)) x1 w1 (.bl _)
  cases ec
  exact z
theorem e_op {o : Operator} {o' : Bop} {a b : Expr} {ea eb : E} (hop : OpR X (binaryOp o) (r2Of X (opB o'))) (ha : PE X a (TmX X (evE cl ea))) (hb : PE X b (TmX X (evE cl eb))) : PE X (.BinOp a o b pos) (TmX X (evE cl (.op o' ea eb))) := q_op hop ha hb
theorem e_not {a : Expr} {ea : E} (h : PE X a (TmX X (evE cl ea))) : PE X (.UnaryOp .Not a pos) (TmX X (evE cl (.not ea))) := (pe_not h).imp fun σ H Q ⟨ρ, as, ex, st, wd, er, q⟩ => by
  have q : Aft X.K X.w (Rp X.K X.w) as ex H (M.bind (evE cl ea ρ) (fun x => M.bind (truth x) fun b => M.pure (.bl (!b))) st) _ := q
  obtain ⟨x, st1, e1, q1⟩ := q.isOk
  obtain ⟨k, st2, e2, q2⟩ := q1.isOk
  obtain ⟨rfl, rfl⟩ := truth_ok e2
  exact ⟨ρ, as, ex, st, wd, er, Aft.ofOk e1 fun as1 H1 v x1 w1 r1 => ⟨k, bl_of r1 rfl, q2 as1 H1 (.bl (!k)) x1 w1 (.bl _)⟩⟩
theorem e_ite {c a b : Expr} {ec ea eb : E} (hc : PT X c (tB (TmX X (evE cl ec)))) (ha : PE X a (TmX X (evE cl ea))) (hb : PE X b (TmX X (evE cl eb))) : PE X (.IfExp c a b pos) (TmX X (evE cl (.ite ec ea eb))) := (pe_ifExp hc ha hb).imp fun σ H Q ⟨ρ, as, ex, st, wd, er, q⟩ => by
  have q : Aft X.K X.w (Rp X.K X.w) as ex H (M.bind (evE cl ec ρ) (fun x => M.bind (truth x) fun k => match k with
    | true => evE cl ea ρ
    | false => evE cl eb ρ) st) _ := q
  obtain ⟨x, st1, e1, q1⟩ := q.isOk
  obtain ⟨k, st2, e2, q2⟩ := q1.isOk
  obtain ⟨rfl, rfl⟩ := truth_ok e2
  refine ⟨ρ, as, ex, st, wd, er, Aft.ofOk e1 fun as1 H1 v x1 w1 r1 => ⟨k, bl_of r1 rfl, ?_⟩⟩
  have er1 := er.mono x1.pre (x1.same (ex := ex))
  cases k with
  | true => exact (if_pos rfl).mpr ⟨ρ, as1, ex, _, w1, er1, q2.ext x1⟩
  | false => exact (if_neg Bool.false_ne_true).mpr ⟨ρ, as1, ex, _, w1, er1, q2.ext x1⟩
theorem cmp_read {o' : Cop} {ea eb : E} {σ : L2.St} {H : Hp} {Q : VK} (h : TmX X (evE cl (.cmp o' ea eb)) σ H Q) : tOp (r2B X (opC o')) (TmX X (evE cl ea)) (TmX X (evE cl eb)) σ H Q := by
  obtain ⟨ρ, as, ex, st, wd, er, q⟩ := h
  have q : Aft X.K X.w (Rp X.K X.w) as ex H (M.bind (evE cl ea ρ) (fun x => M.bind (evE cl eb ρ) fun y => M.bind (M.ofO (opC o' x y)) fun b => M.pure (.bl b)) st) _ := q
  obtain ⟨x, st1, e1, q1⟩ := q.isOk
  obtain ⟨y, st2, e2, q2⟩ := q1.isOk
  obtain ⟨k, st3, e3, q3⟩ := q2.isOk
  obtain ⟨e4, rfl⟩ := ofO_ok e3
  refine ⟨ρ, as, ex, st, wd, er, Aft.ofOk e1 fun as1 H1 v x1 w1 r1 => ⟨ρ, as1, ex, st1, w1, er.mono x1.pre (x1.same (ex := ex)), Aft.ofOk e2 fun as2 H2 u x2 w2 r2 => ?_⟩⟩
  exact ⟨x, y, .bl k, as2, ex, _, w2, r1.mono x2.pre (x2.same (ex := ex)), r2, by show Option.map D.bl _ = _; rw [e4]; rfl, fun as3 H3 z x3 w3 r3 => q3 as3 H3 z (x1.trans (x2.trans x3)) w3 r3⟩
theorem e_cmp {op : CmpOp} {o' : Cop} {a b : Expr} {ea eb : E} (ho : OpR X (compareOp op) (r2B X (opC o'))) (ha : PE X a (TmX X (evE cl ea))) (hb : PE X b (TmX X (evE cl eb))) (hm : behindInMarks op b = false) : PE X (.Compare a [op] [b] pos) (TmX X (evE cl (.cmp o' ea eb))) :=
  (pe_cmpR ho ha hb hm).imp fun σ H Q h => cmp_read h
theorem t_cmp {op : CmpOp} {o' : Cop} {a b : Expr} {ea eb : E} (ho : OpR X (compareOp op) (r2B X (opC o'))) (ha : PE X a (TmX X (evE cl ea))) (hb : PE X b (TmX X (evE cl eb))) (hm : behindInMarks op b = false) : PT X (.Compare a [op] [b] pos) (tB (TmX X (evE cl (.cmp o' ea eb)))) :=
  (pt_cmpR ho ha hb hm).imp fun σ H Q h => cmp_read h
theorem chain_read {ea eb ec : E} {σ : L2.St} {H : Hp} {Q : VK} (h : TmX X (evE cl (.chain ea eb ec)) σ H Q) : tChain (r2B X (opC .le)) (r2B X (opC .le)) (TmX X (evE cl ea)) (TmX X (evE cl eb)) (TmX X (evE cl ec)) σ H Q := by
  obtain ⟨ρ, as, ex, st, wd, er, q⟩ := h
  have q : Aft X.K X.w (Rp X.K X.w) as ex H (M.bind (evE cl ea ρ) (fun x => M.bind (evE cl eb ρ) fun y => M.bind (M.ofO (opC .le x y)) fun k => match k with
    | true => M.bind (evE cl ec ρ) fun z => M.bind (M.ofO (opC .le y z)) fun k => M.pure (.bl k)
    | false => M.pure (.bl false)) st) _ := q
  obtain ⟨x, st1, e1, q1⟩ := q.isOk
  obtain ⟨y, st2, e2, q2⟩ := q1.isOk
  obtain ⟨k, st3, e3, q3⟩ := q2.isOk
  obtain ⟨e4, rfl⟩ := ofO_ok e3
  refine ⟨ρ, as, ex, st, wd, er, Aft.ofOk e1 fun as1 H1 v x1 w1 r1 => ⟨ρ, as1, ex, st1, w1, er.mono x1.pre (x1.same (ex := ex)), Aft.ofOk e2 fun as2 H2 u x2 w2 r2 => ?_⟩⟩
  refine ⟨x, y, .bl k, as2, ex, _, w2, r1.mono x2.pre (x2.same (ex := ex)), r2, by show Option.map D.bl _ = _; rw [e4]; rfl, fun as3 H3 z x3 w3 r3 => ⟨k, bl_of r3 rfl, ?_⟩⟩
  have x13 := x1.trans (x2.trans x3)
  have er3 := er.mono x13.pre (x13.same (ex := ex))
  cases k with
  | false => exact (if_neg Bool.false_ne_true).mpr (q3 as3 H3 _ x13 w3 (.bl _))
  | true =>
    refine (if_pos rfl).mpr ?_
    obtain ⟨c, st4, e5, q5⟩ := Aft.isOk q3
    obtain ⟨k2, st6, e6, q6⟩ := q5.isOk
    obtain ⟨e7, rfl⟩ := ofO_ok e6
    refine ⟨ρ, as3, ex, _, w3, er3, Aft.ofOk e5 fun as4 H4 u4 x4 w4 r4 => ?_⟩
    have r2' := r2.mono (x3.pre.trans x4.pre) fun b o q => x4.same (ex := ex) b o (x3.same b o q)
    exact ⟨y, c, .bl k2, as4, ex, _, w4, r2', r4, by show Option.map D.bl _ = _; rw [e7]; rfl, fun as5 H5 z5 x5 w5 r5 => q6 as5 H5 z5 (x13.trans (x4.trans x5)) w5 r5⟩
theorem and_read {ea eb : E} {σ : L2.St} {H : Hp} {Q : VK} (h : TmX X (evE cl (.and ea eb)) σ H Q) : TmX X (evE cl ea) σ H fun x H1 => ∃ c, x = .bl c ∧ if c = true then TmX X (evE cl eb) σ H1 Q else Q (.bl false) H1 := by
  obtain ⟨ρ, as, ex, st, wd, er, q⟩ := h
  have q : Aft X.K X.w (Rp X.K X.w) as ex H (M.bind (evE cl ea ρ) (fun x => M.bind (truth x) fun k => match k with
    | true => evE cl eb ρ
    | false => M.pure (.bl false)) st) _ := q
  obtain ⟨x, st1, e1, q1⟩ := q.isOk
  obtain ⟨k, st2, e2, q2⟩ := q1.isOk
  obtain ⟨rfl, rfl⟩ := truth_ok e2
  refine ⟨ρ, as, ex, st, wd, er, Aft.ofOk e1 fun as1 H1 v x1 w1 r1 => ⟨k, bl_of r1 rfl, ?_⟩⟩
  have er1 := er.mono x1.pre (x1.same (ex := ex))
  cases k with
  | true => exact (if_pos rfl).mpr ⟨ρ, as1, ex, _, w1, er1, q2.ext x1⟩
  | false => exact (if_neg Bool.false_ne_true).mpr (q2 as1 H1 (.bl false) x1 w1 (.bl _))
theorem or_read {ea eb : E} {σ : L2.St} {H : Hp} {Q : VK} (h : TmX X (evE cl (.or ea eb)) σ H Q) : TmX X (evE cl ea) σ H fun x H1 => ∃ c, x = .bl c ∧ if c = true then Q (.bl true) H1 else TmX X (evE cl eb) σ H1 Q := by
  obtain ⟨ρ, as, ex, st, wd, er, q⟩ := h
  have q : Aft X.K X.w (Rp X.K X.w) as ex H (M.bind (evE cl ea ρ) (fun x => M.bind (truth x) fun k => match k with
    | true => M.pure (.bl true)
    | false => evE cl eb ρ) st) _ := q
  obtain ⟨x, st1, e1, q1⟩ := q.isOk
  obtain ⟨k, st2, e2, q2⟩ := q1.isOk
  obtain ⟨rfl, rfl⟩ := truth_ok e2
  refine ⟨ρ, as, ex, st, wd, er, Aft.ofOk e1 fun as1 H1 v x1 w1 r1 => ⟨k, bl_of r1 rfl, ?_⟩⟩
  have er1 := er.mono x1.pre (x1.same (ex := ex))
  cases k with
  | true => exact (if_pos rfl).mpr (q2 as1 H1 (.bl true) x1 w1 (.bl _))
  | false => exact (if_neg Bool.false_ne_true).mpr ⟨ρ, as1, ex, _, w1, er1, q2.ext x1⟩
theorem e_and {a b : Expr} {rest : List Expr} {ea eb : E} (ha : PE X a (TmX X (evE cl ea))) (hb : PE X (.BoolOp .And (b :: rest) pos) (TmX X (evE cl eb))) : PE X (.BoolOp .And (a :: b :: rest) pos) (TmX X (evE cl (.and ea eb))) := (pe_and ha hb).imp fun σ H Q h => and_read h
theorem e_or {a b : Expr} {rest : List Expr} {ea eb : E} (ha : PE X a (TmX X (evE cl ea))) (hb : PE X (.BoolOp .Or (b :: rest) pos) (TmX X (evE cl eb))) : PE X (.BoolOp .Or (a :: b :: rest) pos) (TmX X (evE cl (.or ea eb))) := (pe_or ha hb).imp fun σ H Q h => or_read h
theorem tb_of {m : List (Option D) → M D} {σ : L2.St} {H : Hp} {Q Q' : VK} (h : TmX X m σ H Q) (i : ∀ v H, Q v H → Q' v H) : TmX X m σ H Q' := by
  obtain ⟨ρ, as, ex, st, wd, er, q⟩ := h
  exact ⟨ρ, as, ex, st, wd, er, q.mono i⟩
theorem w_and1 {a : Expr} {ea : E} (ha : PT X a (tB (TmX X (evE cl ea)))) : PW X (.BoolOp .And [a] pos) (tB (TmX X (evE cl ea))) := pw_and1 ha
theorem w_or1 {a : Expr} {ea : E} (ha : PT X a (tB (TmX X (evE cl ea)))) : PW X (.BoolOp .Or [a] pos) (tB (TmX X (evE cl ea))) := pw_or1 ha
theorem w_and {a b : Expr} {rest : List Expr} {ea eb : E} (ha : PT X a (tB (TmX X (evE cl ea)))) (hb : PW X (.BoolOp .And (b :: rest) pos) (tB (TmX X (evE cl eb)))) : PW X (.BoolOp .And (a :: b :: rest) pos) (tB (TmX X (evE cl (.and ea eb)))) :=
  (pw_and ha hb).imp fun σ H Q h => tb_of (and_read h) fun v H1 ⟨c, e, q⟩ => ⟨c, e, by
    cases c with
    | true => exact q
    | false =>
      obtain ⟨k, ek, z⟩ := (show ∃ k, V.bl false = .bl k ∧ Q k H1 from q)
      cases ek
      exact z⟩
theorem w_or {a b : Expr} {rest : List Expr} {ea eb : E} (ha : PT X a (tB (TmX X (evE cl ea)))) (hb : PW X (.BoolOp .Or (b :: rest) pos) (tB (TmX X (evE cl eb)))) : PW X (.BoolOp .Or (a :: b :: rest) pos) (tB (TmX X (evE cl (.or ea eb)))) :=
  (pw_or ha hb).imp fun σ H Q h => tb_of (or_read h) fun v H1 ⟨c, e, q⟩ => ⟨c, e, by
    cases c with
    | false => exact q
    | true =>
      obtain ⟨k, ek, z⟩ := (show ∃ k, V.bl true = .bl k ∧ Q k H1 from q)
      cases ek
      exact z⟩
theorem e_chain {a b c : Expr} {ea eb ec : E} (ho : OpR X (compareOp .LtE) (r2B X (opC .le))) (ha : PE X a (TmX X (evE cl ea))) (hb : PE X b (TmX X (evE cl eb))) (hc : PE X c (TmX X (evE cl ec))) (hm : lastMarks [.LtE, .LtE] [b, c] = false := by with_unfolding_all rfl) :
    PE X (.Compare a [.LtE, .LtE] [b, c] pos) (TmX X (evE cl (.chain ea eb ec))) := (pe_chain ho ho ha hb hc hm).imp fun σ H Q h => chain_read h
theorem t_chain {a b c : Expr} {ea eb ec : E} (ho : OpR X (compareOp .LtE) (r2B X (opC .le))) (ha : PE X a (TmX X (evE cl ea))) (hb : PE X b (TmX X (evE cl eb))) (hc : PE X c (TmX X (evE cl ec))) (hm : lastMarks [.LtE, .LtE] [b, c] = false := by with_unfolding_all rfl) :
    PT X (.Compare a [.LtE, .LtE] [b, c] pos) (tB (TmX X (evE cl (.chain ea eb ec)))) := (pt_chain ho ho ha hb hc hm).imp fun σ H Q h => chain_read h
theorem a_nil : PA X [] (TmL X (evEs cl .enil)) := pa_nil.imp fun σ H Q ⟨ρ, as, ex, st, wd, er, q⟩ => q as H [] (Ext.refl _ _) wd .nil
theorem a_cons {e : Expr} {es : List Expr} {ea er : E} (ha : PE X e (TmX X (evE cl ea))) (hr : PA X es (TmL X (evEs cl er))) (hs : starEach (e :: es) X.env = (false, eval e X.env) :: starEach es X.env := by rfl) : PA X (e :: es) (TmL X (evEs cl (.econs ea er))) :=
  (pa_cons ha hr hs).imp fun σ H Q ⟨ρ, as, ex, st, wd, er', q⟩ => by
    have q : Aft X.K X.w (RpL X.K X.w) as ex H (M.bind (evE cl ea ρ) (fun x => M.bind (evEs cl er ρ) fun xs => M.pure (x :: xs)) st) _ := q
    obtain ⟨x, st1, e1, q1⟩ := q.isOk
    obtain ⟨xs, st2, e2, q2⟩ := q1.isOk
    exact ⟨ρ, as, ex, st, wd, er', Aft.ofOk e1 fun as1 H1 v x1 w1 r1 => ⟨ρ, as1, ex, st1, w1, er'.mono x1.pre (x1.same (ex := ex)), Aft.ofOk e2 fun as2 H2 u x2 w2 r2 => q2 as2 H2 (v :: u) (x1.trans x2) w2 (.cons (r1.mono x2.pre (x2.same (ex := ex))) r2)⟩⟩
theorem e_tup {es : List Expr} {k : Nat} {ee : E} (h : PA X es (TmL X (evEs cl ee))) : PE X (.Tuple es k pos) (TmX X (evE cl (.tup ee))) := (pe_tupN h).imp fun σ H Q ⟨ρ, as, ex, st, wd, er, q⟩ => by
  have q : Aft X.K X.w (Rp X.K X.w) as ex H (M.bind (evEs cl ee ρ) (fun xs => M.ofO (sizeOk xs.length (.tup xs))) st) _ := q
  obtain ⟨xs, st1, e1, q1⟩ := q.isOk
  obtain ⟨d, e2, q2⟩ := q1.ofO
  obtain ⟨hl, rfl⟩ := sizeOk_ok e2
  exact ⟨ρ, as, ex, st, wd, er, Aft.ofOk e1 fun as1 H1 v x1 w1 r1 => ⟨by rw [r1.length]; exact hl, Wn.tup w1 (fun as2 H2 u x2 => q2 as2 H2 u (x1.trans x2)) r1⟩⟩
theorem e_lst {es : List Expr} {ee : E} (h : PA X es (TmL X (evEs cl ee))) : PE X (.List es pos) (TmX X (evE cl (.lst ee))) := (pe_lst h).imp fun σ H Q ⟨ρ, as, ex, st, wd, er, q⟩ => by
  have q : Aft X.K X.w (Rp X.K X.w) as ex H (M.bind (evEs cl ee ρ) (fun xs => M.ofO (sizeOk xs.length (.lst xs))) st) _ := q
  obtain ⟨xs, st1, e1, q1⟩ := q.isOk
  obtain ⟨d, e2, q2⟩ := q1.ofO
  obtain ⟨hl, rfl⟩ := sizeOk_ok e2
  exact ⟨ρ, as, ex, st, wd, er, Aft.ofOk e1 fun as1 H1 v x1 w1 r1 => ⟨by rw [r1.length]; exact hl, Wn.lst w1 (fun as2 H2 u x2 => q2 as2 H2 u (x1.trans x2)) r1⟩⟩
theorem bi_read {b : Bi} {ee : E} {σ : L2.St} {H : Hp} {Q : VK} (h : TmX X (evE cl (.bi b ee)) σ H Q) : tCB (rBi X b) (TmL X (evEs cl ee)) σ H Q := by
  obtain ⟨ρ, as, ex, st, wd, er, q⟩ := h
  have q : Aft X.K X.w (Rp X.K X.w) as ex H (M.bind (evEs cl ee ρ) (fun xs => M.ofO (opBi b xs)) st) _ := q
  obtain ⟨xs, st1, e1, q1⟩ := q.isOk
  obtain ⟨d, e2, q2⟩ := q1.ofO
  exact ⟨ρ, as, ex, st, wd, er, Aft.ofOk e1 fun as1 H1 v x1 w1 r1 => ⟨xs, d, as1, ex, st1, w1, r1, e2, fun as2 H2 u x2 => q2 as2 H2 u (x1.trans x2)⟩⟩
theorem e_bi {x : Str} {p : Pos} {e : Expr} {es : List Expr} {b : Bi} {ee : E} {id : String} (hc : CallR X (.builtin id) (rBi X b)) (hg : Gl X x) (hm : X.mg x = none) (hv : bootBuiltins x = some (.builtin id)) (ha : PA X (e :: es) (TmL X (evEs cl ee))) (hn : x ≠ "__name__" := by decide) (hdb : (x == ("__debug__" : Str)) = false := by decide)
    (he : starEach (e :: es) X.env = (false, eval e X.env) :: starEach es X.env := by rfl) (hpl : (backTo pos (starEach es X.env)).any (·.1) = false := by rfl) : PE X (.Call (.Name x p) (e :: es) [] pos) (TmX X (evE cl (.bi b ee))) := (pe_callB hc hg hm hv ha hn hdb he hpl).imp fun σ H Q h => bi_read h
theorem e_biT {x : Str} {p : Pos} {e : Expr} {es : List Expr} {b : Bi} {ee : E} {T : String} (hc : CallR X (.type T) (rBi X b)) (hg : Gl X x) (hm : X.mg x = none) (hv : bootBuiltins x = some (.type T)) (ha : PA X (e :: es) (TmL X (evEs cl ee))) (hn : x ≠ "__name__" := by decide) (hdb : (x == ("__debug__" : Str)) = false := by decide)
    (he : starEach (e :: es) X.env = (false, eval e X.env) :: starEach es X.env := by rfl) (hpl : (backTo pos (starEach es X.env)).any (·.1) = false := by rfl) : PE X (.Call (.Name x p) (e :: es) [] pos) (TmX X (evE cl (.bi b ee))) := (pe_callTy hc hg hm hv ha hn hdb he hpl).imp fun σ H Q h => bi_read h
theorem e_idx {a b : Expr} {ea eb : E} (ha : PE X a (TmX X (evE cl ea))) (hb : PE X b (TmX X (evE cl eb))) (hs : PlainIx b) : PE X (.Subscript a b pos) (TmX X (evE cl (.idx ea eb))) := (pe_ix ix_q ha hb hs).imp fun σ H Q ⟨ρ, as, ex, st, wd, er, q⟩ => by
  have q : Aft X.K X.w (Rp X.K X.w) as ex H (M.bind (evE cl ea ρ) (fun x => M.bind (evE cl eb ρ) fun y => ixM x y) st) _ := q
  obtain ⟨x, st1, e1, q1⟩ := q.isOk
  obtain ⟨y, st2, e2, q2⟩ := q1.isOk
  have hx : ∃ d, ixM x y st2 = .ok d st2 := by
    cases e : ixM x y st2 with
    | ok d st3 =>
      refine ⟨d, ?_⟩
      unfold ixM at e
      split at e
      · split at e
        · split at e
          · cases e; rfl
          · cases e
        · cases e
      · split at e
        · cases e; rfl
        · cases e
    | err a b => rw [e] at q2; exact q2.elim
    | stuck => rw [e] at q2; exact q2.elim
  obtain ⟨d, e3⟩ := hx
  have q3 := q2.got e3
  exact ⟨ρ, as, ex, st, wd, er, Aft.ofOk e1 fun as1 H1 v x1 w1 r1 => ⟨ρ, as1, ex, st1, w1, er.mono x1.pre (x1.same (ex := ex)), Aft.ofOk e2 fun as2 H2 u x2 w2 r2 =>
    ⟨x, y, d, as2, ex, st2, w2, r1.mono x2.pre (x2.same (ex := ex)), r2, e3, fun as3 H3 z x3 => q3 as3 H3 z (x1.trans (x2.trans x3))⟩⟩⟩
abbrev TmO (X : Cx) (m : List (Option D) → M D) : TO := Tm X.K X.w (fun _ _ (a b : Option Int) => a = b) (fun ρ => M.bind (m ρ) fun y => M.ofO (optInt y))
theorem _root_.L2.PO.imp {X : Cx} {e : Option Expr} {t t' : TO} (h : PO X e t) (i : ∀ σ H Q, t' σ H Q → t σ H Q) : PO X e t' := ⟨fun pins s σ H Q I q => h.run pins s σ H Q I (i σ H Q q)⟩
theorem o_none : PO X none (TmO X (evE cl (.const .non))) := po_none.imp fun σ H Q ⟨ρ, as, ex, st, wd, er, q⟩ => q as H none (Ext.refl _ _) wd rfl
theorem o_some {e : Expr} {ee : E} (h : PE X e (TmX X (evE cl ee))) : PO X (some e) (TmO X (evE cl ee)) := by
  refine ⟨fun pins s σ H Q I ⟨ρ, as, ex, st, wd, er, q⟩ => ?_⟩
  obtain ⟨d, st1, e1, q1⟩ := q.isOk
  obtain ⟨o, e2, q2⟩ := q1.ofO
  rw [evalPart_some]
  refine thn (h.run pins s σ H (fun x H1 => Q o H1 ∧ ((x = .non ∧ o = none) ∨ ∃ i, x = .int i ∧ o = some i)) I ⟨ρ, as, ex, st, wd, er, Aft.ofOk e1 fun as1 H1 v x1 w1 r1 => ⟨q2 as1 H1 o x1 w1 rfl, ?_⟩⟩) fun u s1 ⟨x, H1, I1, r1, q1, alt⟩ => ?_
  · cases r1 with
    | non => cases e2; exact .inl ⟨rfl, rfl⟩
    | int i => cases e2; exact .inr ⟨i, rfl, rfl⟩
    | _ => cases e2
  · rcases alt with ⟨rfl, rfl⟩ | ⟨i, rfl, rfl⟩
    · cases r1
      exact ⟨none, H1, I1, .none, q1⟩
    · obtain ⟨t, rfl⟩ := r1
      exact ⟨some i, H1, I1, .int i t, q1⟩
theorem e_slc {a : Expr} {lo hi : Option Expr} {ea el eh : E} {p2 : Pos} (ha : PE X a (TmX X (evE cl ea))) (hl : PO X lo (TmO X (evE cl el))) (hh : PO X hi (TmO X (evE cl eh))) : PE X (.Subscript a (.Slice lo hi none p2) pos) (TmX X (evE cl (.slc ea el eh))) := (pe_slice sl_q ha hl hh).imp fun σ H Q ⟨ρ, as, ex, st, wd, er, q⟩ => by
  have q : Aft X.K X.w (Rp X.K X.w) as ex H (M.bind (evE cl ea ρ) (fun x => M.bind (evE cl el ρ) fun y => M.bind (M.ofO (optInt y)) fun l => M.bind (evE cl eh ρ) fun z => M.bind (M.ofO (optInt z)) fun h => M.ofO (opSl x l h)) st) _ := q
  obtain ⟨x, st1, e1, q1⟩ := q.isOk
  obtain ⟨y, st2, e2, q2⟩ := q1.isOk
  obtain ⟨l, st3, e3, q3⟩ := q2.isOk
  obtain ⟨g3, rfl⟩ := ofO_ok e3
  obtain ⟨z, st4, e4, q4⟩ := q3.isOk
  obtain ⟨h, st5, e5, q5⟩ := q4.isOk
  obtain ⟨g5, rfl⟩ := ofO_ok e5
  obtain ⟨d, e6, q6⟩ := q5.ofO
  have f2 : M.bind (evE cl el ρ) (fun y => M.ofO (optInt y)) st1 = .ok l st3 := by
    unfold M.bind
    rw [e2]
    show M.ofO (optInt y) st3 = _
    rw [g3]
    rfl
  have f4 : M.bind (evE cl eh ρ) (fun y => M.ofO (optInt y)) st3 = .ok h st5 := by
    unfold M.bind
    rw [e4]
    show M.ofO (optInt z) st5 = _
    rw [g5]
    rfl
  refine ⟨ρ, as, ex, st, wd, er, Aft.ofOk e1 fun as1 H1 v x1 w1 r1 => ⟨ρ, as1, ex, st1, w1, er.mono x1.pre (x1.same (ex := ex)), Aft.ofOk f2 fun as2 H2 u x2 w2 r2 => ?_⟩⟩
  subst r2
  have x12 := x1.trans x2
  refine ⟨ρ, as2, ex, _, w2, er.mono x12.pre (x12.same (ex := ex)), Aft.ofOk f4 fun as3 H3 u3 x3 w3 r3 => ?_⟩
  subst r3
  exact ⟨x, d, as3, ex, _, w3, r1.mono (x2.pre.trans x3.pre) (fun b o k => x3.same (ex := ex) b o (x2.same b o k)), e6, fun as4 H4 u4 x4 => q6 as4 H4 u4 (x12.trans (x3.trans x4))⟩
end
end Q
end
section
set_option Elab.async false
set_option linter.all false
set_option maxRecDepth 100000
set_option maxHeartbeats 2000000
namespace Q
open PySem PySem.Spec PyProof.Rows L2
section
variable {X : Cx} {cl : Str → List D → M D} {pos : Pos}
theorem tup_read {ee : E} {σ : L2.St} {H : Hp} {Q : VK} (h : TmX X (evE cl (.tup ee)) σ H Q) : tTupN (TmL X (evEs cl ee)) σ H Q := by
  obtain ⟨ρ, as, ex, st, wd, er, q⟩ := h
  have q : Aft X.K X.w (Rp X.K X.w) as ex H (M.bind (evEs cl ee ρ) (fun xs => M.ofO (sizeOk xs.length (.tup xs))) st) _ := q
  obtain ⟨xs, st1, e1, q1⟩ := q.isOk
  obtain ⟨d, e2, q2⟩ := q1.ofO
  obtain ⟨hl, rfl⟩ := sizeOk_ok e2
  exact ⟨ρ, as, ex, st, wd, er, Aft.ofOk e1 fun as1 H1 v x1 w1 r1 => ⟨by rw [r1.length]; exact hl, Wn.tup w1 (fun as2 H2 u x2 => q2 as2 H2 u (x1.trans x2)) r1⟩⟩
theorem laidI {pins : List (Addr × Obj)} {σ : L2.St} {H : Hp} {s : Shared} {xs : List V} {its : List Value} (I : Inv X pins σ H s) (r : Vals xs its) (hz : xs.length ≤ sizeLine) : Inv X pins σ (upd H s.heap.objs.size (.frz (tupOb its) (.tup xs))) { s with heap := s.heap.push (tupOb its) } := by
  have kp : ∀ b u, s.heap.get? b = some u → (s.heap.push (tupOb its)).get? b = some u := fun b u e => Heap.get?_push_of_some _ e
  have here : (s.heap.push (tupOb its)).get? s.heap.objs.size = some (tupOb its) := Heap.get?_push_size _ rfl
  exact I.laid (t' := s.toks) (o := .frz (tupOb its) (.tup xs)) kp (Nat.le_refl _) ⟨here, hz, its, r, ⟨_, here, rfl, _, rfl⟩⟩
theorem rp_at {as ex : List Addr} {H : Hp} {p : Addr} {o : Obj} {xs : List V} {d : D} (hp : H p = some (.frz o (.tup xs))) (hk : X.K.lookup p = none) {ds : List D} (r : Rp X.K X.w as (gH as ex H) (.tup ds) (.ref p)) : RpL X.K X.w as (gH as ex H) ds xs := by
  cases r with
  | tup h r =>
    rcases h with ⟨o', h, _⟩ | ⟨o', its, n, h, _⟩
    · have := gH_same _ _ h
      rw [hp] at this
      cases this
      exact r
    · rw [hk] at h
      cases h
theorem no_K {pins : List (Addr × Obj)} {σ : L2.St} {H : Hp} {s : Shared} (I : Inv X pins σ H s) : X.K.lookup s.heap.objs.size = none := by
  cases e : X.K.lookup s.heap.objs.size with
  | none => rfl
  | some o =>
    have h := Heap.lt_size (I.kIn _ _ e)
    exact absurd h (Nat.lt_irrefl _)
theorem s_par2 {i j : Nat} {x y : Str} {es : List Expr} {ee : E} {px py pt pt2 : Pos} {kt k2 : Nat} (hc : X.calm = true) (hN : X.N.Nodup) (hi : X.N[i]? = some x) (hj : X.N[j]? = some y) (hij : i ≠ j)
    (hx : X.env.scope.names.lookup x = some .local) (hy : X.env.scope.names.lookup y = some .local) (ha : PA X es (TmL X (evEs cl ee)))
    (hw : swappedStores [.Tuple [.Name x px, .Name y py] kt pt] (.Tuple es k2 pt2) X.env = pure (some [x, y])) :
    PS X (.Assign [.Tuple [.Name x px, .Name y py] kt pt] (.Tuple es k2 pt2) pos) (tAsg (TmX X (evE cl (.tup ee))) (TmGX X (.tup (.cons (.slot i) (.cons (.slot j) .nil))))) := by
  refine ⟨fun pins s σ H D I h => ?_⟩
  have h := tup_read h
  have hs : swapsWithSole [.Tuple [.Name x px, .Name y py] kt pt] (.Tuple es k2 pt2) pos.line X.env = pure false := by rfl
  rw [exec_Assign_arm]
  refine wpAny_bind (wpAny_standAt ?_)
  rw [hs]
  refine wpAny_bind (wpAny_pure ?_)
  rw [if_neg (by decide)]
  refine wpAny_bind (wpAny_Tuple_spliced (thn (ha.run _ pins s σ H _ I h) fun us s1 ⟨vs, H1, I1, r1, z, q1⟩ => ⟨by rw [← r1.length]; exact z, ?_⟩))
  have I2 := laidI I1 r1 z
  obtain ⟨ρ, as, ex, st, d, ρ', wd, er, rd, eb, hq⟩ := q1 _ (tupOb us) (I1.hok.fresh (Nat.le_refl _)) rfl rfl
  rw [hw]
  refine wpAny_bind (wpAny_pure ?_)
  cases d with
  | tup ds =>
    have rl := rp_at (d := .tup ds) upd_same (no_K I1) rd
    have hl := go_len _ ds _ _ (show bindT.go (.cons (.slot i) (.cons (.slot j) .nil)) ds ρ = some ρ' from eb)
    match ds, rl, eb, hl with
    | [d1, d2], rl, eb, _ =>
      obtain ⟨v, us1, rfl, a1, t1⟩ := rpL_cons rl
      obtain ⟨w, us2, rfl, a2, t2⟩ := rpL_cons t1
      cases t2
      obtain ⟨u1, u2, rfl, rv, rw'⟩ : ∃ u1 u2, us = [u1, u2] ∧ RelV v u1 ∧ RelV w u2 := by
        cases r1 with
        | cons p q =>
          cases q with
          | cons p' q' =>
            cases q'
            exact ⟨_, _, rfl, p, p'⟩
      show wpAny (model X.prog X.w) X.A (do rule "assign.swapped-stores"; let items ← unpackItems (.ref s1.heap.objs.size) 2 none; assignInOrder [fun v => bindName X.env y v, fun v => bindName X.env x v] items.reverse; pure PySem.Flow.next) _ _ _
      refine wpAny_bind (wpAny_rule (wpAny_bind (unpackItems_tuple (items := #[u1, u2]) (I.ok.hd hc) (IsTup.new s1.heap _) fun h' hx' => ?_)))
      have I3 := I2.kept (h' := h') (t' := s1.toks) fun b o e => hx' b o (Nat.ne_of_lt (Heap.lt_size e)) e
      show wpAny _ _ (assignInOrder [fun v => bindName X.env y v, fun v => bindName X.env x v] [u2, u1] >>= fun _ => pure PySem.Flow.next) _ _ _
      refine wpAny_bind (assignInOrder_cons (wpAny_bindName (store_ok I3 hN hj (.inl hy) rw' (fun s2 I4 => ?_) (.inr hy))))
      refine assignInOrder_cons (wpAny_bindName (store_ok I4 hN hi (.inl hx) rv (fun s3 I5 => assignInOrder_nil (wpAny_pure ?_)) (.inr hx)))
      rw [List.set_comm _ _ (Ne.symm hij)] at I5
      cases eb
      exact ⟨_, _, I5, hq _ ((er.set a1).set a2) ((Agr.set σ i _).trans ((Agr.set _ j _).trans (Agr.refl [] _)))⟩
  | _ => cases eb
theorem s_par3 {i j l : Nat} {x y zz : Str} {es : List Expr} {ee : E} {px py pz pt pt2 : Pos} {kt k2 : Nat} (hc : X.calm = true) (hN : X.N.Nodup) (hi : X.N[i]? = some x) (hj : X.N[j]? = some y) (hk : X.N[l]? = some zz) (hij : i ≠ j) (hil : i ≠ l) (hjl : j ≠ l)
    (hx : X.env.scope.names.lookup x = some .local) (hy : X.env.scope.names.lookup y = some .local) (hz : X.env.scope.names.lookup zz = some .local) (ha : PA X es (TmL X (evEs cl ee)))
    (hw : swappedStores [.Tuple [.Name x px, .Name y py, .Name zz pz] kt pt] (.Tuple es k2 pt2) X.env = pure (some [x, y, zz])) :
    PS X (.Assign [.Tuple [.Name x px, .Name y py, .Name zz pz] kt pt] (.Tuple es k2 pt2) pos) (tAsg (TmX X (evE cl (.tup ee))) (TmGX X (.tup (.cons (.slot i) (.cons (.slot j) (.cons (.slot l) .nil)))))) := by
  refine ⟨fun pins s σ H D I h => ?_⟩
  have h := tup_read h
  have hs : swapsWithSole [.Tuple [.Name x px, .Name y py, .Name zz pz] kt pt] (.Tuple es k2 pt2) pos.line X.env = pure false := by rfl
  rw [exec_Assign_arm]
  refine wpAny_bind (wpAny_standAt ?_)
  rw [hs]
  refine wpAny_bind (wpAny_pure ?_)
  rw [if_neg (by decide)]
  refine wpAny_bind (wpAny_Tuple_spliced (thn (ha.run _ pins s σ H _ I h) fun us s1 ⟨vs, H1, I1, r1, z, q1⟩ => ⟨by rw [← r1.length]; exact z, ?_⟩))
  have I2 := laidI I1 r1 z
  obtain ⟨ρ, as, ex, st, d, ρ', wd, er, rd, eb, hq⟩ := q1 _ (tupOb us) (I1.hok.fresh (Nat.le_refl _)) rfl rfl
  rw [hw]
  refine wpAny_bind (wpAny_pure ?_)
  cases d with
  | tup ds =>
    have rl := rp_at (d := .tup ds) upd_same (no_K I1) rd
    have hl := go_len _ ds _ _ (show bindT.go (.cons (.slot i) (.cons (.slot j) (.cons (.slot l) .nil))) ds ρ = some ρ' from eb)
    match ds, rl, eb, hl with
    | [d1, d2, d3], rl, eb, _ =>
      obtain ⟨v, us1, rfl, a1, t1⟩ := rpL_cons rl
      obtain ⟨w, us2, rfl, a2, t2⟩ := rpL_cons t1
      obtain ⟨w3, us3, rfl, a3, t3⟩ := rpL_cons t2
      cases t3
      obtain ⟨u1, u2, u3, rfl, rv, rw', rw3⟩ : ∃ u1 u2 u3, us = [u1, u2, u3] ∧ RelV v u1 ∧ RelV w u2 ∧ RelV w3 u3 := by
        cases r1 with
        | cons p q =>
          cases q with
          | cons p' q' =>
            cases q' with
            | cons p'' q'' =>
              cases q''
              exact ⟨_, _, _, rfl, p, p', p''⟩
      show wpAny (model X.prog X.w) X.A (do rule "assign.swapped-stores"; let items ← unpackItems (.ref s1.heap.objs.size) 3 none; assignInOrder [fun v => bindName X.env zz v, fun v => bindName X.env y v, fun v => bindName X.env x v] items.reverse; pure PySem.Flow.next) _ _ _
      refine wpAny_bind (wpAny_rule (wpAny_bind (unpackItems_tuple (items := #[u1, u2, u3]) (I.ok.hd hc) (IsTup.new s1.heap _) fun h' hx' => ?_)))
      have I3 := I2.kept (h' := h') (t' := s1.toks) fun b o e => hx' b o (Nat.ne_of_lt (Heap.lt_size e)) e
      show wpAny _ _ (assignInOrder [fun v => bindName X.env zz v, fun v => bindName X.env y v, fun v => bindName X.env x v] [u3, u2, u1] >>= fun _ => pure PySem.Flow.next) _ _ _
      refine wpAny_bind (assignInOrder_cons (wpAny_bindName (store_ok I3 hN hk (.inl hz) rw3 (fun s2 I4 => ?_) (.inr hz))))
      refine assignInOrder_cons (wpAny_bindName (store_ok I4 hN hj (.inl hy) rw' (fun s3 I5 => ?_) (.inr hy)))
      refine assignInOrder_cons (wpAny_bindName (store_ok I5 hN hi (.inl hx) rv (fun s4 I6 => assignInOrder_nil (wpAny_pure ?_)) (.inr hx)))
      rw [List.set_comm _ _ (Ne.symm hjl), List.set_comm _ _ (Ne.symm hil), List.set_comm _ _ (Ne.symm hij)] at I6
      cases eb
      exact ⟨_, _, I6, hq _ (((er.set a1).set a2).set a3) ((Agr.set σ i _).trans ((Agr.set _ j _).trans ((Agr.set _ l _).trans (Agr.refl [] _))))⟩
  | _ => cases eb
theorem e_any {e : Expr} {a : E} (h : ∀ ρ st, evE cl a ρ st = .stuck) : PE X e (TmX X (evE cl a)) := ⟨fun pins s σ H Q I ⟨ρ, as, ex, st, wd, er, q⟩ => by
  rw [h] at q
  exact q.elim⟩
theorem t_any {e : Expr} {a : E} (h : ∀ ρ st, evE cl a ρ st = .stuck) : PT X e (tB (TmX X (evE cl a))) := ⟨fun pins s σ H Q I ⟨ρ, as, ex, st, wd, er, q⟩ => by
  rw [h] at q
  exact q.elim⟩
theorem s_any {st : List Stmt} {a : S} (h : ∀ ρ st, evS cl a ρ st = .stuck) : PSs X st (TmSX X (evS cl a)) := ⟨fun pins s σ H D I ⟨ρ, as, ex, st, wd, er, q⟩ => by
  rw [h] at q
  exact q.elim⟩
theorem e_and1 {b : Expr} {t : TE} (h : PE X b t) : PE X (.BoolOp .And [b] pos) t := ⟨fun pins s σ H Q I q => h.run pins s σ H Q I q⟩
theorem e_or1 {b : Expr} {t : TE} (h : PE X b t) : PE X (.BoolOp .Or [b] pos) t := ⟨fun pins s σ H Q I q => h.run pins s σ H Q I q⟩
theorem e_neg {a : Expr} {ea : E} (h : PE X a (TmX X (evE cl ea))) : PE X (.UnaryOp .USub a pos) (TmX X (evE cl (.neg ea))) := (pe_un un_neg h).imp fun σ H Q ⟨ρ, as, ex, st, wd, er, q⟩ => by
  have q : Aft X.K X.w (Rp X.K X.w) as ex H (M.bind (evE cl ea ρ) (fun x => match x with
    | .int i => M.pure (.int (-i))
    | _ => M.stuck) st) _ := q
  obtain ⟨x, st1, e1, q1⟩ := q.isOk
  cases x with
  | int i => exact ⟨ρ, as, ex, st, wd, er, Aft.ofOk e1 fun as1 H1 v x1 w1 r1 => by
      cases r1
      exact ⟨i, rfl, q1 as1 H1 (.int (-i)) x1 w1 (.int _)⟩⟩
  | _ => exact q1.elim
theorem e_isi {x : Str} {p : Pos} {e : Expr} {y : Str} {py : Pos} {t : Ty} {ee : E} (hg : Gl X "isinstance") (hm : X.mg "isinstance" = none) (hy : Gl X y) (hmy : X.mg y = none) (ey : y = Str.ofString t.name) (ha : PE X e (TmX X (evE cl ee)))
    (he : starEach (e :: [.Name y py]) X.env = (false, eval e X.env) :: starEach [.Name y py] X.env) : PE X (.Call (.Name "isinstance" p) [e, .Name y py] [] pos) (TmX X (evE cl (.bi (.isinst t) (.econs ee .enil)))) := by
  have hb : bootBuiltins y = some (.type t.name) := by subst ey; cases t <;> rfl
  have hn : y ≠ "__name__" := by subst ey; cases t <;> decide
  have hd : (y == ("__debug__" : Str)) = false := by subst ey; cases t <;> decide
  refine (pe_callB (call_isiQ t) hg hm (by rfl) (pa_cons ha (pa_cons (pe_bltn hy hmy hb (v := .ty t.name) rfl hn hd) pa_nil rfl) he) (by decide) (by decide) he rfl).imp fun σ H Q ⟨ρ, as, ex, st, wd, er, q⟩ => ?_
  have q : Aft X.K X.w (Rp X.K X.w) as ex H (M.bind (M.bind (evE cl ee ρ) fun x => M.bind (M.pure []) fun xs => M.pure (x :: xs)) (fun xs => M.ofO (opBi (.isinst t) xs)) st) _ := q
  obtain ⟨xs, st1, e1, q1⟩ := q.isOk
  obtain ⟨a, st2, e2, e3⟩ := bind_ok e1
  cases e3
  obtain ⟨d, e4, q2⟩ := q1.ofO
  exact ⟨ρ, as, ex, st, wd, er, Aft.ofOk e2 fun as1 H1 v x1 w1 r1 => ⟨a, v, d, as1, ex, _, rfl, w1, r1, e4, fun as2 H2 u x2 => q2 as2 H2 u (x1.trans x2)⟩⟩
def spQ (K : PySem.W.Frag) (w : World) (ps : Nat) (f : List D → M D) : Sp := fun vs H Q _ => vs.length = ps ∧ ∃ ds as ex st, Wd K w as ex H st ∧ RpL K w as (gH as ex H) ds vs ∧ Aft K w (Rp K w) as ex H (f ds st) Q
theorem e_call {f : Str} {p : Pos} {e : Expr} {es : List Expr} {ee : E} {k j ps : Nat} (c : C8.Cal X.prog X.w X.K X.mg X.base k f (spQ X.K X.w ps (cl f)) []) (hps : ∀ ds st, ds.length ≠ ps → cl f ds st = .stuck) (hr : Room j X.A) (hk : k ≤ j) (hg : Gl X f) (hd : (f == ("__debug__" : Str)) = false)
    (ha : PA X (e :: es) (TmL X (evEs cl ee))) (he : starEach (e :: es) X.env = (false, eval e X.env) :: starEach es X.env) (hpl : (backTo pos (starEach es X.env)).any (·.1) = false) :
    PE X (.Call (.Name f p) (e :: es) [] pos) (TmX X (evE cl (.call f ee))) := (C8.pe_c c hr hk hg ha hd he hpl).imp fun σ H Q ⟨ρ, as, ex, st, wd, er, q⟩ => by
  have q : Aft X.K X.w (Rp X.K X.w) as ex H (M.bind (evEs cl ee ρ) (fun xs => cl f xs) st) _ := q
  obtain ⟨xs, st1, e1, q1⟩ := q.isOk
  have hl : xs.length = ps := Decidable.byContradiction fun z => by
    rw [hps xs st1 z] at q1
    exact q1.elim
  refine ⟨ρ, as, ex, st, wd, er, Aft.ofOk e1 fun as1 H1 v x1 w1 r1 => ?_⟩
  rw [List.append_nil]
  exact ⟨by rw [r1.length]; exact hl, xs, as1, ex, st1, w1, r1, q1.ext x1⟩
theorem ixN_nat {n m : Nat} (h : m < n) : ixN n (Int.ofNat m) = some m := by
  unfold ixN
  have h1 : (0 : Int) ≤ Int.ofNat m := Int.natCast_nonneg m
  have h2 : Int.ofNat m < (n : Int) := Int.ofNat_lt.mpr h
  rw [if_pos h1, if_pos h2]
  rfl
theorem Ext.cell {as as' : List Addr} {H H' : Hp} {a : Addr} {o : HO} (e : Ext as H as' H') (ha : a ∈ as') : Ext as H as' (upd H' a o) :=
  ⟨e.pre, e.new, fun b u hb q => by
    have hne : b ≠ a := fun z => by
      subst z
      rw [e.new b ha hb] at q
      cases q
    rw [upd_ne hne]
    exact e.keep b u hb q⟩
theorem same_cell {as ex : List Addr} {H : Hp} {a : Addr} {o : HO} (ha : a ∈ as) : Same (gH as ex H) (gH as ex (upd H a o)) := fun b u q => by
  obtain ⟨h1, h2, h3⟩ := gH_some.mp q
  have hne : b ≠ a := fun z => by
    subst z
    exact h2 ha
  exact gH_some.mpr ⟨by rw [upd_ne hne]; exact h1, h2, h3⟩
theorem Wd.cell {K : PySem.W.Frag} {w : World} {as ex : List Addr} {H : Hp} {st : List D} {n : Nat} {a : Addr} {ds : List D} {vs : List V} (x : Wd K w as ex H st) (ha : as[n]? = some a) (r : RpL K w as (gH as ex H) ds vs) : Wd K w as ex (upd H a (.lst vs)) (st.set n (.lst ds)) := by
  have hm := List.mem_of_getElem? ha
  refine ⟨x.nd, by rw [List.length_set]; exact x.len, x.ax, fun b hb => ?_, fun i b d h1 h2 => ?_⟩
  · obtain ⟨o, q⟩ := x.exs b hb
    have hne : b ≠ a := fun z => by
      subst z
      exact x.ax _ hm hb
    exact ⟨o, by rw [upd_ne hne]; exact q⟩
  · by_cases hi : n = i
    · subst hi
      rw [ha] at h1
      cases h1
      have hl : n < st.length := by rw [← x.len]; exact (List.getElem?_eq_some_iff.mp ha).1
      rw [List.getElem?_set, if_pos rfl, if_pos hl] at h2
      cases h2
      exact ⟨ds, vs, rfl, upd_same, r.mono (List.prefix_refl _) (same_cell hm)⟩
    · rw [List.getElem?_set_ne hi] at h2
      obtain ⟨ds', vs', e, hH, rl⟩ := x.cells i b d h1 h2
      have hne : b ≠ a := fun z => by
        subst z
        exact hi ((List.getElem?_inj (List.getElem?_eq_some_iff.mp ha).1 x.nd).mp (ha.trans h1.symm))
      exact ⟨ds', vs', e, by rw [upd_ne hne]; exact hH, rl.mono (List.prefix_refl _) (same_cell hm)⟩
theorem s_put {o i v : Expr} {tpos : Pos} {rest : List Stmt} {eo ei ev : E} {r : S} (ho : PE X o (TmX X (evE cl eo))) (hi : PE X i (TmX X (evE cl ei))) (hv : PE X v (TmX X (evE cl ev))) (hr : PSs X rest (TmSX X (evS cl r)))
    (hs : swapsWithSole [.Subscript o i tpos] v pos.line X.env = pure false) (ha : ∀ v, assign (.Subscript o i tpos) X.env v = (do
      let ov ← holding [v] (eval o X.env)
      let iv ← holding [v, ov] (eval i X.env)
      standAt tpos
      holding [v, ov, iv] (setItem ov iv v)
      release [v, ov, iv] [])) : PSs X (.Assign [.Subscript o i tpos] v pos :: rest) (TmSX X (evS cl (.put eo ei ev r))) :=
  (pss_cons (ps_asg hv (pg_sub ho hi set_list ha) hs) hr).imp fun De σ H ⟨ρ, as, ex, st, wd, er, h⟩ => by
    rw [evS] at h
    obtain ⟨d, st1, e1, h⟩ := h.isOk
    obtain ⟨x, st2, e2, h⟩ := AftS.isOk h
    obtain ⟨k, st3, e3, h⟩ := AftS.isOk h
    refine ⟨ρ, as, ex, st, wd, er, Aft.ofOk e1 fun as1 H1 v x1 w1 r1 => ⟨ρ, as1, ex, st1, w1, er.mono x1.pre (x1.same (ex := ex)), Aft.ofOk e2 fun as2 H2 u x2 w2 r2 => ?_⟩⟩
    have x12 := x1.trans x2
    refine ⟨ρ, as2, ex, st2, w2, er.mono x12.pre (x12.same (ex := ex)), Aft.ofOk e3 fun as3 H3 z x3 w3 r3 => ?_⟩
    have x13 := x12.trans x3
    have er3 := er.mono x13.pre (x13.same (ex := ex))
    have r1 := r1.mono (x2.pre.trans x3.pre) fun b o k => x3.same (ex := ex) b o (x2.same b o k)
    have r2 := r2.mono x3.pre (x3.same (ex := ex))
    cases x with
    | cell n =>
      cases k with
      | int j =>
        dsimp only at h
        cases en : st3[n]? with
        | none => rw [en] at h; exact h.elim
        | some c =>
          rw [en] at h
          cases c with
          | lst xs =>
            cases j with
            | ofNat m =>
              dsimp only at h
              cases eb : Nat.blt m xs.length with
              | false => rw [eb] at h; exact h.elim
              | true =>
                rw [eb] at h
                have hm : m < xs.length := by rw [Nat.blt_eq] at eb; exact eb
                cases r2 with
                | cell ea =>
                  cases r3
                  obtain ⟨ds, vs, ed, hH, rl⟩ := w3.cells n _ _ ea en
                  cases ed
                  have hl := rl.length
                  refine ⟨_, vs, Int.ofNat m, m, rfl, rfl, hH, ?_, ρ, as3, ex, st3.set n (.lst (xs.set m d)), ?_, ?_, ?_⟩
                  · exact ixN_nat (by rw [hl]; exact hm)
                  · exact w3.cell ea (rl.set r1 m)
                  · exact er3.mono (List.prefix_refl _) (same_cell (List.mem_of_getElem? ea))
                  · exact AftS.ext (x13.cell (List.mem_of_getElem? ea)) h
            | _ => exact h.elim
          | _ => exact h.elim
      | _ => exact h.elim
    | _ => exact h.elim
end
end Q
end
section
set_option Elab.async false
set_option linter.all false
set_option maxRecDepth 100000
set_option maxHeartbeats 2000000
namespace Q
open PySem PySem.Spec PyProof.Rows L2
open PySem.Sem (wp)
open AutoSeq1 (wpAny_loadPart')
theorem meets_enumerate_newT (l : Addr) (items : Array Value) (n : Nat) (dct : Option Addr) (sl : Array (Option Value)) :
    Meets (Builtin.«enumerate.__new__» ⟨[.type "enumerate", .ref l], []⟩) (fun _ R s => s.heap.get? l = some { cls := .type "tuple", dict := dct, data := .seq items n, slots := sl } ∧
      R (.ok (.ret (.ref (s.heap.push { cls := .type "tuple_iterator", data := .fields #[.ref l, .int 0 0] }).objs.size)))
        { s with heap := (s.heap.push { cls := .type "tuple_iterator", data := .fields #[.ref l, .int 0 0] }).push { cls := .type "enumerate", data := .fields #[.none, .bool false, .ref s.heap.objs.size, rawInt 0, .none, .none] } }) :=
  .of_wp fun prog w A R s h => by
    obtain ⟨hp, g, d, tk, os⟩ := s; obtain ⟨hl, h⟩ := h
    have hsub := sub_enumerate
    have hL : Heap.IsTuple (Shared.heap ⟨hp, g, d, tk, os⟩) l items := ⟨_, hl, rfl, n, rfl⟩
    wp_walk using wpAny_loadPart' hl
    refine wpAny_stack_any fun st => wpAny_pure ?_
    split
    · rename_i c _ _ _ _ _
      cases (c == Value.type "enumerate")
      · wp_walk using wpAny_loadPart' hl, wpAny_pyIter_tuple hL
        exact ⟨_, rfl, h⟩
      · wp_walk using wpAny_loadPart' hl, wpAny_pyIter_tuple hL
        exact ⟨_, rfl, h⟩
    · wp_walk using wpAny_loadPart' hl, wpAny_pyIter_tuple hL
      exact ⟨_, rfl, h⟩
theorem call_enumerate_tuple {prog : Program} {w : World} {A : Around} {E : Value → Shared → Prop} {s : Shared} {l : Addr} {items : Array Value} {Q : Value → Shared → Prop} (hL : s.heap.IsTuple l items)
    (h : ∀ h', IsEnum h' (s.heap.objs.size + 1) s.heap.objs.size 0 .none → h'.IsTupleIter s.heap.objs.size l 0 → h'.objs.size = s.heap.objs.size + 2 →
      (∀ b o, s.heap.get? b = some o → h'.get? b = some o) → Q (.ref (s.heap.objs.size + 1)) { s with heap := h' }) :
    wpAny (model prog w) A (call (.type "enumerate") [.ref l]) Q E s := by
  obtain ⟨⟨c, dct, dt, sl⟩, hl, hc, n, hd⟩ := hL
  replace hc : c = .type "tuple" := hc
  replace hd : dt = .seq items n := hd
  subst hc hd
  refine callType_new PySem.F.called_enumerate (by decide) (PySem.F.typeCall_enumerate_1 _) (PySem.F.newCall_enumerate_1 _) (fun obj => PySem.F.args_object_init_2 obj _) PySem.F.entry_enumerate_new
    (meets_enumerate_newT l items n dct sl) ⟨hl, ?_⟩
  have hz : (s.heap.push { cls := .type "tuple_iterator", data := .fields #[.ref l, .int 0 0] }).objs.size = s.heap.objs.size + 1 := Heap.size_push ..
  show _ ∧ _
  rw [hz]
  have he : IsEnum ((s.heap.push { cls := .type "tuple_iterator", data := .fields #[.ref l, .int 0 0] }).push
      { cls := .type "enumerate", data := .fields #[.none, .bool false, .ref s.heap.objs.size, rawInt 0, .none, .none] }) (s.heap.objs.size + 1) s.heap.objs.size 0 .none := by
    have := Heap.get?_push_size (s.heap.push { cls := .type "tuple_iterator", data := .fields #[.ref l, .int 0 0] })
      (o := { cls := .type "enumerate", data := .fields #[.none, .bool false, .ref s.heap.objs.size, rawInt 0, .none, .none] }) rfl
    rw [hz] at this; exact this
  refine ⟨⟨_, he, rfl⟩, h _ he ⟨_, Heap.get?_push_of_some _ (Heap.get?_push_size _ rfl), rfl, rfl⟩ (by rw [Heap.size_push, hz]) fun b o x => Heap.get?_push_of_some _ (Heap.get?_push_of_some _ x)⟩
def IteT (K : PySem.W.Frag) (a : Addr) : It :=
  ⟨fun i H => ∃ (xs : List V) (x : V), SqT K H a xs ∧ xs[i]? = some x, fun i H v H' => ∃ T x, v = .ref T ∧ H T = none ∧ H' = upd H T (.tup [.int (i : Nat), x]) ∧ ∀ xs, SqT K H a xs → xs[i]? = some x, fun i H => ∃ xs : List V, SqT K H a xs ∧ xs.length ≤ i⟩
theorem turn_enumT {P : Program} {w : World} {K : PySem.W.Frag} {elts : List Expr} {kk : Nat} {tpos : Pos} (a e it : Addr) :
    Turn P w K (.Tuple elts kk tpos) (IteT K a) [e, it] e (fun i h => (∃ old, IsEnum h e it ((i : Nat) : Int) old) ∧ h.IsTupleIter it a i ∧ e ≠ it ∧ e ≠ a ∧ a ≠ it) where
  mem := by simp
  obj := fun i h st b hb => by
    obtain ⟨⟨old, he⟩, ⟨o, ho, hc, hd⟩, _⟩ := st
    have e' : b = e ∨ b = it := by simpa using hb
    rcases e' with z | z
    · rw [z]; exact ⟨_, he, fun v q => nomatch q⟩
    · rw [z]; exact ⟨o, ho, fun v q => by rw [hd] at q; cases q⟩
  keep := fun i h h' st k => let ⟨⟨old, he⟩, hi, hne⟩ := st; ⟨⟨old, k e (by simp) _ he⟩, hi.at fun o q => k it (by simp) o q, hne⟩
  item := by
    intro X hP hw hK hc i pins s σ H E I hf st hg
    subst hP hw hK
    obtain ⟨⟨old, he⟩, hit, hne, hea, hai⟩ := st
    obtain ⟨xs, x, hq, hx⟩ := hg
    obtain ⟨its, rv, p, hz⟩ := I.tuple hq
    obtain ⟨u, hu, ru⟩ := rv.get hx
    have hel : e < s.heap.objs.size := Heap.lt_size he
    have hil : it < s.heap.objs.size := by obtain ⟨_, q, _⟩ := hit; exact Heap.lt_size q
    have hlt : i < its.toArray.size := by
      obtain ⟨h1, _⟩ := List.getElem?_eq_some_iff.mp hu
      simpa using h1
    refine wpAny_pyNext_enum_itemD (Draws.tuple (prog := X.prog) (w := X.w) (A := X.A.in1) (I.ok.hd hc) it a hai its.toArray) he ⟨hit, p⟩ hlt hne (by simp [hne, hea]) fun u' h' tk hu' ho hit' hT hsz hk => ?_
    have eu : u' = u := by
      have hu2 : its.toArray[i]? = some u := by simpa using hu
      rw [hu2] at hu'
      exact (Option.some.inj hu').symm
    subst eu
    refine ⟨_, rfl, wpAny_letOwnedTupleGo_enum (s := { s with heap := h', toks := tk + 1 }) ho fun h'' he' sb => ?_⟩
    have hT2 : h''.get? s.heap.objs.size = some { cls := .type "tuple", data := .seq #[.int i tk, u'] } := (sb.2 _ (Nat.ne_of_gt hel)).trans hT
    have new : ObjOk X.prog X.w (upd H s.heap.objs.size (.tup [.int (i : Nat), x])) h'' s.heap.objs.size (.tup [.int (i : Nat), x]) :=
      ⟨by show 2 ≤ sizeLine; decide, [.int i tk, u'], .cons ⟨_, rfl⟩ (.cons ru .nil), ⟨_, hT2, rfl, _, rfl⟩⟩
    have I1 : Inv X pins σ (upd H s.heap.objs.size (.tup [.int (i : Nat), x])) { s with heap := h'', toks := tk + 1 } :=
      I.turnedNew (ch := [e, it]) (fun b ob hb q => (sb.2 b (fun z => hb (by simp [z]))).trans (hk b ob (fun z => hb (by simp [z])) (fun z => hb (by simp [z])) q)) hf (Nat.le_refl _) new
    refine ⟨.ref s.heap.objs.size, _, I1, rfl, ⟨_, x, rfl, I.hok.fresh (Nat.le_refl _), rfl, fun ys hy => by rw [I.tuple_inj hy hq]; exact hx⟩, ⟨⟨u', ?_⟩, hit'.1.at fun o q => (sb.2 it (Ne.symm hne)).trans q, hne, hea, hai⟩, fun b hb => ?_⟩
    · have e1 : ((i + 1 : Nat) : Int) = (i : Int) + 1 := by omega
      rw [e1]; exact he'
    · have hb' : b < s.heap.objs.size := by
        have e' : b = e ∨ b = it := by simpa using hb
        rcases e' with z | z
        · rw [z]; exact hel
        · rw [z]; exact hil
      rw [upd_ne (Nat.ne_of_lt hb')]
      exact (hf b hb).1
  done := by
    intro X hP hw hK hc i pins s σ H E I hf st hg
    subst hP hw hK
    obtain ⟨⟨old, he⟩, hit, hne, hea, hai⟩ := st
    obtain ⟨xs, hq, hx⟩ := hg
    obtain ⟨its, rv, p, hz⟩ := I.tuple hq
    obtain ⟨f0, f1, f2, f3, f4, f5⟩ := hf it (by simp)
    have hl := rv.length
    have hT : s.TypeIs (.ref e) "enumerate" := ⟨_, he, rfl⟩
    unfold pyNext
    refine wpAny_bind (wpAny_attempt (wpAny_callSpecial?_slot (name := Str.ofString "__next__") hT PySem.F.slot_enumerate_next
      (wpAny_call_entry PySem.F.slot_enumerate_next hT PySem.F.entry_enumerate_next ?_ (PySem.F.args_enumerate_next_1 _))))
    show wpAny _ _ (field (.ref e) 2 >>= _) _ _ _
    refine wpAny_bind (wpAny_field he rfl (x := .ref it) rfl ?_)
    refine wpAny_bind (RZ.nextOf_tuple_end (I.ok.hd hc) hit p (by simp; omega) fun h' y he' hx' => ?_)
    obtain ⟨o, ho, hcc⟩ := hx'
    refine wpAny_bind (wpAny_isInstance (T := "StopIteration") (b := true) ⟨o, ho, hcc⟩ isSubtype_stop ?_)
    exact wpAny_pure ⟨rfl, I.turned (t' := s.toks) (fun b o hb q => he' b o hb q) f0 f1 f3 f4 f5⟩
  self := fun A i s Q E st h => let ⟨⟨_, he⟩, _⟩ := st; wpAny_pyIter_enum he h
def iEnumA (K : PySem.W.Frag) (ta : TA) : TI := fun σ H R => ta σ H fun vs H1 => ∃ a xs, vs = [.ref a] ∧ ((SqL K H1 a xs ∧ R (Ite K a) H1) ∨ (SqT K H1 a xs ∧ R (IteT K a) H1))
theorem pi_enumA {X : Cx} {e : Expr} {ta : TA} {p pos tpos : Pos} {elts : List Expr} {kk : Nat} (hg : Gl X "enumerate") (hm : X.mg "enumerate" = none) (ha : PA X [e] ta) (hs : starEach [e] X.env = [(false, eval e X.env)]) :
    PI X (.Tuple elts kk tpos) (.Call (.Name "enumerate" p) [e] [] pos) (iEnumA X.K ta) := by
  refine ⟨fun pins s σ H R I h => ?_⟩
  refine Call_ (ld_blt I hg hm boot_enumerate (PyProof.Rows.callWith_type1 (thn (ha.run pos pins s σ H _ I h) fun us s1 ⟨vs, H1, I1, r1, q1⟩ => ?_) hs rfl))
  obtain ⟨a, xs, ex, q1⟩ := q1
  subst ex
  cases r1 with
  | cons r rr =>
    cases rr
    cases r
    have fresh2 : ∀ b ∈ [s1.heap.objs.size + 1, s1.heap.objs.size], FpOk X pins H1 b := fun b hb => by
      have e' : b = s1.heap.objs.size + 1 ∨ b = s1.heap.objs.size := by simpa using hb
      have hle : s1.heap.objs.size ≤ b := by
        rcases e' with z | z
        · rw [z]; exact Nat.le_add_right _ _
        · rw [z]; exact Nat.le_refl _
      exact I1.fpOk hle (I1.hok.fresh hle)
    rcases q1 with ⟨hq, q⟩ | ⟨hq, q⟩
    · obtain ⟨its, rv, p', hz⟩ := I1.list hq
      refine call_enumerate_list p'.isList fun h' he hit hsz hk => wpAny_pyIter_enum he ?_
      have I2 : Inv X pins σ H1 { s1 with heap := h' } := I1.kept (t' := s1.toks) hk
      exact ⟨s1.heap.objs.size + 1, [s1.heap.objs.size + 1, s1.heap.objs.size], _, _, H1, rfl, I2, turn_enum a (s1.heap.objs.size + 1) s1.heap.objs.size, ⟨⟨.none, he⟩, hit, Nat.succ_ne_self _⟩, fresh2, q⟩
    · obtain ⟨its, rv, p', hz⟩ := I1.tuple hq
      have hlt : a < s1.heap.objs.size := by obtain ⟨_, q, _⟩ := id p'; exact Heap.lt_size q
      refine call_enumerate_tuple p' fun h' he hit hsz hk => wpAny_pyIter_enum he ?_
      have I2 : Inv X pins σ H1 { s1 with heap := h' } := I1.kept (t' := s1.toks) hk
      exact ⟨s1.heap.objs.size + 1, [s1.heap.objs.size + 1, s1.heap.objs.size], _, _, H1, rfl, I2, turn_enumT a (s1.heap.objs.size + 1) s1.heap.objs.size, ⟨⟨.none, he⟩, hit, Nat.succ_ne_self _, Nat.ne_of_gt (Nat.lt_succ_of_lt hlt), Nat.ne_of_lt hlt⟩, fresh2, q⟩
theorem enumD_get : ∀ (as : List D) (k i : Nat) (d : D), (enumD as k)[i]? = some d → ∃ a, as[i]? = some a ∧ d = .tup [.int ((k + i : Nat) : Int), a]
  | [], _, _, _, h => by simp [enumD] at h
  | a :: as, k, 0, d, h => by
    rw [enumD] at h
    cases h
    exact ⟨a, rfl, rfl⟩
  | a :: as, k, i + 1, d, h => by
    rw [enumD] at h
    obtain ⟨b, e1, e2⟩ := enumD_get as (k + 1) i d (by simpa using h)
    refine ⟨b, by simpa using e1, ?_⟩
    rw [e2, show k + 1 + i = k + (i + 1) by omega]
theorem enumD_len : ∀ (as : List D) (k : Nat), (enumD as k).length = as.length
  | [], _ => rfl
  | a :: as, k => by rw [enumD, List.length_cons, enumD_len as, List.length_cons]
theorem walk_enumL {K : PySem.W.Frag} {w : World} {as ex : List Addr} {H : Hp} {a : Addr} {ds : List D} {vs : List V} (h : SqL K (gH as ex H) a vs) (r : RpL K w as (gH as ex H) ds vs) : Walk K w (RT K w) as ex H (Ite K a) (enumD ds 0) := by
  have hl : vs.length = ds.length := r.length
  have hz := enumD_len ds 0
  refine ⟨fun i as' ex' H' st hi p s wd => ?_, fun i d as' ex' H' st x H2 hi p s wd hy => ?_, fun as' ex' H' st p s wd => ⟨vs, gH_same.seq (s.seq h), by omega⟩⟩
  · exact ⟨vs, vs[i]'(by omega), gH_same.seq (s.seq h), by simp⟩
  · obtain ⟨T, x1, rfl, hT, rfl, e1⟩ := hy
    obtain ⟨da, i1, rfl⟩ := enumD_get _ _ _ _ hi
    obtain ⟨v, f1, f2⟩ := r.get i1
    have g1 := e1 vs (gH_same.seq (s.seq h))
    rw [f1] at g1
    cases g1
    rw [Nat.zero_add]
    exact ⟨Ext.laid hT, wd.laid hT, rt_new wd hT (.int _) (f2.mono p s)⟩
theorem walk_enumT {K : PySem.W.Frag} {w : World} {as ex : List Addr} {H : Hp} {a : Addr} {ds : List D} {vs : List V} (h : SqT K (gH as ex H) a vs) (r : RpL K w as (gH as ex H) ds vs) : Walk K w (RT K w) as ex H (IteT K a) (enumD ds 0) := by
  have hl : vs.length = ds.length := r.length
  have hz := enumD_len ds 0
  refine ⟨fun i as' ex' H' st hi p s wd => ?_, fun i d as' ex' H' st x H2 hi p s wd hy => ?_, fun as' ex' H' st p s wd => ⟨vs, gH_same.seqT (s.seqT h), by omega⟩⟩
  · exact ⟨vs, vs[i]'(by omega), gH_same.seqT (s.seqT h), by simp⟩
  · obtain ⟨T, x1, rfl, hT, rfl, e1⟩ := hy
    obtain ⟨da, i1, rfl⟩ := enumD_get _ _ _ _ hi
    obtain ⟨v, f1, f2⟩ := r.get i1
    have g1 := e1 vs (gH_same.seqT (s.seqT h))
    rw [f1] at g1
    cases g1
    rw [Nat.zero_add]
    exact ⟨Ext.laid hT, wd.laid hT, rt_new wd hT (.int _) (f2.mono p s)⟩
section
variable {X : Cx} {cl : Str → List D → M D} {pos : Pos}
theorem i_enum {e : Expr} {ea : E} {p tpos : Pos} {elts : List Expr} {kk : Nat} (hg : Gl X "enumerate") (hm : X.mg "enumerate" = none) (ha : PE X e (TmX X (evE cl ea))) (hs : starEach [e] X.env = [(false, eval e X.env)]) :
    PI X (.Tuple elts kk tpos) (.Call (.Name "enumerate" p) [e] [] pos) (TmI X.K X.w (RT X.K X.w) (evI cl (.enum ea))) := by
  refine ⟨fun pins s σ H R I ⟨ρ, as, ex, st, items, st1, wd, er, e0, go⟩ => ?_⟩
  rw [evI] at e0
  obtain ⟨x, st2, e1, e2⟩ := bind_ok e0
  refine (pi_enumA hg hm (pa_cons ha pa_nil hs) hs).run pins s σ H R I ⟨ρ, as, ex, st, wd, er, Aft.ofOk e1 fun as1 H1 v x1 w1 r1 => ?_⟩
  cases x with
  | lst xs =>
    cases e2
    cases r1 with
    | lst a b => exact ⟨_, _, rfl, .inl ⟨.of (gH_same _ _ a), go as1 H1 _ x1 w1 (walk_enumL (.of a) b)⟩⟩
  | tup xs =>
    cases e2
    cases r1 with
    | tup a b => exact ⟨_, _, rfl, .inr ⟨gH_same.seqT a.T, go as1 H1 _ x1 w1 (walk_enumT a.T b)⟩⟩
  | _ => cases e2
theorem e_cel {es : List Expr} {ee : E} (h : PA X es (TmL X (evEs cl ee))) : PE X (.List es pos) (TmX X (evE cl (.cel ee))) := (pe_lst h).imp fun σ H Q ⟨ρ, as, ex, st, wd, er, q⟩ => by
  have q : Aft X.K X.w (Rp X.K X.w) as ex H (M.bind (evEs cl ee ρ) (fun xs => match Nat.ble xs.length LIM with
    | true => fun st => .ok (.cell st.length) (st ++ [.lst xs])
    | false => M.stuck) st) _ := q
  obtain ⟨xs, st1, e1, q1⟩ := q.isOk
  cases hb : Nat.ble xs.length LIM with
  | false => rw [hb] at q1; exact q1.elim
  | true =>
    rw [hb] at q1
    refine ⟨ρ, as, ex, st, wd, er, Aft.ofOk e1 fun as1 H1 vs x1 w1 r1 => ⟨?_, fun p hp => ?_⟩⟩
    · rw [r1.length, ← LIM_eq]
      exact Nat.le_of_ble_eq_true hb
    · have np := w1.notin hp
      have x2 : Ext as1 H1 (as1 ++ [p]) (upd H1 p (.lst vs)) := ⟨List.prefix_append _ _, fun a ha hn => by
          rcases List.mem_append.mp ha with z | z
          · exact absurd z hn
          · rw [List.mem_singleton.mp z]; exact hp, fun b o _ e => by rw [upd_ne (ne_of_none e hp)]; exact e⟩
      have r2 := r1.mono x2.pre (x2.same (ex := ex))
      refine q1 (as1 ++ [p]) (upd H1 p (.lst vs)) (.ref p) (x1.trans x2) ?_ ?_
      · refine ⟨List.nodup_append.mpr ⟨w1.nd, by simp, fun a ha b hb e => np.1 (by rw [List.mem_singleton.mp hb] at e; exact e ▸ ha)⟩, by simp [w1.len], fun a ha => ?_, fun a ha => ?_, fun i a d h1 h2 => ?_⟩
        · rcases List.mem_append.mp ha with z | z
          · exact w1.ax a z
          · rw [List.mem_singleton.mp z]; exact np.2
        · obtain ⟨o, z⟩ := w1.exs a ha
          exact ⟨o, by rw [upd_ne (ne_of_none z hp)]; exact z⟩
        · by_cases hi : i < as1.length
          · rw [List.getElem?_append_left hi] at h1
            rw [List.getElem?_append_left (by rw [← w1.len]; exact hi)] at h2
            obtain ⟨ds, us, e, hH, rl⟩ := w1.cells i a d h1 h2
            exact ⟨ds, us, e, by rw [upd_ne (ne_of_none hH hp)]; exact hH, rl.mono x2.pre x2.same⟩
          · have hi1 : i < (as1 ++ [p]).length := (List.getElem?_eq_some_iff.mp h1).1
            have ei : i = as1.length := by simp at hi1; omega
            subst ei
            have e1 : p = a := by simpa using h1
            have e2 : D.lst xs = d := by rw [w1.len] at h2; simpa using h2
            subst e1 e2
            exact ⟨xs, vs, rfl, upd_same, r2⟩
      · exact .cell (by rw [← w1.len]; simp)
end
end Q
end
section
set_option Elab.async false
set_option linter.all false
set_option maxRecDepth 100000
set_option maxHeartbeats 2000000
namespace Q
open PySem PySem.Spec PyProof.Rows L2
open PySem.Sem (wp)
theorem zip_no_len : typeLookup (.type "zip") "__len__" = pure none := by rw [typeLookup_type, builtinLookup_eq_fast]; kernel_rfl
theorem zip_no_hint : typeLookup (.type "zip") "__length_hint__" = pure none := by rw [typeLookup_type, builtinLookup_eq_fast]; kernel_rfl
abbrev ZipO (h : Heap) (z TI TO a : Addr) (f : Bool) : Prop :=
  h.get? z = some { cls := .type "zip", dict := none, data := .fields #[rawInt a, .bool f, .bool false, .ref TI, .ref TO], slots := #[] }
section
variable {prog : Program} {w : World} {A : Around} {E : Value → Shared → Prop} {s : Shared}
theorem notFree {z TI TO a : Addr} {f : Bool} {oa : Obj} {Q : Bool → Shared → Prop} (hz : ZipO s.heap z TI TO a f) (ha : s.heap.get? a = some oa) (h : ∀ h₁, ZipO h₁ z TI TO a true → Heap.SameBut z s.heap h₁ → Q false { s with heap := h₁ }) :
    wpAny (model prog w) A (Builtin.SmallTypes.ownedTupleIsFree (.ref z)) Q E s := by
  unfold Builtin.SmallTypes.ownedTupleIsFree
  refine wpAny_bind (wpAny_field hz rfl (x := rawInt a) rfl ?_)
  show wpAny _ _ (loadIfAlive ((a : Int).toNat) >>= _) _ _ _
  rw [Int.toNat_natCast]
  refine wpAny_bind (PySem.W.kdx_alive ha ?_)
  simp only [Option.isNone_some, Bool.false_eq_true, if_false]
  refine wpAny_bind (wpAny_field hz rfl (x := .bool f) rfl ?_)
  cases f with
  | true =>
    rw [if_neg (show ¬ ((Value.bool true != Value.bool true) = true) from Bool.false_ne_true)]
    exact wpAny_pure (h s.heap hz (Heap.SameBut.refl z s.heap))
  | false =>
    rw [if_pos (show (Value.bool false != Value.bool true) = true from rfl)]
    exact wpAny_bind (wpAny_setField_rec hz (by simp) fun h₁ hz₁ hs₁ => wpAny_pure (h h₁ hz₁ hs₁))
theorem zipO_item {z TI TO i1 i2 l1 l2 a : Addr} {f : Bool} {oa : Obj} {k1 k2 : Nat} {xs ys : Array Value} {x y : Value} {Q : Value → Shared → Prop} (D : ZipApart z TI TO i1 i2 l1 l2)
    (hz : ZipO s.heap z TI TO a f) (ha : s.heap.get? a = some oa) (hTI : IsPair s.heap TI (.ref i1) (.ref i2))
    (h1 : s.heap.IsListIter i1 l1 k1) (h2 : s.heap.IsListIter i2 l2 k2) (hl1 : s.heap.IsList l1 xs) (hl2 : s.heap.IsList l2 ys) (hx : xs[k1]? = some x) (hy : ys[k2]? = some y)
    (hQ : ∀ h', ZipO h' z TI TO a true → h'.IsListIter i1 l1 (k1 + 1) → h'.IsListIter i2 l2 (k2 + 1) → IsPair h' s.heap.objs.size x y → h'.objs.size = s.heap.objs.size + 1 →
      (∀ c o, c ≠ z → c ≠ i1 → c ≠ i2 → s.heap.get? c = some o → h'.get? c = some o) → Q (.ref s.heap.objs.size) { s with heap := h' }) :
    wpAny (model prog w) A (Builtin.«zip.__next__» ⟨[.ref z], []⟩) (fun fin s' => ∃ v, fin = .done (.ret v) ∧ Q v s') E s := by
  show wpAny _ _ (field (.ref z) 2 >>= _) _ _ _
  refine wpAny_bind (wpAny_field hz rfl (x := .bool false) rfl ?_)
  show wpAny _ _ (field (.ref z) 3 >>= _) _ _ _
  refine wpAny_bind (wpAny_field hz rfl (x := .ref TI) rfl ?_)
  refine wpAny_bind (wpAny_seqItems hTI rfl ?_)
  show wpAny _ _ (Builtin.SmallTypes.ownedTupleIsFree (.ref z) >>= _) _ _ _
  refine wpAny_bind (notFree hz ha fun h₁ hz₁ hs₁ => ?_)
  rw [if_neg Bool.false_ne_true]
  refine wpAny_bind ?_
  rw [← Array.forIn_toList]
  simp only [List.forIn_cons, List.forIn_nil]
  refine wpAny_bind (wpAny_bind (wpAny_holding ?_))
  show wpAny _ _ (Builtin.SmallTypes.nextOf (.ref i1) >>= _) _ _ _
  refine wpAny_bind (wpAny_nextOf_list_item (h1.extBut hs₁.extBut D.i1z) (hl1.extBut hs₁.extBut D.l1z) hx fun h₂ h1₂ hs₂ => wpAny_pure ?_)
  refine wpAny_pure ?_
  refine wpAny_bind (wpAny_bind (wpAny_holding ?_))
  show wpAny _ _ (Builtin.SmallTypes.nextOf (.ref i2) >>= _) _ _ _
  refine wpAny_bind (wpAny_nextOf_list_item ((h2.extBut hs₁.extBut D.i2z).extBut hs₂.extBut D.i12.symm) ((hl2.extBut hs₁.extBut D.l2z).extBut hs₂.extBut D.l2i1) hy fun h₃ h2₃ hs₃ => wpAny_pure ?_)
  refine wpAny_pure (wpAny_pure ?_)
  refine wpAny_bind (wpAny_newTuple ?_ (by show 2 ≤ sizeLine; decide))
  have hsz : h₃.objs.size = s.heap.objs.size := by rw [hs₃.1, hs₂.1, hs₁.1]
  refine wpAny_pure ⟨_, rfl, ?_⟩
  show Q (.ref h₃.objs.size) _
  rw [hsz]
  have hz₃ : ZipO h₃ z TI TO a true := hs₃.extBut _ _ D.i2z.symm (hs₂.extBut _ _ D.i1z.symm hz₁)
  have h1₃ : h₃.IsListIter i1 l1 (k1 + 1) := h1₂.extBut hs₃.extBut D.i12
  have up : ∀ c o, h₃.get? c = some o → (h₃.push { cls := .type "tuple", data := .seq [x, y].toArray }).get? c = some o := fun c o e => Heap.get?_push_of_some _ e
  refine hQ _ (up _ _ hz₃) (h1₃.at fun o e => up _ o e) (h2₃.at fun o e => up _ o e) ?_ (by rw [Heap.size_push, hsz]) fun c o c1 c2 c3 e => up _ _ (hs₃.extBut _ _ c3 (hs₂.extBut _ _ c2 (hs₁.extBut _ _ c1 e)))
  rw [← hsz]
  exact Heap.get?_push_size _ rfl
theorem zipO_end {z TI TO i1 i2 l1 l2 a : Addr} {f : Bool} {oa : Obj} {k1 k2 : Nat} {xs ys : Array Value} {Q : Option Value → Shared → Prop} (hh : A.handled = none) (D : ZipApart z TI TO i1 i2 l1 l2)
    (hz : ZipO s.heap z TI TO a f) (ha : s.heap.get? a = some oa) (hTI : IsPair s.heap TI (.ref i1) (.ref i2))
    (h1 : s.heap.IsListIter i1 l1 k1) (h2 : s.heap.IsListIter i2 l2 k2) (hl1 : s.heap.IsList l1 xs) (hl2 : s.heap.IsList l2 ys) (hend : xs[k1]? = none ∨ ys[k2]? = none)
    (hQ : ∀ h', (∀ c o, c ≠ z → c ≠ i1 → c ≠ i2 → s.heap.get? c = some o → h'.get? c = some o) → Q none { s with heap := h' }) : wpAny (model prog w) A (pyNext (.ref z)) Q E s := by
  have hT : s.TypeIs (.ref z) "zip" := ⟨_, hz, rfl⟩
  unfold pyNext
  refine wpAny_bind (wpAny_attempt (wpAny_callSpecial?_slot (name := Str.ofString "__next__") hT PySem.F.slot_zip_next
    (wpAny_call_entry PySem.F.slot_zip_next hT PySem.F.entry_zip_next ?_ (PySem.F.args_zip_next_1 _))))
  have stop : ∀ h' e, (∀ c o, c ≠ z → c ≠ i1 → c ≠ i2 → s.heap.get? c = some o → h'.get? c = some o) → (∃ o, h'.get? e = some o ∧ o.cls = .type "StopIteration") →
      wpAny (model prog w) A (do if ← isInstance (.ref e) (.type "StopIteration") then pure none else throw (.ref e)) Q E { s with heap := h' } := fun h' e hk he => by
    obtain ⟨o, ho, hc⟩ := he
    refine wpAny_bind (wpAny_isInstance (T := "StopIteration") (b := true) ⟨o, ho, hc⟩ isSubtype_stop ?_)
    exact wpAny_pure (hQ _ hk)
  show wpAny _ _ (field (.ref z) 2 >>= _) _ _ _
  refine wpAny_bind (wpAny_field hz rfl (x := .bool false) rfl ?_)
  show wpAny _ _ (field (.ref z) 3 >>= _) _ _ _
  refine wpAny_bind (wpAny_field hz rfl (x := .ref TI) rfl ?_)
  refine wpAny_bind (wpAny_seqItems hTI rfl ?_)
  show wpAny _ _ (Builtin.SmallTypes.ownedTupleIsFree (.ref z) >>= _) _ _ _
  refine wpAny_bind (notFree hz ha fun h₁ hz₁ hs₁ => ?_)
  rw [if_neg Bool.false_ne_true]
  refine wpAny_bind ?_
  rw [← Array.forIn_toList]
  simp only [List.forIn_cons, List.forIn_nil]
  refine wpAny_bind (wpAny_bind (wpAny_holding ?_))
  show wpAny _ _ (Builtin.SmallTypes.nextOf (.ref i1) >>= _) _ _ _
  cases hx : xs[k1]? with
  | none =>
    refine wpAny_bind (wpAny_nextOf_list_end hh (h1.extBut hs₁.extBut D.i1z) (hl1.extBut hs₁.extBut D.l1z) hx fun h₂ e hs₂ he => ?_)
    exact stop h₂ e (fun c o c1 c2 c3 x => hs₂ _ _ c2 (hs₁.extBut _ _ c1 x)) he
  | some x =>
    have hy : ys[k2]? = none := by
      rcases hend with h | h
      · rw [hx] at h
        cases h
      · exact h
    refine wpAny_bind (wpAny_nextOf_list_item (h1.extBut hs₁.extBut D.i1z) (hl1.extBut hs₁.extBut D.l1z) hx fun h₂ h1₂ hs₂ => wpAny_pure ?_)
    refine wpAny_pure ?_
    refine wpAny_bind (wpAny_bind (wpAny_holding ?_))
    show wpAny _ _ (Builtin.SmallTypes.nextOf (.ref i2) >>= _) _ _ _
    refine wpAny_bind (wpAny_nextOf_list_end hh ((h2.extBut hs₁.extBut D.i2z).extBut hs₂.extBut D.i12.symm) ((hl2.extBut hs₁.extBut D.l2z).extBut hs₂.extBut D.l2i1) hy fun h₃ e hs₃ he => ?_)
    exact stop h₃ e (fun c o c1 c2 c3 x => hs₃ _ _ c3 (hs₂.extBut _ _ c2 (hs₁.extBut _ _ c1 x))) he
theorem zipO_next {z TI TO i1 i2 l1 l2 a : Addr} {f : Bool} {oa : Obj} {k1 k2 : Nat} {xs ys : Array Value} {x y : Value} {Q : Option Value → Shared → Prop} (D : ZipApart z TI TO i1 i2 l1 l2)
    (hz : ZipO s.heap z TI TO a f) (ha : s.heap.get? a = some oa) (hTI : IsPair s.heap TI (.ref i1) (.ref i2))
    (h1 : s.heap.IsListIter i1 l1 k1) (h2 : s.heap.IsListIter i2 l2 k2) (hl1 : s.heap.IsList l1 xs) (hl2 : s.heap.IsList l2 ys) (hx : xs[k1]? = some x) (hy : ys[k2]? = some y)
    (hQ : ∀ h', ZipO h' z TI TO a true → h'.IsListIter i1 l1 (k1 + 1) → h'.IsListIter i2 l2 (k2 + 1) → IsPair h' s.heap.objs.size x y → h'.objs.size = s.heap.objs.size + 1 →
      (∀ c o, c ≠ z → c ≠ i1 → c ≠ i2 → s.heap.get? c = some o → h'.get? c = some o) → Q (some (.ref s.heap.objs.size)) { s with heap := h' }) :
    wpAny (model prog w) A (pyNext (.ref z)) Q E s := by
  have hT : s.TypeIs (.ref z) "zip" := ⟨_, hz, rfl⟩
  unfold pyNext
  exact wpAny_bind (wpAny_attempt (wpAny_callSpecial?_slot (name := Str.ofString "__next__") hT PySem.F.slot_zip_next
    (wpAny_call_entry PySem.F.slot_zip_next hT PySem.F.entry_zip_next
      (zipO_item D hz ha hTI h1 h2 hl1 hl2 hx hy fun h' a1 a2 a3 a4 a5 a6 => wpAny_pure (hQ h' a1 a2 a3 a4 a5 a6)) (PySem.F.args_zip_next_1 _))))
structure ZSt (h : Heap) (z TI TO i1 i2 l1 l2 S : Addr) (i : Nat) (xs ys : Array Value) : Prop where
  z : IsZip h z TI TO .none ∨ ∃ a f oa, ZipO h z TI TO a f ∧ h.get? a = some oa ∧ a ≠ z ∧ a ≠ S ∧ a ≠ i1 ∧ a ≠ i2
  ti : IsPair h TI (.ref i1) (.ref i2)
  to : ∃ u v, IsPair h TO u v
  h1 : h.IsListIter i1 l1 i
  h2 : h.IsListIter i2 l2 i
  l1 : h.IsList l1 xs
  l2 : h.IsList l2 ys
theorem ZSt.keep {h h' : Heap} {z TI TO i1 i2 l1 l2 S : Addr} {i : Nat} {xs ys : Array Value} (st : ZSt h z TI TO i1 i2 l1 l2 S i xs ys) (hz : z ≠ S) (hTI : TI ≠ S) (hTO : TO ≠ S) (h1 : i1 ≠ S) (h2 : i2 ≠ S) (hl1 : l1 ≠ S) (hl2 : l2 ≠ S) (k : ∀ b o, b ≠ S → h.get? b = some o → h'.get? b = some o) : ZSt h' z TI TO i1 i2 l1 l2 S i xs ys := by
  obtain ⟨a, b, ⟨u, v, c⟩, d, e, f, g⟩ := st
  refine ⟨?_, k _ _ hTI b, ⟨u, v, k _ _ hTO c⟩, d.at fun o q => k _ o h1 q, e.at fun o q => k _ o h2 q, f.at fun o q => k _ o hl1 q, g.at fun o q => k _ o hl2 q⟩
  rcases a with a | ⟨p, f, oa, a1, a2, a3, a4, a5⟩
  · exact .inl (k _ _ hz a)
  · exact .inr ⟨p, f, oa, k _ _ hz a1, k _ _ a4 a2, a3, a4, a5⟩
theorem zst_item {z TI TO i1 i2 l1 l2 S : Addr} {i : Nat} {xs ys : Array Value} {x y : Value} {Q : Option Value → Shared → Prop} (D : ZipApart z TI TO i1 i2 l1 l2) (st : ZSt s.heap z TI TO i1 i2 l1 l2 S i xs ys) (hS : S < s.heap.objs.size) (hx : xs[i]? = some x) (hy : ys[i]? = some y)
    (hQ : ∀ h', ZSt h' z TI TO i1 i2 l1 l2 S (i + 1) xs ys → IsPair h' s.heap.objs.size x y → h'.objs.size = s.heap.objs.size + 1 →
      (∀ c o, c ≠ z → c ≠ TO → c ≠ i1 → c ≠ i2 → s.heap.get? c = some o → h'.get? c = some o) → Q (some (.ref s.heap.objs.size)) { s with heap := h' }) :
    wpAny (model prog w) A (pyNext (.ref z)) Q E s := by
  obtain ⟨a, hTI, ⟨u, v, hTO⟩, h1, h2, hl1, hl2⟩ := st
  have lt : ∀ {c o}, s.heap.get? c = some o → s.heap.objs.size ≠ c := fun e => Nat.ne_of_gt (Heap.lt_size e)
  have n1 : s.heap.objs.size ≠ i1 := by obtain ⟨_, e, _⟩ := h1; exact lt e
  have n2 : s.heap.objs.size ≠ i2 := by obtain ⟨_, e, _⟩ := h2; exact lt e
  rcases a with hz | ⟨a, f, oa, hz, ha, a1, a2, a3, a4⟩
  · refine wpAny_pyNext_zip_item D hz hTI hTO h1 h2 hl1 hl2 hx hy fun h' b1 b2 b3 b4 b5 b6 hk => ?_
    exact hQ h' ⟨.inr ⟨_, false, _, b1, b5, lt hz, Nat.ne_of_gt hS, n1, n2⟩, hk _ _ D.TIz D.TITO D.TIi1 D.TIi2 hTI, ⟨_, _, b2⟩, b3, b4, hl1.at fun o e => hk _ o D.l1z D.l1TO D.l1i1 D.l1i2 e, hl2.at fun o e => hk _ o D.l2z D.l2TO D.l2i1 D.l2i2 e⟩ b5 b6 hk
  · refine zipO_next D hz ha hTI h1 h2 hl1 hl2 hx hy fun h' b1 b3 b4 b5 b6 hk => ?_
    exact hQ h' ⟨.inr ⟨a, true, oa, b1, hk _ _ a1 a3 a4 ha, a1, a2, a3, a4⟩, hk _ _ D.TIz D.TIi1 D.TIi2 hTI, ⟨_, _, hk _ _ D.TOz D.TOi1 D.TOi2 hTO⟩, b3, b4, hl1.at fun o e => hk _ o D.l1z D.l1i1 D.l1i2 e, hl2.at fun o e => hk _ o D.l2z D.l2i1 D.l2i2 e⟩ b5 b6 fun c o c1 _ c3 c4 e => hk c o c1 c3 c4 e
theorem zst_done {z TI TO i1 i2 l1 l2 S : Addr} {i : Nat} {xs ys : Array Value} {Q : Option Value → Shared → Prop} (hh : A.handled = none) (D : ZipApart z TI TO i1 i2 l1 l2) (st : ZSt s.heap z TI TO i1 i2 l1 l2 S i xs ys) (hend : xs[i]? = none ∨ ys[i]? = none)
    (hQ : ∀ h', (∀ c o, c ≠ z → c ≠ TO → c ≠ i1 → c ≠ i2 → s.heap.get? c = some o → h'.get? c = some o) → Q none { s with heap := h' }) : wpAny (model prog w) A (pyNext (.ref z)) Q E s := by
  obtain ⟨a, hTI, ⟨u, v, hTO⟩, h1, h2, hl1, hl2⟩ := st
  rcases a with hz | ⟨a, f, oa, hz, ha, a1, a2, a3, a4⟩
  · exact wpAny_pyNext_zip_end hh D hz hTI hTO h1 h2 hl1 hl2 hend fun h' hk => hQ h' hk
  · exact zipO_end hh D hz ha hTI h1 h2 hl1 hl2 hend fun h' hk => hQ h' fun c o c1 _ c3 c4 e => hk c o c1 c3 c4 e
end
structure PrG (xs ys : Array Value) (lo : Addr) (h : Heap) (as : List Addr) : Prop where
  rise : as.Pairwise (· < ·)
  above : ∀ a ∈ as, lo < a
  pairs : ∀ (j : Nat) (a : Addr), as[j]? = some a → ∃ x y, xs[j]? = some x ∧ ys[j]? = some y ∧ IsPair h a x y
theorem PrG.there {xs ys : Array Value} {lo : Addr} {h : Heap} {as : List Addr} (g : PrG xs ys lo h as) {a : Addr} (ha : a ∈ as) : a < h.objs.size := by
  obtain ⟨j, hj⟩ := List.mem_iff_getElem?.mp ha
  obtain ⟨_, _, _, _, e⟩ := g.pairs j a hj
  exact Heap.lt_size e
section
variable {prog : Program} {w : World} {A : Around} {s : Shared} {R : Result → Shared → Prop} {xs ys : Array Value}
theorem lz_loop {z TI TO i1 i2 l1 l2 S : Addr} (hh : A.handled = none) (D : ZipApart z TI TO i1 i2 l1 l2) (zS : z < S) (tiS : TI < S) (toS : TO < S) (i1S : i1 < S) (i2S : i2 < S) (l1S : l1 < S) (l2S : l2 < S) (hn : min xs.size ys.size ≤ sizeLine) (res : Value) {h₁ : Heap}
    (hR : ∀ h' tk acc c as, (∀ b o, b ≠ S → b ≠ z → b ≠ TO → b ≠ i1 → b ≠ i2 → h₁.get? b = some o → h'.get? b = some o) → h'.get? S = some { cls := .type "list", dict := none, data := .seq acc c, slots := #[] } → as.length = min xs.size ys.size → PrG xs ys S h' as →
      acc.toList = as.map Value.ref → R (.ok (.ret res)) { s with heap := h', toks := tk }) :
    ∀ (k i : Nat) (h : Heap) (tk c : Nat) (acc : Array Value) (as : List Addr), min xs.size ys.size - i = k → i ≤ min xs.size ys.size → ZSt h z TI TO i1 i2 l1 l2 S i xs ys → (∀ b o, b ≠ S → b ≠ z → b ≠ TO → b ≠ i1 → b ≠ i2 → h₁.get? b = some o → h.get? b = some o) →
      h.get? S = some { cls := .type "list", dict := none, data := .seq acc c, slots := #[] } → acc.toList = as.map Value.ref → as.length = i → PrG xs ys S h as →
      codeAny (model prog w) A (.builtin "list.extend.loop" ⟨[.ref S, .ref z, res], []⟩) R { s with heap := h, toks := tk } := by
  have nz := Nat.ne_of_lt zS
  have nTO := Nat.ne_of_lt toS
  have n1 := Nat.ne_of_lt i1S
  have n2 := Nat.ne_of_lt i2S
  intro k
  induction k with
  | zero =>
    intro i h tk c acc as hk hi hst hkeep hS hacc hal hG
    refine codeAny_builtin PySem.F.entry_extend_loop ?_
    rw [Around.under_plainId PySem.F.plain_extend_loop _]
    show wpAny _ A.in1 (pyNext (.ref z) >>= _) _ _ _
    have hend : xs[i]? = none ∨ ys[i]? = none := by
      rcases Nat.le_total xs.size ys.size with q | q
      · exact .inl (Array.getElem?_eq_none (by omega))
      · exact .inr (Array.getElem?_eq_none (by omega))
    refine wpAny_bind (zst_done (s := { s with heap := h, toks := tk }) (A := A.in1) hh D hst hend fun h' he => ?_)
    refine wpAny_pure (hR h' tk acc c as (fun b o b1 b2 b3 b4 b5 e => he b o b2 b3 b4 b5 (hkeep b o b1 b2 b3 b4 b5 e)) (he S _ nz.symm nTO.symm n1.symm n2.symm hS) (by omega) ⟨hG.rise, hG.above, fun j a hj => ?_⟩ hacc)
    obtain ⟨x, y, e1, e2, e3⟩ := hG.pairs j a hj
    have ha := hG.above a (List.mem_of_getElem? hj)
    exact ⟨x, y, e1, e2, he a _ (Nat.ne_of_gt (Nat.lt_trans zS ha)) (Nat.ne_of_gt (Nat.lt_trans toS ha)) (Nat.ne_of_gt (Nat.lt_trans i1S ha)) (Nat.ne_of_gt (Nat.lt_trans i2S ha)) e3⟩
  | succ k ih =>
    intro i h tk c acc as hk hi hst hkeep hS hacc hal hG
    have hlt : i < min xs.size ys.size := by omega
    have hx : xs[i]? = some xs[i] := Array.getElem?_eq_getElem (by omega)
    have hy : ys[i]? = some ys[i] := Array.getElem?_eq_getElem (by omega)
    have hsz : acc.size = i := by rw [← Array.length_toList, hacc, List.length_map, hal]
    have hSl : S < h.objs.size := Heap.lt_size hS
    refine codeAny_builtin PySem.F.entry_extend_loop ?_
    rw [Around.under_plainId PySem.F.plain_extend_loop _]
    show wpAny _ A.in1 (pyNext (.ref z) >>= _) _ _ _
    refine wpAny_bind (zst_item (s := { s with heap := h, toks := tk }) D hst hSl hx hy fun h' hst' ht hz hkp => ?_)
    dsimp only at ht hz hkp ⊢
    have hS' := hkp S _ nz.symm nTO.symm n1.symm n2.symm hS
    have up : ∀ b o, b ≠ S → h'.get? b = some o → (h'.update S (Obj.mapSeq (·.push (Value.ref h.objs.size)))).get? b = some o := fun b o hb e => (Heap.get?_update_other _ _ (Ne.symm hb)).trans e
    show wpAny _ A.in1 (updateSeq S (·.push (Value.ref h.objs.size)) >>= _) _ _ _
    refine wpAny_bind ?_
    refine wpAny_updateSeq hS' rfl (wpAny_pure ⟨plainId_quiet PySem.F.plain_extend_loop _, ih (i + 1) _ tk _ (acc.push (Value.ref h.objs.size)) (as ++ [h.objs.size]) (by omega) hlt (hst'.keep nz (Nat.ne_of_lt tiS) nTO n1 n2 (Nat.ne_of_lt l1S) (Nat.ne_of_lt l2S) up)
      (fun b o b1 b2 b3 b4 b5 e => up b o b1 (hkp b o b2 b3 b4 b5 (hkeep b o b1 b2 b3 b4 b5 e))) (Heap.get?_update_self _ hS' rfl) (by rw [Array.toList_push, hacc, List.map_append]; rfl) (by rw [List.length_append, hal]; rfl) ⟨?_, ?_, ?_⟩⟩) (by rw [hsz]; omega) (by show (acc.push (Value.ref h.objs.size)).size ≤ sizeLine + 1; rw [Array.size_push, hsz]; omega)
    · refine List.pairwise_append.mpr ⟨hG.rise, List.pairwise_singleton _ _, fun a ha b hb => ?_⟩
      rw [List.mem_singleton.mp hb]
      exact hG.there ha
    · intro a ha
      rcases List.mem_append.mp ha with ha | ha
      · exact hG.above a ha
      · rw [List.mem_singleton.mp ha]; exact hSl
    · intro j b hj
      rcases Nat.lt_trichotomy j as.length with q | q | q
      · rw [List.getElem?_append_left q] at hj
        obtain ⟨x, y, e1, e2, e3⟩ := hG.pairs j b hj
        have hb := hG.above b (List.mem_of_getElem? hj)
        exact ⟨x, y, e1, e2, up b _ (Nat.ne_of_gt hb) (hkp b _ (Nat.ne_of_gt (Nat.lt_trans zS hb)) (Nat.ne_of_gt (Nat.lt_trans toS hb)) (Nat.ne_of_gt (Nat.lt_trans i1S hb)) (Nat.ne_of_gt (Nat.lt_trans i2S hb)) e3)⟩
      · subst q
        have hb : h.objs.size = b := by simpa using hj
        subst hb
        subst hal
        exact ⟨_, _, hx, hy, up _ _ (Nat.ne_of_gt hSl) ht⟩
      · have hnone : (as ++ [h.objs.size])[j]? = none := List.getElem?_eq_none (by rw [List.length_append, List.length_singleton]; omega)
        rw [hnone] at hj; cases hj
theorem lz_init {z TI TO i1 i2 l1 l2 : Addr} (hh : A.handled = none) (D : ZipApart z TI TO i1 i2 l1 l2) (S : Addr) (zS : z < S) (tiS : TI < S) (toS : TO < S) (i1S : i1 < S) (i2S : i2 < S) (l1S : l1 < S) (l2S : l2 < S) (hn : min xs.size ys.size ≤ sizeLine)
    (hst : ZSt s.heap z TI TO i1 i2 l1 l2 S 0 xs ys) (hS : s.heap.get? S = some { cls := .type "list", data := .seq #[] })
    (hR : ∀ h' tk acc c as, (∀ b o, b ≠ S → b ≠ z → b ≠ TO → b ≠ i1 → b ≠ i2 → s.heap.get? b = some o → h'.get? b = some o) → h'.get? S = some { cls := .type "list", dict := none, data := .seq acc c, slots := #[] } → as.length = min xs.size ys.size → PrG xs ys S h' as →
      acc.toList = as.map Value.ref → R (.ok (.ret .none)) { s with heap := h', toks := tk }) :
    wpAny (model prog w) A.in1 (Builtin.«list.__init__» ⟨[.ref S, .ref z], []⟩)
      (fun fin s' => match fin with | .done f => R (.ok f) s' | .again c' => c'.quiet = true ∧ codeAny (model prog w) A c' R s') (fun e s' => R (.error e) s') s := by
  show wpAny _ _ (do let old ← Builtin.List.listItems (.ref S); Builtin.List.listUpdate (.ref S) (fun _ => #[]); letGo old.toList.reverse; Builtin.List.listExtendWith (.ref S) (.ref z) .none) _ _ s
  refine wpAny_bind ?_
  unfold Builtin.List.listItems
  refine wpAny_bind (wpAny_seqItems hS rfl (wpAny_pure ?_))
  show wpAny _ _ (updateSeq S (fun _ => #[]) >>= fun _ => letGo (#[] : Array Value).toList.reverse >>= fun _ => Builtin.List.listExtendWith (.ref S) (.ref z) .none) _ _ s
  refine wpAny_bind (wpAny_updateSeq hS rfl ?_)
  have hS₂ := Heap.get?_update_self (Obj.mapSeq (fun _ => (#[] : Array Value))) hS rfl
  have oth : ∀ b o, b ≠ S → s.heap.get? b = some o → (s.heap.update S (Obj.mapSeq (fun _ => (#[] : Array Value)))).get? b = some o :=
    fun b o hb e => (Heap.get?_update_other _ _ (Ne.symm hb)).trans e
  refine wpAny_bind (wpAny_letGo ?_)
  have st2 := hst.keep (Nat.ne_of_lt zS) (Nat.ne_of_lt tiS) (Nat.ne_of_lt toS) (Nat.ne_of_lt i1S) (Nat.ne_of_lt i2S) (Nat.ne_of_lt l1S) (Nat.ne_of_lt l2S) oth
  generalize hs2 : s.heap.update S (Obj.mapSeq (fun _ => (#[] : Array Value))) = h2 at hS₂ oth st2
  have hSz : S ≠ z := Nat.ne_of_gt zS
  have hT : Shared.TypeIs { s with heap := h2 } (.ref z) "zip" := by
    rcases st2.z with q | ⟨_, _, _, q, _⟩
    · exact ⟨_, q, rfl⟩
    · exact ⟨_, q, rfl⟩
  unfold Builtin.List.listExtendWith
  refine wpAny_bind (wpAny_typeOf hT ?_)
  have h1 : Builtin.List.listSameRef (.ref S) (.ref z) = false := by simp [Builtin.List.listSameRef, hSz]
  have h2' : (Value.type "zip" == Value.type "list") = false := by decide
  have h3 : (Value.type "zip" == Value.type "tuple") = false := by decide
  simp only [h1, h2', h3, Bool.or_false, Bool.false_eq_true, if_false]
  refine wpAny_bind ?_
  refine wpAny_pyIter_slot hT PySem.F.slot_zip_iter (wpAny_call_entry PySem.F.slot_zip_iter hT PySem.F.entry_zip_iter ?_ (PySem.F.args_zip_iter_1 _))
  show wpAny _ _ (ret (.ref z)) _ _ _
  refine wpAny_pure ⟨_, rfl, "zip", _, hT, PySem.F.slot_zip_next.lookup, ?_⟩
  refine wpAny_bind (wpAny_holding ?_)
  unfold Builtin.List.listLengthHint
  refine wpAny_bind (wpAny_specialOf hT zip_no_len ?_)
  show wpAny _ A.in1 (specialOf (Value.ref z) (Str.ofString "__length_hint__") >>= _) _ _ _
  refine wpAny_bind (wpAny_specialOf hT zip_no_hint ?_)
  refine wpAny_pure ?_
  show wpAny _ A.in1 (rule "list.extend.makes-room" >>= fun _ => Builtin.List.listTouch (.ref S) >>= fun _ =>
    again (.builtin "list.extend.loop" ⟨[.ref S, .ref z, .none], []⟩)) _ _ _
  refine wpAny_bind (wpAny_rule ?_)
  refine wpAny_bind ?_
  show wpAny _ A.in1 (updateSeq S (·.push .none) >>= fun _ => updateSeq S (·.pop)) _ _ _
  have hS₂' : h2.get? S = some { cls := .type "list", data := .seq #[] } := hS₂
  refine wpAny_bind (wpAny_updateSeq hS₂' rfl ?_)
  have hS₃ := Heap.get?_update_self (Obj.mapSeq (·.push Value.none)) hS₂' rfl
  refine wpAny_updateSeq (hz := by seq_fits) hS₃ rfl ?_
  have hS₄ := Heap.get?_update_self (Obj.mapSeq (·.pop)) hS₃ rfl
  have oth4 : ∀ b o, b ≠ S → h2.get? b = some o → ((h2.update S (Obj.mapSeq (·.push Value.none))).update S (Obj.mapSeq (·.pop))).get? b = some o :=
    fun b o hb e => (Heap.get?_update_other _ _ (Ne.symm hb)).trans ((Heap.get?_update_other _ _ (Ne.symm hb)).trans e)
  have st4 := st2.keep (Nat.ne_of_lt zS) (Nat.ne_of_lt tiS) (Nat.ne_of_lt toS) (Nat.ne_of_lt i1S) (Nat.ne_of_lt i2S) (Nat.ne_of_lt l1S) (Nat.ne_of_lt l2S) oth4
  refine wpAny_pure ⟨plainId_quiet PySem.F.plain_extend_loop _, ?_⟩
  exact lz_loop (s := s) (h₁ := s.heap) hh D zS tiS toS i1S i2S l1S l2S hn .none (fun h' tk acc c as hk hS' hl hG hacc => hR h' tk acc c as hk hS' hl hG hacc)
    (min xs.size ys.size) 0 _ _ _ #[] [] (Nat.sub_zero _) (Nat.zero_le _) st4 (fun b o b1 _ _ _ _ e => oth4 b o b1 (oth b o b1 e)) hS₄ rfl rfl ⟨List.Pairwise.nil, (fun _ ha => nomatch ha), fun j a hj => by simp at hj⟩
end
section
variable {prog : Program} {w : World} {A : Around} {E : Value → Shared → Prop} {s : Shared} {xs ys : Array Value}
theorem lz_call {z TI TO i1 i2 l1 l2 : Addr} {Q : Value → Shared → Prop} (hh : A.handled = none) (D : ZipApart z TI TO i1 i2 l1 l2) (hn : min xs.size ys.size ≤ sizeLine)
    (hz : IsZip s.heap z TI TO .none) (hTI : IsPair s.heap TI (.ref i1) (.ref i2)) (hTO : ∃ u v, IsPair s.heap TO u v) (h1 : s.heap.IsListIter i1 l1 0) (h2 : s.heap.IsListIter i2 l2 0) (hl1 : s.heap.IsList l1 xs) (hl2 : s.heap.IsList l2 ys)
    (hQ : ∀ h' tk acc c as, (∀ b o, b ≠ z → b ≠ TO → b ≠ i1 → b ≠ i2 → s.heap.get? b = some o → h'.get? b = some o) → h'.get? s.heap.objs.size = some { cls := .type "list", dict := none, data := .seq acc c, slots := #[] } → as.length = min xs.size ys.size → PrG xs ys s.heap.objs.size h' as →
      acc.toList = as.map Value.ref → Q (.ref s.heap.objs.size) { s with heap := h', toks := tk }) :
    wpAny (model prog w) A (call (.type "list") [.ref z]) Q E s := by
  refine callType_codes (Q₁ := fun obj s₁ => obj = .ref s.heap.objs.size ∧ s₁ = { s with heap := s.heap.push { cls := .type "list", data := .seq #[] } }) PySem.F.called_list (PySem.F.typeCall_list_1 _) PySem.F.entry_list_init
    (code_list_new _ ⟨rfl, rfl⟩) fun obj s₁ h₁ => ?_
  obtain ⟨rfl, rfl⟩ := h₁
  have hS : (s.heap.push { cls := .type "list", data := .seq #[] }).get? s.heap.objs.size = some { cls := .type "list", data := .seq #[] } := Heap.get?_push_size _ rfl
  have up : ∀ b o, s.heap.get? b = some o → (s.heap.push { cls := .type "list", data := .seq #[] }).get? b = some o := fun b o e => Heap.get?_push_of_some _ e
  have li1 : i1 < s.heap.objs.size := by obtain ⟨_, e, _⟩ := h1; exact Heap.lt_size e
  have li2 : i2 < s.heap.objs.size := by obtain ⟨_, e, _⟩ := h2; exact Heap.lt_size e
  have ll1 : l1 < s.heap.objs.size := by obtain ⟨_, e, _⟩ := hl1; exact Heap.lt_size e
  have ll2 : l2 < s.heap.objs.size := by obtain ⟨_, e, _⟩ := hl2; exact Heap.lt_size e
  obtain ⟨u, v, hTO⟩ := hTO
  refine ⟨⟨_, hS, rfl⟩, PySem.F.args_list_init_2 _ _, lz_init (A := A.in1) hh D s.heap.objs.size (Heap.lt_size hz) (Heap.lt_size hTI) (Heap.lt_size hTO) li1 li2 ll1 ll2 hn
    ⟨.inl (up _ _ hz), up _ _ hTI, ⟨u, v, up _ _ hTO⟩, h1.at fun o e => up _ o e, h2.at fun o e => up _ o e, hl1.at fun o e => up _ o e, hl2.at fun o e => up _ o e⟩ hS fun h' tk acc c as hk hS' hl hG hacc => ?_⟩
  exact ⟨rfl, hQ h' tk acc c as (fun b o b2 b3 b4 b5 e => hk b o (Nat.ne_of_lt (Heap.lt_size e)) b2 b3 b4 b5 (up _ _ e)) hS' hl hG hacc⟩
end
end Q
end
section
set_option Elab.async false
set_option linter.all false
set_option maxRecDepth 100000
set_option maxHeartbeats 2000000
namespace Q
open PySem PySem.Spec PyProof.Rows L2
section
variable {X : Cx} {pins : List (Addr × Obj)} {σ : L2.St}
theorem refs_vals : ∀ as : List Addr, Vals (as.map V.ref) (as.map Value.ref)
  | [] => .nil
  | _ :: as => .cons rfl (refs_vals as)
theorem reg_all {s : Shared} {h' : Heap} {tk : Nat} : ∀ (L : List (Addr × V × V)) (H : Hp) (G : Heap) (p : Addr → Bool), Inv X pins σ H { s with heap := G, toks := tk } → (∀ b, p b = true → G.get? b = h'.get? b) → (∀ b, p b = false → G.get? b = none) →
    (L.map (·.1)).Nodup → (∀ q ∈ L, p q.1 = false ∧ H q.1 = none ∧ ∃ x y, IsPair h' q.1 x y ∧ RelV q.2.1 x ∧ RelV q.2.2 y) →
    ∃ (H' : Hp) (G' : Heap), Inv X pins σ H' { s with heap := G', toks := tk } ∧ (∀ b o, G'.get? b = some o → h'.get? b = some o) ∧ (∀ b, p b = false → b ∉ L.map (·.1) → G'.get? b = none) ∧
      (∀ b, b ∉ L.map (·.1) → H' b = H b) ∧ ∀ q ∈ L, ∃ o : Obj, H' q.1 = some (.frz o (.tup [q.2.1, q.2.2])) ∧ o.cls = .type "tuple" ∧ o.dict = none
  | [], H, G, p, I, g1, g2, _, _ => by
    refine ⟨H, G, I, fun b o e => ?_, fun b hp _ => g2 b hp, fun _ _ => rfl, fun q hq => nomatch hq⟩
    cases hp : p b with
    | true => rw [← g1 b hp]; exact e
    | false => rw [g2 b hp] at e; cases e
  | (a, v, u) :: L, H, G, p, I, g1, g2, nd, hL => by
    obtain ⟨hpa, hHa, x, y, hxy, rv, ru⟩ := hL (a, v, u) List.mem_cons_self
    dsimp only at hpa hHa hxy rv ru
    have nd' := List.nodup_cons.mp (by simpa using nd : (a :: L.map (·.1)).Nodup)
    obtain ⟨G1, k1, k2⟩ := restrict h' fun b => p b || decide (b = a)
    have kp : ∀ b o, G.get? b = some o → G1.get? b = some o := fun b o e => by
      cases hp : p b with
      | true => rw [k1 b (by simp [hp]), ← g1 b hp]; exact e
      | false => rw [g2 b hp] at e; cases e
    have here : G1.get? a = some (tupOb [x, y]) := by
      rw [k1 a (by simp)]
      exact hxy
    have I1 := I.laidN (t' := tk) (h' := G1) (a := a) (o := .frz (tupOb [x, y]) (.tup [v, u])) kp (g2 a hpa) hHa ⟨here, by show 2 ≤ sizeLine; decide, [x, y], .cons rv (.cons ru .nil), ⟨_, here, rfl, _, rfl⟩⟩
    obtain ⟨H2, G2, I2, m1, m2, m3, m4⟩ := reg_all (s := s) (h' := h') (tk := tk) L (upd H a (.frz (tupOb [x, y]) (.tup [v, u]))) G1 (fun b => p b || decide (b = a)) I1 k1 k2 nd'.2 fun q hq => by
      obtain ⟨h1, h2, h3⟩ := hL q (List.mem_cons_of_mem _ hq)
      have hne : q.1 ≠ a := fun z => nd'.1 (z ▸ List.mem_map_of_mem hq)
      exact ⟨by simp [h1, hne], by rw [upd_ne hne]; exact h2, h3⟩
    refine ⟨H2, G2, I2, m1, fun b hp hb => ?_, fun b hb => ?_, fun q hq => ?_⟩
    · have hb' : b ≠ a ∧ b ∉ L.map (·.1) := by simpa using hb
      exact m2 b (by simp [hp, hb'.1]) hb'.2
    · have hb' : b ≠ a ∧ b ∉ L.map (·.1) := by simpa using hb
      rw [m3 b hb'.2, upd_ne hb'.1]
    · rcases List.mem_cons.mp hq with z | z
      · subst z
        exact ⟨tupOb [x, y], by rw [m3 a nd'.1]; exact upd_same, rfl, rfl⟩
      · exact m4 q z
def NewPr (H : Hp) (vs us : List V) (Q : VK) : Prop := ∀ (H' : Hp) (S : Addr) (as : List Addr), (∀ b o, H b = some o → H' b = some o) → H S = none → H' S = some (.lst (as.map V.ref)) → as.length = min vs.length us.length →
  (∀ (j : Nat) (a : Addr), as[j]? = some a → ∃ o v u, vs[j]? = some v ∧ us[j]? = some u ∧ H a = none ∧ H' a = some (.frz o (.tup [v, u])) ∧ o.cls = .type "tuple" ∧ o.dict = none) → Q (.ref S) H'
def tLz (K : PySem.W.Frag) (ta : TA) : TE := fun σ H Q => ta σ H fun vs H1 => ∃ a b xs ys, vs = [.ref a, .ref b] ∧ SqL K H1 a xs ∧ SqL K H1 b ys ∧ NewPr H1 xs ys Q
theorem pe_lz {e e2 : Expr} {ta : TA} {p p2 pos pos2 : Pos} (hc : X.calm = true) (hgl : Gl X "list") (hml : X.mg "list" = none) (hg : Gl X "zip") (hm : X.mg "zip" = none) (ha : PA X [e, e2] ta)
    (hs : starEach [e, e2] X.env = (false, eval e X.env) :: starEach [e2] X.env) (hpl : (backTo pos2 (starEach [e2] X.env)).any (·.1) = false) :
    PE X (.Call (.Name "list" p) [.Call (.Name "zip" p2) [e, e2] [] pos2] [] pos) (tLz X.K ta) := by
  refine ⟨fun pins s σ H Q I h => ?_⟩
  refine Call_ (ld_blt I hgl hml boot_list (PyProof.Rows.callWith_type1 ?_ (by rfl) (by rfl)))
  show wpAny _ _ (spliced [(false, eval (.Call (.Name "zip" p2) [e, e2] [] pos2) X.env)]) _ _ _
  refine Calls.spliced_cons ?_
  refine Call_ (ld_blt I hg hm PyProof.Rows.boot_zip (PyProof.Rows.callWith_type1 (thn (ha.run pos2 pins s σ H _ I h) fun us s1 ⟨vs, H1, I1, r1, q1⟩ => ?_) hs hpl))
  obtain ⟨a, b, xs, ys, ex, hqx, hqy, q⟩ := q1
  subst ex
  cases r1 with
  | cons r rr =>
    cases rr with
    | cons r' rr =>
      cases rr
      cases r
      cases r'
      obtain ⟨its, rv, p1, z1⟩ := I1.list hqx
      obtain ⟨its2, rv2, p2, z2⟩ := I1.list hqy
      have lv := rv.length
      have lv2 := rv2.length
      refine call_zip_2 p1.isList p2.isList fun h2 hz hTI hTO h1 h2' hsz hk => Calls.spliced_nil ?_
      have D := PySem.W.ktu_apart s1.heap.objs.size a b p1.lt p2.lt
      have I2 : Inv X pins σ H1 { s1 with heap := h2 } := I1.kept (t' := s1.toks) hk
      have l1' := p1.isList.at fun o e => hk _ o e
      have l2' := p2.isList.at fun o e => hk _ o e
      refine lz_call (s := { s1 with heap := h2 }) (I.ok.hd hc) D (by simp; omega) hz hTI ⟨_, _, hTO⟩ h1 h2' l1' l2' fun h' tk acc c as hkeep hS hlen hG hacc => ?_
      dsimp only at hkeep hS hG ⊢
      obtain ⟨G, g1, g2⟩ := restrict h' fun b => decide (b < h2.objs.size)
      have fresh : ∀ c, c ∈ [s1.heap.objs.size + 4, s1.heap.objs.size + 3, s1.heap.objs.size, s1.heap.objs.size + 1] → FpOk X pins H1 c := fun c hcm => by
        have e' : c = s1.heap.objs.size + 4 ∨ c = s1.heap.objs.size + 3 ∨ c = s1.heap.objs.size ∨ c = s1.heap.objs.size + 1 := by simpa using hcm
        have hle : s1.heap.objs.size ≤ c := by
          rcases e' with z | z | z | z
          · rw [z]; exact Nat.le_add_right _ _
          · rw [z]; exact Nat.le_add_right _ _
          · rw [z]; exact Nat.le_refl _
          · rw [z]; exact Nat.le_add_right _ _
        exact I1.fpOk hle (I1.hok.fresh hle)
      have I3 : Inv X pins σ H1 { s1 with heap := G, toks := tk } := I2.turnedL (t' := tk) (h' := G) (fun c o hcm e => by
        have hlt := Heap.lt_size e
        rw [g1 c (by simpa using hlt)]
        exact hkeep c o (fun z => hcm (by simp [z])) (fun z => hcm (by simp [z])) (fun z => hcm (by simp [z])) (fun z => hcm (by simp [z])) e) fresh
      have hH1 : ∀ a', h2.objs.size ≤ a' → H1 a' = none := fun a' ha' => I2.hok.fresh ha'
      let L : List (Addr × V × V) := as.zip (xs.zip ys)
      have hLl : as.length ≤ (xs.zip ys).length := by rw [hlen, List.length_zip]; simp; omega
      have hL1 : L.map (·.1) = as := by
        show (as.zip (xs.zip ys)).map Prod.fst = as
        rw [List.map_fst_zip]
        exact hLl
      have hmem : ∀ q ∈ L, ∃ j : Nat, as[j]? = some q.1 ∧ xs[j]? = some q.2.1 ∧ ys[j]? = some q.2.2 := fun q hq => by
        obtain ⟨j, hj⟩ := List.mem_iff_getElem?.mp hq
        have hj : (as.zip (xs.zip ys))[j]? = some q := hj
        rw [List.getElem?_zip_eq_some, List.getElem?_zip_eq_some] at hj
        exact ⟨j, hj.1, hj.2.1, hj.2.2⟩
      obtain ⟨H2, G2, I4, m1, m2, m3, m4⟩ := reg_all (X := X) (pins := pins) (σ := σ) (s := s1) (h' := h') (tk := tk) L H1 G _ I3 g1 g2 (by
          rw [hL1]
          exact hG.rise.imp fun h => Nat.ne_of_lt h) fun q hq => by
        obtain ⟨j, e1, e2, e3⟩ := hmem q hq
        obtain ⟨x, y, f1, f2, f3⟩ := hG.pairs j q.1 e1
        have habove := hG.above q.1 (List.mem_of_getElem? e1)
        obtain ⟨x', k1, k2⟩ := rv.get e2
        obtain ⟨y', k3, k4⟩ := rv2.get e3
        have : x' = x := by
          have z : its[j]? = some x := by simpa using f1
          rw [k1] at z
          exact Option.some.inj z
        subst this
        have : y' = y := by
          have z : its2[j]? = some y := by simpa using f2
          rw [k3] at z
          exact Option.some.inj z
        subst this
        exact ⟨by simpa using Nat.le_of_lt habove, hH1 _ (Nat.le_of_lt habove), _, _, f3, k2, k4⟩
      have hSa : h2.objs.size ∉ L.map (·.1) := by
        rw [hL1]
        exact fun z => Nat.lt_irrefl _ (hG.above _ z)
      have hS2 : H2 h2.objs.size = none := by rw [m3 _ hSa]; exact hH1 _ (Nat.le_refl _)
      have rA : Vals (as.map V.ref) acc.toList := by
        rw [hacc]
        exact refs_vals as
      have I5 := I4.laidN (t' := tk) (h' := h') (a := h2.objs.size) (o := .lst (as.map V.ref)) m1 (m2 _ (by simp) hSa) hS2 ⟨by rw [List.length_map, hlen]; simp; omega, acc.toList, c, rA, by simpa using hS⟩
      refine ⟨.ref h2.objs.size, _, I5, rfl, q _ _ as (fun b o e => ?_) (hH1 _ (Nat.le_refl _)) upd_same (by rw [hlen]; simp; omega) fun j a' hj => ?_⟩
      · have hb : b ∉ L.map (·.1) := by
          rw [hL1]
          exact fun z => by
            have := hH1 b (Nat.le_of_lt (hG.above _ z))
            rw [this] at e
            cases e
        have hbs : b ≠ h2.objs.size := fun z => by
          rw [z, hH1 _ (Nat.le_refl _)] at e
          cases e
        rw [upd_ne hbs, m3 b hb]
        exact e
      · have hjl : j < min xs.length ys.length := by
          have := (List.getElem?_eq_some_iff.mp hj).1
          rw [hlen] at this
          simp at this
          omega
        have e2 : xs[j]? = some (xs[j]'(by omega)) := List.getElem?_eq_getElem (by omega)
        have e3 : ys[j]? = some (ys[j]'(by omega)) := List.getElem?_eq_getElem (by omega)
        have hq : (a', xs[j]'(by omega), ys[j]'(by omega)) ∈ L := by
          refine List.mem_iff_getElem?.mpr ⟨j, ?_⟩
          show (as.zip (xs.zip ys))[j]? = _
          rw [List.getElem?_zip_eq_some, List.getElem?_zip_eq_some]
          exact ⟨hj, e2, e3⟩
        obtain ⟨o, n1, n2, n3⟩ := m4 _ hq
        have hne : a' ≠ h2.objs.size := Nat.ne_of_gt (hG.above a' (List.mem_of_getElem? hj))
        exact ⟨o, _, _, e2, e3, hH1 _ (Nat.le_of_lt (hG.above a' (List.mem_of_getElem? hj))), by rw [upd_ne hne]; exact n1, n2, n3⟩

theorem rpL_of : ∀ {K : PySem.W.Frag} {w : World} {as : List Addr} {G : Hp} (l : List D) (vs : List V), l.length = vs.length → (∀ (j : Nat) (d : D) (v : V), l[j]? = some d → vs[j]? = some v → Rp K w as G d v) → RpL K w as G l vs
  | _, _, _, _, [], [], _, _ => .nil
  | _, _, _, _, [], _ :: _, h, _ => by cases h
  | _, _, _, _, _ :: _, [], h, _ => by cases h
  | _, _, _, _, d :: l, v :: vs, h, hr => .cons (hr 0 d v rfl rfl) (rpL_of l vs (by simpa using h) fun j d v h1 h2 => hr (j + 1) d v (by simpa using h1) (by simpa using h2))
theorem e_lzp {cl : Str → List D → M D} {e e2 : Expr} {ea eb : E} {p p2 pos pos2 : Pos} (hc : X.calm = true) (hgl : Gl X "list") (hml : X.mg "list" = none) (hg : Gl X "zip") (hm : X.mg "zip" = none) (ha : PE X e (TmX X (evE cl ea))) (hb : PE X e2 (TmX X (evE cl eb)))
    (hs : starEach [e, e2] X.env = (false, eval e X.env) :: starEach [e2] X.env) (hs2 : starEach [e2] X.env = (false, eval e2 X.env) :: starEach [] X.env) (hpl : (backTo pos2 (starEach [e2] X.env)).any (·.1) = false) :
    PE X (.Call (.Name "list" p) [.Call (.Name "zip" p2) [e, e2] [] pos2] [] pos) (TmX X (evE cl (.lzp ea eb))) :=
  (pe_lz hc hgl hml hg hm (pa_cons ha (pa_cons hb pa_nil hs2) hs) hs hpl).imp fun σ H Q ⟨ρ, as, ex, st, wd, er, q⟩ => by
    have q : Aft X.K X.w (Rp X.K X.w) as ex H (M.bind (evE cl ea ρ) (fun x => M.bind (evE cl eb ρ) fun y => match x, y with
      | .lst xs, .lst ys => M.pure (.lst (zipD xs ys))
      | _, _ => M.stuck) st) _ := q
    obtain ⟨x, st1, e1, q1⟩ := q.isOk
    obtain ⟨y, st2, e2, q2⟩ := q1.isOk
    refine ⟨ρ, as, ex, st, wd, er, Aft.ofOk e1 fun as1 H1 v x1 w1 r1 => ⟨ρ, as1, ex, st1, w1, er.mono x1.pre (x1.same (ex := ex)), Aft.ofOk e2 fun as2 H2 u x2 w2 r2 => ?_⟩⟩
    have x12 := x1.trans x2
    have r1 := r1.mono x2.pre (x2.same (ex := ex))
    cases x with
    | lst xs =>
      cases y with
      | lst ys =>
        dsimp only at q2
        cases r1 with
        | @lst a _ vs hA rA =>
          cases r2 with
          | @lst b _ us hB rB =>
            refine ⟨a, b, vs, us, rfl, .of (gH_same _ _ hA), .of (gH_same _ _ hB), fun H' S as' hk hS hS' hl hp => ?_⟩
            have x3 : Ext as2 H2 as2 H' := ⟨List.prefix_refl _, fun _ h n => absurd h n, fun b o _ e => hk b o e⟩
            have w3 : Wd X.K X.w as2 ex H' st2 := w2.ext x3 fun a _ o e => hk a o e
            have hA' := hA
            have notin : ∀ b, H2 b = none → b ∉ as2 ∧ b ∉ ex := fun b hb => w2.notin hb
            refine q2 as2 H' (.ref S) (x12.trans x3) w3 (.lst (gH_some.mpr ⟨hS', notin S hS⟩) (rpL_of _ _ ?_ fun j d v h1 h2 => ?_))
            · rw [zipD_len, List.length_map, hl, rA.length, rB.length]
            · obtain ⟨da, db, i1, i2, rfl⟩ := zipD_get _ _ _ _ h1
              rw [List.getElem?_map] at h2
              obtain ⟨a', h3, rfl⟩ := Option.map_eq_some_iff.mp h2
              obtain ⟨o, v, u, j1, j2, j0, j3, j4, j5⟩ := hp j a' h3
              obtain ⟨v', f1, f2⟩ := rA.get i1
              obtain ⟨u', f3, f4⟩ := rB.get i2
              rw [j1] at f1
              rw [j2] at f3
              cases f1
              cases f3
              exact .tup (.inl ⟨o, gH_some.mpr ⟨j3, notin a' j0⟩, j4, j5⟩) (.cons (f2.mono x3.pre x3.same) (.cons (f4.mono x3.pre x3.same) .nil))
      | _ => exact q2.elim
    | _ => cases y <;> exact q2.elim

theorem intsV : ∀ {n : Nat} {a : Int} {l : List Value}, l.length = n → (∀ (j : Nat) (v : Value), l[j]? = some v → ∃ t, v = .int (a + j * 1) t) → Vals ((upto a n).map fun | .int i => V.int i | _ => V.non) l
  | 0, _, [], _, _ => .nil
  | 0, _, _ :: _, h, _ => by cases h
  | _ + 1, _, [], h, _ => by cases h
  | n + 1, a, v :: l, h, hv => by
    obtain ⟨t, rfl⟩ := hv 0 v rfl
    have r0 : RelV (V.int a) (Value.int (a + ((0 : Nat) : Int) * 1) t) := ⟨t, by simp⟩
    refine .cons r0 (intsV (n := n) (a := a + 1) (by simpa using h) fun j v hj => ?_)
    obtain ⟨t, rfl⟩ := hv (j + 1) v (by simpa using hj)
    exact ⟨t, by congr 1; omega⟩
theorem uptoL {K : PySem.W.Frag} {w : World} {as : List Addr} {G : Hp} : ∀ (n : Nat) (a : Int), RpL K w as G (upto a n) ((upto a n).map fun | .int i => V.int i | _ => V.non)
  | 0, _ => .nil
  | n + 1, a => .cons (.int a) (uptoL n (a + 1))
theorem e_lrg {cl : Str → List D → M D} {e : Expr} {ea : E} {p p2 pos pos2 : Pos} (hc : X.calm = true) (hgl : Gl X "list") (hml : X.mg "list" = none) (hg : Gl X "range") (hm : X.mg "range" = none) (ha : PE X e (TmX X (evE cl ea)))
    (hs : starEach [e] X.env = [(false, eval e X.env)]) :
    PE X (.Call (.Name "list" p) [.Call (.Name "range" p2) [e] [] pos2] [] pos) (TmX X (evE cl (.lrg ea))) := by
  refine ⟨fun pins s σ H Q I ⟨ρ, as, ex, st, wd, er, q⟩ => ?_⟩
  have q : Aft X.K X.w (Rp X.K X.w) as ex H (M.bind (evE cl ea ρ) (fun x => match x with
    | .int n => M.bind (M.ofO (rangeD 0 n)) fun xs => M.pure (.lst xs)
    | _ => M.stuck) st) _ := q
  obtain ⟨x, st1, e1, q1⟩ := q.isOk
  cases x with
  | int n =>
    obtain ⟨l, st2, e2, q2⟩ := q1.isOk
    obtain ⟨e3, rfl⟩ := ofO_ok e2
    obtain ⟨⟨_, _, b1, b2⟩, rfl⟩ := range_ok e3
    have hsz : n.toNat ≤ 2 ^ 24 := by
      unfold rangeD at e3
      split at e3
      · rename_i z
        rw [Bool.and_eq_true, Bool.and_eq_true] at z
        have := Nat.le_of_ble_eq_true z.2.2
        have e : (n - 0).toNat = n.toNat := by rw [Int.sub_zero]
        rw [e] at this
        exact this
      · cases e3
    refine Call_ (ld_blt I hgl hml boot_list (PyProof.Rows.callWith_type1 ?_ (by rfl) (by rfl)))
    show wpAny _ _ (spliced [(false, eval (.Call (.Name "range" p2) [e] [] pos2) X.env)]) _ _ _
    refine Calls.spliced_cons ?_
    have hA := (pa_cons ha pa_nil hs).run pos2 pins s σ H (fun vs H1 => vs = [.int n] ∧ ∃ as1, Ext as H as1 H1 ∧ Wd X.K X.w as1 ex H1 st2) I ⟨ρ, as, ex, st, wd, er, Aft.ofOk e1 fun as1 H1 v x1 w1 r1 => by
      cases r1
      exact ⟨rfl, as1, x1, w1⟩⟩
    refine Call_ (ld_blt I hg hm boot_range (PyProof.Rows.callWith_type1 (thn hA fun us s1 ⟨vs, H1, I1, r1, ev, as1, x1, w1⟩ => ?_) hs rfl))
    subst ev
    cases r1 with
    | cons r rr =>
      cases rr
      obtain ⟨t, rfl⟩ := r
      refine call_range_1 (Calls.spliced_nil ?_)
      have kp : ∀ b o, s1.heap.get? b = some o → (s1.heap.push { cls := .type "range", data := .fields #[.int 0 s1.toks, .int n t, .int 1 (s1.toks + 1)] }).get? b = some o := fun b o e => Heap.get?_push_of_some _ e
      have I2 : Inv X pins σ H1 { s1 with heap := s1.heap.push { cls := .type "range", data := .fields #[.int 0 s1.toks, .int n t, .int 1 (s1.toks + 1)] }, toks := s1.toks + 1 + 1 } := I1.kept (t' := s1.toks + 1 + 1) kp
      refine call_list_range (s := { s1 with heap := s1.heap.push { cls := .type "range", data := .fields #[.int 0 s1.toks, .int n t, .int 1 (s1.toks + 1)] }, toks := s1.toks + 1 + 1 }) (n := n.toNat) (I.ok.hd hc) (IsRange.new s1.heap 0 n 1 s1.toks t (s1.toks + 1)) (small_one (by decide) (by decide) b1 b2)
        (by rw [rangeSize_nat, Int.sub_zero]) hsz fun h' tk acc c hk hS hacc => ?_
      have hl : acc.toList.length = n.toNat := by rw [Array.length_toList]; exact hacc.1
      have hv := intsV (n := n.toNat) (a := 0) (l := acc.toList) hl fun j v hj => hacc.2 j v (by simpa using hj)
      have hf : H1 (s1.heap.push { cls := .type "range", data := .fields #[.int 0 s1.toks, .int n t, .int 1 (s1.toks + 1)] }).objs.size = none := I2.hok.fresh (Nat.le_refl _)
      have I3 := I2.laid (t' := tk) (h' := h') (o := .lst ((upto 0 n.toNat).map fun | .int i => V.int i | _ => V.non)) hk (Nat.le_refl _) ⟨by rw [List.length_map, upto_len, sizeLine_eq]; exact hsz, acc.toList, c, hv, by simpa using hS⟩
      refine ⟨.ref _, _, I3, rfl, ?_⟩
      have rl : RpL X.K X.w as1 (gH as1 ex H1) (upto 0 (n - 0).toNat) ((upto 0 n.toNat).map fun | .int i => V.int i | _ => V.non) := by
        rw [Int.sub_zero]
        exact uptoL _ _
      exact Wn.lst w1 (fun as2 H2 u x2 => q2 as2 H2 u (x1.trans x2)) rl _ hf
  | _ => exact q1.elim
end
end Q
end
section
set_option Elab.async false
set_option linter.all false
set_option maxRecDepth 100000
set_option maxHeartbeats 4000000
namespace Q
open PySem PySem.Spec PyProof.Rows L2

structure Tc where
  N : List Str
  sc : Scope
  osc : Option Scope
  fns : List (Str × Nat)
  cst : List (Str × D)
def kLoc : Option NameKind → Bool
  | some .local => true
  | _ => false
def kCell : Option NameKind → Bool
  | some .cell => true
  | _ => false
def kGlo : Option NameKind → Bool
  | some .globalImplicit => true
  | _ => false
def kVis : Option NameKind → Bool
  | some .local => true
  | some .cell => true
  | some .free => true
  | _ => false
def lk (sc : Scope) (x : Str) : Option NameKind := sc.names.lookup x
def Tc.vis (t : Tc) (x : Str) : Bool := kVis (lk t.sc x)
def Tc.glo (t : Tc) (x : Str) : Bool := kGlo (lk t.sc x)
def Tc.asg (t : Tc) (x : Str) : Bool := kLoc (lk t.sc x) || (kCell (lk t.sc x) && (match t.osc with
  | none => true
  | some s => kCell (lk s x)))
def relabS (sc scope : Scope) : Scope := { scope with names := scope.names.map fun (n, k) => if (k == .free && sc.kind == .function && lk sc n == some .cell) then (n, .cell) else (n, k) }
def Tc.blk (t : Tc) (scope : Scope) : Tc := { t with sc := relabS t.sc scope, osc := some scope }
def nStar : Expr → Bool
  | .Starred .. => false
  | _ => true
def nSet : Expr → Bool
  | .Set .. => false
  | _ => true
def nComp : Expr → Bool
  | .ListComp .. => false
  | .SetComp .. => false
  | .DictComp .. => false
  | _ => true
def nSlice : Expr → Bool
  | .Slice .. => false
  | _ => true
def nCall : Expr → Bool
  | .Call .. => false
  | _ => true
def isTupE : Expr → Bool
  | .Tuple .. => true
  | _ => false
def okN (x : Str) : Bool := !(x == ("__debug__" : Str)) && !(x == ("__classdict__" : Str)) && !(x == ("__name__" : Str))
def opP : Bop → Operator
  | .add => .Add
  | .sub => .Sub
  | .mul => .Mult
  | .fdiv => .FloorDiv
  | .mod => .Mod
  | .pow => .Pow
def opIs (op : Operator) (o : Bop) : Bool := decide (op = opP o)
def cmpP : Cop → CmpOp
  | .eq => .Eq
  | .ne => .NotEq
  | .lt => .Lt
  | .le => .LtE
  | .gt => .Gt
  | .ge => .GtE
  | .is => .Is
  | .isnot => .IsNot
  | .isin => .In
  | .notin => .NotIn
def cmpIs (op : CmpOp) (o : Cop) : Bool := decide (op = cmpP o)
def biName : Bi → Option Str
  | .len => some "len"
  | .tuple => some "tuple"
  | .list => some "list"
  | .sorted => some "sorted"
  | .set => some "set"
  | .dict => some "dict"
  | .sum => some "sum"
  | .max => some "max"
  | .min => some "min"
  | .all => some "all"
  | .any => some "any"
  | .abs => some "abs"
  | .int => some "int"
  | _ => none
def isS (x : Str) (y : String) : Bool := decide (x = Str.ofString y)

mutual
def ckT (t : Tc) : Expr → T → Bool
  | .Name x _, .slot i => decide (t.N[i]? = some x) && t.asg x
  | .Tuple es _ _, .tup ts => ckTs t es ts
  | _, _ => false
def ckTs (t : Tc) : List Expr → T → Bool
  | [], .nil => true
  | e :: es, .cons a r => nStar e && ckT t e a && ckTs t es r
  | _, _ => false
end
def ownP (N : List Str) (own : List Nat) : List (Str × Nat) := own.filterMap fun i => (N[i]?).map fun x => (x, i)
def okOwn (N : List Str) (own : List Nat) : Bool := decide ((ownP N own).map (·.2) = own)
def ckC : Const → D → Bool
  | .int i, .int j => decide (i = j)
  | .str x, .str y => decide (x = y)
  | .bool b, .bl c => b == c
  | .none, .non => true
  | _, _ => false
def subL (a b : List Nat) : Bool := a.all fun i => b.contains i
mutual
def ckE (n : Nat) (t : Tc) (e : Expr) (a : E) : Bool := match n with
  | 0 => false
  | n + 1 => match a, e with
    | .none, _ => true
    | .slot i, .Name x _ => t.vis x && okN x && decide (t.N[i]? = some x)
    | .const d, .Constant c _ _ => ckC c d
    | .const d, .Name x _ => t.glo x && okN x && (match t.cst.lookup x with
      | some d' => D.beq d' d
      | none => false)
    | .neg a, .UnaryOp .USub e _ => ckE n t e a
    | .not a, .UnaryOp .Not e _ => ckE n t e a
    | .op o a b, .BinOp l op r _ => opIs op o && ckE n t l a && ckE n t r b
    | .cmp o a b, .Compare l [op] [r] _ => cmpIs op o && ckE n t l a && ckE n t r b && !behindInMarks op r
    | .chain a b c, .Compare l [.LtE, .LtE] [m, r] _ => ckE n t l a && ckE n t m b && ckE n t r c && !lastMarks [.LtE, .LtE] [m, r]
    | .and a b, .BoolOp .And (x :: es) _ => ckE n t x a && ckB n t .And es b
    | .or a b, .BoolOp .Or (x :: es) _ => ckE n t x a && ckB n t .Or es b
    | .ite c a b, .IfExp x y z _ => ckE n t x c && ckE n t y a && ckE n t z b
    | .tup es, .Tuple xs _ _ => ckEs n t xs es
    | .lst es, .List xs _ => ckEs n t xs es
    | .cel es, .List xs _ => ckEs n t xs es
    | .dct .enil, .Dict [] [] _ => true
    | .dct (.spread a (.kv k v .enil)), .Dict [none, some ke] [de, ve] _ => ckE n t de a && ckE n t ke k && ckE n t ve v
    | .idx a i, .Subscript x y _ => nSlice y && ckE n t x a && ckE n t y i
    | .slc a l h, .Subscript x (.Slice lo hi none _) _ => ckE n t x a && ckO n t lo l && ckO n t hi h
    | .lc te tg it c own, .ListComp elt [⟨tg', iter, ifs, 0⟩] scope _ => okOwn t.N own && blkC t.N t.sc scope (ownP t.N own) && subL tg.slots own && ckI n t tg' iter it && nSet iter &&
        ckT (t.blk scope) tg' tg && ckIf n (t.blk scope) ifs c && ckE n (t.blk scope) elt te
    | .lc2 te tg it c tg1 it1 c1 own own1, .ListComp elt [⟨tg', iter, ifs, 0⟩, ⟨tg1', iter1, ifs1, 0⟩] scope _ => okOwn t.N own && blkC t.N t.sc scope (ownP t.N own) && subL tg.slots own && ckI n t tg' iter it && nSet iter &&
        ckT (t.blk scope) tg' tg && ckIf n (t.blk scope) ifs c && ckE n (t.blk scope) elt te && subL own1 own && subL tg1.slots own1 && ckI n (t.blk scope) tg1' iter1 it1 && nSet iter1 && ckT (t.blk scope) tg1' tg1 && ckIf n (t.blk scope) ifs1 c1
    | .call f es, .Call (.Name x _) (y :: ys) [] _ => decide (x = f) && t.glo x && okN x && (t.fns.lookup x).isSome && ckEs n t (y :: ys) es
    | .bi (.isinst ty) (.econs a .enil), .Call (.Name x _) [e, .Name y _] [] _ => isS x "isinstance" && t.glo x && t.glo y && isS y ty.name && nStar e && ckE n t e a
    | .bi b es, .Call (.Name x _) (y :: ys) [] _ => decide (biName b = some x) && t.glo x && ckEs n t (y :: ys) es
    | .lzp a b, .Call (.Name x _) [.Call (.Name y _) [u, v] [] _] [] _ => isS x "list" && t.glo x && isS y "zip" && t.glo y && nStar u && nStar v && ckE n t u a && ckE n t v b
    | .lrg a, .Call (.Name x _) [.Call (.Name y _) [u] [] _] [] _ => isS x "list" && t.glo x && isS y "range" && t.glo y && nStar u && ckE n t u a
    | .mt m o es, .Call (.Attribute ob nm ap) (y :: ys) [] cp => decide (nm = mtName m) && nCall ob && ckE n t ob o && ckEs n t (y :: ys) es && (ap.endLine == cp.line) && Nat.blt (ys.length + 1) 29
    | _, _ => false
def ckEs (n : Nat) (t : Tc) (es : List Expr) (a : E) : Bool := match n with
  | 0 => false
  | n + 1 => match a, es with
    | .enil, [] => true
    | .econs a r, e :: es => nStar e && ckE n t e a && ckEs n t es r
    | _, _ => false
def ckB (n : Nat) (t : Tc) (op : BoolOp) (es : List Expr) (a : E) : Bool := match n with
  | 0 => false
  | n + 1 => match es with
    | [] => false
    | [e] => ckE n t e a
    | e :: e2 :: es => match op, a with
      | .And, .and x y => ckE n t e x && ckB n t .And (e2 :: es) y
      | .Or, .or x y => ckE n t e x && ckB n t .Or (e2 :: es) y
      | _, _ => false
def ckO (n : Nat) (t : Tc) (e : Option Expr) (a : E) : Bool := match n with
  | 0 => false
  | n + 1 => match e, a with
    | none, .const .non => true
    | some e, a => ckE n t e a
    | _, _ => false
def ckIf (n : Nat) (t : Tc) (ifs : List Expr) (a : E) : Bool := match n with
  | 0 => false
  | n + 1 => match ifs, a with
    | [], .const (.bl true) => true
    | [e], a => ckE n t e a
    | _, _ => false
def ckI (n : Nat) (t : Tc) (tg : Expr) (e : Expr) (a : E) : Bool := match n with
  | 0 => false
  | n + 1 => match a, e with
    | .plain a, e => ckE n t e a
    | .zip a b, .Call (.Name x _) [u, v] [] _ => isTupE tg && isS x "zip" && t.glo x && nStar u && nStar v && ckE n t u a && ckE n t v b
    | .enum a, .Call (.Name x _) [u] [] _ => isTupE tg && isS x "enumerate" && t.glo x && nStar u && ckE n t u a
    | .range a, .Call (.Name x _) [u] [] _ => isS x "range" && t.glo x && nStar u && ckE n t u a
    | .range2 a b, .Call (.Name x _) [u, v] [] _ => isS x "range" && t.glo x && nStar u && nStar v && ckE n t u a && ckE n t v b
    | _, _ => false
end
structure XOk (X : Cx) (cl : Str → List D → M D) (t : Tc) : Prop where
  calm : X.calm = true
  nd : X.N.Nodup
  eN : X.N = t.N
  esc : X.env.scope = t.sc
  fnc : match t.osc with
    | none => ∀ x, X.fn x = true
    | some s => X.fn = fun x => s.names.lookup x == some .cell
  hu : X.A.units + 300 < cLine
  pass : X.xe = fun _ _ => False
  bi : ∀ x ∈ bnames, X.mg x = none
  fns : ∀ x, (t.fns.lookup x).isSome = true → ∃ ps k j, C8.Cal X.prog X.w X.K X.mg X.base k x (spQ X.K X.w ps (cl x)) [] ∧ (∀ ds st, ds.length ≠ ps → cl x ds st = .stuck) ∧ Room j X.A ∧ k ≤ j
  cst : ∀ x d, t.cst.lookup x = some d → ∃ u v, X.mg x = some u ∧ RelV v u ∧ ∀ as G, Rp X.K X.w as G d v
section
variable {X : Cx} {cl : Str → List D → M D} {t : Tc}
theorem kVis_ok {o : Option NameKind} (h : kVis o = true) : o = some .local ∨ o = some .cell ∨ o = some .free := by
  unfold kVis at h
  split at h
  · exact .inl rfl
  · exact .inr (.inl rfl)
  · exact .inr (.inr rfl)
  · cases h
theorem kLoc_ok {o : Option NameKind} (h : kLoc o = true) : o = some .local := by
  unfold kLoc at h
  split at h
  · rfl
  · cases h
theorem kCell_ok {o : Option NameKind} (h : kCell o = true) : o = some .cell := by
  unfold kCell at h
  split at h
  · rfl
  · cases h
theorem kGlo_ok {o : Option NameKind} (h : kGlo o = true) : o = some .globalImplicit := by
  unfold kGlo at h
  split at h
  · rfl
  · cases h
theorem XOk.vis (x : XOk X cl t) {y : Str} (h : t.vis y = true) : Vis X.env.scope y := by
  rw [x.esc]
  exact kVis_ok h
theorem XOk.glo (x : XOk X cl t) {y : Str} (h : t.glo y = true) : Gl X y := by
  show X.env.scope.names.lookup y = _
  rw [x.esc]
  exact kGlo_ok h
theorem XOk.asg (x : XOk X cl t) {y : Str} (h : t.asg y = true) : Loc X.env.scope y ∧ (X.fn y = true ∨ X.env.scope.names.lookup y = some .local) := by
  rw [x.esc]
  unfold Tc.asg at h
  rcases Bool.or_eq_true_iff.mp h with h | h
  · have := kLoc_ok h
    exact ⟨.inl this, .inr this⟩
  · obtain ⟨h1, h2⟩ := Bool.and_eq_true_iff.mp h
    refine ⟨.inr (kCell_ok h1), .inl ?_⟩
    have f := x.fnc
    cases e : t.osc with
    | none =>
      rw [e] at f
      exact f y
    | some s =>
      rw [e] at f h2
      rw [f]
      have := kCell_ok h2
      show (s.names.lookup y == some NameKind.cell) = true
      rw [show s.names.lookup y = some .cell from this]
      rfl
theorem okN_ok {y : Str} (h : okN y = true) : (y == ("__debug__" : Str)) = false ∧ (y == ("__classdict__" : Str)) = false ∧ y ≠ "__name__" := by
  unfold okN at h
  simp only [Bool.and_eq_true, Bool.not_eq_true'] at h
  exact ⟨h.1.1, h.1.2, fun e => by rw [e] at h; simp at h⟩
theorem XOk.blk (x : XOk X cl t) (s : Shared) (H : Hp) (scope : Scope) (C : Addr) (ce : List (Str × Addr)) (fp : List Addr) : XOk (X.blk s H scope (compEnvC scope ce C X.env) fp) cl (t.blk scope) where
  calm := x.calm
  nd := x.nd
  eN := x.eN
  esc := by
    show relabel scope X.env = relabS t.sc scope
    rw [← x.esc]
    rfl
  fnc := rfl
  hu := x.hu
  pass := rfl
  bi := x.bi
  fns := x.fns
  cst := x.cst
theorem star_cons {e : Expr} {es : List Expr} {env : PySem.Env} (h : nStar e = true) : starEach (e :: es) env = (false, eval e env) :: starEach es env := by
  cases e <;> first | rfl | cases h
theorem asg_cons {e : Expr} {es : List Expr} {env : PySem.Env} (h : nStar e = true) : assignEach (e :: es) env = (false, assign e env) :: assignEach es env := by
  cases e <;> first | rfl | cases h
def nStars : List Expr → Bool
  | [] => true
  | e :: es => nStar e && nStars es
theorem star_plain {p : Pos} {env : PySem.Env} : ∀ {es : List Expr}, nStars es = true → (backTo p (starEach es env)).any (·.1) = false
  | [], _ => rfl
  | e :: es, h => by
    obtain ⟨h1, h2⟩ := Bool.and_eq_true_iff.mp h
    rw [star_cons h1]
    exact star_plain h2
theorem star_few {p : Pos} {env : PySem.Env} : ∀ {es : List Expr}, nStars es = true → (backTo p (starEach es env)).all (fun x => !x.1) = true
  | [], _ => rfl
  | e :: es, h => by
    obtain ⟨h1, h2⟩ := Bool.and_eq_true_iff.mp h
    rw [star_cons h1]
    exact star_few h2
theorem set_fold {e : Expr} {env : PySem.Env} (h : nSet e = true) : ∀ x, foldedSetIterable e env x = pure x := by
  intro x
  cases e <;> first | rfl | cases h
mutual
theorem g_of : ∀ {e : Expr} {a : T}, ckT t e a = true → XOk X cl t → PG X e (TmGX X a)
  | .Name x _, .slot i, h, xo => by
    obtain ⟨h1, h2⟩ := Bool.and_eq_true_iff.mp (show (decide (t.N[i]? = some x) && t.asg x) = true from h)
    exact g_slot xo.nd (by rw [xo.eN]; exact of_decide_eq_true h1) (xo.asg h2).1 (xo.asg h2).2
  | .Tuple es _ _, .tup ts, h, xo => by
    obtain ⟨h1, h2, h3⟩ := gs_of (show ckTs t es ts = true from h) xo
    exact g_tup xo.calm h1 h2 h3
  | e, .nil, h, xo => by cases e <;> cases h
  | e, .cons _ _, h, xo => by cases e <;> cases h
theorem gs_of : ∀ {es : List Expr} {a : T}, ckTs t es a = true → XOk X cl t → PGs X es (TmGs X.K X.w a) ∧ (assignEach es X.env).length = a.len ∧ (assignEach es X.env).findIdx? (·.1) = none
  | [], .nil, h, xo => ⟨gs_nil, rfl, rfl⟩
  | e :: es, .cons a r, h, xo => by
    obtain ⟨h12, h3⟩ := Bool.and_eq_true_iff.mp (show (nStar e && ckT t e a && ckTs t es r) = true from h)
    obtain ⟨h1, h2⟩ := Bool.and_eq_true_iff.mp h12
    have q1 := g_of h2 xo
    obtain ⟨q2, q3, q4⟩ := gs_of h3 xo
    refine ⟨gs_cons q1 q2 (by rw [asg_cons h1]; rfl), by rw [asg_cons h1, List.length_cons, q3]; rfl, ?_⟩
    rw [asg_cons h1, List.findIdx?_cons, q4]
    rfl
  | [], .slot _, h, xo => by cases h
  | [], .tup _, h, xo => by cases h
  | [], .cons _ _, h, xo => by cases h
  | _ :: _, .nil, h, xo => by cases h
  | _ :: _, .slot _, h, xo => by cases h
  | _ :: _, .tup _, h, xo => by cases h
end
theorem gT_of {e : Expr} {a : T} (ht : isTupE e = true) (h : ckT t e a = true) (xo : XOk X cl t) : PG X e (TmGT X a) := by
  cases e with
  | Tuple es k p =>
    cases a with
    | tup ts =>
      obtain ⟨h1, h2, h3⟩ := gs_of (show ckTs t es ts = true from h) xo
      exact g_tupT xo.calm h1 h2 h3
    | _ => cases h
  | _ => cases ht
theorem op_all : ∀ o : Bop, OpR X (binaryOp (opP o)) (r2Of X (opB o))
  | .add => o_add
  | .sub => o_sub
  | .mul => o_mul
  | .fdiv => o_fdiv
  | .mod => o_mod
  | .pow => o_pow
theorem op_of {op : Operator} {o : Bop} (h : opIs op o = true) : OpR X (binaryOp op) (r2Of X (opB o)) := by
  have e : op = opP o := of_decide_eq_true h
  rw [e]
  exact op_all o
theorem cmp_all (hu : X.A.units + 200 < cLine) : ∀ o : Cop, OpR X (compareOp (cmpP o)) (r2B X (opC o))
  | .eq => o_eq hu
  | .ne => o_ne hu
  | .lt => o_lt
  | .le => o_le
  | .gt => o_gt
  | .ge => o_ge
  | .is => o_is
  | .isnot => o_isnot
  | .isin => o_isin hu
  | .notin => o_notin hu
theorem cmp_of {op : CmpOp} {o : Cop} (hu : X.A.units + 300 < cLine) (h : cmpIs op o = true) : OpR X (compareOp op) (r2B X (opC o)) := by
  have e : op = cmpP o := of_decide_eq_true h
  rw [e]
  exact cmp_all (by omega) o
end
end Q
end
section
set_option Elab.async false
set_option linter.all false
set_option maxRecDepth 100000
set_option maxHeartbeats 4000000
namespace Q
open PySem PySem.Spec PyProof.Rows L2
def plT : Expr → Bool
  | .UnaryOp .Not _ _ => false
  | .BoolOp .. => false
  | .IfExp .. => false
  | .Compare .. => false
  | _ => true
section
variable {X : Cx} {cl : Str → List D → M D} {t : Tc}
theorem t_gen {e : Expr} {te : TE} (hp : plT e = true) (h : PE X e te) : PT X e (tB te) := by
  cases e with
  | UnaryOp op x p => cases op <;> first | exact pt_val h | cases hp
  | BoolOp => cases hp
  | IfExp => cases hp
  | Compare => cases hp
  | _ => exact pt_val h
theorem t_ite {c a b : Expr} {ec ea eb : E} {pos : Pos} (hc : PT X c (tB (TmX X (evE cl ec)))) (ha : PT X a (tB (TmX X (evE cl ea)))) (hb : PT X b (tB (TmX X (evE cl eb)))) : PT X (.IfExp c a b pos) (tB (TmX X (evE cl (.ite ec ea eb)))) := by
  refine ⟨fun pins s σ H Q I ⟨ρ, as, ex, st, wd, er, q⟩ => ?_⟩
  have q : Aft X.K X.w (Rp X.K X.w) as ex H (M.bind (evE cl ec ρ) (fun x => M.bind (truth x) fun k => match k with
    | true => evE cl ea ρ
    | false => evE cl eb ρ) st) _ := q
  obtain ⟨x, st1, e1, q1⟩ := q.isOk
  obtain ⟨k, st2, e2, q2⟩ := q1.isOk
  obtain ⟨rfl, rfl⟩ := truth_ok e2
  show wpAny _ _ (do if ← isTrue c X.env (eval c X.env) then isTrue a X.env (eval a X.env) else isTrue b X.env (eval b X.env)) _ _ s
  refine wpAny_bind (thn (hc.run pins s σ H (fun c' H1 => c' = k ∧ ∃ as1, Ext as H as1 H1 ∧ Wd X.K X.w as1 ex H1 st2) I ⟨ρ, as, ex, st, wd, er, Aft.ofOk e1 fun as1 H1 v x1 w1 r1 => ⟨k, bl_of r1 rfl, rfl, as1, x1, w1⟩⟩) fun c' s1 ⟨H1, I1, ek, as1, x1, w1⟩ => ?_)
  subst ek
  have er1 := er.mono x1.pre (x1.same (ex := ex))
  cases c' with
  | true =>
    rw [if_pos rfl]
    exact ha.run pins s1 σ H1 Q I1 ⟨ρ, as1, ex, _, w1, er1, q2.ext x1⟩
  | false =>
    rw [if_neg Bool.false_ne_true]
    exact hb.run pins s1 σ H1 Q I1 ⟨ρ, as1, ex, _, w1, er1, q2.ext x1⟩
def rOf (K : PySem.W.Frag) (w : World) : E → List Addr → Hp → D → V → Prop
  | .zip _ _ => RT K w
  | .enum _ => RT K w
  | _ => Rp K w
structure Snd (cl : Str → List D → M D) (n : Nat) : Prop where
  e : ∀ {X : Cx} {t : Tc} {e : Expr} {a : E}, XOk X cl t → ckE n t e a = true → PE X e (TmX X (evE cl a)) ∧ PT X e (tB (TmX X (evE cl a)))
  es : ∀ {X : Cx} {t : Tc} {es : List Expr} {a : E}, XOk X cl t → ckEs n t es a = true → PA X es (TmL X (evEs cl a)) ∧ nStars es = true
  b : ∀ {X : Cx} {t : Tc} {op : BoolOp} {es : List Expr} {a : E} {pos : Pos}, XOk X cl t → ckB n t op es a = true → PE X (.BoolOp op es pos) (TmX X (evE cl a)) ∧ PW X (.BoolOp op es pos) (tB (TmX X (evE cl a))) ∧ es ≠ []
  o : ∀ {X : Cx} {t : Tc} {e : Option Expr} {a : E}, XOk X cl t → ckO n t e a = true → PO X e (TmO X (evE cl a))
  f : ∀ {X : Cx} {t : Tc} {es : List Expr} {a : E}, XOk X cl t → ckIf n t es a = true → PTs X es (tB (TmX X (evE cl a)))
  i : ∀ {X : Cx} {t : Tc} {tg e : Expr} {a : E}, XOk X cl t → ckI n t tg e a = true → PI X tg e (TmI X.K X.w (rOf X.K X.w a) (evI cl a)) ∧ (rOf X.K X.w a = Rp X.K X.w ∨ (rOf X.K X.w a = RT X.K X.w ∧ isTupE tg = true))
theorem both {e : Expr} {te : TE} (hp : plT e = true) (h : PE X e te) : PE X e te ∧ PT X e (tB te) := ⟨h, t_gen hp h⟩
theorem snd0 : Snd cl 0 := ⟨fun _ h => (by cases h), fun _ h => (by cases h), fun _ h => (by cases h), fun _ h => (by cases h), fun _ h => (by cases h), fun _ h => (by cases h)⟩
theorem e_biN {b : Bi} {x : Str} {p pos : Pos} {y : Expr} {ys : List Expr} {es : E} (xo : XOk X cl t) (hb : biName b = some x) (hg : Gl X x) (ha : PA X (y :: ys) (TmL X (evEs cl es)))
    (he : starEach (y :: ys) X.env = (false, eval y X.env) :: starEach ys X.env) (hpl : (backTo pos (starEach ys X.env)).any (·.1) = false) : PE X (.Call (.Name x p) (y :: ys) [] pos) (TmX X (evE cl (.bi b es))) := by
  cases b with
  | len => cases hb; exact e_bi b_len hg (xo.bi _ (by decide)) (by decide +kernel) ha (by decide) (by decide) he hpl
  | tuple => cases hb; exact e_biT b_tuple hg (xo.bi _ (by decide)) (by decide +kernel) ha (by decide) (by decide) he hpl
  | list => cases hb; exact e_biT b_list hg (xo.bi _ (by decide)) (by decide +kernel) ha (by decide) (by decide) he hpl
  | sorted => cases hb; exact e_bi (b_sorted xo.calm xo.hu) hg (xo.bi _ (by decide)) (by decide +kernel) ha (by decide) (by decide) he hpl
  | set => cases hb; exact e_biT (b_set xo.calm xo.hu) hg (xo.bi _ (by decide)) (by decide +kernel) ha (by decide) (by decide) he hpl
  | dict => cases hb; exact e_biT (b_dict xo.calm) hg (xo.bi _ (by decide)) (by decide +kernel) ha (by decide) (by decide) he hpl
  | sum => cases hb; exact e_bi (b_sum xo.calm) hg (xo.bi _ (by decide)) (by decide +kernel) ha (by decide) (by decide) he hpl
  | max => cases hb; exact e_bi (b_max xo.calm) hg (xo.bi _ (by decide)) (by decide +kernel) ha (by decide) (by decide) he hpl
  | min => cases hb; exact e_bi (b_min xo.calm) hg (xo.bi _ (by decide)) (by decide +kernel) ha (by decide) (by decide) he hpl
  | all => cases hb; exact e_bi (b_all xo.calm) hg (xo.bi _ (by decide)) (by decide +kernel) ha (by decide) (by decide) he hpl
  | any => cases hb; exact e_bi (b_any xo.calm) hg (xo.bi _ (by decide)) (by decide +kernel) ha (by decide) (by decide) he hpl
  | abs => cases hb; exact e_bi b_abs hg (xo.bi _ (by decide)) (by decide +kernel) ha (by decide) (by decide) he hpl
  | int => cases hb; exact e_biT b_int hg (xo.bi _ (by decide)) (by decide +kernel) ha (by decide) (by decide) he hpl
  | str => cases hb
  | isinst ty => cases hb
theorem isS_ok {x : Str} {y : String} (h : isS x y = true) : x = Str.ofString y := of_decide_eq_true h
theorem ty_bn (ty : Ty) : Str.ofString ty.name ∈ bnames := by cases ty <;> decide
theorem base_ok {o : Expr} {a : Str} {env : PySem.Env} {w : Sem Value} (h : nCall o = true) : attributeBase o a env w = w := by
  cases o <;> first | rfl | cases h
theorem ix_ok {y : Expr} (h : nSlice y = true) : PlainIx y := by
  intro o i
  cases y <;> first | rfl | cases h
theorem sub_ok {a b : List Nat} (h : subL a b = true) : ∀ i ∈ a, i ∈ b := fun i hi => by
  have := List.all_eq_true.mp h i hi
  simpa using this
theorem len_few {es : List Expr} {p : Pos} {env : PySem.Env} (h : nStars es = true) (hl : es.length < 30) : ((backTo p (starEach es env)).all (fun x => !x.1) && (backToKw p (keywordEach [] env)).all (fun x => x.1.isSome)
      && decide (es.length + ([] : List Keyword).length + (if ([] : List Keyword).isEmpty then 0 else 1) < 30)) = true := by
  rw [star_few h]
  simp only [Bool.true_and, Bool.and_eq_true, decide_eq_true_eq]
  exact ⟨rfl, by simpa using hl⟩
theorem tgt_of {R : List Addr → Hp → D → V → Prop} {tg : Expr} {a : T} (hR : R = Rp X.K X.w ∨ (R = RT X.K X.w ∧ isTupE tg = true)) (h : ckT t tg a = true) (xo : XOk X cl t) : PG X tg (TmG X.K X.w R a) := by
  rcases hR with rfl | ⟨rfl, ht⟩
  · exact g_of h xo
  · exact gT_of ht h xo
theorem and2 {a b : Bool} (h : (a && b) = true) : a = true ∧ b = true := Bool.and_eq_true_iff.mp h
theorem snd_lc {n : Nat} (ih : Snd cl n) {te : E} {tg : T} {it c : E} {own : List Nat} {elt tg' iter : Expr} {ifs : List Expr} {scope : Scope} {pos : Pos} (xo : XOk X cl t)
    (h1 : okOwn t.N own = true) (h2 : blkC t.N t.sc scope (ownP t.N own) = true) (h3 : subL tg.slots own = true) (h4 : ckI n t tg' iter it = true) (h5 : nSet iter = true) (h6 : ckT (t.blk scope) tg' tg = true) (h7 : ckIf n (t.blk scope) ifs c = true) (h8 : ckE n (t.blk scope) elt te = true) :
    PE X (.ListComp elt [⟨tg', iter, ifs, 0⟩] scope pos) (TmX X (evE cl (.lc te tg it c own))) := by
  have hown : (ownP t.N own).map (·.2) = own := of_decide_eq_true h1
  obtain ⟨hi, hR⟩ := ih.i xo h4
  have q := e_lc (R := rOf X.K X.w it) (own := ownP t.N own) (elt := elt) (pos := pos) (ifs := ifs) (te := te) (c := c) xo.calm xo.nd hi (blkOk_by (by rw [xo.eN, xo.esc]; exact h2)) (by rw [hown]; exact sub_ok h3) (fun s H C ce fp => tgt_of (X := X.blk s H scope (compEnvC scope ce C X.env) fp) hR h6 (xo.blk s H scope C ce fp))
    (fun s H C ce fp => ih.f (xo.blk s H scope C ce fp) h7) (fun s H C ce fp => (ih.e (xo.blk s H scope C ce fp) h8).1) (set_fold h5)
  rw [hown] at q
  exact q
theorem snd_lc2 {n : Nat} (ih : Snd cl n) {te : E} {tg tg1 : T} {it c it1 c1 : E} {own own1 : List Nat} {elt tg' iter tg1' iter1 : Expr} {ifs ifs1 : List Expr} {scope : Scope} {pos : Pos} (xo : XOk X cl t)
    (h1 : okOwn t.N own = true) (h2 : blkC t.N t.sc scope (ownP t.N own) = true) (h3 : subL tg.slots own = true) (h4 : ckI n t tg' iter it = true) (h5 : nSet iter = true) (h6 : ckT (t.blk scope) tg' tg = true) (h7 : ckIf n (t.blk scope) ifs c = true) (h8 : ckE n (t.blk scope) elt te = true)
    (k1 : subL own1 own = true) (k2 : subL tg1.slots own1 = true) (k3 : ckI n (t.blk scope) tg1' iter1 it1 = true) (k4 : nSet iter1 = true) (k5 : ckT (t.blk scope) tg1' tg1 = true) (k6 : ckIf n (t.blk scope) ifs1 c1 = true) :
    PE X (.ListComp elt [⟨tg', iter, ifs, 0⟩, ⟨tg1', iter1, ifs1, 0⟩] scope pos) (TmX X (evE cl (.lc2 te tg it c tg1 it1 c1 own own1))) := by
  have hown : (ownP t.N own).map (·.2) = own := of_decide_eq_true h1
  obtain ⟨hi, hR⟩ := ih.i xo h4
  have q := e_lc2 (R := rOf X.K X.w it) (R1 := rOf X.K X.w it1) (own := ownP t.N own) (elt := elt) (pos := pos) (ifs := ifs) (ifs1 := ifs1) (te := te) (c := c) (c1 := c1) (vs1 := own1) xo.calm xo.nd hi (blkOk_by (by rw [xo.eN, xo.esc]; exact h2)) (by rw [hown]; exact sub_ok k1) (by rw [hown]; exact sub_ok h3) (sub_ok k2) (fun s H C ce fp => tgt_of (X := X.blk s H scope (compEnvC scope ce C X.env) fp) hR h6 (xo.blk s H scope C ce fp))
    (fun s H C ce fp => ih.f (xo.blk s H scope C ce fp) h7) (fun s H C ce fp => (ih.i (xo.blk s H scope C ce fp) k3).1) (fun s H C ce fp => tgt_of (X := X.blk s H scope (compEnvC scope ce C X.env) fp) (ih.i (xo.blk s H scope C ce fp) k3).2 k5 (xo.blk s H scope C ce fp)) (fun s H C ce fp => ih.f (xo.blk s H scope C ce fp) k6)
    (fun s H C ce fp => (ih.e (xo.blk s H scope C ce fp) h8).1) (set_fold h5) (fun env => set_fold k4)
  rw [hown] at q
  exact q

theorem snd_e {n : Nat} (ih : Snd cl n) {e : Expr} {a : E} (xo : XOk X cl t) (h : ckE (n + 1) t e a = true) : PE X e (TmX X (evE cl a)) ∧ PT X e (tB (TmX X (evE cl a))) := by
  unfold ckE at h
  split at h
  case h_1 => exact ⟨e_any fun _ _ => rfl, t_any fun _ _ => rfl⟩
  case h_2 i x pos =>
    obtain ⟨h12, h3⟩ := and2 h
    obtain ⟨h1, h2⟩ := and2 h12
    exact both rfl (e_slot (by rw [xo.eN]; exact of_decide_eq_true h3) (xo.vis h1) (okN_ok h2).1 (okN_ok h2).2.1)
  case h_3 d c k pos =>
    unfold ckC at h
    split at h
    · rw [of_decide_eq_true h]; exact both rfl e_int
    · rw [of_decide_eq_true h]; exact both rfl e_str
    · rw [eq_of_beq h]; exact both rfl e_bl
    · exact both rfl e_non
    · cases h
  case h_4 d x pos =>
    obtain ⟨h12, h3⟩ := and2 h
    obtain ⟨h1, h2⟩ := and2 h12
    split at h3
    · rename_i d' e
      rw [D.eq_of_beq _ _ h3] at e
      obtain ⟨u, v, hm, rv, hr⟩ := xo.cst _ _ e
      exact both rfl (q_val (pe_glob (xo.glo h1) hm rv (okN_ok h2).1) hr)
    · cases h3
  case h_5 a e pos => exact both rfl (e_neg (ih.e xo h).1)
  case h_6 a e pos => exact ⟨e_not (ih.e xo h).1, t_not (ih.e xo h).2⟩
  case h_7 o a b l op r pos =>
    obtain ⟨h12, h3⟩ := and2 h
    obtain ⟨h1, h2⟩ := and2 h12
    exact both rfl (e_op (op_of h1) (ih.e xo h2).1 (ih.e xo h3).1)
  case h_8 o a b l op r pos =>
    obtain ⟨h123, h4⟩ := and2 h
    obtain ⟨h12, h3⟩ := and2 h123
    obtain ⟨h1, h2⟩ := and2 h12
    have hm : behindInMarks op r = false := by simpa using h4
    exact ⟨e_cmp (cmp_of xo.hu h1) (ih.e xo h2).1 (ih.e xo h3).1 hm, t_cmp (cmp_of xo.hu h1) (ih.e xo h2).1 (ih.e xo h3).1 hm⟩
  case h_9 a b c l m r pos =>
    obtain ⟨h123, h4⟩ := and2 h
    obtain ⟨h12, h3⟩ := and2 h123
    obtain ⟨h1, h2⟩ := and2 h12
    have hm : lastMarks [.LtE, .LtE] [m, r] = false := by simpa using h4
    exact ⟨e_chain o_le (ih.e xo h1).1 (ih.e xo h2).1 (ih.e xo h3).1 hm, t_chain o_le (ih.e xo h1).1 (ih.e xo h2).1 (ih.e xo h3).1 hm⟩
  case h_10 a b x es pos =>
    obtain ⟨h1, h2⟩ := and2 h
    obtain ⟨q1, q2, q3⟩ := ih.b (pos := pos) xo h2
    cases es with
    | nil => exact absurd rfl q3
    | cons y ys => exact ⟨e_and (ih.e xo h1).1 q1, (w_and (ih.e xo h1).2 q2).pt⟩
  case h_11 a b x es pos =>
    obtain ⟨h1, h2⟩ := and2 h
    obtain ⟨q1, q2, q3⟩ := ih.b (pos := pos) xo h2
    cases es with
    | nil => exact absurd rfl q3
    | cons y ys => exact ⟨e_or (ih.e xo h1).1 q1, (w_or (ih.e xo h1).2 q2).pt⟩
  case h_12 c a b x y z pos =>
    obtain ⟨h12, h3⟩ := and2 h
    obtain ⟨h1, h2⟩ := and2 h12
    exact ⟨e_ite (ih.e xo h1).2 (ih.e xo h2).1 (ih.e xo h3).1, t_ite (ih.e xo h1).2 (ih.e xo h2).2 (ih.e xo h3).2⟩
  case h_13 es xs k pos => exact both rfl (e_tup (ih.es xo h).1)
  case h_14 es xs pos => exact both rfl (e_lst (ih.es xo h).1)
  case h_15 es xs pos => exact both rfl (e_cel (ih.es xo h).1)
  case h_16 pos => exact both rfl q_dnil
  case h_17 a k v ke de ve pos =>
    obtain ⟨h12, h3⟩ := and2 h
    obtain ⟨h1, h2⟩ := and2 h12
    exact both rfl (q_dput (by have := xo.hu; omega) (ih.e xo h1).1 (ih.e xo h2).1 (ih.e xo h3).1)
  case h_18 a i x y pos =>
    obtain ⟨h12, h3⟩ := and2 h
    obtain ⟨h1, h2⟩ := and2 h12
    exact both rfl (e_idx (ih.e xo h2).1 (ih.e xo h3).1 (ix_ok h1))
  case h_19 a l hh x lo hi p2 pos =>
    obtain ⟨h12, h3⟩ := and2 h
    obtain ⟨h1, h2⟩ := and2 h12
    exact both rfl (e_slc (ih.e xo h1).1 (ih.o xo h2) (ih.o xo h3))
  case h_20 te tg it c own elt tg' iter ifs scope pos =>
    obtain ⟨h, h8⟩ := and2 h
    obtain ⟨h, h7⟩ := and2 h
    obtain ⟨h, h6⟩ := and2 h
    obtain ⟨h, h5⟩ := and2 h
    obtain ⟨h, h4⟩ := and2 h
    obtain ⟨h, h3⟩ := and2 h
    obtain ⟨h1, h2⟩ := and2 h
    exact both rfl (snd_lc ih xo h1 h2 h3 h4 h5 h6 h7 h8)
  case h_21 te tg it c tg1 it1 c1 own own1 elt tg' iter ifs tg1' iter1 ifs1 scope pos =>
    obtain ⟨h, k6⟩ := and2 h
    obtain ⟨h, k5⟩ := and2 h
    obtain ⟨h, k4⟩ := and2 h
    obtain ⟨h, k3⟩ := and2 h
    obtain ⟨h, k2⟩ := and2 h
    obtain ⟨h, k1⟩ := and2 h
    obtain ⟨h, h8⟩ := and2 h
    obtain ⟨h, h7⟩ := and2 h
    obtain ⟨h, h6⟩ := and2 h
    obtain ⟨h, h5⟩ := and2 h
    obtain ⟨h, h4⟩ := and2 h
    obtain ⟨h, h3⟩ := and2 h
    obtain ⟨h1, h2⟩ := and2 h
    exact both rfl (snd_lc2 ih xo h1 h2 h3 h4 h5 h6 h7 h8 k1 k2 k3 k4 k5 k6)
  case h_22 f es x p y ys pos =>
    obtain ⟨h, h5⟩ := and2 h
    obtain ⟨h, h4⟩ := and2 h
    obtain ⟨h, h3⟩ := and2 h
    obtain ⟨h1, h2⟩ := and2 h
    have e : x = f := of_decide_eq_true h1
    subst e
    obtain ⟨ps, k, j, c, hps, hr, hk⟩ := xo.fns _ h4
    obtain ⟨q1, q2⟩ := ih.es xo h5
    obtain ⟨n1, n2⟩ := and2 q2
    exact both rfl (e_call c hps hr hk (xo.glo h2) (okN_ok h3).1 q1 (star_cons n1) (star_plain n2))
  case h_23 ty a x p e y py pos =>
    obtain ⟨h, h6⟩ := and2 h
    obtain ⟨h, h5⟩ := and2 h
    obtain ⟨h, h4⟩ := and2 h
    obtain ⟨h, h3⟩ := and2 h
    obtain ⟨h1, h2⟩ := and2 h
    have e1 := isS_ok h1
    subst e1
    have e2 := isS_ok h4
    exact both rfl (e_isi (x := y) (xo.glo h2) (xo.bi _ (by decide)) (xo.glo h3) (xo.bi _ (by rw [e2]; exact ty_bn ty)) e2 (ih.e xo h6).1 (star_cons h5))
  case h_24 b es x p y ys pos _ =>
    obtain ⟨h, h3⟩ := and2 h
    obtain ⟨h1, h2⟩ := and2 h
    obtain ⟨q1, q2⟩ := ih.es xo h3
    obtain ⟨n1, n2⟩ := and2 q2
    exact both rfl (e_biN xo (of_decide_eq_true h1) (xo.glo h2) q1 (star_cons n1) (star_plain n2))
  case h_25 a b x p y py u v pos2 pos =>
    obtain ⟨h, h8⟩ := and2 h
    obtain ⟨h, h7⟩ := and2 h
    obtain ⟨h, h6⟩ := and2 h
    obtain ⟨h, h5⟩ := and2 h
    obtain ⟨h, h4⟩ := and2 h
    obtain ⟨h, h3⟩ := and2 h
    obtain ⟨h1, h2⟩ := and2 h
    have e1 := isS_ok h1
    have e2 := isS_ok h3
    subst e1 e2
    exact both rfl (e_lzp xo.calm (xo.glo h2) (xo.bi _ (by decide)) (xo.glo h4) (xo.bi _ (by decide)) (ih.e xo h7).1 (ih.e xo h8).1 (star_cons h5) (star_cons h6) (star_plain (by show (nStar v && true) = true; rw [h6]; rfl)))
  case h_26 a x p y py u pos2 pos =>
    obtain ⟨h, h6⟩ := and2 h
    obtain ⟨h, h5⟩ := and2 h
    obtain ⟨h, h4⟩ := and2 h
    obtain ⟨h, h3⟩ := and2 h
    obtain ⟨h1, h2⟩ := and2 h
    have e1 := isS_ok h1
    have e2 := isS_ok h3
    subst e1 e2
    exact both rfl (e_lrg xo.calm (xo.glo h2) (xo.bi _ (by decide)) (xo.glo h4) (xo.bi _ (by decide)) (ih.e xo h6).1 (star_cons h5))
  case h_27 m o es ob nm ap y ys cp =>
    obtain ⟨h, h6⟩ := and2 h
    obtain ⟨h, h5⟩ := and2 h
    obtain ⟨h, h4⟩ := and2 h
    obtain ⟨h, h3⟩ := and2 h
    obtain ⟨h1, h2⟩ := and2 h
    obtain ⟨q1, q2⟩ := ih.es xo h4
    obtain ⟨n1, n2⟩ := and2 q2
    have hl : (y :: ys).length < 30 := by
      rw [Nat.blt_eq] at h6
      simp
      omega
    exact both rfl (q_mt (by have := xo.hu; omega) (of_decide_eq_true h1) (ih.e xo h3).1 q1 (base_ok h2) (len_few q2 hl) h5 (star_cons n1) (star_plain n2))
  case h_28 => cases h
theorem snd_es {n : Nat} (ih : Snd cl n) {es : List Expr} {a : E} (xo : XOk X cl t) (h : ckEs (n + 1) t es a = true) : PA X es (TmL X (evEs cl a)) ∧ nStars es = true := by
  unfold ckEs at h
  split at h
  · exact ⟨a_nil, rfl⟩
  · obtain ⟨h12, h3⟩ := and2 h
    obtain ⟨h1, h2⟩ := and2 h12
    obtain ⟨q1, q2⟩ := ih.es xo h3
    exact ⟨a_cons (ih.e xo h2).1 q1 (star_cons h1), by show (_ && _) = true; rw [h1, q2]; rfl⟩
  · cases h
theorem snd_b {n : Nat} (ih : Snd cl n) {op : BoolOp} {es : List Expr} {a : E} {pos : Pos} (xo : XOk X cl t) (h : ckB (n + 1) t op es a = true) : PE X (.BoolOp op es pos) (TmX X (evE cl a)) ∧ PW X (.BoolOp op es pos) (tB (TmX X (evE cl a))) ∧ es ≠ [] := by
  unfold ckB at h
  split at h
  · cases h
  · have q := ih.e xo h
    cases op with
    | And => exact ⟨e_and1 q.1, w_and1 q.2, List.cons_ne_nil _ _⟩
    | Or => exact ⟨e_or1 q.1, w_or1 q.2, List.cons_ne_nil _ _⟩
  · split at h
    · obtain ⟨h1, h2⟩ := and2 h
      obtain ⟨q1, q2, _⟩ := ih.b (pos := pos) xo h2
      exact ⟨e_and (ih.e xo h1).1 q1, w_and (ih.e xo h1).2 q2, List.cons_ne_nil _ _⟩
    · obtain ⟨h1, h2⟩ := and2 h
      obtain ⟨q1, q2, _⟩ := ih.b (pos := pos) xo h2
      exact ⟨e_or (ih.e xo h1).1 q1, w_or (ih.e xo h1).2 q2, List.cons_ne_nil _ _⟩
    · cases h
theorem snd_o {n : Nat} (ih : Snd cl n) {e : Option Expr} {a : E} (xo : XOk X cl t) (h : ckO (n + 1) t e a = true) : PO X e (TmO X (evE cl a)) := by
  unfold ckO at h
  split at h
  · exact o_none
  · exact o_some (ih.e xo h).1
  · cases h
theorem snd_f {n : Nat} (ih : Snd cl n) {es : List Expr} {a : E} (xo : XOk X cl t) (h : ckIf (n + 1) t es a = true) : PTs X es (tB (TmX X (evE cl a))) := by
  unfold ckIf at h
  split at h
  · exact t_none
  · exact t_one (ih.e xo h).2
  · cases h
theorem snd_i {n : Nat} (ih : Snd cl n) {tg e : Expr} {a : E} (xo : XOk X cl t) (h : ckI (n + 1) t tg e a = true) : PI X tg e (TmI X.K X.w (rOf X.K X.w a) (evI cl a)) ∧ (rOf X.K X.w a = Rp X.K X.w ∨ (rOf X.K X.w a = RT X.K X.w ∧ isTupE tg = true)) := by
  unfold ckI at h
  split at h
  · exact ⟨i_plain (ih.e xo h).1, .inl rfl⟩
  · obtain ⟨h, h7⟩ := and2 h
    obtain ⟨h, h6⟩ := and2 h
    obtain ⟨h, h5⟩ := and2 h
    obtain ⟨h, h4⟩ := and2 h
    obtain ⟨h, h3⟩ := and2 h
    obtain ⟨h1, h2⟩ := and2 h
    have e1 := isS_ok h2
    subst e1
    cases tg with
    | Tuple elts kk tp => exact ⟨i_zip (xo.glo h3) (xo.bi _ (by decide)) (ih.e xo h6).1 (ih.e xo h7).1 (star_cons h4) (star_cons h5) (star_plain (by show (nStar _ && true) = true; rw [h5]; rfl)), .inr ⟨rfl, rfl⟩⟩
    | _ => cases h1
  · obtain ⟨h, h5⟩ := and2 h
    obtain ⟨h, h4⟩ := and2 h
    obtain ⟨h, h3⟩ := and2 h
    obtain ⟨h1, h2⟩ := and2 h
    have e1 := isS_ok h2
    subst e1
    cases tg with
    | Tuple elts kk tp => exact ⟨i_enum (xo.glo h3) (xo.bi _ (by decide)) (ih.e xo h5).1 (star_cons h4), .inr ⟨rfl, rfl⟩⟩
    | _ => cases h1
  · obtain ⟨h, h4⟩ := and2 h
    obtain ⟨h, h3⟩ := and2 h
    obtain ⟨h1, h2⟩ := and2 h
    have e1 := isS_ok h1
    subst e1
    exact ⟨i_range (xo.glo h2) (xo.bi _ (by decide)) (ih.e xo h4).1 (star_cons h3), .inl rfl⟩
  · obtain ⟨h, h6⟩ := and2 h
    obtain ⟨h, h5⟩ := and2 h
    obtain ⟨h, h4⟩ := and2 h
    obtain ⟨h, h3⟩ := and2 h
    obtain ⟨h1, h2⟩ := and2 h
    have e1 := isS_ok h1
    subst e1
    exact ⟨i_range2 (xo.glo h2) (xo.bi _ (by decide)) (ih.e xo h5).1 (ih.e xo h6).1 ((star_cons h3).trans (by rw [star_cons h4]; rfl)) (star_cons h4), .inl rfl⟩
  · cases h
theorem snd (cl : Str → List D → M D) : ∀ n, Snd cl n
  | 0 => snd0
  | n + 1 => ⟨snd_e (snd cl n), snd_es (snd cl n), snd_b (snd cl n), snd_o (snd cl n), snd_f (snd cl n), snd_i (snd cl n)⟩
end
end Q
end
section
set_option Elab.async false
set_option linter.all false
set_option maxRecDepth 100000
set_option maxHeartbeats 4000000
namespace Q
open PySem PySem.Spec PyProof.Rows L2
def swNames (sc : Scope) (line : Nat) (ts : List Expr) : List Str := ts.filterMap fun
  | .Name id pos => if lk sc id == some .local && pos.line == line then some id else none
  | _ => none
def isStar : Expr → Bool
  | .Starred .. => true
  | _ => false
def swR (sc : Scope) (ts vs : List Expr) : Option (Option (List Str)) :=
  if !(ts.length == 2 || ts.length == 3) || vs.length != ts.length then some none
  else if vs.any isStar then some none
  else
    let names := swNames sc ((ts.head?.map (·.pos.line)).getD 0) ts
    if names.length != ts.length || names.eraseDups.length != names.length then some none
    else if vs.all (foldedForSure 8) then some none
    else if vs.all (constantsAlone 8) then none
    else some (some names)
def isFn : ScopeKind → Bool
  | .function => true
  | _ => false
def swLc (sc : Scope) (y : Str) (line vline : Nat) (scope : Scope) : Bool := isFn sc.kind && (lk sc y == some .local) && line == vline && !(scope.names.any fun (n, k) => n == y && (k == .local || k == .cell))
def nTup : Expr → Bool
  | .Tuple .. => false
  | _ => true
def parT (t : Tc) : List Expr → T → Option (List Str)
  | [.Name x _, .Name y _], .cons (.slot i) (.cons (.slot j) .nil) => if decide (t.N[i]? = some x) && decide (t.N[j]? = some y) && !(Nat.beq i j) && kLoc (lk t.sc x) && kLoc (lk t.sc y) then some [x, y] else none
  | [.Name x _, .Name y _, .Name z _], .cons (.slot i) (.cons (.slot j) (.cons (.slot l) .nil)) =>
    if decide (t.N[i]? = some x) && decide (t.N[j]? = some y) && decide (t.N[l]? = some z) && !(Nat.beq i j) && !(Nat.beq i l) && !(Nat.beq j l) && kLoc (lk t.sc x) && kLoc (lk t.sc y) && kLoc (lk t.sc z) then some [x, y, z] else none
  | _, _ => none
def ckA (n : Nat) (t : Tc) (tg' v : Expr) (tg : T) (e : E) : Bool := match tg', tg, v with
  | .Name y _, .slot i, .ListComp elt gens scope _ => decide (t.N[i]? = some y) && t.asg y && (match e, gens with
    | .lc te tg it c own, [⟨tg', iter, ifs, 0⟩] => okOwn t.N own && blkC t.N t.sc scope (ownP t.N own) && subL tg.slots own && ckI n t tg' iter it && nSet iter &&
        ckT (t.blk scope) tg' tg && ckIf n (t.blk scope) ifs c && ckE n (t.blk scope) elt te
    | .lc2 te tg it c tg1 it1 c1 own own1, [⟨tg', iter, ifs, 0⟩, ⟨tg1', iter1, ifs1, 0⟩] => okOwn t.N own && blkC t.N t.sc scope (ownP t.N own) && subL tg.slots own && ckI n t tg' iter it && nSet iter &&
        ckT (t.blk scope) tg' tg && ckIf n (t.blk scope) ifs c && ckE n (t.blk scope) elt te && subL own1 own && subL tg1.slots own1 && ckI n (t.blk scope) tg1' iter1 it1 && nSet iter1 && ckT (t.blk scope) tg1' tg1 && ckIf n (t.blk scope) ifs1 c1
    | _, _ => false)
  | .Name y _, .slot i, v => nComp v && ckE n t v e && decide (t.N[i]? = some y) && t.asg y
  | .Tuple ts _ _, .tup tg, .Tuple vs _ _ => (match swR t.sc ts vs with
    | some none => ckE n t v e && ckT t tg' (.tup tg)
    | some (some names) => decide (parT t ts tg = some names) && (match e with
      | .tup ee => ckEs n t vs ee
      | _ => false)
    | none => false)
  | .Tuple ts _ _, tg, v => nTup v && ckE n t v e && ckT t tg' tg
  | _, _, _ => false
def ckS (n : Nat) (t : Tc) (ss : List Stmt) (a : S) : Bool := match n with
  | 0 => false
  | n + 1 => match a, ss with
    | .any, _ => true
    | .nil, [] => true
    | .put o i e r, .Assign [.Subscript o' i' _] v _ :: rest => nSlice i' && ckE n t v e && ckE n t o' o && ckE n t i' i && ckS n t rest r
    | .set tg e r, .Assign [tg'] v p :: rest => ckA n t tg' v tg e && ckS n t rest r
    | .expr e r, .Expr v _ :: rest => nComp v && ckE n t v e && ckS n t rest r
    | .ret e, .Return (some v) _ :: _ => ckE n t v e
    | .retN, .Return none _ :: _ => true
    | .iff c a b r, .If c' a' b' _ :: rest => ckE n t c' c && ckS n t a' a && ckS n t b' b && ckS n t rest r
    | .forS tg it b r, .For tg' it' b' [] _ :: rest => ckI n t tg' it' it && nSet it' && ckT t tg' tg && ckS n t b' b && ckS n t rest r
    | .whileS c b r, .While c' b' [] _ :: rest => ckE n t c' c && ckS n t b' b && ckS n t rest r
    | .brk, .Break _ :: _ => true
    | .cont, .Continue _ :: _ => true
    | _, _ => false
section
variable {X : Cx} {cl : Str → List D → M D} {t : Tc}
theorem sw_of {ts vs : List Expr} {k k2 : Nat} {p p2 : Pos} {env : PySem.Env} {r : Option (List Str)} (hk : env.scope.kind = .function) (h : swR env.scope ts vs = some r) : swappedStores [.Tuple ts k p] (.Tuple vs k2 p2) env = pure r := by
  have hb : (env.blockKind != .function) = false := by
    unfold PySem.Env.blockKind
    rw [hk]
    rfl
  unfold swR at h
  unfold swappedStores
  dsimp only
  rw [hb, Bool.or_false]
  split at h
  · rename_i c
    rw [if_pos c]
    cases h
    rfl
  · rename_i c
    rw [if_neg c]
    split at h
    · rename_i c2
      rw [if_pos (by exact c2)]
      cases h
      rfl
    · rename_i c2
      rw [if_neg (by exact c2)]
      dsimp only at h
      split at h
      · rename_i c3
        rw [if_pos (by exact c3)]
        cases h
        rfl
      · rename_i c3
        rw [if_neg (by exact c3)]
        split at h
        · rename_i c4
          rw [if_pos c4]
          cases h
          rfl
        · rename_i c4
          rw [if_neg c4]
          split at h
          · cases h
          · rename_i c5
            rw [if_neg c5]
            cases h
            rfl
theorem parT_ok {ts : List Expr} {tg : T} {names : List Str} {k k2 : Nat} {p p2 pos : Pos} {vs : List Expr} {ee : E} (xo : XOk X cl t) (h : parT t ts tg = some names) (ha : PA X vs (TmL X (evEs cl ee))) (hw : swappedStores [.Tuple ts k p] (.Tuple vs k2 p2) X.env = pure (some names)) :
    PS X (.Assign [.Tuple ts k p] (.Tuple vs k2 p2) pos) (tAsg (TmX X (evE cl (.tup ee))) (TmGX X (.tup tg))) := by
  unfold parT at h
  split at h
  · split at h
    · rename_i c
      cases h
      obtain ⟨c, c5⟩ := and2 c
      obtain ⟨c, c4⟩ := and2 c
      obtain ⟨c, c3⟩ := and2 c
      obtain ⟨c1, c2⟩ := and2 c
      refine s_par2 xo.calm xo.nd (by rw [xo.eN]; exact of_decide_eq_true c1) (by rw [xo.eN]; exact of_decide_eq_true c2) (fun z => ?_) (by rw [xo.esc]; exact kLoc_ok c4) (by rw [xo.esc]; exact kLoc_ok c5) ha hw
      rw [z] at c3
      simp at c3
    · cases h
  · split at h
    · rename_i c
      cases h
      obtain ⟨c, c9⟩ := and2 c
      obtain ⟨c, c8⟩ := and2 c
      obtain ⟨c, c7⟩ := and2 c
      obtain ⟨c, c6⟩ := and2 c
      obtain ⟨c, c5⟩ := and2 c
      obtain ⟨c, c4⟩ := and2 c
      obtain ⟨c, c3⟩ := and2 c
      obtain ⟨c1, c2⟩ := and2 c
      refine s_par3 xo.calm xo.nd (by rw [xo.eN]; exact of_decide_eq_true c1) (by rw [xo.eN]; exact of_decide_eq_true c2) (by rw [xo.eN]; exact of_decide_eq_true c3) (fun z => ?_) (fun z => ?_) (fun z => ?_) (by rw [xo.esc]; exact kLoc_ok c7) (by rw [xo.esc]; exact kLoc_ok c8) (by rw [xo.esc]; exact kLoc_ok c9) ha hw
      · rw [z] at c4
        simp at c4
      · rw [z] at c5
        simp at c5
      · rw [z] at c6
        simp at c6
    · cases h
  · cases h
theorem sole_no {ts : List Expr} {k : Nat} {p : Pos} {v : Expr} {l : Nat} {env : PySem.Env} : swapsWithSole [.Tuple ts k p] v l env = pure false := by cases v <;> rfl
theorem sole_no' {o i : Expr} {p : Pos} {v : Expr} {l : Nat} {env : PySem.Env} : swapsWithSole [.Subscript o i p] v l env = pure false := by cases v <;> rfl
theorem swp_no {v : Expr} {o : Option Expr} {l : Nat} {env : PySem.Env} (h : nComp v = true) : swapsWith v o l env = pure false := by cases v <;> first | rfl | cases h
theorem sw_no {ts : List Expr} {k : Nat} {p : Pos} {v : Expr} {env : PySem.Env} (h : nTup v = true) : swappedStores [.Tuple ts k p] v env = pure none := by cases v <;> first | rfl | cases h
theorem swp_lc {elt : Expr} {gens : List Comprehension} {scope : Scope} {lpos py : Pos} {y : Str} {l : Nat} {env : PySem.Env} {b : Bool} (hk : env.scope.kind = .function) (h : swLc env.scope y py.line lpos.line scope = b) : swapsWith (.ListComp elt gens scope lpos) (some (.Name y py)) l env = pure b := by
  have hb : (env.blockKind == .function) = true := by
    unfold PySem.Env.blockKind
    rw [hk]
    rfl
  have hk2 : isFn env.scope.kind = true := by rw [hk]; rfl
  subst h
  unfold swapsWith swLc
  dsimp only
  rw [hb, hk2]
  rfl
theorem snd_a (hk : t.sc.kind = .function) {n : Nat} {tg' v : Expr} {tg : T} {e : E} {pos : Pos} (xo : XOk X cl t) (h : ckA n t tg' v tg e = true) : PS X (.Assign [tg'] v pos) (tAsg (TmX X (evE cl e)) (TmGX X tg)) := by
  unfold ckA at h
  split at h
  · rename_i y py i elt gens scope lpos
    obtain ⟨h, h1⟩ := and2 h
    obtain ⟨h2, h3⟩ := and2 h
    have hi : X.N[i]? = some y := by rw [xo.eN]; exact of_decide_eq_true h2
    have hk' : X.env.scope.kind = .function := by rw [xo.esc]; exact hk
    have ih := snd cl n
    have hyl : swLc X.env.scope y py.line lpos.line scope = true → X.env.scope.names.lookup y = some .local := fun hb => by
      unfold swLc at hb
      exact eq_of_beq (and2 (and2 (and2 hb).1).1).2
    split at h1
    · rename_i te tg it c own tg' iter ifs
      obtain ⟨h, g8⟩ := and2 h1
      obtain ⟨h, g7⟩ := and2 h
      obtain ⟨h, g6⟩ := and2 h
      obtain ⟨h, g5⟩ := and2 h
      obtain ⟨h, g4⟩ := and2 h
      obtain ⟨h, g3⟩ := and2 h
      obtain ⟨g1, g2⟩ := and2 h
      cases hb : swLc X.env.scope y py.line lpos.line scope with
      | false => exact a_set xo.nd hi (xo.asg h3).1 (snd_lc ih xo g1 g2 g3 g4 g5 g6 g7 g8) (swp_lc hk' hb) (xo.asg h3).2
      | true =>
        have hown : (ownP t.N own).map (·.2) = own := of_decide_eq_true g1
        obtain ⟨hi', hR⟩ := ih.i xo g4
        have q := a_lc (R := rOf X.K X.w it) (own := ownP t.N own) (elt := elt) (ifs := ifs) (te := te) (c := c) xo.calm xo.nd hi (hyl hb) (swp_lc (l := pos.line) hk' hb) hi' (blkOk_by (by rw [xo.eN, xo.esc]; exact g2)) (by rw [hown]; exact sub_ok g3) (fun s H C ce fp => tgt_of (X := X.blk s H scope (compEnvC scope ce C X.env) fp) hR g6 (xo.blk s H scope C ce fp))
          (fun s H C ce fp => ih.f (xo.blk s H scope C ce fp) g7) (fun s H C ce fp => (ih.e (xo.blk s H scope C ce fp) g8).1) (set_fold g5)
        rw [hown] at q
        exact q
    · rename_i te tg it c tg1 it1 c1 own own1 tg' iter ifs tg1' iter1 ifs1
      obtain ⟨h, k6⟩ := and2 h1
      obtain ⟨h, k5⟩ := and2 h
      obtain ⟨h, k4⟩ := and2 h
      obtain ⟨h, k3⟩ := and2 h
      obtain ⟨h, k2⟩ := and2 h
      obtain ⟨h, k1⟩ := and2 h
      obtain ⟨h, g8⟩ := and2 h
      obtain ⟨h, g7⟩ := and2 h
      obtain ⟨h, g6⟩ := and2 h
      obtain ⟨h, g5⟩ := and2 h
      obtain ⟨h, g4⟩ := and2 h
      obtain ⟨h, g3⟩ := and2 h
      obtain ⟨g1, g2⟩ := and2 h
      cases hb : swLc X.env.scope y py.line lpos.line scope with
      | false => exact a_set xo.nd hi (xo.asg h3).1 (snd_lc2 ih xo g1 g2 g3 g4 g5 g6 g7 g8 k1 k2 k3 k4 k5 k6) (swp_lc hk' hb) (xo.asg h3).2
      | true =>
        have hown : (ownP t.N own).map (·.2) = own := of_decide_eq_true g1
        obtain ⟨hi', hR⟩ := ih.i xo g4
        have q := a_lc2 (R := rOf X.K X.w it) (R1 := rOf X.K X.w it1) (own := ownP t.N own) (elt := elt) (ifs := ifs) (ifs1 := ifs1) (te := te) (c := c) (c1 := c1) (vs1 := own1) xo.calm xo.nd hi (hyl hb) (swp_lc (l := pos.line) hk' hb) hi' (blkOk_by (by rw [xo.eN, xo.esc]; exact g2)) (by rw [hown]; exact sub_ok k1) (by rw [hown]; exact sub_ok g3) (sub_ok k2) (fun s H C ce fp => tgt_of (X := X.blk s H scope (compEnvC scope ce C X.env) fp) hR g6 (xo.blk s H scope C ce fp))
          (fun s H C ce fp => ih.f (xo.blk s H scope C ce fp) g7) (fun s H C ce fp => (ih.i (xo.blk s H scope C ce fp) k3).1) (fun s H C ce fp => tgt_of (X := X.blk s H scope (compEnvC scope ce C X.env) fp) (ih.i (xo.blk s H scope C ce fp) k3).2 k5 (xo.blk s H scope C ce fp)) (fun s H C ce fp => ih.f (xo.blk s H scope C ce fp) k6)
          (fun s H C ce fp => (ih.e (xo.blk s H scope C ce fp) g8).1) (set_fold g5) (fun env => set_fold k4)
        rw [hown] at q
        exact q
    · cases h1
  · rename_i y py i v
    obtain ⟨h, h4⟩ := and2 h
    obtain ⟨h, h3⟩ := and2 h
    obtain ⟨h1, h2⟩ := and2 h
    exact a_set xo.nd (by rw [xo.eN]; exact of_decide_eq_true h3) (xo.asg h4).1 ((snd cl n).e xo h2).1 (swp_no h1) (xo.asg h4).2
  · rename_i ts k p tg vs k2 p2
    split at h
    · rename_i hw
      obtain ⟨h1, h2⟩ := and2 h
      exact ps_asg ((snd cl n).e xo h1).1 (g_of h2 xo) sole_no (sw_of (by rw [xo.esc]; exact hk) (by rw [xo.esc]; exact hw)) rfl
    · rename_i names hw
      obtain ⟨h1, h2⟩ := and2 h
      split at h2
      · rename_i ee
        exact parT_ok xo (of_decide_eq_true h1) ((snd cl n).es xo h2).1 (sw_of (by rw [xo.esc]; exact hk) (by rw [xo.esc]; exact hw))
      · cases h2
    · cases h
  · rename_i ts k p tg v _
    obtain ⟨h, h3⟩ := and2 h
    obtain ⟨h1, h2⟩ := and2 h
    exact ps_asg ((snd cl n).e xo h2).1 (g_of h3 xo) sole_no (sw_no h1) rfl
  · cases h
theorem snd_s (hk : t.sc.kind = .function) : ∀ (n : Nat) {X : Cx} {ss : List Stmt} {a : S}, XOk X cl t → ckS n t ss a = true → PSs X ss (TmSX X (evS cl a))
  | 0, X, ss, a, xo, h => by cases h
  | n + 1, X, ss, a, xo, h => by
    have ih := snd cl n
    have hp : PassesOwn (model X.prog X.w) X.A X.env X.xe := by rw [xo.pass]; exact PassesOwn.never
    unfold ckS at h
    split at h
    · exact s_any fun _ _ => rfl
    · exact s_nil
    · rename_i o i e r o' i' tp v p rest
      obtain ⟨h, h5⟩ := and2 h
      obtain ⟨h, h4⟩ := and2 h
      obtain ⟨h, h3⟩ := and2 h
      obtain ⟨h1, h2⟩ := and2 h
      exact s_put (ih.e xo h3).1 (ih.e xo h4).1 (ih.e xo h2).1 (snd_s hk n xo h5) sole_no' (fun v => by cases i' <;> first | rfl | cases h1)
    · rename_i tg e r tg' v p rest
      obtain ⟨h1, h2⟩ := and2 h
      exact s_set (snd_a hk xo h1) (snd_s hk n xo h2)
    · rename_i e r v p rest
      obtain ⟨h, h3⟩ := and2 h
      obtain ⟨h1, h2⟩ := and2 h
      exact s_expr (ih.e xo h2).1 (snd_s hk n xo h3) (swp_no h1)
    · exact s_ret (ih.e xo h).1 pss_never
    · exact s_retN pss_never
    · obtain ⟨h, h4⟩ := and2 h
      obtain ⟨h, h3⟩ := and2 h
      obtain ⟨h1, h2⟩ := and2 h
      exact s_if (ih.e xo h1).2 (snd_s hk n xo h2) (snd_s hk n xo h3) (snd_s hk n xo h4)
    · obtain ⟨h, h5⟩ := and2 h
      obtain ⟨h, h4⟩ := and2 h
      obtain ⟨h, h3⟩ := and2 h
      obtain ⟨h1, h2⟩ := and2 h
      exact s_for hp xo.calm (ih.i xo h1).1 (tgt_of (ih.i xo h1).2 h3 xo) (snd_s hk n xo h4) (snd_s hk n xo h5) (set_fold h2)
    · obtain ⟨h, h3⟩ := and2 h
      obtain ⟨h1, h2⟩ := and2 h
      exact s_while hp (ih.e xo h1).2 (snd_s hk n xo h2) (snd_s hk n xo h3)
    · exact s_brk pss_never
    · exact s_cont pss_never
    · cases h
end
end Q
end
section
set_option Elab.async false
set_option linter.all false
set_option maxRecDepth 100000
set_option maxHeartbeats 4000000
namespace Q
open PySem PySem.Spec PyProof.Rows L2
theorem lookup_ne {α β : Type} [BEq α] [LawfulBEq α] {k a : α} {b : β} {l : List (α × β)} (h : k ≠ a) : ((a, b) :: l).lookup k = l.lookup k := by
  rw [List.lookup_cons, beq_eq_false_iff_ne.mpr h]
theorem fmap_congr {α β : Type} {f g : α → Option β} : ∀ (l : List α), (∀ x ∈ l, f x = g x) → l.filterMap f = l.filterMap g
  | [], _ => rfl
  | a :: l, h => by
    rw [List.filterMap_cons, List.filterMap_cons, h a List.mem_cons_self, fmap_congr l fun x hx => h x (List.mem_cons_of_mem _ hx)]
theorem lookup_zip_all : ∀ (ps : List Str) (us : List Value), ps.Nodup → us.length = ps.length → ps.filterMap (fun n => ((ps.zip us).lookup n).map fun v => (n, v)) = ps.zip us
  | [], _, _, _ => rfl
  | p :: ps, [], _, h => by cases h
  | p :: ps, u :: us, nd, h => by
    obtain ⟨n1, n2⟩ := List.nodup_cons.mp nd
    have tail : ps.filterMap (fun n => (((p, u) :: ps.zip us).lookup n).map fun v => (n, v)) = ps.zip us := by
      rw [← lookup_zip_all ps us n2 (by simpa using h)]
      have e := lookup_zip_all ps us n2 (by simpa using h)
      rw [e]
      conv => rhs; rw [← e]
      refine fmap_congr ps fun n hn => ?_
      have hne : n ≠ p := fun z => by
        subst z
        exact n1 hn
      rw [lookup_ne hne]
    have head : ((p, u) :: ps.zip us).lookup p = some u := by rw [List.lookup_cons, beq_self_eq_true]
    rw [List.zip_cons_cons, List.filterMap_cons, head, tail]
    rfl
theorem lookup_zip_some : ∀ (ps : List Str) (us : List Value), us.length = ps.length → ∀ n ∈ ps, ((ps.zip us).lookup n).isNone = false
  | [], _, _, n, hn => nomatch hn
  | p :: ps, [], h, n, hn => by cases h
  | p :: ps, u :: us, h, n, hn => by
    rw [List.zip_cons_cons]
    by_cases e : n = p
    · subst e
      rw [List.lookup_cons, beq_self_eq_true]
      rfl
    · rw [lookup_ne e]
      exact lookup_zip_some ps us (by simpa using h) n (by simpa [e] using hn)
def okArgs (a : Arguments) (ps : List Str) : Bool := a.posonlyargs.isEmpty && a.vararg.isNone && a.kwonlyargs.isEmpty && a.kwarg.isNone && decide (a.args.map (·.arg) = ps)
theorem bind_all {x qual : Str} {ar : Arguments} {body : List Stmt} {scope : Scope} {kV doc pm cdv ct : Value} {an : Option Addr} {ps : List Str} {us : List Value} (h : okArgs ar ps = true) (nd : ps.Nodup) (hl : us.length = ps.length) :
    bindArgs (PySem.W.fnOf x qual ar body scope .none kV doc pm an cdv ct) ⟨us, []⟩ = pure (ps.zip us) := by
  obtain ⟨po, ag, va, ko, kd, kw, df⟩ := ar
  unfold okArgs at h
  obtain ⟨h, h5⟩ := and2 h
  obtain ⟨h, h4⟩ := and2 h
  obtain ⟨h, h3⟩ := and2 h
  obtain ⟨h1, h2⟩ := and2 h
  have e1 : po = [] := by simpa using h1
  have e2 : va = none := by simpa using h2
  have e3 : ko = [] := by simpa using h3
  have e4 : kw = none := by simpa using h4
  have e5 := of_decide_eq_true h5
  dsimp only at e5
  subst e1 e2 e3 e4
  have hm : (ps.take (ps.length - 0)).filter (fun n => ((ps.zip us).lookup n).isNone) = [] := by
    rw [Nat.sub_zero, List.take_length]
    exact List.filter_eq_nil_iff.mpr fun n hn => by rw [lookup_zip_some ps us hl n hn]; simp
  unfold bindArgs
  dsimp only [PySem.W.fnOf]
  simp only [List.map_nil, List.nil_append, e5]
  have e0 : seqItems? Value.none = pure none := rfl
  have pb : ∀ {α β : Type} (a : α) (f : α → Sem β), (pure a >>= f) = f a := fun _ _ => rfl
  have hl0 : ¬ (us.length > ps.length) := by omega
  have hd : (decide (us.length > ps.length) && (Option.none : Option Arg).isNone) = false := by rw [decide_eq_false hl0]; rfl
  simp only [e0, pb, List.forIn_nil, Option.getD_none, List.drop_nil, List.length_nil, List.zip_nil_right, hm, hd, Bool.false_eq_true, if_false, List.isEmpty_nil, Bool.not_true, List.append_nil, lookup_zip_all ps us nd hl]
def nodupB (l : List Str) : Bool := match l with
  | [] => true
  | x :: r => !(r.any fun y => decide (y = x)) && nodupB r
theorem nodupB_ok : ∀ {l : List Str}, nodupB l = true → l.Nodup
  | [], _ => List.nodup_nil
  | x :: r, h => by
    obtain ⟨h1, h2⟩ := and2 (show (!(r.any fun y => decide (y = x)) && nodupB r) = true from h)
    refine List.nodup_cons.mpr ⟨fun hm => ?_, nodupB_ok h2⟩
    have : (r.any fun y => decide (y = x)) = true := List.any_eq_true.mpr ⟨x, hm, by simp⟩
    rw [this] at h1
    cases h1
def ckF (fuel : Nat) (ar : List (Str × Nat)) (cst : List (Str × D)) (d : FnT) (s : Src) : Bool :=
  ckS fuel ⟨d.N, s.scope, none, ar, cst⟩ s.body d.fn.body && isFn s.scope.kind && !s.scope.isCoroutine && !s.scope.isGenerator && nodupB d.N && decide (d.N.take d.ps.length = d.ps) &&
    (d.ps.all fun x => kLoc (lk s.scope x) || kCell (lk s.scope x)) && (s.scope.names.all fun y => !(y.2 == .free)) && Nat.beq d.fn.n d.N.length && Nat.beq d.fn.ps d.ps.length && okArgs s.args d.ps
theorem isFn_ok {k : ScopeKind} (h : isFn k = true) : k = .function := by
  cases k <;> first | rfl | cases h
structure FOk (fuel : Nat) (ar : List (Str × Nat)) (cst : List (Str × D)) (d : FnT) (s : Src) : Prop where
  body : ckS fuel ⟨d.N, s.scope, none, ar, cst⟩ s.body d.fn.body = true
  sc : FnScope d.N d.ps s.scope
  n : d.fn.n = d.N.length
  ps : d.fn.ps = d.ps.length
  args : okArgs s.args d.ps = true
  nd : d.ps.Nodup
theorem ckF_ok {fuel : Nat} {ar : List (Str × Nat)} {cst : List (Str × D)} {d : FnT} {s : Src} (h : ckF fuel ar cst d s = true) : FOk fuel ar cst d s := by
  unfold ckF at h
  obtain ⟨h, h11⟩ := and2 h
  obtain ⟨h, h10⟩ := and2 h
  obtain ⟨h, h9⟩ := and2 h
  obtain ⟨h, h8⟩ := and2 h
  obtain ⟨h, h7⟩ := and2 h
  obtain ⟨h, h6⟩ := and2 h
  obtain ⟨h, h5⟩ := and2 h
  obtain ⟨h, h4⟩ := and2 h
  obtain ⟨h, h3⟩ := and2 h
  obtain ⟨h1, h2⟩ := and2 h
  have nd := nodupB_ok h5
  have ht : d.N.take d.ps.length = d.ps := of_decide_eq_true h6
  refine ⟨h1, ⟨isFn_ok h2, by simpa using h3, by simpa using h4, nd, ht, fun x hx => ?_, fun y hy e => ?_⟩, Nat.eq_of_beq_eq_true h9, Nat.eq_of_beq_eq_true h10, h11, ?_⟩
  · rcases Bool.or_eq_true_iff.mp (List.all_eq_true.mp h7 x hx) with q | q
    · exact .inl (kLoc_ok q)
    · exact .inr (kCell_ok q)
  · have := List.all_eq_true.mp h8 y hy
    rw [e] at this
    cases this
  · rw [← ht]
    exact nd.sublist (List.take_sublist _ _)
structure Top (K : PySem.W.Frag) (mg : Str → Option Value) (w : World) (ds : List FnT) (src : Str → Src) (cst : List (Str × D)) : Prop where
  fn : ∀ d ∈ ds, ∃ f fd, FunD K d.name d.name (src d.name).args (src d.name).body (src d.name).scope [] [] f fd ∧ mg d.name = some (.ref f)
  bi : ∀ x ∈ bnames, mg x = none
  cst : ∀ x d, cst.lookup x = some d → ∃ u v, mg x = some u ∧ RelV v u ∧ ∀ as G, Rp K w as G d v
theorem find_ok : ∀ {ds : List FnT} {x : Str} {f : Fn}, findFn x (tableOf ds) = some f → ∃ d ∈ ds, d.name = x ∧ d.fn = f
  | [], _, _, h => by cases h
  | d :: ds, x, f, h => by
    have h : (match decide (d.name = x) with | true => some d.fn | false => findFn x (tableOf ds)) = some f := h
    cases e : decide (d.name = x) with
    | true =>
      rw [e] at h
      cases h
      exact ⟨d, List.mem_cons_self, of_decide_eq_true e, rfl⟩
    | false =>
      rw [e] at h
      obtain ⟨d', h1, h2⟩ := find_ok h
      exact ⟨d', List.mem_cons_of_mem _ h1, h2⟩
theorem find_some : ∀ {ds : List FnT} {x : Str}, ((arOf ds).lookup x).isSome = true → ∃ d ∈ ds, d.name = x ∧ findFn x (tableOf ds) = some d.fn
  | [], _, h => by cases h
  | d :: ds, x, h => by
    show ∃ d' ∈ d :: ds, d'.name = x ∧ (match decide (d.name = x) with | true => some d.fn | false => findFn x (tableOf ds)) = some d'.fn
    by_cases e : d.name = x
    · exact ⟨d, List.mem_cons_self, e, by rw [decide_eq_true e]⟩
    · have h' : ((arOf ds).lookup x).isSome = true := by
        have : (arOf (d :: ds)).lookup x = (arOf ds).lookup x := lookup_ne (fun z => e z.symm)
        rw [this] at h
        exact h
      obtain ⟨d', h1, h2, h3⟩ := find_some h'
      exact ⟨d', List.mem_cons_of_mem _ h1, h2, by rw [decide_eq_false e]; exact h3⟩
section
variable {P : Program} {w : World} {K : PySem.W.Frag} {mg : Str → Option Value} {base : Heap}
theorem env_start {as : List Addr} {G : Hp} : ∀ {ds : List D} {vs : List V}, RpL K w as G ds vs → ∀ n, EnvR K w as G (ds.map some ++ List.replicate n none) (vs.map some ++ List.replicate n none)
  | _, _, .nil, n => ⟨by simp, fun i d h => by simp [List.getElem?_replicate] at h⟩
  | _, _, .cons (ds := ds) (vs := vs) r t, n => by
    have ih := env_start t n
    refine ⟨by simpa using ih.1, fun i d h => ?_⟩
    cases i with
    | zero =>
      cases h
      exact ⟨_, rfl, r⟩
    | succ i =>
      obtain ⟨v, h1, h2⟩ := ih.2 i d (by simpa using h)
      exact ⟨v, by simpa using h1, h2⟩
theorem call_stuck {T : List (Str × Fn)} {n : Nat} {x : Str} {f : Fn} (h : findFn x T = some f) : ∀ ds st, ds.length ≠ f.ps → callP T n x ds st = .stuck := fun ds st hne => by
  cases n with
  | zero => rfl
  | succ n =>
    unfold callP
    rw [h]
    dsimp only
    cases e : Nat.beq ds.length f.ps with
    | true => exact absurd (Nat.eq_of_beq_eq_true e) hne
    | false => rfl
theorem one_fn {ds : List FnT} {src : Str → Src} {cst : List (Str × D)} {fuel : Nat} {d : FnT} {g : Addr} {gd : FuncData} (tp : Top K mg w ds src cst) (ck : ckF fuel (arOf ds) cst d (src d.name) = true) (F : FunD K d.name d.name (src d.name).args (src d.name).body (src d.name).scope [] [] g gd) (hf : findFn d.name (tableOf ds) = some d.fn) (n : Nat)
    (ih : ∀ (y : Str) (f : Fn), findFn y (tableOf ds) = some f → C8.Cal P w K mg base (n + 10) y (spQ K w f.ps (callP (tableOf ds) n y)) []) :
    FnOk P w K mg base C8.CX0 (n + 1 + 10) g gd d.ps (spQ K w d.fn.ps (callP (tableOf ds) (n + 1) d.name)) := by
  have fo := ckF_ok ck
  have len : ∀ vs H Q E, spQ K w d.fn.ps (callP (tableOf ds) (n + 1) d.name) vs H Q E → vs.length = d.ps.length := fun vs H Q E h => by rw [← fo.ps]; exact h.1
  refine F.ok fo.sc len fun cdv A outer s H vs Q E hr h => ?_
  obtain ⟨hl, xs, as, ex, st, wd, rl, q⟩ := h
  refine ⟨TmS K w (evS (callP (tableOf ds) n) d.fn.body), PSs.nox (snd_s (t := ⟨d.N, (src d.name).scope, none, arOf ds, cst⟩) fo.sc.kind fuel (X := (cxOf C8.CX0 P w K mg base d.N d.name (src d.name).scope g cdv A outer s H E).nox) ⟨rfl, fo.sc.nd, rfl, rfl, fun _ => rfl, ?_, rfl, tp.bi, fun y hy => ?_, tp.cst⟩ fo.body), ?_⟩
  · have := hr.un
    show (A.deeper _).units + 300 < cLine
    omega
  · obtain ⟨d', h1, h2, h3⟩ := find_some hy
    exact ⟨d'.fn.ps, n + 10, n + 10, ih y d'.fn h3, call_stuck h3, hr, Nat.le_refl _⟩
  · have hxl : xs.length = d.fn.ps := by rw [← rl.length]; exact hl
    refine ⟨xs.map some ++ List.replicate (d.fn.n - xs.length) none, as, ex, st, wd, ?_, ?_⟩
    · unfold L2.start
      rw [fo.n, ← rl.length]
      exact env_start rl _
    · unfold callP at q
      rw [hf] at q
      dsimp only at q
      rw [show Nat.beq xs.length d.fn.ps = true from by rw [hxl]; exact Nat.beq_refl _] at q
      dsimp only at q
      cases e : evS (callP (tableOf ds) n) d.fn.body (xs.map some ++ List.replicate (d.fn.n - xs.length) none) st with
      | ok fl ρ st' =>
        rw [e] at q
        cases fl with
        | next => exact fun as' H' σ x y z => q as' H' .non x y .non
        | ret v => exact q
        | brk => exact q.elim
        | cont => exact q.elim
      | err y ρ st' => rw [e] at q; exact q.elim
      | stuck => rw [e] at q; exact q.elim
theorem all_cal {ds : List FnT} {src : Str → Src} {cst : List (Str × D)} {fuel : Nat} (tp : Top K mg w ds src cst) (ck : ∀ d ∈ ds, ckF fuel (arOf ds) cst d (src d.name) = true) :
    ∀ (n : Nat) (x : Str) (f : Fn), findFn x (tableOf ds) = some f → C8.Cal P w K mg base (n + 10) x (spQ K w f.ps (callP (tableOf ds) n x)) []
  | n, x, f, hf => by
    obtain ⟨d, hd, rfl, rfl⟩ := find_ok hf
    obtain ⟨g, gd, F, hm⟩ := tp.fn d hd
    have fo := ckF_ok (ck d hd)
    have hb : Binds K gd d.ps [] := F.bindsN fun _ _ _ _ _ _ us hl => bind_all fo.args fo.nd hl
    refine ⟨g, gd, d.ps, [], ?_, hm, F.kp, hb, .nil⟩
    cases n with
    | zero =>
      refine ⟨fun vs H Q E h => by rw [← fo.ps]; exact h.1, fun A outer s H args us vs Q E _ _ _ _ h => ?_⟩
      obtain ⟨_, _, _, _, _, _, _, q⟩ := h
      exact q.elim
    | succ n => exact one_fn tp (ck d hd) F hf n fun y f hy => all_cal tp ck n y f hy
end
end Q
end
section
set_option Elab.async false
set_option linter.all false
set_option maxRecDepth 100000
set_option maxHeartbeats 0
namespace K59
open Q PySem
theorem ckAll : (ds.all fun d => ckF 60 (arOf ds) cst d (src d.name)) = true := by decide +kernel
theorem ck : ∀ d ∈ ds, ckF 60 (arOf ds) cst d (src d.name) = true := fun d hd => List.all_eq_true.mp ckAll d hd
end K59
end
section
set_option Elab.async false
set_option linter.all false
set_option maxRecDepth 100000
set_option maxHeartbeats 2000000
namespace Q
open PySem PySem.Spec PyProof.Rows L2
theorem strsR {K : PySem.W.Frag} {w : World} {as : List Addr} {G : Hp} : ∀ l : List Str, RpL K w as G (l.map D.str) (l.map V.str)
  | [] => .nil
  | x :: l => .cons (.str x) (strsR l)
theorem tupQ_ok {K : PySem.W.Frag} {w : World} {q : Str × List Str} (h : tupQ K q = true) (as : List Addr) (G : Hp) : Rp K w as G (.tup (q.2.map D.str)) (.ref (He.ga K q.1)) := by
  unfold tupQ at h
  cases e : K.lookup (He.ga K q.1) with
  | none => rw [e] at h; cases h
  | some o =>
    obtain ⟨oc, od, dt, osl⟩ := o
    rw [e] at h
    cases oc with
    | type c =>
      cases od with
      | none =>
        cases dt with
        | seq its n =>
          obtain ⟨h1, h2⟩ := He.ba (show (decide (c = "tuple") && (decide (its.size ≤ sizeLine) && He.relAll (q.2.map V.str) its.toList)) = true from h)
          obtain ⟨h3, h4⟩ := He.ba h2
          exact .tup (.inr ⟨_, its, n, e, congrArg Value.type (of_decide_eq_true h1), rfl, rfl, of_decide_eq_true h3, He.relAll_ok h4⟩) (strsR q.2)
        | _ => cases h
      | some a => cases dt <;> cases h
    | _ => cases od <;> cases dt <;> cases h
theorem strsOf_ok : ∀ {l : List D} {m : List Str}, strsOf l = some m → l = m.map D.str
  | [], _, h => by cases h; rfl
  | .str x :: r, m, h => by
    obtain ⟨m', e, rfl⟩ := Option.map_eq_some_iff.mp (show (strsOf r).map (x :: ·) = some m from h)
    rw [strsOf_ok e]
    rfl
theorem lookup_mem {α β : Type} [BEq α] [LawfulBEq α] {k : α} {v : β} : ∀ {l : List (α × β)}, l.lookup k = some v → (k, v) ∈ l
  | [], h => by cases h
  | (a, b) :: l, h => by
    rw [List.lookup_cons] at h
    cases e : k == a with
    | true =>
      rw [e] at h
      cases h
      rw [eq_of_beq e]
      exact List.mem_cons_self
    | false =>
      rw [e] at h
      exact List.mem_cons_of_mem _ (lookup_mem h)
theorem top_of {K : PySem.W.Frag} {h : Heap} {mg : Str → Option Value} {w : World} {ds : List FnT} {src : Str → Src} {cst : List (Str × D)} (X : K.In h) (G : h.Ns mainGlobals mg) (hc : cst.all okCst = true) (c : obsQ (faOf ds cst) (fnOf ds src) (tpOf cst) K = valQ (fnOf ds src)) : Top K mg w ds src cst := by
  have c1 : He.SaysD (faOf ds cst) (fnOf ds src) K := congrArg (fun z : AlQ => z.1) c
  have c2 : (tpOf cst).all (tupQ K) = true := congrArg (fun z : AlQ => z.2) c
  have fact : ∀ f ∈ faOf ds cst, f.ok K = true := fun f hf => by
    obtain ⟨i, hi⟩ := List.mem_iff_getElem?.mp hf
    exact c1.fact i hi
  refine ⟨fun d hd => ?_, fun x hx => ?_, fun x d hx => ?_⟩
  · obtain ⟨i, hi⟩ := List.mem_iff_getElem?.mp hd
    obtain ⟨fd, F⟩ := c1.def_ i (d := ⟨(d.name, none), d.name, d.name, (src d.name).args, (src d.name).body, (src d.name).scope, [], []⟩) (by
      unfold fnOf
      rw [List.getElem?_map, hi]
      rfl)
    exact ⟨_, fd, F, He.glo_ok X G (fact (.glo d.name) (List.mem_append_left _ (List.mem_map_of_mem hd)))⟩
  · exact He.free_ok X G (fact (.free x) (List.mem_append_right _ (List.mem_append_left _ (List.mem_map_of_mem hx))))
  · have hm := lookup_mem hx
    have hf : cstFa (x, d) ∈ faOf ds cst := List.mem_append_right _ (List.mem_append_right _ (List.mem_map_of_mem hm))
    have ho := List.all_eq_true.mp hc _ hm
    have hk := fact _ hf
    cases d with
    | int i =>
      obtain ⟨t, e⟩ := He.int_ok X G hk
      exact ⟨_, .int i, e, ⟨t, rfl⟩, fun _ _ => .int i⟩
    | str z =>
      obtain ⟨t, e⟩ := He.str_ok X G hk
      exact ⟨_, .str z, e, ⟨t, rfl⟩, fun _ _ => .str z⟩
    | tup l =>
      have e := He.glo_ok X G hk
      obtain ⟨m, em⟩ := Option.isSome_iff_exists.mp (show (strsOf l).isSome = true from ho)
      have ht : (x, m) ∈ tpOf cst := List.mem_filterMap.mpr ⟨(x, .tup l), hm, by show (strsOf l).map _ = _; rw [em]; rfl⟩
      have hq := List.all_eq_true.mp c2 _ ht
      rw [strsOf_ok em]
      exact ⟨_, .ref _, e, rfl, fun as G => tupQ_ok (w := w) hq as G⟩
    | _ => cases ho
theorem law_fin {P : Program} {w : World} {K : PySem.W.Frag} {h : Heap} {mg : Str → Option Value} {ds : List FnT} {src : Str → Src} {cst : List (Str × D)} {fuel : Nat} {d : FnT} {fa : Addr} (n : Nat) (X : K.In h) (G : h.Ns mainGlobals mg) (hc : cst.all okCst = true)
    (c : obsQ (faOf ds cst) (fnOf ds src) (tpOf cst) K = valQ (fnOf ds src)) (ck : ∀ d ∈ ds, ckF fuel (arOf ds) cst d (src d.name) = true) (hd : d ∈ ds) (hf : findFn d.name (tableOf ds) = some d.fn) (hps : d.ps = [("script" : Str)]) (hfa : mg d.name = some (.ref fa))
    (hl : ∀ ns : List Int, ns.length ≤ 63 → ∃ st', callP (tableOf ds) (n + 1) d.name [.inp (ns.map D.int)] [] = .ok (.bl true) st') :
    ∃ (K : PySem.W.Frag) (fd : FuncData) (sp : Sp), K.In h ∧ (∀ (s : Shared) (u : Value), BindsTo s fd ⟨[u], []⟩ [(("script" : Str), u)]) ∧
        (∀ (H : Hp) (a : Addr) (ns : List Int), ns.length ≤ 63 → Only H → SqL K H a (ns.map V.int) → sp [.ref a] H (fun v _ => v = .bl true) fun _ _ _ => False) ∧
        ∀ base : Heap, K.In base → base.Ns mainGlobals mg → FnOk P w K mg base C8.CX0 (n + 1 + 10) fa fd [("script" : Str)] sp := by
  have tp : Top K mg w ds src cst := top_of X G hc c
  obtain ⟨g, gd, F, hm⟩ := tp.fn d hd
  have e := hfa.symm.trans hm
  cases e
  have fo := ckF_ok (ck d hd)
  have hp1 : d.fn.ps = 1 := by rw [fo.ps, hps]; rfl
  refine ⟨K, gd, spQ K w d.fn.ps (callP (tableOf ds) (n + 1) d.name), X, fun s u => ?_, fun H a ns hn _ hS => ?_, fun base hK hN => ?_⟩
  · have := F.bindsA (ps := d.ps) (fun _ _ _ _ _ _ us hl => bind_all fo.args fo.nd hl) s [u] (by rw [hps]; rfl)
    rw [hps] at this
    exact this
  · refine ⟨(by rw [hp1]; rfl), [.inp (ns.map D.int)], [], [], [], ⟨List.nodup_nil, rfl, (fun _ h => nomatch h), (fun _ h => nomatch h), fun i a d h _ => (by cases h)⟩, .cons (.inp (vs := ns.map V.int) ?_ ?_) .nil, ?_⟩
    · have e : gH [] [] H = H := funext fun b => by
        unfold gH
        rw [if_neg (by simp)]
      rw [e]
      exact hS
    · clear hS hn
      induction ns with
      | nil => exact .nil
      | cons i ns ih => exact .cons (.int i) ih
    · obtain ⟨st', e⟩ := hl ns hn
      rw [e]
      intro as' H' v _ _ r
      cases r
      rfl
  · have := one_fn (P := P) (base := base) tp (ck d hd) F hf n fun y f hy => all_cal tp ck n y f hy
    rw [hps] at this
    exact this
end Q
end
section
set_option Elab.async false
set_option linter.all false
set_option maxRecDepth 100000
set_option maxHeartbeats 0
open PySem PySem.W PySem.Calls PyProof.Rows
theorem K59.headed (n : Nat) (hr : L2.Room (n + 1 + 10) callerA) (hl : ∀ ns : List Int, ns.length ≤ 63 → ∃ st', Q.callP (Q.tableOf K59.ds) (n + 1) ("law" : Str) [.inp (ns.map Q.D.int)] [] = .ok (.bl true) st') : PySem.Challenge.rw_gathersolve_k59_whole_spared_lots_of_put.Holds := by
  w_on; o_law
  refine HandSHeadRun.head_any (r := OpenLaw.row PySem.Challenge.rw_gathersolve_k59_whole_spared_lots_of_put) (q := view (OpenLaw.row PySem.Challenge.rw_gathersolve_k59_whole_spared_lots_of_put).prog [104]) (H := K59.hk) (ob := K59.ob) (M := 20000) (loose := K59.names) (d := HandSHeadRun.topDef (OpenLaw.row PySem.Challenge.rw_gathersolve_k59_whole_spared_lots_of_put).prog 104) (kwd := []) K59.ob_eq
    (by kernel_rfl) (fun s => by kernel_rfl) K59.run (by kernel_rfl) (by kernel_rfl) (by kernel_rfl) (by rfl) (by first | assumption | decide +kernel) (by decide +kernel) ⟨rfl, rfl, rfl, rfl, rfl, by decide +kernel⟩ ?hw ?hc
  case hw => w_witness2
  case hc =>
    refine L2.walk_ofE (l := PySem.Challenge.rw_gathersolve_k59_whole_spared_lots_of_put) (n := 63) (k := n + 1 + 10) (x := "script") (CX := C8.CX0) rfl (by decide) (by kernel_rfl) hr ?F (fun _ _ _ _ z => z)
    intro w mg fa h Y G hmg0
    obtain ⟨K, KX, c⟩ := Y
    have hmg : mg ("law" : PySem.Str) = some (.ref fa) := by
      have e : (HandSHeadRun.topDef (OpenLaw.row PySem.Challenge.rw_gathersolve_k59_whole_spared_lots_of_put).prog 104).name = ("law" : PySem.Str) := by kernel_rfl
      rw [← e]
      exact hmg0
    exact Q.law_fin (P := (PySem.Challenge.rw_gathersolve_k59_whole_spared_lots_of_put).prog) (w := w) (d := K59.d_law) n KX G (by decide +kernel) c K59.ck (by unfold K59.ds; simp) (by kernel_rfl) rfl hmg hl
end
section
set_option Elab.async false
set_option linter.all false
set_option maxRecDepth 100000
set_option maxHeartbeats 2000000
namespace K59
open Q
open PySem (Str)
abbrev T : List (Str × Fn) := tableOf ds
def fin : Q.RS → Q.Res Q.D
  | .ok (.ret d) _ st => .ok d st
  | .ok .next _ st => .ok .non st
  | .ok _ _ _ => .stuck
  | .err x _ st => .err x st
  | .stuck => .stuck
theorem call_eq {f : Str} {d : Fn} {xs : List D} {n : Nat} {st : List D} (hf : findFn f T = some d) (hl : Nat.beq xs.length d.ps = true) :
    callP T (n + 1) f xs st = fin (evS (callP T n) d.body (xs.map some ++ List.replicate (d.n - xs.length) none) st) := by
  unfold callP
  rw [hf]
  dsimp only
  rw [hl]
  dsimp only
  generalize evS (callP T n) d.body (xs.map some ++ List.replicate (d.n - xs.length) none) st = r
  cases r with
  | ok f ρ s => cases f <;> rfl
  | err x ρ s => rfl
  | stuck => rfl
def Ret (k : Nat) (f : Str) (xs : List D) (r : D) : Prop := ∀ n st, callP T (n + k) f xs st = .ok r st
theorem Ret.mono {k k' : Nat} {f : Str} {xs : List D} {r : D} (h : Ret k f xs r) (hk : k ≤ k') : Ret k' f xs r := fun n st => by
  have e : n + k' = (n + (k' - k)) + k := by omega
  rw [e]
  exact h _ _
inductive Tm where
  | unk (n : Str) | con (n : Str)
  | free (f : Str) (ts : List Tm)
  | bag (ts : List Tm) | set (ts : List Tm)
mutual
def enc : Tm → D
  | .unk n => .tup [.str "unknown", .str n]
  | .con n => .tup [.str "constant", .str n]
  | .free f ts => .tup [.str "free", .str f, .tup (encs ts)]
  | .bag ts => .tup [.str "bag", .tup (encs ts)]
  | .set ts => .tup [.str "set", .tup (encs ts)]
def encs : List Tm → List D
  | [] => []
  | t :: ts => enc t :: encs ts
end
def parts : Tm → List Tm
  | .unk _ => []
  | .con _ => []
  | .free _ ts => ts
  | .bag ts => ts
  | .set ts => ts
theorem parts_in (t : Tm) : Ret 1 "parts_in" [enc t] (.tup (encs (parts t))) := by
  intro n st
  cases t <;> rfl
end K59
end
section
set_option Elab.async false
set_option linter.all false
set_option maxRecDepth 100000
set_option maxHeartbeats 2000000
namespace K59
open Q Q.D
open PySem (Str)
theorem encs_map : ∀ ts : List Tm, encs ts = ts.map enc
  | [] => rfl
  | t :: ts => by rw [encs, encs_map ts]; rfl
mutual
def dep : Tm → Nat
  | .unk _ => 0
  | .con _ => 0
  | .free _ ts => deps ts + 1
  | .bag ts => deps ts + 1
  | .set ts => deps ts + 1
def deps : List Tm → Nat
  | [] => 0
  | t :: ts => max (dep t) (deps ts)
end
mutual
def size : Tm → Nat
  | .unk _ => 1
  | .con _ => 1
  | .free _ ts => sizes ts + 1
  | .bag ts => sizes ts + 1
  | .set ts => sizes ts + 1
def sizes : List Tm → Nat
  | [] => 0
  | t :: ts => size t + sizes ts
end
theorem size_parts (t : Tm) : size t = sizes (parts t) + 1 := by cases t <;> simp [size, parts, sizes]
theorem dep_parts (t : Tm) : deps (parts t) ≤ dep t := by cases t <;> simp [dep, parts, deps]
theorem dep_part {t p : Tm} (h : p ∈ parts t) : dep p < dep t := by
  have key : ∀ ts : List Tm, p ∈ ts → dep p ≤ deps ts := by
    intro ts
    induction ts with
    | nil => intro h; cases h
    | cons a ts ih =>
      intro h
      rw [deps]
      rcases List.mem_cons.mp h with rfl | h
      · omega
      · have := ih h; omega
  cases t with
  | unk n => cases h
  | con n => cases h
  | free f ts => have := key ts h; rw [dep]; omega
  | bag ts => have := key ts h; rw [dep]; omega
  | set ts => have := key ts h; rw [dep]; omega
theorem size_mem {p : Tm} : ∀ {ts : List Tm}, p ∈ ts → size p ≤ sizes ts
  | [], h => nomatch h
  | t :: ts, h => by
    rw [sizes]
    rcases List.mem_cons.mp h with rfl | h
    · omega
    · have := size_mem h; omega
theorem size_pos (t : Tm) : 1 ≤ size t := by cases t <;> simp [size]
theorem len_sizes : ∀ ts : List Tm, ts.length ≤ sizes ts
  | [] => Nat.zero_le _
  | t :: ts => by
    rw [sizes, List.length_cons]
    have := size_pos t
    have := len_sizes ts
    omega
theorem dep_mem {p : Tm} : ∀ {ts : List Tm}, p ∈ ts → dep p ≤ deps ts
  | [], h => nomatch h
  | t :: ts, h => by
    rw [deps]
    rcases List.mem_cons.mp h with rfl | h
    · omega
    · have := dep_mem h; omega
mutual
theorem ky_enc : ∀ t : Tm, ky (enc t) = true
  | .unk _ => rfl
  | .con _ => rfl
  | .free _ ts => by simp [enc, ky, kyL, ky_encs ts]
  | .bag ts => by simp [enc, ky, kyL, ky_encs ts]
  | .set ts => by simp [enc, ky, kyL, ky_encs ts]
theorem ky_encs : ∀ ts : List Tm, kyL (encs ts) = true
  | [] => rfl
  | t :: ts => by simp [encs, kyL, ky_enc t, ky_encs ts]
end
mutual
theorem dp_enc : ∀ t : Tm, dp (enc t) ≤ 2 * dep t + 1
  | .unk _ => by simp [enc, dp, dpL]
  | .con _ => by simp [enc, dp, dpL]
  | .free _ ts => by have := dp_encs ts; simp [enc, dp, dpL, dep]; omega
  | .bag ts => by have := dp_encs ts; simp [enc, dp, dpL, dep]; omega
  | .set ts => by have := dp_encs ts; simp [enc, dp, dpL, dep]; omega
theorem dp_encs : ∀ ts : List Tm, dpL (encs ts) ≤ 2 * deps ts + 1
  | [] => by simp [encs, dpL]
  | t :: ts => by have := dp_enc t; have := dp_encs ts; simp only [encs, dpL, deps]; omega
end
mutual
theorem pl_enc : ∀ t : Tm, pl (enc t) = true
  | .unk _ => rfl
  | .con _ => rfl
  | .free _ ts => by simp [enc, pl, plL, pl_encs ts]
  | .bag ts => by simp [enc, pl, plL, pl_encs ts]
  | .set ts => by simp [enc, pl, plL, pl_encs ts]
theorem pl_encs : ∀ ts : List Tm, plL (encs ts) = true
  | [] => rfl
  | t :: ts => by simp [encs, plL, pl_enc t, pl_encs ts]
end
theorem isKey_enc {t : Tm} (h : dep t ≤ 3) : (enc t).isKey = true := by
  have := dp_enc t
  show (ky (enc t) && Nat.ble (dp (enc t)) 8) = true
  rw [ky_enc, Nat.ble_eq_true_of_le (by omega)]
  rfl
theorem plain_enc {t : Tm} (h : dep t ≤ 3) : (enc t).isPlain = true := by
  have := dp_enc t
  show (pl (enc t) && Nat.ble (dp (enc t)) 150) = true
  rw [pl_enc, Nat.ble_eq_true_of_le (by omega)]
  rfl
def word : Tm → Str
  | .unk _ => "unknown"
  | .con _ => "constant"
  | .free _ _ => "free"
  | .bag _ => "bag"
  | .set _ => "set"
def rest : Tm → List D
  | .unk n => [.str n]
  | .con n => [.str n]
  | .free f ts => [.str f, .tup (encs ts)]
  | .bag ts => [.tup (encs ts)]
  | .set ts => [.tup (encs ts)]
theorem enc_word (t : Tm) : enc t = .tup (.str (word t) :: rest t) := by cases t <;> rfl
inductive Same2 : Tm → Tm → Prop
  | unk (n m : Str) : Same2 (.unk n) (.unk m)
  | con (n m : Str) : Same2 (.con n) (.con m)
  | free (f g : Str) (ts us : List Tm) : Same2 (.free f ts) (.free g us)
  | bag (ts us : List Tm) : Same2 (.bag ts) (.bag us)
  | set (ts us : List Tm) : Same2 (.set ts) (.set us)
theorem same2 : ∀ {a b : Tm}, word a = word b → Same2 a b
  | .unk n, .unk m, _ => .unk n m
  | .unk n, .con m, h => absurd h (by dsimp only [word]; decide)
  | .unk n, .free g us, h => absurd h (by dsimp only [word]; decide)
  | .unk n, .bag us, h => absurd h (by dsimp only [word]; decide)
  | .unk n, .set us, h => absurd h (by dsimp only [word]; decide)
  | .con n, .unk m, h => absurd h (by dsimp only [word]; decide)
  | .con n, .con m, _ => .con n m
  | .con n, .free g us, h => absurd h (by dsimp only [word]; decide)
  | .con n, .bag us, h => absurd h (by dsimp only [word]; decide)
  | .con n, .set us, h => absurd h (by dsimp only [word]; decide)
  | .free f ts, .unk m, h => absurd h (by dsimp only [word]; decide)
  | .free f ts, .con m, h => absurd h (by dsimp only [word]; decide)
  | .free f ts, .free g us, _ => .free f g ts us
  | .free f ts, .bag us, h => absurd h (by dsimp only [word]; decide)
  | .free f ts, .set us, h => absurd h (by dsimp only [word]; decide)
  | .bag ts, .unk m, h => absurd h (by dsimp only [word]; decide)
  | .bag ts, .con m, h => absurd h (by dsimp only [word]; decide)
  | .bag ts, .free g us, h => absurd h (by dsimp only [word]; decide)
  | .bag ts, .bag us, _ => .bag ts us
  | .bag ts, .set us, h => absurd h (by dsimp only [word]; decide)
  | .set ts, .unk m, h => absurd h (by dsimp only [word]; decide)
  | .set ts, .con m, h => absurd h (by dsimp only [word]; decide)
  | .set ts, .free g us, h => absurd h (by dsimp only [word]; decide)
  | .set ts, .bag us, h => absurd h (by dsimp only [word]; decide)
  | .set ts, .set us, _ => .set ts us
mutual
theorem enc_inj : ∀ a b : Tm, enc a = enc b → a = b
  | a, b, h => by
    have h' := h
    rw [enc_word a, enc_word b] at h'
    injection h' with h1
    injection h1 with h2 h3
    injection h2 with h4
    cases same2 h4 with
    | unk n m => injection h3 with h5; injection h5 with h6; rw [h6]
    | con n m => injection h3 with h5; injection h5 with h6; rw [h6]
    | free f g ts us =>
      injection h3 with h5 h6
      injection h5 with h7
      injection h6 with h8
      injection h8 with h9
      rw [h7, encs_inj ts us h9]
    | bag ts us =>
      injection h3 with h5
      injection h5 with h6
      rw [encs_inj ts us h6]
    | set ts us =>
      injection h3 with h5
      injection h5 with h6
      rw [encs_inj ts us h6]
theorem encs_inj : ∀ a b : List Tm, encs a = encs b → a = b
  | [], [], _ => rfl
  | [], _ :: _, h => by simp [encs] at h
  | _ :: _, [], h => by simp [encs] at h
  | a :: as, b :: bs, h => by
    simp only [encs, List.cons.injEq] at h
    rw [enc_inj a b h.1, encs_inj as bs h.2]
end
def teq (a b : Tm) : Bool := beq (enc a) (enc b)
theorem teq_iff {a b : Tm} : teq a b = true ↔ a = b := ⟨fun h => enc_inj a b (eq_of_beq _ _ h), fun h => by rw [h]; exact beq_self _⟩
instance : DecidableEq Tm := fun a b => match h : teq a b with
  | true => .isTrue (teq_iff.mp h)
  | false => .isFalse fun e => by rw [teq_iff.mpr e] at h; cases h
theorem teq_dec (a b : Tm) : teq a b = decide (a = b) := by
  by_cases h : a = b
  · rw [decide_eq_true h, teq_iff.mpr h]
  · rw [decide_eq_false h]
    cases e : teq a b with
    | true => exact absurd (teq_iff.mp e) h
    | false => rfl
theorem cmp_hd {x y : Str} {as bs : List D} (h : x = y → (cmpL as bs).isSome = true) : (cmpL (.str x :: as) (.str y :: bs)).isSome = true := by
  show (match beq (.str x) (.str y) with | true => cmpL as bs | false => cmp (.str x) (.str y)).isSome = true
  cases e : beq (.str x) (.str y) with
  | true => exact h (by simpa using eq_of_beq _ _ e)
  | false => rfl
theorem cmp_one {x y : List D} (h : (cmpL x y).isSome = true) : (cmpL [.tup x] [.tup y]).isSome = true := by
  show (match beq (.tup x) (.tup y) with | true => cmpL [] [] | false => cmp (.tup x) (.tup y)).isSome = true
  cases beq (.tup x) (.tup y) with
  | true => rfl
  | false => exact h
mutual
theorem cmp_enc : ∀ a b : Tm, (cmp (enc a) (enc b)).isSome = true
  | a, b => by
    rw [enc_word a, enc_word b]
    refine cmp_hd fun hw => ?_
    cases same2 hw with
    | unk n m => exact cmp_hd fun _ => rfl
    | con n m => exact cmp_hd fun _ => rfl
    | free f g ts us => exact cmp_hd fun _ => cmp_one (cmp_encs ts us)
    | bag ts us => exact cmp_one (cmp_encs ts us)
    | set ts us => exact cmp_one (cmp_encs ts us)
theorem cmp_encs : ∀ a b : List Tm, (cmpL (encs a) (encs b)).isSome = true
  | [], [] => rfl
  | [], _ :: _ => rfl
  | _ :: _, [] => rfl
  | a :: as, b :: bs => by
    show (match beq (enc a) (enc b) with | true => cmpL (encs as) (encs bs) | false => cmp (enc a) (enc b)).isSome = true
    cases beq (enc a) (enc b) with
    | true => exact cmp_encs as bs
    | false => exact cmp_enc a b
end
def lt (a b : Tm) : Bool := ltT (enc a) (enc b)
def ins (a : Tm) : List Tm → List Tm
  | [] => [a]
  | b :: bs => match lt b a with
    | true => b :: ins a bs
    | false => a :: b :: bs
def tsort : List Tm → List Tm
  | [] => []
  | a :: as => ins a (tsort as)
def tded : List Tm → List Tm → List Tm
  | _, [] => []
  | seen, a :: as => match seen.any (teq a) with
    | true => tded seen as
    | false => a :: tded (a :: seen) as
theorem ins_enc (a : Tm) : ∀ ts, encs (ins a ts) = insertBack (enc a) (encs ts)
  | [] => rfl
  | b :: bs => by
    rw [ins, encs, insertBack]
    show encs (match ltT (enc b) (enc a) with | true => b :: ins a bs | false => a :: b :: bs) = _
    cases ltT (enc b) (enc a) with
    | true => show enc b :: encs (ins a bs) = _; rw [ins_enc a bs]
    | false => rfl
theorem tsort_enc : ∀ ts, encs (tsort ts) = isort (encs ts)
  | [] => rfl
  | a :: as => by rw [tsort, ins_enc, tsort_enc as]; rfl
theorem any_enc (a : Tm) : ∀ seen : List Tm, (encs seen).any (beq (enc a)) = seen.any (teq a)
  | [] => rfl
  | b :: bs => by
    show (beq (enc a) (enc b) || (encs bs).any (beq (enc a))) = _
    rw [any_enc a bs]
    rfl
theorem tded_enc : ∀ ts seen, encs (tded seen ts) = dedup (encs seen) (encs ts)
  | [], _ => rfl
  | a :: as, seen => by
    show encs (match seen.any (teq a) with | true => tded seen as | false => a :: tded (a :: seen) as) = (match (encs seen).any (beq (enc a)) with | true => dedup (encs seen) (encs as) | false => enc a :: dedup (enc a :: encs seen) (encs as))
    rw [any_enc]
    cases seen.any (teq a) with
    | true => exact tded_enc as seen
    | false => show enc a :: encs (tded (a :: seen) as) = _; rw [tded_enc as (a :: seen)]; rfl
def tset (ts : List Tm) : List Tm := tsort (tded [] ts)
theorem mem_encs {d : D} {ts : List Tm} (h : d ∈ encs ts) : ∃ t ∈ ts, enc t = d := by
  rw [encs_map] at h
  exact List.mem_map.mp h
theorem encs_len (ts : List Tm) : (encs ts).length = ts.length := by rw [encs_map, List.length_map]
theorem encs_app (ts us : List Tm) : encs (ts ++ us) = encs ts ++ encs us := by rw [encs_map, encs_map, encs_map, List.map_append]
theorem allCmp_encs {ts : List Tm} (h : ∀ t ∈ ts, dep t ≤ 3) : allCmp (encs ts) = true := by
  refine List.all_eq_true.mpr fun x hx => ?_
  obtain ⟨a, ha, rfl⟩ := mem_encs hx
  rw [isKey_enc (h a ha), Bool.true_and]
  refine List.all_eq_true.mpr fun y hy => ?_
  obtain ⟨b, hb, rfl⟩ := mem_encs hy
  exact cmp_enc a b
theorem headS_encs (ts : List Tm) : (encs ts).all headS = true := by
  refine List.all_eq_true.mpr fun x hx => ?_
  obtain ⟨a, ha, rfl⟩ := mem_encs hx
  rw [enc_word]
  rfl
theorem isTup_encs (ts : List Tm) : (encs ts).all isTupD = true := by
  refine List.all_eq_true.mpr fun x hx => ?_
  obtain ⟨a, ha, rfl⟩ := mem_encs hx
  rw [enc_word]
  rfl
theorem sortD_encs {ts : List Tm} (h : ∀ t ∈ ts, dep t ≤ 3) (hl : ts.length ≤ 1000) : sortD (encs ts) = some (.lst (encs (tsort ts))) := by
  unfold sortD
  have hk : sortK (encs ts) = true := by
    unfold sortK
    rw [headS_encs]
    simp
  rw [allCmp_encs h, hk]
  show sizeOk (encs ts).length (D.lst (isort (encs ts))) = _
  unfold sizeOk
  rw [encs_len, Nat.ble_eq_true_of_le (show ts.length ≤ LIM from Nat.le_trans hl (by decide)), tsort_enc]
theorem setOk_encs {ts : List Tm} (h : ∀ t ∈ ts, dep t ≤ 3) (hl : ts.length ≤ 63) : setOk (encs ts) = true := by
  unfold setOk
  rw [isTup_encs, encs_len, Nat.ble_eq_true_of_le hl, List.all_eq_true.mpr fun x hx => ?_]
  · simp
  · obtain ⟨a, ha, rfl⟩ := mem_encs hx
    exact isKey_enc (h a ha)
theorem ins_perm (a : Tm) : ∀ l, (ins a l).Perm (a :: l)
  | [] => .refl _
  | b :: bs => by
    rw [ins]
    cases lt b a with
    | true => exact ((ins_perm a bs).cons b).trans (.swap a b bs)
    | false => exact .refl _
theorem tsort_perm : ∀ l, (tsort l).Perm l
  | [] => .refl _
  | a :: as => (ins_perm a (tsort as)).trans ((tsort_perm as).cons a)
theorem tsort_uniq {l m : List Tm} (h : l.Perm m) : tsort l = tsort m := by
  refine encs_inj _ _ ?_
  rw [tsort_enc, tsort_enc]
  have hp : (encs l).Perm (encs m) := by rw [encs_map, encs_map]; exact h.map _
  refine sorted_uniq (fun x hx => ?_) (isort_sorted _) (isort_sorted _) ((isort_perm _).trans (hp.trans (isort_perm _).symm))
  obtain ⟨a, _, rfl⟩ := mem_encs ((isort_perm _).mem_iff.mp hx)
  exact ky_enc a
theorem tsort_idem (l : List Tm) : tsort (tsort l) = tsort l := tsort_uniq (tsort_perm l)
theorem mem_tsort {l : List Tm} {t : Tm} : t ∈ tsort l ↔ t ∈ l := (tsort_perm l).mem_iff
theorem tsort_len (l : List Tm) : (tsort l).length = l.length := (tsort_perm l).length_eq
theorem mem_tded {t : Tm} : ∀ {l seen : List Tm}, t ∈ tded seen l ↔ t ∈ l ∧ t ∉ seen
  | [], seen => by simp [tded]
  | a :: as, seen => by
    rw [tded]
    cases e : seen.any (teq a) with
    | true =>
      have ha : a ∈ seen := by
        obtain ⟨x, hx, q⟩ := List.any_eq_true.mp e
        rw [teq_iff.mp q]; exact hx
      show t ∈ tded seen as ↔ _
      rw [mem_tded]
      constructor
      · exact fun ⟨x, y⟩ => ⟨List.mem_cons_of_mem _ x, y⟩
      · rintro ⟨x, y⟩
        rcases List.mem_cons.mp x with rfl | x
        · exact absurd ha y
        · exact ⟨x, y⟩
    | false =>
      have ha : a ∉ seen := fun hx => by
        have : seen.any (teq a) = true := List.any_eq_true.mpr ⟨a, hx, teq_iff.mpr rfl⟩
        rw [e] at this; cases this
      show t ∈ a :: tded (a :: seen) as ↔ _
      rw [List.mem_cons, mem_tded]
      constructor
      · rintro (rfl | ⟨x, y⟩)
        · exact ⟨List.mem_cons_self, ha⟩
        · exact ⟨List.mem_cons_of_mem _ x, fun z => y (List.mem_cons_of_mem _ z)⟩
      · rintro ⟨x, y⟩
        by_cases q : t = a
        · exact .inl q
        · exact .inr ⟨(List.mem_cons.mp x).resolve_left q, fun z => (List.mem_cons.mp z).elim q y⟩
theorem tded_nodup : ∀ (l seen : List Tm), (tded seen l).Nodup
  | [], _ => List.nodup_nil
  | a :: as, seen => by
    rw [tded]
    cases seen.any (teq a) with
    | true => exact tded_nodup as seen
    | false => exact List.nodup_cons.mpr ⟨fun h => (mem_tded.mp h).2 List.mem_cons_self, tded_nodup as _⟩
theorem mem_tset {l : List Tm} {t : Tm} : t ∈ tset l ↔ t ∈ l := by
  unfold tset
  rw [mem_tsort, mem_tded]
  simp
theorem tset_nodup (l : List Tm) : (tset l).Nodup := (tsort_perm _).nodup_iff.mpr (tded_nodup l [])
theorem tset_uniq {l m : List Tm} (h : ∀ t, t ∈ l ↔ t ∈ m) : tset l = tset m := by
  refine tsort_uniq ((List.perm_ext_iff_of_nodup (tded_nodup _ _) (tded_nodup _ _)).mpr fun t => ?_)
  rw [mem_tded, mem_tded, h t]
end K59
end
section
set_option Elab.async false
set_option linter.all false
set_option maxRecDepth 100000
set_option maxHeartbeats 2000000
namespace K59
open Q
open PySem (Str)
section
variable {cl : Str → List D → M D} {ρ : Q.Env} {st st1 st2 st3 st4 : List D} {α β : Type}
theorem bind_eq {m : M α} {f : α → M β} {a : α} (h : m st = .ok a st1) : M.bind m f st = f a st1 := by unfold M.bind; rw [h]
theorem ofO_eq {o : Option α} {d : α} (h : o = some d) : M.ofO o st = .ok d st := by rw [h]; rfl
theorem x_op {o : Bop} {a b : E} {x y d : D} (h1 : evE cl a ρ st = .ok x st1) (h2 : evE cl b ρ st1 = .ok y st2) (h3 : opB o x y = some d) : evE cl (.op o a b) ρ st = .ok d st2 := by
  show M.bind (evE cl a ρ) (fun x => M.bind (evE cl b ρ) fun y => M.ofO (opB o x y)) st = _
  rw [bind_eq h1, bind_eq h2, ofO_eq h3]
theorem x_cmp {o : Cop} {a b : E} {x y : D} {k : Bool} (h1 : evE cl a ρ st = .ok x st1) (h2 : evE cl b ρ st1 = .ok y st2) (h3 : opC o x y = some k) : evE cl (.cmp o a b) ρ st = .ok (.bl k) st2 := by
  show M.bind (evE cl a ρ) (fun x => M.bind (evE cl b ρ) fun y => M.bind (M.ofO (opC o x y)) fun b => M.pure (D.bl b)) st = _
  rw [bind_eq h1, bind_eq h2, bind_eq (ofO_eq h3)]
  rfl
theorem x_not {a : E} {k : Bool} (h1 : evE cl a ρ st = .ok (.bl k) st1) : evE cl (.not a) ρ st = .ok (.bl (!k)) st1 := by
  show M.bind (evE cl a ρ) (fun x => M.bind (truth x) fun b => M.pure (D.bl (!b))) st = _
  rw [bind_eq h1]
  rfl
theorem x_and {a b : E} {k : Bool} {d : D} (h1 : evE cl a ρ st = .ok (.bl k) st1) (h2 : k = true → evE cl b ρ st1 = .ok d st2) (h3 : k = false → d = .bl false ∧ st2 = st1) : evE cl (.and a b) ρ st = .ok d st2 := by
  show M.bind (evE cl a ρ) (fun x => M.bind (truth x) fun k => match k with
    | true => evE cl b ρ
    | false => M.pure (D.bl false)) st = _
  rw [bind_eq h1]
  cases k with
  | true => exact h2 rfl
  | false =>
    obtain ⟨rfl, rfl⟩ := h3 rfl
    rfl
theorem x_or {a b : E} {k : Bool} {d : D} (h1 : evE cl a ρ st = .ok (.bl k) st1) (h2 : k = false → evE cl b ρ st1 = .ok d st2) (h3 : k = true → d = .bl true ∧ st2 = st1) : evE cl (.or a b) ρ st = .ok d st2 := by
  show M.bind (evE cl a ρ) (fun x => M.bind (truth x) fun k => match k with
    | true => M.pure (D.bl true)
    | false => evE cl b ρ) st = _
  rw [bind_eq h1]
  cases k with
  | false => exact h2 rfl
  | true =>
    obtain ⟨rfl, rfl⟩ := h3 rfl
    rfl
theorem x_andT {a b : E} {d : D} (h1 : evE cl a ρ st = .ok (.bl true) st1) (h2 : evE cl b ρ st1 = .ok d st2) : evE cl (.and a b) ρ st = .ok d st2 := x_and h1 (fun _ => h2) (fun h => by cases h)
theorem x_andF {a b : E} (h1 : evE cl a ρ st = .ok (.bl false) st1) : evE cl (.and a b) ρ st = .ok (.bl false) st1 := x_and h1 (fun h => by cases h) (fun _ => ⟨rfl, rfl⟩)
theorem x_orF {a b : E} {d : D} (h1 : evE cl a ρ st = .ok (.bl false) st1) (h2 : evE cl b ρ st1 = .ok d st2) : evE cl (.or a b) ρ st = .ok d st2 := x_or h1 (fun _ => h2) (fun h => by cases h)
theorem x_orT {a b : E} (h1 : evE cl a ρ st = .ok (.bl true) st1) : evE cl (.or a b) ρ st = .ok (.bl true) st1 := x_or h1 (fun h => by cases h) (fun _ => ⟨rfl, rfl⟩)
theorem x_ite {c a b : E} {k : Bool} {d : D} (h1 : evE cl c ρ st = .ok (.bl k) st1) (ha : k = true → evE cl a ρ st1 = .ok d st2) (hb : k = false → evE cl b ρ st1 = .ok d st2) : evE cl (.ite c a b) ρ st = .ok d st2 := by
  show M.bind (evE cl c ρ) (fun x => M.bind (truth x) fun k => match k with
    | true => evE cl a ρ
    | false => evE cl b ρ) st = _
  rw [bind_eq h1]
  cases k with
  | true => exact ha rfl
  | false => exact hb rfl
theorem x_iteT {c a b : E} {d : D} (h1 : evE cl c ρ st = .ok (.bl true) st1) (ha : evE cl a ρ st1 = .ok d st2) : evE cl (.ite c a b) ρ st = .ok d st2 := x_ite h1 (fun _ => ha) (fun h => by cases h)
theorem x_iteF {c a b : E} {d : D} (h1 : evE cl c ρ st = .ok (.bl false) st1) (hb : evE cl b ρ st1 = .ok d st2) : evE cl (.ite c a b) ρ st = .ok d st2 := x_ite h1 (fun h => by cases h) (fun _ => hb)
theorem x_nil : evEs cl .enil ρ st = .ok [] st := rfl
theorem x_cons {a r : E} {x : D} {xs : List D} (h1 : evE cl a ρ st = .ok x st1) (h2 : evEs cl r ρ st1 = .ok xs st2) : evEs cl (.econs a r) ρ st = .ok (x :: xs) st2 := by
  show M.bind (evE cl a ρ) (fun x => M.bind (evEs cl r ρ) fun xs => M.pure (x :: xs)) st = _
  rw [bind_eq h1, bind_eq h2]
  rfl
theorem x_one {a : E} {x : D} (h1 : evE cl a ρ st = .ok x st1) : evEs cl (.econs a .enil) ρ st = .ok [x] st1 := x_cons h1 x_nil
theorem x_two {a b : E} {x y : D} (h1 : evE cl a ρ st = .ok x st1) (h2 : evE cl b ρ st1 = .ok y st2) : evEs cl (.econs a (.econs b .enil)) ρ st = .ok [x, y] st2 := x_cons h1 (x_one h2)
theorem x_three {a b c : E} {x y z : D} (h1 : evE cl a ρ st = .ok x st1) (h2 : evE cl b ρ st1 = .ok y st2) (h3 : evE cl c ρ st2 = .ok z st3) : evEs cl (.econs a (.econs b (.econs c .enil))) ρ st = .ok [x, y, z] st3 := x_cons h1 (x_two h2 h3)
theorem x_tup {es : E} {xs : List D} (h1 : evEs cl es ρ st = .ok xs st1) (h2 : Nat.ble xs.length LIM = true) : evE cl (.tup es) ρ st = .ok (.tup xs) st1 := by
  show M.bind (evEs cl es ρ) (fun xs => M.ofO (sizeOk xs.length (D.tup xs))) st = _
  rw [bind_eq h1]
  unfold sizeOk
  rw [h2]
  rfl
theorem x_lst {es : E} {xs : List D} (h1 : evEs cl es ρ st = .ok xs st1) (h2 : Nat.ble xs.length LIM = true) : evE cl (.lst es) ρ st = .ok (.lst xs) st1 := by
  show M.bind (evEs cl es ρ) (fun xs => M.ofO (sizeOk xs.length (D.lst xs))) st = _
  rw [bind_eq h1]
  unfold sizeOk
  rw [h2]
  rfl
theorem x_idx {a i : E} {x y d : D} (h1 : evE cl a ρ st = .ok x st1) (h2 : evE cl i ρ st1 = .ok y st2) (h3 : ixM x y st2 = .ok d st2) : evE cl (.idx a i) ρ st = .ok d st2 := by
  show M.bind (evE cl a ρ) (fun x => M.bind (evE cl i ρ) fun y => ixM x y) st = _
  rw [bind_eq h1, bind_eq h2, h3]
theorem x_slc {a l h : E} {x y z d : D} {lo hi : Option Int} (h1 : evE cl a ρ st = .ok x st1) (h2 : evE cl l ρ st1 = .ok y st2) (h3 : optInt y = some lo) (h4 : evE cl h ρ st2 = .ok z st3) (h5 : optInt z = some hi) (h6 : opSl x lo hi = some d) : evE cl (.slc a l h) ρ st = .ok d st3 := by
  show M.bind (evE cl a ρ) (fun x => M.bind (evE cl l ρ) fun y => M.bind (M.ofO (optInt y)) fun l => M.bind (evE cl h ρ) fun z => M.bind (M.ofO (optInt z)) fun h => M.ofO (opSl x l h)) st = _
  rw [bind_eq h1, bind_eq h2, bind_eq (ofO_eq h3), bind_eq h4, bind_eq (ofO_eq h5), ofO_eq h6]
theorem x_bi {b : Bi} {es : E} {xs : List D} {d : D} (h1 : evEs cl es ρ st = .ok xs st1) (h2 : opBi b xs = some d) : evE cl (.bi b es) ρ st = .ok d st1 := by
  show M.bind (evEs cl es ρ) (fun xs => M.ofO (opBi b xs)) st = _
  rw [bind_eq h1, ofO_eq h2]
theorem x_call {f : Str} {es : E} {xs : List D} {d : D} (h1 : evEs cl es ρ st = .ok xs st1) (h2 : cl f xs st1 = .ok d st2) : evE cl (.call f es) ρ st = .ok d st2 := by
  show M.bind (evEs cl es ρ) (fun xs => cl f xs) st = _
  rw [bind_eq h1, h2]
theorem x_mt {m : Mt} {o es : E} {x d : D} {xs : List D} (h1 : evE cl o ρ st = .ok x st1) (h2 : mtOk m x = true) (h3 : evEs cl es ρ st1 = .ok xs st2) (h4 : opMt m x xs = some d) : evE cl (.mt m o es) ρ st = .ok d st2 := by
  show M.bind (evE cl o ρ) (fun x => match mtOk m x with
    | true => M.bind (evEs cl es ρ) fun xs => M.ofO (opMt m x xs)
    | false => M.stuck) st = _
  rw [bind_eq h1, h2]
  show M.bind (evEs cl es ρ) (fun xs => M.ofO (opMt m x xs)) st1 = _
  rw [bind_eq h3, ofO_eq h4]
theorem x_lzp {a b : E} {xs ys : List D} (h1 : evE cl a ρ st = .ok (.lst xs) st1) (h2 : evE cl b ρ st1 = .ok (.lst ys) st2) : evE cl (.lzp a b) ρ st = .ok (.lst (zipD xs ys)) st2 := by
  show M.bind (evE cl a ρ) (fun x => M.bind (evE cl b ρ) fun y => match x, y with
    | .lst xs, .lst ys => M.pure (D.lst (zipD xs ys))
    | _, _ => M.stuck) st = _
  rw [bind_eq h1, bind_eq h2]
  rfl
theorem i_plain' {a : E} {x : D} {xs : List D} (h1 : evE cl a ρ st = .ok x st1) (h2 : walked x = some xs) : evI cl (.plain a) ρ st = .ok xs st1 := by
  show M.bind (evE cl a ρ) (fun x => M.ofO (walked x)) st = _
  rw [bind_eq h1, ofO_eq h2]
theorem loopC_of {F : D → M (List D)} {α : Type} {φ : α → D} {g : α → List D} : ∀ {l : List α}, (∀ a ∈ l, ∀ s, F (φ a) s = .ok (g a) s) → ∀ s, loopC F (l.map φ) s = .ok (l.flatMap g) s
  | [], _, s => rfl
  | a :: l, h, s => by
    show M.bind (F (φ a)) (fun ys => M.bind (loopC F (l.map φ)) fun zs => M.pure (ys ++ zs)) s = _
    rw [bind_eq (h a List.mem_cons_self s), bind_eq (loopC_of (fun b hb => h b (List.mem_cons_of_mem _ hb)) s)]
    rfl
theorem x_lc {te : E} {tg : Q.T} {it c : E} {own : List Nat} {α : Type} {φ : α → D} {g : α → List D} {l : List α} (hi : evI cl it ρ st = .ok (l.map φ) st1) (hF : ∀ a ∈ l, ∀ s, lcF cl te tg c (wipeE ρ own) (φ a) s = .ok (g a) s) (hs : (l.flatMap g).length ≤ LIM) : evE cl (.lc te tg it c own) ρ st = .ok (.lst (l.flatMap g)) st1 := by
  show M.bind (evI cl it ρ) (fun items => M.bind (loopC (lcF cl te tg c (wipeE ρ own)) items) fun ys => M.ofO (sizeOk ys.length (D.lst ys))) st = _
  rw [bind_eq hi, bind_eq (loopC_of hF st1)]
  unfold sizeOk
  rw [Nat.ble_eq_true_of_le hs]
  rfl
theorem flatMap_one {α β : Type} (g : α → β) : ∀ l : List α, l.flatMap (fun a => [g a]) = l.map g
  | [] => rfl
  | a :: l => by rw [List.flatMap_cons, flatMap_one g l]; rfl
theorem flatMap_if {α β : Type} (p : α → Bool) (g : α → β) : ∀ l : List α, l.flatMap (fun a => if p a then [g a] else []) = (l.filter p).map g
  | [] => rfl
  | a :: l => by
    rw [List.flatMap_cons, flatMap_if p g l, List.filter_cons]
    cases p a <;> rfl
theorem x_lcm {te : E} {tg : Q.T} {it c : E} {own : List Nat} {α : Type} {φ : α → D} {g : α → D} {l : List α} (hi : evI cl it ρ st = .ok (l.map φ) st1) (hF : ∀ a ∈ l, ∀ s, lcF cl te tg c (wipeE ρ own) (φ a) s = .ok [g a] s) (hs : l.length ≤ LIM) : evE cl (.lc te tg it c own) ρ st = .ok (.lst (l.map g)) st1 := by
  have := x_lc (g := fun a => [g a]) hi hF (by rw [flatMap_one, List.length_map]; exact hs)
  rw [flatMap_one] at this
  exact this
theorem x_lcf {te : E} {tg : Q.T} {it c : E} {own : List Nat} {α : Type} {φ : α → D} {g : α → D} {p : α → Bool} {l : List α} (hi : evI cl it ρ st = .ok (l.map φ) st1) (hF : ∀ a ∈ l, ∀ s, lcF cl te tg c (wipeE ρ own) (φ a) s = .ok (if p a then [g a] else []) s) (hs : l.length ≤ LIM) : evE cl (.lc te tg it c own) ρ st = .ok (.lst ((l.filter p).map g)) st1 := by
  have := x_lc (g := fun a => if p a then [g a] else []) hi hF (by rw [flatMap_if, List.length_map]; exact Nat.le_trans (List.length_filter_le _ _) hs)
  rw [flatMap_if] at this
  exact this
theorem lc_elt {te : E} {tg : Q.T} {c : E} {ρ' : Q.Env} {x d : D} (hb : bindT tg x ρ = some ρ') (hc : evE cl c ρ' st = .ok (.bl true) st1) (he : evE cl te ρ' st1 = .ok d st2) : lcF cl te tg c ρ x st = .ok [d] st2 := by
  unfold lcF
  rw [hb]
  show M.bind (evE cl c ρ') _ st = _
  rw [bind_eq hc]
  show M.bind (evE cl te ρ') (fun y => M.pure [y]) st1 = _
  rw [bind_eq he]
  rfl
theorem lc_if {te : E} {tg : Q.T} {c : E} {ρ' : Q.Env} {x d : D} {k : Bool} (hb : bindT tg x ρ = some ρ') (hc : evE cl c ρ' st = .ok (.bl k) st) (he : k = true → evE cl te ρ' st = .ok d st) : lcF cl te tg c ρ x st = .ok (if k then [d] else []) st := by
  cases k with
  | true => exact lc_elt hb hc (he rfl)
  | false =>
    unfold lcF
    rw [hb]
    show M.bind (evE cl c ρ') _ st = _
    rw [bind_eq hc]
    rfl
theorem r_ret {e : E} {d : D} (h : evE cl e ρ st = .ok d st1) : fin (evS cl (.ret e) ρ st) = .ok d st1 := by
  show fin (liftE (evE cl e) (fun d ρ st => .ok (.ret d) ρ st) ρ st) = _
  unfold liftE
  rw [h]
  rfl
theorem r_set {t : Q.T} {e : E} {r : S} {d : D} {ρ' : Q.Env} {R : Q.Res D} (h : evE cl e ρ st = .ok d st1) (hb : bindT t d ρ = some ρ') (hr : fin (evS cl r ρ' st1) = R) : fin (evS cl (.set t e r) ρ st) = R := by
  show fin (liftE (evE cl e) (fun d ρ st => match bindT t d ρ with
    | some ρ' => evS cl r ρ' st
    | none => .stuck) ρ st) = _
  unfold liftE
  rw [h]
  dsimp only
  rw [hb]
  exact hr
theorem r_expr {e : E} {r : S} {d : D} {R : Q.Res D} (h : evE cl e ρ st = .ok d st1) (hr : fin (evS cl r ρ st1) = R) : fin (evS cl (.expr e r) ρ st) = R := by
  show fin (liftE (evE cl e) (fun _ => evS cl r) ρ st) = _
  unfold liftE
  rw [h]
  exact hr
theorem r_if {c : E} {a b r : S} {k : Bool} {R : Q.RS} (h : evE cl c ρ st = .ok (.bl k) st1) (ha : k = true → andThen (evS cl a ρ st1) (evS cl r) = R) (hb : k = false → andThen (evS cl b ρ st1) (evS cl r) = R) : evS cl (.iff c a b r) ρ st = R := by
  show liftE (evE cl c) (fun x ρ st => match x with
    | .bl true => andThen (evS cl a ρ st) (evS cl r)
    | .bl false => andThen (evS cl b ρ st) (evS cl r)
    | _ => .stuck) ρ st = _
  unfold liftE
  rw [h]
  cases k with
  | true => exact ha rfl
  | false => exact hb rfl
theorem then_ret {e : E} {d : D} {k : MS} (h : evE cl e ρ st = .ok d st1) : fin (andThen (evS cl (.ret e) ρ st) k) = .ok d st1 := by
  show fin (andThen (liftE (evE cl e) (fun d ρ st => .ok (.ret d) ρ st) ρ st) k) = _
  unfold liftE
  rw [h]
  rfl
theorem r_ifret {c e : E} {r : S} {k : Bool} {R : Q.Res D} (h : evE cl c ρ st = .ok (.bl k) st1) (ha : k = true → fin (andThen (evS cl (.ret e) ρ st1) (evS cl r)) = R) (hb : k = false → fin (evS cl r ρ st1) = R) : fin (evS cl (.iff c (.ret e) .nil r) ρ st) = R := by
  cases k with
  | true => rw [r_if (R := andThen (evS cl (.ret e) ρ st1) (evS cl r)) h (fun _ => rfl) (fun z => by cases z)]; exact ha rfl
  | false => rw [r_if (R := evS cl r ρ st1) h (fun z => by cases z) (fun _ => rfl)]; exact hb rfl
theorem r_ifF {c : E} {a r : S} {R : Q.Res D} (h : evE cl c ρ st = .ok (.bl false) st1) (hb : fin (evS cl r ρ st1) = R) : fin (evS cl (.iff c a .nil r) ρ st) = R := by
  rw [r_if (R := evS cl r ρ st1) h (fun z => by cases z) (fun _ => rfl)]
  exact hb
theorem r_ifT {c e : E} {b r : S} {d : D} (h : evE cl c ρ st = .ok (.bl true) st1) (ha : evE cl e ρ st1 = .ok d st2) : fin (evS cl (.iff c (.ret e) b r) ρ st) = .ok d st2 := by
  rw [r_if (R := andThen (evS cl (.ret e) ρ st1) (evS cl r)) h (fun _ => rfl) (fun z => by cases z)]
  exact then_ret ha
end
theorem ret_of {f : Str} {d : Fn} {xs : List D} {k : Nat} {r : D} (hf : findFn f T = some d) (hl : Nat.beq xs.length d.ps = true) (h : ∀ n st, fin (evS (callP T (n + k)) d.body (xs.map some ++ List.replicate (d.n - xs.length) none) st) = .ok r st) : Ret (k + 1) f xs r := fun n st => by
  show callP T ((n + k) + 1) f xs st = _
  rw [call_eq hf hl]
  exact h n st
theorem allInt_map {α : Type} (g : α → Int) : ∀ l : List α, allInt (l.map fun a => D.int (g a)) = some (l.map g)
  | [] => rfl
  | a :: l => by
    show (allInt (l.map fun a => D.int (g a))).map (g a :: ·) = _
    rw [allInt_map g l]
    rfl
theorem sum_sizes : ∀ ts : List Tm, sumI (ts.map fun t => (size t : Int)) = (sizes ts : Nat)
  | [] => rfl
  | t :: ts => by
    show (size t : Int) + sumI (ts.map fun t => (size t : Int)) = _
    rw [sum_sizes ts, sizes]
    omega
theorem le_lim {n : Nat} (h : n ≤ 1000) : n ≤ LIM := Nat.le_trans h (by decide)
theorem parts_len {t : Tm} (h : size t ≤ 1000) : (parts t).length ≤ 1000 := by
  have := len_sizes (parts t)
  rw [size_parts] at h
  omega
theorem part_size {t p : Tm} (h : p ∈ parts t) : size p < size t := by
  have := size_mem h
  rw [size_parts t]
  omega
theorem i_parts {k n i : Nat} {t : Tm} {ρ : Q.Env} {st : List D} (h : ρ[i]? = some (some (enc t))) (hk : 1 ≤ k) : evI (callP T (n + k)) (.plain (.call "parts_in" (.econs (.slot i) .enil))) ρ st = .ok ((parts t).map enc) st :=
  i_plain' (x_call (x_one (by show getE ρ i st = _; unfold getE; rw [h]; rfl)) ((parts_in t).mono hk n st)) (by rw [← encs_map]; rfl)
theorem knots_in (t : Tm) (hs : size t ≤ 1000) : Ret (dep t + 2) "knots_in" [enc t] (.int (size t)) := by
  refine ret_of (d := d_knots_in.fn) rfl rfl fun n st => ?_
  refine r_ret (x_op (x := .int 1) (y := .int (sizes (parts t))) rfl (x_bi (x_one (x_lcm (l := parts t) (g := fun p => .int (size p)) (i_parts rfl (by omega)) (fun p hp s => lc_elt rfl rfl (x_call (x_one rfl) ?_)) (le_lim (parts_len hs)))) ?_) ?_)
  · have := dep_part hp
    have := part_size hp
    exact (knots_in p (by omega)).mono (by omega) n s
  · show (allInt _).map _ = _
    rw [allInt_map fun p => (size p : Int)]
    show some (D.int (sumI _)) = _
    rw [sum_sizes]
  · show some (D.int (1 + (sizes (parts t) : Nat))) = _
    rw [size_parts t]
    congr 2
    omega
termination_by dep t
decreasing_by exact dep_part hp
end K59
end
section
set_option Elab.async false
set_option linter.all false
set_option maxRecDepth 100000
set_option maxHeartbeats 2000000
namespace K59
open Q
open PySem (Str)
section
variable {cl : Str → List D → M D} {ρ : Q.Env} {st st1 st2 : List D}
theorem loopF_pre {f : D → MS} {α : Type} {φ : α → D} {I : List α → Q.Env → Prop} : ∀ (l : List α) (done : List α), (∀ pre a post, done ++ l = pre ++ a :: post → ∀ ρ, I pre ρ → ∃ ρ', f (φ a) ρ st = .ok .next ρ' st ∧ I (pre ++ [a]) ρ') → ∀ ρ, I done ρ → ∃ ρ', loopF f (l.map φ) ρ st = .ok .next ρ' st ∧ I (done ++ l) ρ'
  | [], done, _, ρ, h => ⟨ρ, rfl, by rw [List.append_nil]; exact h⟩
  | a :: l, done, hs, ρ, h => by
    obtain ⟨ρ1, e1, h1⟩ := hs done a l rfl ρ h
    obtain ⟨ρ2, e2, h2⟩ := loopF_pre l (done ++ [a]) (fun pre b post e => hs pre b post (by rw [← e]; simp)) ρ1 h1
    refine ⟨ρ2, ?_, by simpa using h2⟩
    rw [List.map_cons, loopF, e1]
    exact e2
theorem r_for {t : Q.T} {it : E} {b r : S} {α : Type} {φ : α → D} {l : List α} {I : List α → Q.Env → Prop} {R : Q.Res D} (hi : evI cl it ρ st = .ok (l.map φ) st1)
    (hs : ∀ pre a post, l = pre ++ a :: post → ∀ ρ, I pre ρ → ∃ ρ', (match bindT t (φ a) ρ with
      | some ρ' => evS cl b ρ' st1
      | none => .stuck) = .ok .next ρ' st1 ∧ I (pre ++ [a]) ρ') (h0 : I [] ρ) (hr : ∀ ρ', I l ρ' → fin (evS cl r ρ' st1) = R) : fin (evS cl (.forS t it b r) ρ st) = R := by
  obtain ⟨ρ', e, h⟩ := loopF_pre (st := st1) (f := fun x ρ st => match bindT t x ρ with
      | some ρ' => evS cl b ρ' st
      | none => .stuck) (φ := φ) (I := I) l [] (fun pre a post e => hs pre a post (by simpa using e)) ρ h0
  show fin (liftE (evI cl it) (fun items ρ st => andThen (loopF (fun x ρ st => match bindT t x ρ with
      | some ρ' => evS cl b ρ' st
      | none => .stuck) items ρ st) (evS cl r)) ρ st) = _
  unfold liftE
  rw [hi]
  dsimp only
  rw [e]
  exact hr ρ' (by simpa using h)
theorem b_set {t : Q.T} {e : E} {r : S} {d : D} {ρ' : Q.Env} {R : Q.RS} (h : evE cl e ρ st = .ok d st1) (hb : bindT t d ρ = some ρ') (hr : evS cl r ρ' st1 = R) : evS cl (.set t e r) ρ st = R := by
  show liftE (evE cl e) (fun d ρ st => match bindT t d ρ with
    | some ρ' => evS cl r ρ' st
    | none => .stuck) ρ st = _
  unfold liftE
  rw [h]
  dsimp only
  rw [hb]
  exact hr
theorem r_nil : fin (evS cl .nil ρ st) = .ok .non st := rfl
theorem x_lc2 {te : E} {tg tg1 : Q.T} {it c it1 c1 : E} {own own1 : List Nat} {α : Type} {φ : α → D} {g : α → List D} {l : List α} (hi : evI cl it ρ st = .ok (l.map φ) st1) (hF : ∀ a ∈ l, ∀ s, lcF2 cl te tg c tg1 it1 c1 own1 (wipeE ρ own) (φ a) s = .ok (g a) s) (hs : (l.flatMap g).length ≤ LIM) : evE cl (.lc2 te tg it c tg1 it1 c1 own own1) ρ st = .ok (.lst (l.flatMap g)) st1 := by
  show M.bind (evI cl it ρ) (fun items => M.bind (loopC (lcF2 cl te tg c tg1 it1 c1 own1 (wipeE ρ own)) items) fun ys => M.ofO (sizeOk ys.length (D.lst ys))) st = _
  rw [bind_eq hi, bind_eq (loopC_of hF st1)]
  unfold sizeOk
  rw [Nat.ble_eq_true_of_le hs]
  rfl
theorem lc2_elt {te : E} {tg tg1 : Q.T} {c it1 c1 : E} {own1 : List Nat} {ρ' : Q.Env} {x : D} {α : Type} {φ : α → D} {g : α → List D} {l : List α} (hb : bindT tg x ρ = some ρ') (hc : evE cl c ρ' st = .ok (.bl true) st) (hi : evI cl it1 ρ' st = .ok (l.map φ) st) (hF : ∀ a ∈ l, ∀ s, lcF cl te tg1 c1 (wipeE ρ' own1) (φ a) s = .ok (g a) s) :
    lcF2 cl te tg c tg1 it1 c1 own1 ρ x st = .ok (l.flatMap g) st := by
  unfold lcF2
  rw [hb]
  show M.bind (evE cl c ρ') _ st = _
  rw [bind_eq hc]
  show M.bind (evI cl it1 ρ') _ st = _
  rw [bind_eq hi]
  exact loopC_of hF st
end
mutual
def alls : Tm → List Tm
  | .unk n => [.unk n]
  | .con n => [.con n]
  | .free f ts => .free f ts :: allss ts
  | .bag ts => .bag ts :: allss ts
  | .set ts => .set ts :: allss ts
def allss : List Tm → List Tm
  | [] => []
  | t :: ts => alls t ++ allss ts
end
theorem alls_eq (t : Tm) : alls t = t :: allss (parts t) := by cases t <;> simp [alls, parts, allss]
theorem allss_flat : ∀ ts, allss ts = ts.flatMap alls
  | [] => rfl
  | t :: ts => by rw [allss, allss_flat ts, List.flatMap_cons]
mutual
theorem alls_len : ∀ t, (alls t).length = size t
  | .unk _ => rfl
  | .con _ => rfl
  | .free _ ts => by simp [alls, size, allss_len ts]
  | .bag ts => by simp [alls, size, allss_len ts]
  | .set ts => by simp [alls, size, allss_len ts]
theorem allss_len : ∀ ts, (allss ts).length = sizes ts
  | [] => rfl
  | t :: ts => by simp [allss, sizes, alls_len t, allss_len ts]
end
theorem foldl_app {α β : Type} (g : α → List β) : ∀ (l : List α) (c : List β), l.foldl (fun c a => c ++ g a) c = c ++ l.flatMap g
  | [], c => by simp
  | a :: l, c => by rw [List.foldl_cons, foldl_app g l, List.flatMap_cons, List.append_assoc]
theorem add_lst {a b : List D} (h : a.length + b.length ≤ LIM) : opB .add (.lst a) (.lst b) = some (.lst (a ++ b)) := by
  show sizeOk (a.length + b.length) (D.lst (a ++ b)) = _
  unfold sizeOk
  rw [Nat.ble_eq_true_of_le h]
theorem add_tup {a b : List D} (h : a.length + b.length ≤ LIM) : opB .add (.tup a) (.tup b) = some (.tup (a ++ b)) := by
  show sizeOk (a.length + b.length) (D.tup (a ++ b)) = _
  unfold sizeOk
  rw [Nat.ble_eq_true_of_le h]
theorem sizes_app : ∀ a b : List Tm, sizes (a ++ b) = sizes a + sizes b
  | [], b => by simp [sizes]
  | t :: a, b => by rw [List.cons_append, sizes, sizes, sizes_app a b]; omega
theorem allss_app : ∀ a b : List Tm, allss (a ++ b) = allss a ++ allss b
  | [], b => rfl
  | t :: a, b => by rw [List.cons_append, allss, allss, allss_app a b, List.append_assoc]
theorem mem_mid {α : Type} {l pre post : List α} {a : α} (h : l = pre ++ a :: post) : a ∈ l := by rw [h]; simp
theorem all_knots (t : Tm) (hs : size t ≤ 1000) : Ret (dep t + 2) "all_knots" [enc t] (.lst (encs (alls t))) := by
  refine ret_of (d := d_all_knots.fn) rfl rfl fun n st => ?_
  refine r_set (d := .lst [enc t]) rfl rfl ?_
  refine r_for (l := parts t) (φ := enc) (I := fun pre ρ => ∃ o, ρ = [some (enc t), some (.lst (enc t :: encs (allss pre))), o]) (i_parts rfl (by omega)) (fun pre p post e ρ hc => ?_) ⟨none, rfl⟩ fun ρ' h => ?_
  · obtain ⟨o, rfl⟩ := hc
    have hp := mem_mid e
    have h1 := dep_part hp
    have h2 := part_size hp
    have h3 : sizes (pre ++ p :: post) = sizes (parts t) := by rw [e]
    rw [sizes_app, sizes] at h3
    have h4 := size_parts t
    refine ⟨_, b_set (d := .lst (enc t :: encs (allss (pre ++ [p])))) (x_op (y := .lst (encs (alls p))) rfl (x_call (x_one rfl) ((all_knots p (by omega)).mono (by omega) n st)) ?_) rfl rfl, _, rfl⟩
    rw [add_lst (by rw [List.length_cons, encs_len, encs_len, allss_len, alls_len]; show _ ≤ LIM; exact le_lim (by omega)), allss_app, encs_app]
    simp [allss]
  · obtain ⟨o, rfl⟩ := h
    rw [alls_eq t]
    exact r_ret rfl
termination_by dep t
def unkn : Tm → List Str := fun t => (alls t).filterMap fun
  | .unk n => some n
  | _ => none
def wordIs (w : Str) (t : Tm) : Bool := decide (word t = w)
theorem sort_strs {l : List Str} (hl : l.length ≤ 1000) : sortD (l.map D.str) = some (.lst (D.isort (l.map D.str))) := by
  have hs : (l.map D.str).all isStrD = true := List.all_eq_true.mpr fun x hx => by
    obtain ⟨a, _, rfl⟩ := List.mem_map.mp hx
    rfl
  have hc : D.allCmp (l.map D.str) = true := by
    refine List.all_eq_true.mpr fun x hx => ?_
    obtain ⟨a, _, rfl⟩ := List.mem_map.mp hx
    show (true && _) = true
    rw [Bool.true_and]
    refine List.all_eq_true.mpr fun y hy => ?_
    obtain ⟨b, _, rfl⟩ := List.mem_map.mp hy
    rfl
  have hk : sortK (l.map D.str) = true := by
    unfold sortK
    rw [hs]
    simp
  unfold sortD
  rw [hc, hk]
  show sizeOk _ _ = _
  unfold sizeOk
  rw [List.length_map, Nat.ble_eq_true_of_le (le_lim hl)]
theorem set_strs {l : List Str} (hl : l.length ≤ 63) : opBi .set [.lst (l.map D.str)] = some (.set (D.dedup [] (l.map D.str))) := by
  have hs : (l.map D.str).all isStrD = true := List.all_eq_true.mpr fun x hx => by
    obtain ⟨a, _, rfl⟩ := List.mem_map.mp hx
    rfl
  have hk : (l.map D.str).all D.isKey = true := List.all_eq_true.mpr fun x hx => by
    obtain ⟨a, _, rfl⟩ := List.mem_map.mp hx
    rfl
  show (match setOk (l.map D.str) with
    | true => some (D.set (D.dedup [] (l.map D.str)))
    | false => none) = _
  unfold setOk
  rw [hs, hk, List.length_map, Nat.ble_eq_true_of_le hl]
  rfl
def sdd : List Str → List Str → List Str
  | _, [] => []
  | seen, a :: as => match seen.any fun b => D.beq (.str a) (.str b) with
    | true => sdd seen as
    | false => a :: sdd (a :: seen) as
theorem any_str (a : Str) : ∀ seen : List Str, (seen.map D.str).any (D.beq (.str a)) = seen.any fun b => D.beq (.str a) (.str b)
  | [] => rfl
  | b :: bs => by
    show (_ || (bs.map D.str).any _) = _
    rw [any_str a bs]
    rfl
theorem sdd_str : ∀ l seen : List Str, (sdd seen l).map D.str = D.dedup (seen.map D.str) (l.map D.str)
  | [], _ => rfl
  | a :: as, seen => by
    show (match seen.any fun b => D.beq (.str a) (.str b) with | true => sdd seen as | false => a :: sdd (a :: seen) as).map D.str = (match (seen.map D.str).any (D.beq (.str a)) with | true => D.dedup (seen.map D.str) (as.map D.str) | false => .str a :: D.dedup (.str a :: seen.map D.str) (as.map D.str))
    rw [any_str]
    cases seen.any fun b => D.beq (.str a) (.str b) with
    | true => exact sdd_str as seen
    | false => show D.str a :: (sdd (a :: seen) as).map D.str = _; rw [sdd_str as (a :: seen)]; rfl
theorem sdd_len : ∀ l seen : List Str, (sdd seen l).length ≤ l.length
  | [], _ => Nat.le_refl _
  | a :: as, seen => by
    rw [sdd]
    cases seen.any fun b => D.beq (.str a) (.str b) with
    | true => exact Nat.le_succ_of_le (sdd_len as seen)
    | false => exact Nat.succ_le_succ (sdd_len as (a :: seen))
theorem mem_sdd {t : Str} : ∀ {l seen : List Str}, t ∈ sdd seen l → t ∈ l
  | [], _, h => by cases h
  | a :: as, seen, h => by
    rw [sdd] at h
    cases e : seen.any fun b => D.beq (.str a) (.str b) with
    | true =>
      rw [e] at h
      exact List.mem_cons_of_mem _ (mem_sdd h)
    | false =>
      rw [e] at h
      rcases List.mem_cons.mp h with rfl | h
      · exact List.mem_cons_self
      · exact List.mem_cons_of_mem _ (mem_sdd h)
def ssort (l : List Str) : List Str := ((D.isort (l.map D.str)).filterMap fun
  | .str x => some x
  | _ => none)
theorem ssort_str (l : List Str) : (ssort l).map D.str = D.isort (l.map D.str) := by
  have key : ∀ m : List D, (∀ x ∈ m, ∃ y, x = D.str y) → (m.filterMap fun | .str x => some x | _ => none).map D.str = m := by
    intro m
    induction m with
    | nil => intro _; rfl
    | cons a m ih =>
      intro h
      obtain ⟨y, rfl⟩ := h a List.mem_cons_self
      rw [List.filterMap_cons]
      show D.str y :: _ = _
      rw [ih fun x hx => h x (List.mem_cons_of_mem _ hx)]
  refine key _ fun x hx => ?_
  have := (D.isort_perm _).mem_iff.mp hx
  obtain ⟨a, _, rfl⟩ := List.mem_map.mp this
  exact ⟨a, rfl⟩
theorem mem_ssort {l : List Str} {x : Str} : x ∈ ssort l ↔ x ∈ l := by
  have h1 : D.str x ∈ (ssort l).map D.str ↔ D.str x ∈ l.map D.str := by rw [ssort_str]; exact (D.isort_perm _).mem_iff
  have key : ∀ m : List Str, D.str x ∈ m.map D.str ↔ x ∈ m := fun m => by
    constructor
    · intro h
      obtain ⟨y, hy, e⟩ := List.mem_map.mp h
      cases e
      exact hy
    · exact fun h => List.mem_map_of_mem h
  rw [key, key] at h1
  exact h1
theorem ssort_len (l : List Str) : (ssort l).length = l.length := by
  have := congrArg List.length (ssort_str l)
  rw [List.length_map, D.isort_length, List.length_map] at this
  exact this
def uks (t : Tm) : List Str := ssort (sdd [] (unkn t))
theorem mem_uks {t : Tm} {x : Str} (h : x ∈ uks t) : x ∈ unkn t := mem_sdd (mem_ssort.mp h)
theorem unkn_len (t : Tm) : (unkn t).length ≤ size t := by
  have := List.length_filterMap_le (fun t : Tm => match t with | .unk n => some n | _ => none) (alls t)
  rw [alls_len] at this
  exact this
def leafN : Tm → Str
  | .unk n => n
  | .con n => n
  | _ => ""
theorem names_in (t : Tm) (hs : size t ≤ 63) : Ret (dep t + 3) "names_in" [enc t, .str "unknown"] (.tup ((uks t).map D.str)) := by
  refine ret_of (d := d_names_in.fn) rfl rfl fun n st => ?_
  have hk : evI (callP T (n + (dep t + 2))) (.plain (.call "all_knots" (.econs (.slot 0) .enil))) [some (enc t), some (.str "unknown"), none] st = .ok ((alls t).map enc) st :=
    i_plain' (x_call (x_one rfl) ((all_knots t (by omega)) n st)) (by rw [← encs_map]; rfl)
  have hl : (unkn t).map D.str = ((alls t).filter (wordIs "unknown")).map fun k => D.str (leafN k) := by
    unfold unkn
    generalize alls t = l
    induction l with
    | nil => rfl
    | cons a l ih =>
      rw [List.filterMap_cons, List.filter_cons]
      cases a with
      | unk m => show D.str m :: _ = D.str m :: _; rw [ih]
      | con m => exact ih
      | free f ts => exact ih
      | bag ts => exact ih
      | set ts => exact ih
  have hu := unkn_len t
  refine r_ret (x_bi (xs := [.lst ((uks t).map D.str)]) (x_one (x_bi (d := .lst ((uks t).map D.str)) (x_one (x_bi (d := .set (D.dedup [] ((unkn t).map D.str))) (x_one (x_lcf (l := alls t) (p := wordIs "unknown") (g := fun k => D.str (leafN k)) hk (fun k _ s => ?_) (by rw [alls_len]; exact le_lim (by omega)))) ?_)) ?_)) rfl)
  · refine lc_if (k := wordIs "unknown" k) (ρ' := [some (enc t), some (.str "unknown"), some (enc k)]) rfl ?_ fun hw => ?_
    · refine x_cmp (x := .str (word k)) (y := .str "unknown") ?_ rfl ?_
      · cases k <;> rfl
      · cases k <;> rfl
    · cases k with
      | unk m => rfl
      | con m => exact absurd (of_decide_eq_true hw) (by dsimp only [word]; decide)
      | free f ts => exact absurd (of_decide_eq_true hw) (by dsimp only [word]; decide)
      | bag ts => exact absurd (of_decide_eq_true hw) (by dsimp only [word]; decide)
      | set ts => exact absurd (of_decide_eq_true hw) (by dsimp only [word]; decide)
  · rw [← hl]
    exact set_strs (by omega)
  · show sortD (D.dedup [] ((unkn t).map D.str)) = _
    have e := sdd_str (unkn t) []
    rw [show D.dedup [] ((unkn t).map D.str) = (sdd [] (unkn t)).map D.str from e.symm]
    have := sdd_len (unkn t) []
    rw [sort_strs (by omega), ← ssort_str]
    rfl
end K59
end
section
set_option Elab.async false
set_option linter.all false
set_option maxRecDepth 100000
set_option maxHeartbeats 2000000
namespace K59
open Q
open PySem (Str)
def mk : Bool → List Tm → Tm
  | true => .bag
  | false => .set
def gw : Bool → Str
  | true => "bag"
  | false => "set"
def mem : Bool → Tm → List Tm
  | true, .bag ts => ts
  | false, .set ts => ts
  | _, t => [t]
def alone (b : Bool) : List Tm → Tm
  | [t] => t
  | ts => mk b ts
def flat (b : Bool) (ts : List Tm) : List Tm := ts.flatMap (mem b)
def nrm : Bool → List Tm → List Tm
  | true => tsort
  | false => tset
mutual
def app (σ : Str → Tm) : Tm → Tm
  | .unk n => σ n
  | .con n => .con n
  | .free f ts => .free f (apps σ ts)
  | .bag ts => alone true (nrm true (flat true (apps σ ts)))
  | .set ts => alone false (nrm false (flat false (apps σ ts)))
def apps (σ : Str → Tm) : List Tm → List Tm
  | [] => []
  | t :: ts => app σ t :: apps σ ts
end
theorem apps_map (σ : Str → Tm) : ∀ ts, apps σ ts = ts.map (app σ)
  | [] => rfl
  | t :: ts => by rw [apps, apps_map σ ts]; rfl
abbrev nf : Tm → Tm := app .unk
abbrev nfs : List Tm → List Tm := apps .unk
theorem nf_free (f : Str) (ts : List Tm) : nf (.free f ts) = .free f (nfs ts) := rfl
theorem nf_bag (ts : List Tm) : nf (.bag ts) = alone true (nrm true (flat true (nfs ts))) := rfl
theorem nf_set (ts : List Tm) : nf (.set ts) = alone false (nrm false (flat false (nfs ts))) := rfl
theorem nfs_cons (t : Tm) (ts : List Tm) : nfs (t :: ts) = nf t :: nfs ts := rfl
def fm : Tm → List Tm → Tm
  | .unk n, _ => .unk n
  | .con n, _ => .con n
  | .free f _, fs => .free f fs
  | .bag _, fs => alone true (nrm true (flat true fs))
  | .set _, fs => alone false (nrm false (flat false fs))
theorem nf_fm (t : Tm) : nf t = fm t (nfs (parts t)) := by cases t <;> simp [nf, app, fm, parts]
theorem sizes_perm {a b : List Tm} (h : a.Perm b) : sizes a = sizes b := by
  induction h with
  | nil => rfl
  | cons x _ ih => rw [sizes, sizes, ih]
  | swap x y l => simp only [sizes]; omega
  | trans _ _ h1 h2 => rw [h1, h2]
theorem deps_perm {a b : List Tm} (h : a.Perm b) : deps a = deps b := by
  induction h with
  | nil => rfl
  | cons x _ ih => rw [deps, deps, ih]
  | swap x y l => simp only [deps]; omega
  | trans _ _ h1 h2 => rw [h1, h2]
theorem deps_le {l : List Tm} {k : Nat} (h : ∀ t ∈ l, dep t ≤ k) : deps l ≤ k := by
  induction l with
  | nil => exact Nat.zero_le _
  | cons a l ih =>
    rw [deps]
    have := h a List.mem_cons_self
    have := ih fun t ht => h t (List.mem_cons_of_mem _ ht)
    omega
theorem sizes_tded : ∀ (l seen : List Tm), sizes (tded seen l) ≤ sizes l
  | [], _ => Nat.le_refl _
  | a :: as, seen => by
    rw [tded]
    cases seen.any (teq a) with
    | true => have := sizes_tded as seen; simp only [sizes]; omega
    | false => have := sizes_tded as (a :: seen); simp only [sizes]; omega
theorem sizes_nrm (b : Bool) (l : List Tm) : sizes (nrm b l) ≤ sizes l := by
  cases b with
  | true => exact Nat.le_of_eq (sizes_perm (tsort_perm l))
  | false => exact Nat.le_trans (Nat.le_of_eq (sizes_perm (tsort_perm _))) (sizes_tded l [])
theorem mem_nrm {b : Bool} {l : List Tm} {t : Tm} : t ∈ nrm b l ↔ t ∈ l := by
  cases b with
  | true => exact mem_tsort
  | false => exact mem_tset
theorem sizes_mem (b : Bool) (t : Tm) : sizes (mem b t) ≤ size t := by cases b <;> cases t <;> simp [mem, sizes, size]
theorem dep_mem' {b : Bool} {t u : Tm} (h : u ∈ mem b t) : dep u ≤ dep t := by
  cases b <;> cases t <;> simp only [mem, List.mem_singleton] at h <;>
    first | (rw [h]; exact Nat.le_refl _) | (have := dep_mem h; simp only [dep]; omega)
theorem sizes_flat (b : Bool) : ∀ l, sizes (flat b l) ≤ sizes l
  | [] => Nat.le_refl _
  | a :: l => by
    have := sizes_flat b l
    have := sizes_mem b a
    unfold flat at *
    rw [List.flatMap_cons, sizes_app, sizes]
    omega
theorem mem_flat {b : Bool} {l : List Tm} {u : Tm} : u ∈ flat b l ↔ ∃ t ∈ l, u ∈ mem b t := List.mem_flatMap
theorem dep_flat {b : Bool} {l : List Tm} {u : Tm} (h : u ∈ flat b l) : dep u ≤ deps l := by
  obtain ⟨t, ht, hu⟩ := mem_flat.mp h
  exact Nat.le_trans (dep_mem' hu) (dep_mem ht)
theorem size_mk (b : Bool) (l : List Tm) : size (mk b l) = sizes l + 1 := by cases b <;> rfl
theorem dep_mk (b : Bool) (l : List Tm) : dep (mk b l) = deps l + 1 := by cases b <;> rfl
theorem parts_mk (b : Bool) (l : List Tm) : parts (mk b l) = l := by cases b <;> rfl
theorem word_mk (b : Bool) (l : List Tm) : word (mk b l) = gw b := by cases b <;> rfl
theorem mem_mk (b : Bool) (l : List Tm) : mem b (mk b l) = l := by cases b <;> rfl
theorem size_alone (b : Bool) (l : List Tm) : size (alone b l) ≤ sizes l + 1 := by
  unfold alone
  split
  · simp [sizes]
  · exact Nat.le_of_eq (size_mk b _)
theorem dep_alone (b : Bool) (l : List Tm) : dep (alone b l) ≤ deps l + 1 := by
  unfold alone
  split
  · simp only [deps]; omega
  · exact Nat.le_of_eq (dep_mk b _)
mutual
theorem size_nf : ∀ t, size (nf t) ≤ size t
  | .unk _ => Nat.le_refl _
  | .con _ => Nat.le_refl _
  | .free f ts => by have := sizes_nfs ts; rw [nf_free]; simp only [size]; omega
  | .bag ts => by
    have := sizes_nfs ts
    have := sizes_flat true (nfs ts)
    have := sizes_nrm true (flat true (nfs ts))
    have := size_alone true (nrm true (flat true (nfs ts)))
    rw [nf_bag]; simp only [size]; omega
  | .set ts => by
    have := sizes_nfs ts
    have := sizes_flat false (nfs ts)
    have := sizes_nrm false (flat false (nfs ts))
    have := size_alone false (nrm false (flat false (nfs ts)))
    rw [nf_set]; simp only [size]; omega
theorem sizes_nfs : ∀ ts, sizes (nfs ts) ≤ sizes ts
  | [] => Nat.le_refl _
  | t :: ts => by have := size_nf t; have := sizes_nfs ts; rw [nfs_cons]; simp only [sizes]; omega
end
theorem deps_nrm {b : Bool} {l : List Tm} {k : Nat} (h : ∀ t ∈ l, dep t ≤ k) : deps (nrm b l) ≤ k := deps_le fun t ht => h t (mem_nrm.mp ht)
mutual
theorem dep_nf : ∀ t, dep (nf t) ≤ dep t
  | .unk _ => Nat.le_refl _
  | .con _ => Nat.le_refl _
  | .free f ts => by have := deps_nfs ts; rw [nf_free]; simp only [dep]; omega
  | .bag ts => by
    have := deps_nfs ts
    have := deps_nrm (b := true) (l := flat true (nfs ts)) (k := deps (nfs ts)) fun t h => dep_flat h
    have := dep_alone true (nrm true (flat true (nfs ts)))
    rw [nf_bag]; simp only [dep]; omega
  | .set ts => by
    have := deps_nfs ts
    have := deps_nrm (b := false) (l := flat false (nfs ts)) (k := deps (nfs ts)) fun t h => dep_flat h
    have := dep_alone false (nrm false (flat false (nfs ts)))
    rw [nf_set]; simp only [dep]; omega
theorem deps_nfs : ∀ ts, deps (nfs ts) ≤ deps ts
  | [] => Nat.le_refl _
  | t :: ts => by have := dep_nf t; have := deps_nfs ts; rw [nfs_cons]; simp only [deps]; omega
end
theorem nat_cast_beq (m n : Nat) : D.beq (.int m) (.int n) = decide (m = n) := by
  show decide ((m : Int) = n) = _
  rw [decide_eq_decide]
  omega
theorem plain_int (i : Int) : (D.int i).isPlain = true := rfl
theorem plain_str (i : Str) : (D.str i).isPlain = true := rfl
theorem eq_nats {m n : Nat} : opC .eq (.int m) (.int n) = some (decide (m = n)) := by
  show (match (D.int m).isPlain && (D.int n).isPlain with
    | true => some (D.beq (.int m) (.int n))
    | false => eqNil (.int m) (.int n)) = _
  rw [plain_int, plain_int, nat_cast_beq]
  rfl
theorem alone_L (b : Bool) (l : List Tm) (hl : l.length ≤ 1000) : Ret 1 "alone" [.str (gw b), .lst (encs l)] (enc (alone b l)) := by
  refine ret_of (d := d_alone.fn) (k := 0) rfl rfl fun n st => r_ret (x_ite (k := decide (l.length = 1)) (x_cmp (x_bi (d := .int l.length) (x_one rfl) ?_) rfl eq_nats) (fun h => ?_) fun h => ?_)
  · show some (D.int (encs l).length) = _
    rw [encs_len]
  · match l, of_decide_eq_true h with
    | [t], _ => exact x_idx rfl rfl rfl
  · have e : alone b l = mk b l := by
      match l, of_decide_eq_false h with
      | [], _ => rfl
      | [t], h => exact absurd rfl h
      | _ :: _ :: _, _ => rfl
    rw [e]
    refine (x_tup (x_two rfl (x_bi (d := .tup (encs l)) (x_one rfl) rfl)) rfl).trans ?_
    cases b <;> rfl
theorem alone_T (b : Bool) (l : List Tm) (hl : l.length ≤ 1000) : Ret 1 "alone" [.str (gw b), .tup (encs l)] (enc (alone b l)) := by
  refine ret_of (d := d_alone.fn) (k := 0) rfl rfl fun n st => r_ret (x_ite (k := decide (l.length = 1)) (x_cmp (x_bi (d := .int l.length) (x_one rfl) ?_) rfl eq_nats) (fun h => ?_) fun h => ?_)
  · show some (D.int (encs l).length) = _
    rw [encs_len]
  · match l, of_decide_eq_true h with
    | [t], _ => exact x_idx rfl rfl rfl
  · have e : alone b l = mk b l := by
      match l, of_decide_eq_false h with
      | [], _ => rfl
      | [t], h => exact absurd rfl h
      | _ :: _ :: _, _ => rfl
    rw [e]
    refine (x_tup (x_two rfl (x_bi (d := .tup (encs l)) (x_one rfl) rfl)) rfl).trans ?_
    cases b <;> rfl
theorem mem_ite {cl : Str → List D → M D} {ρ : Q.Env} {st : List D} {i j : Nat} {b : Bool} {t : Tm} (hi : getE ρ i st = .ok (enc t) st) (hj : getE ρ j st = .ok (.str (gw b)) st) :
    evE cl (.ite (.cmp .eq (.idx (.slot i) (.const (.int 0))) (.slot j)) (.idx (.slot i) (.const (.int 1))) (.tup (.econs (.slot i) .enil))) ρ st = .ok (.tup (encs (mem b t))) st := by
  refine x_ite (k := decide (word t = gw b)) (x_cmp (x := .str (word t)) (y := .str (gw b)) (x_idx hi rfl ?_) hj rfl) (fun h => ?_) fun h => ?_
  · cases t <;> rfl
  · have h := of_decide_eq_true h
    refine x_idx hi rfl ?_
    cases b <;> cases t <;> first | rfl | (exact absurd h (by dsimp only [word, gw]; decide))
  · have h := of_decide_eq_false h
    have e : mem b t = [t] := by cases b <;> cases t <;> first | rfl | (exact absurd rfl h)
    rw [e]
    exact x_tup (x_one hi) rfl
theorem len_flat (b : Bool) (l : List Tm) : (flat b l).length ≤ sizes l := Nat.le_trans (len_sizes _) (sizes_flat b l)
theorem flattened (b : Bool) (l : List Tm) (hl : sizes l ≤ 1000) : Ret 1 "flattened" [.str (gw b), .lst (encs l)] (.lst (encs (flat b l))) := by
  refine ret_of (d := d_flattened.fn) (k := 0) rfl rfl fun n st => ?_
  have e : encs (flat b l) = l.flatMap fun t => encs (mem b t) := by
    unfold flat
    induction l with
    | nil => rfl
    | cons a l ih =>
      rw [sizes] at hl
      rw [List.flatMap_cons, List.flatMap_cons, encs_app, ih (by omega)]
  rw [e]
  refine r_ret (x_lc2 (φ := enc) (l := l) (g := fun t => encs (mem b t)) (i_plain' rfl (by rw [← encs_map]; rfl)) (fun t ht s => ?_) ?_)
  · have := lc2_elt (cl := callP T (n + 0)) (st := s) (te := .slot 3) (tg := .slot 2) (tg1 := .slot 3) (c := .const (.bl true)) (c1 := .const (.bl true)) (own1 := [3])
      (it1 := .plain (.ite (.cmp .eq (.idx (.slot 2) (.const (.int 0))) (.slot 0)) (.idx (.slot 2) (.const (.int 1))) (.tup (.econs (.slot 2) .enil))))
      (ρ := [some (.str (gw b)), some (.lst (encs l)), none, none]) (x := enc t) (φ := enc) (l := mem b t) (g := fun t => [enc t]) rfl rfl
      (i_plain' (mem_ite (t := t) (b := b) rfl rfl) (by rw [← encs_map]; rfl)) fun a _ s => lc_elt rfl rfl rfl
    rw [flatMap_one, ← encs_map] at this
    exact this
  · rw [← e, encs_len]
    have := len_flat b l
    exact le_lim (by omega)
theorem sort_flat {b : Bool} {l : List Tm} (hd : deps l ≤ 3) (hl : sizes l ≤ 63) : sortD (encs (flat b l)) = some (.lst (encs (tsort (flat b l)))) := by
  have := len_flat b l
  exact sortD_encs (fun t h => Nat.le_trans (dep_flat h) hd) (by omega)
theorem sort_set {l : List Tm} (hd : ∀ t ∈ l, dep t ≤ 3) (hl : l.length ≤ 63) : opBi .set [.lst (encs l)] = some (.set (encs (tded [] l))) ∧ sortD (encs (tded [] l)) = some (.lst (encs (tset l))) := by
  constructor
  · show (match setOk (encs l) with
      | true => some (D.set (D.dedup [] (encs l)))
      | false => none) = _
    rw [setOk_encs hd hl, tded_enc]
    rfl
  · refine sortD_encs (fun t h => hd t (mem_tded.mp h).1) ?_
    have : (tset l).length ≤ l.length := by
      have : ∀ l seen : List Tm, (tded seen l).length ≤ l.length := fun l => by
        induction l with
        | nil => intro _; exact Nat.le_refl _
        | cons a l ih =>
          intro seen
          rw [tded]
          cases seen.any (teq a) with
          | true => exact Nat.le_succ_of_le (ih seen)
          | false => exact Nat.succ_le_succ (ih _)
      unfold tset
      rw [tsort_len]
      exact this l []
    unfold tset at this
    rw [tsort_len] at this
    omega
theorem len_nrm_flat (b : Bool) (l : List Tm) : (nrm b (flat b l)).length ≤ sizes l := Nat.le_trans (len_sizes _) (Nat.le_trans (sizes_nrm b _) (sizes_flat b l))
theorem word_ite {cl : Str → List D → M D} {ρ : Q.Env} {st : List D} {t : Tm} (h : getE ρ 0 st = .ok (enc t) st) : evE cl (.idx (.slot 0) (.const (.int 0))) ρ st = .ok (.str (word t)) st := by
  refine x_idx h rfl ?_
  cases t <;> rfl
theorem formed (t : Tm) (l : List Tm) (hd : deps l ≤ 3) (hl : sizes l ≤ 63) : Ret 2 "formed" [enc t, .lst (encs l)] (enc (fm t l)) := by
  refine ret_of (d := d_formed.fn) (k := 1) rfl rfl fun n st => r_set (d := .str (word t)) (word_ite rfl) rfl ?_
  cases t with
  | unk m => exact r_ifT rfl rfl
  | con m => exact r_ifT rfl rfl
  | free f ts => exact r_ifF rfl (r_ifT rfl rfl)
  | bag ts =>
    refine r_ifF rfl (r_ifF rfl (r_ifT rfl (x_call (x_two rfl (x_bi (d := .lst (encs (tsort (flat true l)))) (x_one (x_call (x_two rfl rfl) ((flattened true l (by omega)).mono (by omega) n st))) (sort_flat hd hl))) ((alone_L true _ ?_).mono (by omega) n st))))
    have := len_nrm_flat true l
    show (nrm true (flat true l)).length ≤ _
    omega
  | set ts =>
    have hs := sort_set (l := flat false l) (fun t h => Nat.le_trans (dep_flat h) hd) (Nat.le_trans (len_flat false l) hl)
    refine r_ifF rfl (r_ifF rfl (r_ifF rfl (r_ifT rfl (x_call (x_two rfl (x_bi (d := .lst (encs (tset (flat false l)))) (x_one (x_bi (x_one (x_call (x_two rfl rfl) ((flattened false l (by omega)).mono (by omega) n st))) hs.1)) hs.2)) ((alone_L false _ ?_).mono (by omega) n st)))))
    have := len_nrm_flat false l
    show (nrm false (flat false l)).length ≤ _
    omega
def most (t : Tm) : Int := maxI (size (nf t)) ((parts t).attach.map fun p => most p.1)
termination_by size t
decreasing_by exact part_size p.2
theorem most_eq (t : Tm) : most t = maxI (size (nf t)) ((parts t).map most) := by
  rw [most, List.attach_map_val (f := most)]
theorem maxI_le : ∀ (l : List Int) (m k : Int), m ≤ k → (∀ i ∈ l, i ≤ k) → maxI m l ≤ k
  | [], m, k, h, _ => h
  | i :: l, m, k, h, hl => by
    rw [maxI]
    refine maxI_le l _ k ?_ fun j hj => hl j (List.mem_cons_of_mem _ hj)
    have := hl i List.mem_cons_self
    split <;> omega
theorem most_le (t : Tm) : most t ≤ size t := by
  rw [most_eq]
  refine maxI_le _ _ _ (by have := size_nf t; omega) fun i hi => ?_
  obtain ⟨p, hp, rfl⟩ := List.mem_map.mp hi
  have := part_size hp
  have := most_le p
  omega
termination_by size t
decreasing_by exact part_size hp
theorem form_and_knots (t : Tm) (hd : dep t ≤ 3) (hs : size t ≤ 63) : Ret (dep t + 5) "form_and_knots" [enc t] (.tup [enc (nf t), .int (most t)]) := by
  refine ret_of (d := d_form_and_knots.fn) rfl rfl fun n st => ?_
  have h1 := parts_len (t := t) (by omega)
  have h2 := size_parts t
  have h3 := sizes_nfs (parts t)
  have h4 := deps_nfs (parts t)
  have h5 := dep_parts t
  have h6 := size_nf t
  have h7 := dep_nf t
  have h8 := len_sizes (parts t)
  refine r_set (d := .lst ((parts t).map fun p => .tup [enc (nf p), .int (most p)])) (x_lcm (l := parts t) (φ := enc) (i_parts rfl (by omega)) (fun p hp s => lc_elt rfl rfl (x_call (x_one rfl) ?_)) (le_lim h1)) rfl ?_
  · have := dep_part hp
    have := part_size hp
    exact (form_and_knots p (by omega) (by omega)).mono (by omega) n s
  refine r_set (d := enc (nf t)) (x_call (xs := [enc t, .lst (encs (nfs (parts t)))]) (x_two rfl ?_) (by rw [nf_fm]; exact (formed t _ (by omega) (by omega)).mono (by omega) n st)) rfl ?_
  · have e : encs (nfs (parts t)) = (parts t).map fun p => enc (nf p) := by rw [encs_map]; show (apps .unk (parts t)).map enc = _; rw [apps_map, List.map_map]; rfl
    rw [e]
    exact x_lcm (l := parts t) (φ := fun p => .tup [enc (nf p), .int (most p)]) (i_plain' rfl rfl) (fun p hp s => lc_elt rfl rfl rfl) (le_lim h1)
  refine r_ret (x_tup (x_two rfl (x_bi (xs := [.lst (.int (size (nf t)) :: (parts t).map fun p => .int (most p))]) (d := .int (most t)) (x_one ?_) ?_)) rfl)
  · refine x_op (x := .lst [.int (size (nf t))]) (y := .lst ((parts t).map fun p => .int (most p))) (x_lst (x_one (x_call (x_one rfl) ((knots_in (nf t) (by omega)).mono (by omega) n st))) rfl) (x_lcm (l := parts t) (φ := fun p => .tup [enc (nf p), .int (most p)]) (i_plain' rfl rfl) (fun p hp s => lc_elt rfl rfl rfl) (le_lim h1)) ?_
    rw [add_lst (by rw [List.length_map]; show 1 + (parts t).length ≤ LIM; exact le_lim (by omega))]
    rfl
  · show (match allInt (.int (size (nf t)) :: (parts t).map fun p => .int (most p)) with
      | some (i :: r) => some (D.int (maxI i r))
      | _ => none) = _
    rw [allInt, allInt_map, most_eq t]
    rfl
termination_by size t
decreasing_by exact part_size hp
theorem normal_by (t : Tm) (hd : dep t ≤ 3) (hs : size t ≤ 63) : Ret (dep t + 6) "normal_by" [enc t] (enc (nf t)) := by
  refine ret_of (d := d_normal_by.fn) rfl rfl fun n st => ?_
  refine r_set (x_call (x_one rfl) (form_and_knots t hd hs n st)) rfl (r_ifF (x_cmp (x := .int (most t)) (y := .int 400) (k := false) rfl rfl ?_) (r_ret rfl))
  show some (decide (400 < most t)) = _
  have := most_le t
  rw [decide_eq_false (by omega)]
end K59
end
section
set_option Elab.async false
set_option linter.all false
set_option maxRecDepth 100000
set_option maxHeartbeats 2000000
namespace K59
open Q
open PySem (Str)
theorem plain_encs {l : List Tm} (h : deps l ≤ 3) : (D.tup (encs l)).isPlain = true := by
  have := dp_encs l
  show (D.plL (encs l) && Nat.ble (D.dpL (encs l) + 1) 150) = true
  rw [pl_encs, Nat.ble_eq_true_of_le (by omega)]
  rfl
theorem eq_plain {a b : D} (ha : a.isPlain = true) (hb : b.isPlain = true) : opC .eq a b = some (D.beq a b) := by
  show (match a.isPlain && b.isPlain with
    | true => some (D.beq a b)
    | false => eqNil a b) = _
  rw [ha, hb]
  rfl
theorem ne_plain {a b : D} (ha : a.isPlain = true) (hb : b.isPlain = true) : opC .ne a b = some (!D.beq a b) := by
  show (match a.isPlain && b.isPlain with
    | true => some (D.beq a b)
    | false => eqNil a b).map (!·) = _
  rw [ha, hb]
  rfl
theorem beq_enc (a b : Tm) : D.beq (enc a) (enc b) = decide (a = b) := by
  rw [← teq_dec]
  rfl
theorem eq_enc {a b : Tm} (ha : dep a ≤ 3) (hb : dep b ≤ 3) : opC .eq (enc a) (enc b) = some (decide (a = b)) := by
  rw [eq_plain (plain_enc ha) (plain_enc hb), beq_enc]
theorem ne_enc {a b : Tm} (ha : dep a ≤ 3) (hb : dep b ≤ 3) : opC .ne (enc a) (enc b) = some (!decide (a = b)) := by
  rw [ne_plain (plain_enc ha) (plain_enc hb), beq_enc]
theorem eq_nil {l : List Tm} (h : deps l ≤ 3) : opC .eq (.tup (encs l)) (.tup []) = some (decide (l = [])) := by
  rw [eq_plain (plain_encs h) rfl]
  cases l with
  | nil => rfl
  | cons a l => rfl
theorem all_plain {l : List Tm} (h : deps l ≤ 3) : (encs l).all D.isPlain = true := List.all_eq_true.mpr fun d hd => by
  obtain ⟨t, ht, rfl⟩ := mem_encs hd
  exact plain_enc (Nat.le_trans (dep_mem ht) h)
theorem any_in (a : Tm) : ∀ l : List Tm, ((encs l).any fun y => D.beq y (enc a)) = decide (a ∈ l)
  | [] => by rfl
  | b :: l => by
    show (D.beq (enc b) (enc a) || (encs l).any fun y => D.beq y (enc a)) = _
    rw [any_in a l, beq_enc]
    by_cases h : b = a
    · simp [h]
    · simp [h, Ne.symm h]
theorem in_enc {a : Tm} {l : List Tm} (ha : dep a ≤ 3) (h : deps l ≤ 3) : opC .isin (enc a) (.tup (encs l)) = some (decide (a ∈ l)) := by
  show (match (enc a).isPlain && (encs l).all D.isPlain with
    | true => some ((encs l).any fun y => D.beq y (enc a))
    | false => none) = _
  rw [plain_enc ha, all_plain h, any_in]
  rfl
theorem notin_enc {a : Tm} {l : List Tm} (ha : dep a ≤ 3) (h : deps l ≤ 3) : opC .notin (enc a) (.tup (encs l)) = some (!decide (a ∈ l)) := by
  show Option.map (!·) (opC .isin (enc a) (.tup (encs l))) = _
  rw [in_enc ha h]
  rfl
theorem filt_beq (a : Tm) : ∀ l : List Tm, ((encs l).filter fun y => D.beq y (enc a)).length = l.count a
  | [] => rfl
  | b :: l => by
    show (List.filter _ (enc b :: encs l)).length = _
    rw [List.filter_cons, beq_enc, List.count_cons, ← filt_beq a l]
    by_cases h : b = a
    · simp [h]
    · simp [h]
theorem count_T {a : Tm} {l : List Tm} (ha : dep a ≤ 3) (h : deps l ≤ 3) : opMt .count (.tup (encs l)) [enc a] = some (.int (l.count a)) := by
  show (match (enc a).isPlain && (encs l).all D.isPlain with
    | true => some (D.int ((encs l).filter fun y => D.beq y (enc a)).length)
    | false => none) = _
  rw [plain_enc ha, all_plain h, filt_beq]
  rfl
theorem allBl_map {α : Type} (g : α → Bool) : ∀ l : List α, allBl (l.map fun a => D.bl (g a)) = some (l.map g)
  | [] => rfl
  | a :: l => by
    show (allBl (l.map fun a => D.bl (g a))).map (g a :: ·) = _
    rw [allBl_map g l]
    rfl
theorem any_bl {α : Type} (g : α → Bool) (l : List α) : opBi .any [.lst (l.map fun a => D.bl (g a))] = some (.bl (l.any g)) := by
  show (allBl (l.map fun a => D.bl (g a))).map (fun l => D.bl (l.any id)) = _
  rw [allBl_map, Option.map_some, List.any_map]
  rfl
theorem all_bl {α : Type} (g : α → Bool) (l : List α) : opBi .all [.lst (l.map fun a => D.bl (g a))] = some (.bl (l.all g)) := by
  show (allBl (l.map fun a => D.bl (g a))).map (fun l => D.bl (l.all id)) = _
  rw [allBl_map, Option.map_some, List.all_map]
  rfl
theorem reps_rep (a : Tm) : ∀ n : Nat, reps [enc a] n = encs (List.replicate n a)
  | 0 => rfl
  | n + 1 => by rw [reps, reps_rep a n, List.replicate_succ]; rfl
theorem mul_one' {a : Tm} {n : Nat} (h : n ≤ 1000) : opB .mul (.tup [enc a]) (.int (n : Nat)) = some (.tup (encs (List.replicate n a))) := by
  show (match Nat.ble n 1000 && Nat.ble 1 1000 with
    | true => some (D.tup (reps [enc a] n))
    | false => none) = _
  rw [Nat.ble_eq_true_of_le h, reps_rep]
  rfl
def rp (l : List Tm) : Nat → List Tm
  | 0 => []
  | n + 1 => l ++ rp l n
theorem rp_enc (l : List Tm) : ∀ n : Nat, reps (encs l) n = encs (rp l n)
  | 0 => rfl
  | n + 1 => by rw [reps, rp_enc l n, rp, encs_app]
theorem mul_T {l : List Tm} {n : Nat} (hl : l.length ≤ 1000) (h : n ≤ 1000) : opB .mul (.tup (encs l)) (.int (n : Nat)) = some (.tup (encs (rp l n))) := by
  show (match Nat.ble n 1000 && Nat.ble (encs l).length 1000 with
    | true => some (D.tup (reps (encs l) n))
    | false => none) = _
  rw [Nat.ble_eq_true_of_le h, encs_len, Nat.ble_eq_true_of_le hl, rp_enc]
  rfl
theorem upto_eq : ∀ (n : Nat) (a : Nat), upto a n = (List.range' a n).map fun i => D.int (i : Nat)
  | 0, _ => rfl
  | n + 1, a => by
    show D.int a :: upto ((a : Int) + 1) n = _
    rw [show (a : Int) + 1 = ((a + 1 : Nat) : Int) by omega, upto_eq n (a + 1)]
    rfl
theorem range_eq {n : Nat} (h : n ≤ 1000) : rangeD 0 (n : Nat) = some ((List.range n).map fun i => D.int (i : Nat)) := by
  have h1 : Nat.blt (Int.natAbs 0) 4611686018427387904 = true := rfl
  have h2 : Nat.blt (Int.natAbs n) 4611686018427387904 = true := Nat.ble_eq_true_of_le (by omega)
  have e : ((n : Int) - 0).toNat = n := by omega
  have h3 : Nat.ble ((n : Int) - 0).toNat LIM = true := by rw [e]; exact Nat.ble_eq_true_of_le (le_lim h)
  show (match Nat.blt (Int.natAbs 0) 4611686018427387904 && (Nat.blt (Int.natAbs n) 4611686018427387904 && Nat.ble ((n : Int) - 0).toNat LIM) with
    | true => some (upto 0 ((n : Int) - 0).toNat)
    | false => none) = _
  rw [h1, h2, h3, e, List.range_eq_range']
  exact congrArg some (upto_eq n 0)
theorem i_range {cl : Str → List D → M D} {ρ : Q.Env} {st st1 : List D} {a : E} {n : Nat} (ha : evE cl a ρ st = .ok (.int (n : Nat)) st1) (h : n ≤ 1000) : evI cl (.range a) ρ st = .ok ((List.range n).map fun i => D.int (i : Nat)) st1 := by
  show M.bind (evE cl a ρ) (fun x => match x with
    | .int n => M.ofO (rangeD 0 n)
    | _ => M.stuck) st = _
  rw [bind_eq ha]
  exact ofO_eq (range_eq h)
theorem members_of (b : Bool) (t : Tm) : Ret 1 "members_of" [.str (gw b), enc t] (.tup (encs (mem b t))) := by
  refine ret_of (d := d_members_of.fn) (k := 0) rfl rfl fun n st => r_ret ?_
  exact mem_ite (i := 1) (j := 0) rfl rfl
theorem x_sset {cl : Str → List D → M D} {ρ : Q.Env} {st : List D} {i : Nat} {l : List Tm} (h : getE ρ i st = .ok (.tup (encs l)) st) (hd : deps l ≤ 3) (hl : l.length ≤ 63) :
    evI cl (.plain (.bi .sorted (.econs (.bi .set (.econs (.slot i) .enil)) .enil))) ρ st = .ok ((tset l).map enc) st := by
  have hs := sort_set (l := l) (fun t ht => Nat.le_trans (dep_mem ht) hd) hl
  exact i_plain' (x_bi (x_one (x_bi (d := .set (encs (tded [] l))) (x_one h) hs.1)) hs.2) (by rw [← encs_map]; rfl)
def subsA (ms : List Tm) : List Tm → List (List Tm) → List (List Tm)
  | [], found => found
  | m :: r, found => subsA ms r ((List.range (ms.count m + 1)).flatMap fun k => found.map fun some => some ++ List.replicate k m)
def subs (ms : List Tm) : List (List Tm) := subsA ms (tset ms) [[]]
theorem two_pow (c : Nat) : c + 1 ≤ 2 ^ c := by
  induction c with
  | zero => exact Nat.le_refl _
  | succ c ih => rw [Nat.pow_succ]; omega
def tot (ms : List Tm) : List Tm → Nat
  | [] => 0
  | m :: r => ms.count m + tot ms r
theorem tot_le : ∀ (d ms : List Tm), d.Nodup → tot ms d ≤ ms.length
  | [], ms, _ => Nat.zero_le _
  | a :: d, ms, h => by
    have h1 := tot_le d (ms.filter fun x => !decide (x = a)) (List.nodup_cons.mp h).2
    have h2 : tot (ms.filter fun x => !decide (x = a)) d = tot ms d := by
      have key : ∀ d : List Tm, a ∉ d → tot (ms.filter fun x => !decide (x = a)) d = tot ms d := by
        intro d
        induction d with
        | nil => intro _; rfl
        | cons b d ih =>
          intro hn
          have hb : b ≠ a := fun e => hn (by rw [e]; exact List.mem_cons_self)
          rw [tot, tot, ih (fun hm => hn (List.mem_cons_of_mem _ hm)), List.count_filter (by simp [hb])]
      exact key d (List.nodup_cons.mp h).1
    have h3 : ms.length = ms.count a + (ms.filter fun x => !decide (x = a)).length := by
      clear h1 h2 h
      induction ms with
      | nil => rfl
      | cons b ms ih =>
        rw [List.length_cons, List.count_cons, List.filter_cons, ih]
        by_cases e : b = a
        · simp [e]; omega
        · simp [e]; omega
    rw [tot]
    omega
theorem len_turn (found : List (List Tm)) (m : Tm) : ∀ c : Nat, ((List.range c).flatMap fun k => found.map fun some => some ++ List.replicate k m).length = c * found.length := by
  intro c
  induction c with
  | zero => simp
  | succ c ih => rw [List.range_succ, List.flatMap_append, List.length_append, ih]; simp [Nat.succ_mul]
theorem len_turn' (found : List (List Tm)) (m : Tm) (c : Nat) : ((List.range (c + 1)).flatMap fun k => found.map fun some => some ++ List.replicate k m).length ≤ found.length * 2 ^ c := by
  rw [len_turn, Nat.mul_comm]
  exact Nat.mul_le_mul_left _ (two_pow c)
theorem subsA_len (ms : List Tm) : ∀ (d : List Tm) (found : List (List Tm)), (subsA ms d found).length ≤ found.length * 2 ^ tot ms d
  | [], found => by simp [subsA, tot]
  | m :: r, found => by
    rw [subsA, tot, Nat.pow_add, ← Nat.mul_assoc]
    exact Nat.le_trans (subsA_len ms r _) (Nat.mul_le_mul_right _ (len_turn' found m _))
theorem subs_len (ms : List Tm) : (subs ms).length ≤ 2 ^ ms.length := by
  have h1 := subsA_len ms (tset ms) [[]]
  have h2 : 2 ^ tot ms (tset ms) ≤ 2 ^ ms.length := Nat.pow_le_pow_right (by omega) (tot_le _ _ (tset_nodup ms))
  unfold subs
  rw [List.length_singleton, Nat.one_mul] at h1
  omega
theorem subsA_app (ms : List Tm) : ∀ (a b : List Tm) (found : List (List Tm)), subsA ms (a ++ b) found = subsA ms b (subsA ms a found)
  | [], b, found => rfl
  | m :: a, b, found => by rw [List.cons_append, subsA, subsA_app ms a b, subsA]
theorem tot_app (ms : List Tm) : ∀ a b : List Tm, tot ms (a ++ b) = tot ms a + tot ms b
  | [], b => by simp [tot]
  | m :: a, b => by rw [List.cons_append, tot, tot, tot_app ms a b]; omega
def encT (l : List Tm) : D := .tup (encs l)
theorem subs_all (ms : List Tm) : ∀ (d : List Tm) (found : List (List Tm)) (k : Nat), (∀ s ∈ found, s.length ≤ k) → ∀ s ∈ subsA ms d found, s.length ≤ k + tot ms d
  | [], found, k, h, s, hs => h s hs
  | m :: r, found, k, h, s, hs => by
    rw [subsA] at hs
    have := subs_all ms r _ (k + ms.count m) (fun s hs => by
      obtain ⟨c, hc, hs⟩ := List.mem_flatMap.mp hs
      obtain ⟨z, hz, rfl⟩ := List.mem_map.mp hs
      have := h z hz
      have := List.mem_range.mp hc
      rw [List.length_append, List.length_replicate]
      omega) s hs
    rw [tot]
    omega
theorem sub_bags (ms : List Tm) (hd : deps ms ≤ 3) (hl : ms.length ≤ 20) : Ret 1 "sub_bags" [.tup (encs ms)] (.lst ((subs ms).map encT)) := by
  refine ret_of (d := d_sub_bags.fn) (k := 0) rfl rfl fun n st => ?_
  refine r_set (d := .lst (([[]] : List (List Tm)).map encT)) rfl rfl ?_
  refine r_for (l := tset ms) (φ := enc) (I := fun pre ρ => ∃ a b c d, ρ = [some (.tup (encs ms)), some (.lst ((subsA ms pre [[]]).map encT)), a, b, c, d]) (x_sset rfl hd (by omega)) (fun pre m post e ρ hc => ?_) ⟨none, none, none, none, rfl⟩ fun ρ' h => ?_
  · obtain ⟨a, b, c, d, rfl⟩ := hc
    have hm : m ∈ ms := mem_tset.mp (mem_mid e)
    have hdm : dep m ≤ 3 := Nat.le_trans (dep_mem hm) hd
    have hcl : ms.count m ≤ ms.length := List.count_le_length
    have hN := tset_nodup ms
    have ht := tot_le (tset ms) ms hN
    rw [e, tot_app, tot] at ht
    refine ⟨_, b_set (d := .int (ms.count m)) (x_mt (m := .count) (x := .tup (encs ms)) rfl rfl (x_one rfl) (count_T hdm hd)) rfl (b_set (d := .lst ((subsA ms (pre ++ [m]) [[]]).map encT)) ?_ rfl rfl), _, _, _, _, rfl⟩
    have e2 : (subsA ms (pre ++ [m]) [[]]).map encT = (List.range (ms.count m + 1)).flatMap fun k => (subsA ms pre [[]]).flatMap fun some => [encT (some ++ List.replicate k m)] := by
      rw [subsA_app]
      show ((List.range (ms.count m + 1)).flatMap fun k => (subsA ms pre [[]]).map fun some => some ++ List.replicate k m).map encT = _
      rw [List.map_flatMap]
      congr 1
      funext k
      rw [List.map_map, flatMap_one]
      rfl
    have hlen := subsA_len ms (pre ++ [m]) [[]]
    have hp : 2 ^ tot ms (pre ++ [m]) ≤ 2 ^ 20 := Nat.pow_le_pow_right (by omega) (by rw [tot_app, tot, tot]; omega)
    rw [List.length_singleton, Nat.one_mul] at hlen
    rw [e2]
    refine x_lc2 (l := List.range (ms.count m + 1)) (φ := fun k => D.int (k : Nat)) (g := fun k => (subsA ms pre [[]]).flatMap fun some => [encT (some ++ List.replicate k m)]) (i_range (x_op (x := .int (ms.count m)) (y := .int 1) rfl rfl rfl) (by omega)) (fun k hk s => ?_) ?_
    · have hk := List.mem_range.mp hk
      refine lc2_elt (l := subsA ms pre [[]]) (φ := encT) rfl rfl (i_plain' rfl rfl) fun z hz s => lc_elt rfl rfl (x_op (x := encT z) (y := encT (List.replicate k m)) rfl (x_op (x := .tup [enc m]) (y := .int k) rfl rfl (mul_one' (by omega))) ?_)
      have hz := subs_all ms pre [[]] 0 (by simp) z hz
      unfold encT
      rw [add_tup (by rw [encs_len, encs_len, List.length_replicate]; exact le_lim (by omega)), encs_app]
    · rw [← e2, List.length_map]
      exact Nat.le_trans hlen (Nat.le_trans hp (by decide))
  · obtain ⟨a, b, c, d, rfl⟩ := h
    exact r_ret rfl
end K59
end
section
set_option Elab.async false
set_option linter.all false
set_option maxRecDepth 100000
set_option maxHeartbeats 2000000
namespace K59
open Q
open PySem (Str)
abbrev W := List (Str × Tm)
def keysW (w : W) : List D := w.map fun p => D.str p.1
def valsW (w : W) : List D := w.map fun p => enc p.2
def encW (w : W) : D := .dct (keysW w) (valsW w)
def wget : W → Str → Option Tm
  | [], _ => none
  | (m, f) :: r, n => if m = n then some f else wget r n
def wset : W → Str → Tm → W
  | [], n, f => [(n, f)]
  | (m, g) :: r, n, f => if m = n then (m, f) :: r else (m, g) :: wset r n f
def wcopy : W → W → W
  | a, [] => a
  | a, (n, f) :: r => wcopy (wset a n f) r
theorem beq_str (a b : Str) : D.beq (.str a) (.str b) = decide (a = b) := rfl
theorem lookW : ∀ (w : W) (n : Str), lookD (keysW w) (valsW w) (.str n) = (wget w n).map enc
  | [], _ => rfl
  | (m, f) :: r, n => by
    show (match D.beq (.str m) (.str n) with
      | true => some (enc f)
      | false => lookD (keysW r) (valsW r) (.str n)) = (if m = n then some f else wget r n).map enc
    rw [beq_str]
    by_cases h : m = n
    · rw [decide_eq_true h, if_pos h]
      rfl
    · rw [decide_eq_false h, if_neg h]
      exact lookW r n
theorem setW : ∀ (w : W) (n : Str) (f : Tm), setD (keysW w) (valsW w) (.str n) (enc f) = (keysW (wset w n f), valsW (wset w n f))
  | [], _, _ => rfl
  | (m, g) :: r, n, f => by
    show (match D.beq (.str m) (.str n) with
      | true => (D.str m :: keysW r, enc f :: valsW r)
      | false => let z := setD (keysW r) (valsW r) (.str n) (enc f); (D.str m :: z.1, enc g :: z.2)) = _
    rw [beq_str, wset]
    by_cases h : m = n
    · rw [decide_eq_true h, if_pos h]
      rfl
    · rw [decide_eq_false h, if_neg h, setW r n f]
      rfl
theorem putW : ∀ (w a : W), putAllD (keysW a) (valsW a) (keysW w) (valsW w) = (keysW (wcopy a w), valsW (wcopy a w))
  | [], a => rfl
  | (n, f) :: r, a => by
    show (let z := setD (keysW a) (valsW a) (.str n) (enc f); putAllD z.1 z.2 (keysW r) (valsW r)) = _
    rw [setW]
    exact putW r (wset a n f)
theorem wget_set : ∀ (w : W) (n m : Str) (f : Tm), wget (wset w n f) m = if n = m then some f else wget w m
  | [], n, m, f => rfl
  | (k, g) :: r, n, m, f => by
    rw [wset]
    by_cases h : k = n
    · rw [if_pos h, wget, wget, h]
      by_cases e : n = m
      · rw [if_pos e, if_pos e]
      · rw [if_neg e, if_neg e, if_neg e]
    · rw [if_neg h, wget, wget, wget_set r n m f]
      by_cases e : n = m
      · rw [if_pos e, if_neg (fun z => h (z.trans e.symm)), if_pos e]
      · rw [if_neg e, if_neg e]
theorem wset_len : ∀ (w : W) (n : Str) (f : Tm), (wset w n f).length ≤ w.length + 1
  | [], _, _ => Nat.le_refl _
  | (k, g) :: r, n, f => by
    rw [wset]
    split
    · exact Nat.le_succ _
    · exact Nat.succ_le_succ (wset_len r n f)
def Once (w : W) : Prop := (w.map (·.1)).Nodup
theorem wset_keys : ∀ (w : W) (n : Str) (f : Tm) (m : Str), m ∈ (wset w n f).map (·.1) ↔ m = n ∨ m ∈ w.map (·.1)
  | [], n, f, m => by simp [wset]
  | (k, g) :: r, n, f, m => by
    rw [wset]
    by_cases h : k = n
    · rw [if_pos h, h]; simp
    · rw [if_neg h, List.map_cons, List.mem_cons, wset_keys r n f m, List.map_cons, List.mem_cons]
      exact or_left_comm
theorem wset_once : ∀ (w : W) (n : Str) (f : Tm), Once w → Once (wset w n f)
  | [], _, _, _ => List.nodup_cons.mpr ⟨by simp, List.nodup_nil⟩
  | (k, g) :: r, n, f, h => by
    have h := List.nodup_cons.mp h
    rw [wset]
    by_cases e : k = n
    · rw [if_pos e]; exact List.nodup_cons.mpr h
    · rw [if_neg e]
      refine List.nodup_cons.mpr ⟨fun hm => ?_, wset_once r n f h.2⟩
      rcases (wset_keys r n f k).mp hm with z | z
      · exact e z
      · exact h.1 z
theorem wset_new : ∀ (w : W) (n : Str) (f : Tm), n ∉ w.map (·.1) → wset w n f = w ++ [(n, f)]
  | [], _, _, _ => rfl
  | (k, g) :: r, n, f, h => by
    rw [wset, if_neg fun e => h (by rw [e]; exact List.mem_cons_self), wset_new r n f fun hm => h (List.mem_cons_of_mem _ hm)]
    rfl
theorem wcopy_app : ∀ (w a : W), Once (a ++ w) → wcopy a w = a ++ w
  | [], a, _ => by rw [wcopy, List.append_nil]
  | (n, f) :: r, a, h => by
    have hn : n ∉ a.map (·.1) := fun hm => by
      unfold Once at h
      rw [List.map_append, List.nodup_append] at h
      exact h.2.2 n hm n List.mem_cons_self rfl
    rw [wcopy, wset_new a n f hn, wcopy_app r (a ++ [(n, f)]) (by rw [List.append_assoc]; exact h), List.append_assoc]
    rfl
theorem wcopy_once {w : W} (h : Once w) : wcopy [] w = w := wcopy_app w [] h
theorem keys_str (w : W) : (keysW w).all isStrD = true := List.all_eq_true.mpr fun x hx => by
  obtain ⟨a, _, rfl⟩ := List.mem_map.mp hx
  rfl
theorem kOkW (w : W) (n : Str) : kOk (keysW w) (.str n) = true := keys_str w
theorem isInW (w : W) (n : Str) : opC .isin (.str n) (encW w) = some (wget w n).isSome := by
  show (match (D.str n).isKey && kOk (keysW w) (.str n) with
    | true => some ((keysW w).any fun k => D.beq k (.str n))
    | false => none) = _
  rw [kOkW]
  show some ((keysW w).any fun k => D.beq k (.str n)) = _
  congr 1
  induction w with
  | nil => rfl
  | cons p r ih =>
    obtain ⟨m, f⟩ := p
    show (D.beq (.str m) (.str n) || (keysW r).any fun k => D.beq k (.str n)) = (if m = n then some f else wget r n).isSome
    rw [beq_str, ih]
    by_cases h : m = n
    · rw [decide_eq_true h, if_pos h]; rfl
    · rw [decide_eq_false h, if_neg h]; rfl
theorem ixW {w : W} {n : Str} {t : Tm} (h : wget w n = some t) (st : List D) : ixM (encW w) (.str n) st = .ok (enc t) st := by
  have e : opIx (encW w) (.str n) = some (enc t) := by
    show (match (D.str n).isKey && kOk (keysW w) (.str n) with
      | true => lookD (keysW w) (valsW w) (.str n)
      | false => none) = _
    rw [kOkW, lookW, h]
    rfl
  show (match opIx (encW w) (.str n) with
      | some d => (.ok d st : Q.Res D)
      | none => .stuck) = _
  rw [e]
theorem getW (w : W) (n : Str) (t : Tm) : opMt .get (encW w) [.str n, enc t] = some (enc ((wget w n).getD t)) := by
  show (match (D.str n).isKey && kOk (keysW w) (.str n) with
    | true => some ((lookD (keysW w) (valsW w) (.str n)).getD (enc t))
    | false => none) = _
  rw [kOkW, lookW]
  cases wget w n <;> rfl
def isFree : Tm → Bool
  | .free _ _ => true
  | _ => false
def lays (b : Bool) (p : Tm) (w : W) (ms : List Tm) : List (List Tm) := match p with
  | .unk n => match wget w n with
    | some t => [mem b t]
    | none => subs ms
  | .con c => [[.con c]]
  | .free _ _ => ((tset ms).filter isFree).map fun t => [t]
  | _ => subs ms
theorem tset_len (ms : List Tm) : (tset ms).length ≤ ms.length := by
  have : ∀ l seen : List Tm, (tded seen l).length ≤ l.length := fun l => by
    induction l with
    | nil => intro _; exact Nat.le_refl _
    | cons a l ih =>
      intro seen
      rw [tded]
      cases seen.any (teq a) with
      | true => exact Nat.le_succ_of_le (ih seen)
      | false => exact Nat.succ_le_succ (ih _)
  unfold tset
  rw [tsort_len]
  exact this ms []
theorem lays_of (b : Bool) (p : Tm) (w : W) (ms : List Tm) (hd : deps ms ≤ 3) (hl : ms.length ≤ 20) : Ret 2 "lays_of" [.str (gw b), enc p, encW w, .tup (encs ms)] (.lst ((lays b p w ms).map encT)) := by
  refine ret_of (d := d_lays_of.fn) (k := 1) rfl rfl fun n st => ?_
  have hsub : evE (callP T (n + 1)) (.call "sub_bags" (.econs (.slot 3) .enil)) [some (.str (gw b)), some (enc p), some (encW w), some (.tup (encs ms)), none] st = .ok (.lst ((subs ms).map encT)) st := x_call (x_one rfl) (sub_bags ms hd hl n st)
  cases p with
  | unk m =>
    unfold lays
    dsimp only
    cases hw : wget w m with
    | none => exact r_ifF (x_andT rfl (x_cmp rfl rfl (by rw [isInW, hw]; rfl))) (r_ifF rfl (r_ifF rfl (r_ret hsub)))
    | some t => exact r_ifT (x_andT rfl (x_cmp rfl rfl (by rw [isInW, hw]; rfl))) (x_lst (x_one (x_call (x_two rfl (x_idx rfl (x_idx rfl rfl rfl) (ixW hw st))) (members_of b t n st))) rfl)
  | con c => exact r_ifF (x_andF rfl) (r_ifT rfl rfl)
  | free f ts =>
    refine r_ifF (x_andF rfl) (r_ifF rfl (r_ifT rfl ?_))
    have e : (lays b (.free f ts) w ms).map encT = ((tset ms).filter isFree).map fun t => .tup [enc t] := by
      unfold lays
      dsimp only
      rw [List.map_map]
      rfl
    rw [e]
    refine x_lcf (l := tset ms) (φ := enc) (p := isFree) (g := fun t => .tup [enc t]) (x_sset rfl hd (by omega)) (fun t _ s => lc_if (k := isFree t) rfl ?_ fun _ => rfl) (le_lim (Nat.le_trans (tset_len ms) (by omega)))
    cases t <;> rfl
  | bag ts => exact r_ifF (x_andF rfl) (r_ifF rfl (r_ifF rfl (r_ret hsub)))
  | set ts => exact r_ifF (x_andF rfl) (r_ifF rfl (r_ifF rfl (r_ret hsub)))
def fitsB (ms taken : List Tm) : Bool := !(taken.any fun t => decide (ms.count t < taken.count t))
def leftB (ms taken : List Tm) : List Tm := (tset ms).flatMap fun m => List.replicate (ms.count m - taken.count m) m
def leftO (ms taken : List Tm) : D := if fitsB ms taken then .tup (encs (leftB ms taken)) else .non
theorem rp_mem {t : Tm} {l : List Tm} : ∀ {n : Nat}, t ∈ rp l n → t ∈ l
  | 0, h => by cases h
  | n + 1, h => by
    rcases List.mem_append.mp h with h | h
    · exact h
    · exact rp_mem h
theorem rp_len (l : List Tm) : ∀ n : Nat, (rp l n).length = n * l.length
  | 0 => by simp [rp]
  | n + 1 => by rw [rp, List.length_append, rp_len l n, Nat.succ_mul]; omega
theorem lt_nats {m n : Nat} : opC .lt (.int m) (.int n) = some (decide (m < n)) := by
  show some (decide ((m : Int) < n)) = _
  congr 1
  rw [decide_eq_decide]
  omega
theorem fits_count {ms taken : List Tm} (h : fitsB ms taken = true) (t : Tm) : taken.count t ≤ ms.count t := by
  unfold fitsB at h
  by_cases ht : t ∈ taken
  · have h : taken.any (fun t => decide (ms.count t < taken.count t)) = false := by simpa using h
    have := List.any_eq_false.mp h t ht
    have := of_decide_eq_false (Bool.not_eq_true _ ▸ this)
    omega
  · rw [List.count_eq_zero.mpr ht]
    exact Nat.zero_le _
theorem leftB_flat_len (ms taken : List Tm) : ∀ d : List Tm, (d.flatMap fun m => List.replicate (ms.count m - taken.count m) m).length ≤ tot ms d
  | [] => Nat.zero_le _
  | a :: d => by
    have := leftB_flat_len ms taken d
    rw [List.flatMap_cons, List.length_append, List.length_replicate, tot]
    omega
theorem leftB_len (ms taken : List Tm) : (leftB ms taken).length ≤ ms.length := Nat.le_trans (leftB_flat_len ms taken _) (tot_le _ _ (tset_nodup ms))
theorem left_in_bag (ms lay : List Tm) (times : Nat) (hd : deps ms ≤ 3) (hl : ms.length ≤ 20) (hd' : deps lay ≤ 3) (hl' : lay.length ≤ 20) (ht : times ≤ 40) : Ret 1 "left_in_bag" [.tup (encs ms), .tup (encs lay), .int (times : Nat)] (leftO ms (rp lay times)) := by
  refine ret_of (d := d_left_in_bag.fn) (k := 0) rfl rfl fun n st => ?_
  have hdt : deps (rp lay times) ≤ 3 := deps_le fun t h => Nat.le_trans (dep_mem (rp_mem h)) hd'
  have hlt : (rp lay times).length ≤ 1000 := by rw [rp_len]; exact Nat.le_trans (Nat.mul_le_mul ht hl') (by decide)
  refine r_set (d := .tup [.tup (encs (rp lay times)), .tup []]) (x_tup (x_two (x_op (x := .tup (encs lay)) (y := .int times) rfl rfl (mul_T (by omega) (by omega))) rfl) rfl) rfl ?_
  generalize rp lay times = tk at hdt hlt ⊢
  have hc : evE (callP T (n + 0)) (.bi .any (.econs (.lc (.cmp .lt (.mt .count (.slot 0) (.econs (.slot 3) .enil)) (.mt .count (.slot 4) (.econs (.slot 3) .enil))) (.slot 3) (.plain (.slot 4)) (.const (.bl true)) [3]) .enil))
      [some (.tup (encs ms)), some (.tup (encs lay)), some (.int times), none, some (.tup (encs tk)), some (.tup [])] st = .ok (.bl (!fitsB ms tk)) st := by
    have e : (!fitsB ms tk) = tk.any fun t => decide (ms.count t < tk.count t) := by unfold fitsB; rw [Bool.not_not]
    rw [e]
    refine x_bi (x_one (x_lcm (l := tk) (φ := enc) (g := fun t => .bl (decide (ms.count t < tk.count t))) (i_plain' rfl (by rw [← encs_map]; rfl)) (fun t ht s => lc_elt rfl rfl ?_) (le_lim hlt))) (any_bl _ _)
    have hdm : dep t ≤ 3 := Nat.le_trans (dep_mem ht) hdt
    exact x_cmp (x_mt (m := .count) rfl rfl (x_one rfl) (count_T hdm hd)) (x_mt (m := .count) rfl rfl (x_one rfl) (count_T hdm hdt)) lt_nats
  unfold leftO
  cases hf : fitsB ms tk with
  | false =>
    rw [hf] at hc
    exact r_ifT hc rfl
  | true =>
    rw [hf] at hc
    refine r_ifF hc ?_
    refine r_for (l := tset ms) (φ := enc) (I := fun pre ρ => ∃ a, ρ = [some (.tup (encs ms)), some (.tup (encs lay)), some (.int times), a, some (.tup (encs tk)), some (.tup (encs (pre.flatMap fun m => List.replicate (ms.count m - tk.count m) m)))]) (x_sset rfl hd (by omega)) (fun pre m post e ρ hc => ?_) ⟨none, rfl⟩ fun ρ' h => ?_
    · obtain ⟨a, rfl⟩ := hc
      have hm : m ∈ ms := mem_tset.mp (mem_mid e)
      have hdm : dep m ≤ 3 := Nat.le_trans (dep_mem hm) hd
      have hle := fits_count hf m
      have hcl : ms.count m ≤ ms.length := List.count_le_length
      have hN := tot_le (tset ms) ms (tset_nodup ms)
      rw [e, tot_app, tot] at hN
      have hpl := leftB_flat_len ms tk pre
      refine ⟨_, b_set (d := .tup (encs ((pre ++ [m]).flatMap fun m => List.replicate (ms.count m - tk.count m) m))) (x_op (y := .tup (encs (List.replicate (ms.count m - tk.count m) m))) rfl (x_op (x := .tup [enc m]) (y := .int ((ms.count m - tk.count m : Nat))) rfl (x_op (x_mt (m := .count) rfl rfl (x_one rfl) (count_T hdm hd)) (x_mt (m := .count) rfl rfl (x_one rfl) (count_T hdm hdt)) ?_) (mul_one' (by omega))) ?_) rfl rfl, _, rfl⟩
      · show some (D.int ((ms.count m : Int) - (tk.count m : Int))) = _
        congr 2
        omega
      · rw [add_tup (by rw [encs_len, encs_len, List.length_replicate]; exact le_lim (by omega)), List.flatMap_append, encs_app, List.flatMap_singleton]
    · obtain ⟨a, rfl⟩ := h
      exact r_ret rfl
inductive Goal where
  | mat (p f : Tm)
  | lay (b : Bool) (ps ms ls : List Tm)
def encG : Goal → D
  | .mat p f => .tup [.str "match", enc p, enc f]
  | .lay b ps ms ls => .tup [.str "lay", .str (gw b), .tup (encs ps), .tup (encs ms), .tup (encs ls)]
def encGs (l : List Goal) : D := .tup (l.map encG)
def bagSteps (ps ms : List Tm) (w : W) : List (List Goal) := match ps with
  | [] => []
  | p :: r => ((lays true p w ms).filter fun lay => fitsB ms (rp lay ((p :: r).count p))).map fun lay =>
    [.mat p (alone true lay), .lay true ((p :: r).filter fun q => !decide (q = p)) (leftB ms (rp lay ((p :: r).count p))) []]
def setSteps (ps ms ls : List Tm) (w : W) : List (List Goal) := match ps with
  | [] => []
  | p :: r => ((lays false p w ms).filter fun lay => lay.all fun m => decide (m ∈ ms)).map fun lay =>
    [.mat p (alone false lay), .lay false r ms (ls.filter fun m => !decide (m ∈ lay))]
theorem subs_ok {ms s : List Tm} (h : s ∈ subs ms) : s.length ≤ ms.length ∧ ∀ t ∈ s, t ∈ ms := by
  constructor
  · have h1 := subs_all ms (tset ms) [[]] 0 (by simp) s h
    have := tot_le _ ms (tset_nodup ms)
    omega
  · have key : ∀ (d : List Tm) (found : List (List Tm)), (∀ t ∈ d, t ∈ ms) → (∀ s ∈ found, ∀ t ∈ s, t ∈ ms) → ∀ s ∈ subsA ms d found, ∀ t ∈ s, t ∈ ms := by
      intro d
      induction d with
      | nil => exact fun found _ h => h
      | cons a d ih =>
        intro found hd hf
        rw [subsA]
        refine ih _ (fun t ht => hd t (List.mem_cons_of_mem _ ht)) fun s hs t ht => ?_
        obtain ⟨k, _, hs⟩ := List.mem_flatMap.mp hs
        obtain ⟨z, hz, rfl⟩ := List.mem_map.mp hs
        rcases List.mem_append.mp ht with ht | ht
        · exact hf z hz t ht
        · rw [(List.mem_replicate.mp ht).2]
          exact hd a List.mem_cons_self
    exact key _ _ (fun t ht => mem_tset.mp ht) (by simp) s h
def Sm (k : Nat) (t : Tm) : Prop := dep t ≤ 2 ∧ size t ≤ k + 1
def Sml (k : Nat) (l : List Tm) : Prop := l.length ≤ k ∧ ∀ t ∈ l, dep t ≤ 2
theorem mem_len (b : Bool) (t : Tm) : (mem b t).length ≤ size t := Nat.le_trans (len_sizes _) (sizes_mem b t)
theorem mem_ok {b : Bool} {t : Tm} (h : dep t ≤ 2) : ∀ u ∈ mem b t, dep u ≤ 2 := fun u hu => Nat.le_trans (dep_mem' hu) h
end K59
end
section
set_option Elab.async false
set_option linter.all false
set_option maxRecDepth 100000
set_option maxHeartbeats 2000000
namespace K59
open Q
open PySem (Str)
def Lok (l : List (List Tm)) : Prop := l.length ≤ 1048576 ∧ ∀ s ∈ l, s.length ≤ 20 ∧ deps s ≤ 3
theorem filter_step {α : Type} (p : α → Bool) (pre : List α) (a : α) : (pre ++ [a]).filter p = pre.filter p ++ (if p a then [a] else []) := by
  rw [List.filter_append]
  congr 1
  rw [List.filter_cons]
  cases p a <;> rfl
theorem sl_tail {α : Type} (x : α) (xs : List α) : sliceL (x :: xs) (some 1) none = xs := by
  have e : HT.sIx (x :: xs).length 0 (some 1) = 1 := by
    rw [show (some (1 : Int)) = some ((1 : Nat) : Int) from rfl, HT.sIx_nat, List.length_cons]
    omega
  unfold sliceL
  rw [e, HT.sIx_none, List.drop_one, List.tail_cons, List.length_cons]
  exact List.take_length
theorem int_idx0 (x : D) (xs : List D) (st : List D) : ixM (.tup (x :: xs)) (.int 0) st = .ok x st := rfl
theorem bag_steps (p : Tm) (r ms : List Tm) (w : W) (hp : deps (p :: r) ≤ 3) (hpl : (p :: r).length ≤ 40) (hd : deps ms ≤ 3) (hl : ms.length ≤ 20) (hL : Lok (lays true p w ms)) :
    Ret 3 "bag_steps" [.tup (encs (p :: r)), .tup (encs ms), encW w] (.lst ((bagSteps (p :: r) ms w).map encGs)) := by
  refine ret_of (d := d_bag_steps.fn) (k := 2) rfl rfl fun n st => ?_
  have hdp : dep p ≤ 3 := Nat.le_trans (dep_mem List.mem_cons_self) hp
  have hct : (p :: r).count p ≤ (p :: r).length := List.count_le_length
  refine r_set (d := .tup [enc p, .int ((p :: r).count p)]) (x_tup (x_two (x_idx rfl rfl rfl) (x_mt (m := .count) rfl rfl (x_one (x_idx rfl rfl rfl)) (count_T hdp hp))) rfl) rfl ?_
  generalize hct' : (p :: r).count p = c at hct
  have hrl : ((p :: r).filter fun q => !decide (q = p)).length ≤ 40 := Nat.le_trans (List.length_filter_le _ _) hpl
  refine r_set (st1 := st) (d := .tup [.tup (encs ((p :: r).filter fun q => !decide (q = p))), .lst []]) (x_tup (x_two (x_bi (st1 := st) (d := .tup (encs ((p :: r).filter fun q => !decide (q = p)))) (x_one (x := .lst (encs ((p :: r).filter fun q => !decide (q = p)))) ?_) rfl) rfl) rfl) rfl ?_
  · rw [encs_map ((p :: r).filter _)]
    exact x_lcf (l := p :: r) (φ := enc) (p := fun q => !decide (q = p)) (g := enc) (i_plain' rfl (by rw [← encs_map]; rfl)) (fun q hq s => lc_if (k := !decide (q = p)) rfl (x_cmp rfl rfl (ne_enc (Nat.le_trans (dep_mem hq) hp) hdp)) fun _ => rfl) (le_lim (by omega))
  refine r_for (l := lays true p w ms) (φ := encT) (I := fun pre ρ => ∃ a b e, ρ = [some (.tup (encs (p :: r))), some (.tup (encs ms)), some (encW w), a, some (enc p), some (.int (c : Nat)), some (.tup (encs ((p :: r).filter fun q => !decide (q = p)))),
    some (.lst (((pre.filter fun lay => fitsB ms (rp lay c)).map fun lay => encGs [.mat p (alone true lay), .lay true ((p :: r).filter fun q => !decide (q = p)) (leftB ms (rp lay c)) []]))), b, e]) (i_plain' (x_call (xs := [.str (gw true), enc p, encW w, .tup (encs ms)]) rfl ((lays_of true p w ms hd hl).mono (by omega) n st)) rfl) (fun pre lay post e ρ hc => ?_) ⟨none, none, none, rfl⟩ fun ρ' h => ?_
  · obtain ⟨a, b, e', rfl⟩ := hc
    have hlay := hL.2 lay (mem_mid e)
    have hcall := (left_in_bag ms lay c hd hl hlay.2 hlay.1 (by omega)).mono (k' := 2) (by omega) n st
    unfold leftO at hcall
    have hpre : pre.length + 1 ≤ 1048576 := by
      have := hL.1
      rw [e, List.length_append, List.length_cons] at this
      omega
    cases hf : fitsB ms (rp lay c) with
    | false =>
      rw [hf] at hcall
      refine ⟨_, b_set (d := .non) (x_call (xs := [.tup (encs ms), .tup (encs lay), .int (c : Nat)]) rfl hcall) rfl (r_if (k := false) (x_cmp (y := .non) rfl rfl rfl) (fun z => by cases z) fun _ => rfl), some (encT lay), some .non, e', ?_⟩
      rw [filter_step, hf, if_neg (by simp), List.append_nil]
      rfl
    | true =>
      rw [hf] at hcall
      have hstep : evS (callP T (n + 2)) (.set (.slot 7) (.op .add (.slot 7) (.lst (.econs (.tup (.econs (.tup (.econs (.const (.str "match")) (.econs (.slot 4) (.econs (.call "alone" (.econs (.const (.str "bag")) (.econs (.slot 3) .enil))) .enil)))) (.econs (.tup (.econs (.const (.str "lay")) (.econs (.const (.str "bag")) (.econs (.slot 6) (.econs (.slot 8) (.econs (.tup .enil) .enil)))))) .enil))) .enil))) .nil)
          [some (.tup (encs (p :: r))), some (.tup (encs ms)), some (encW w), some (encT lay), some (enc p), some (.int (c : Nat)), some (.tup (encs ((p :: r).filter fun q => !decide (q = p)))),
            some (.lst (((pre.filter fun lay => fitsB ms (rp lay c)).map fun lay => encGs [.mat p (alone true lay), .lay true ((p :: r).filter fun q => !decide (q = p)) (leftB ms (rp lay c)) []]))), some (.tup (encs (leftB ms (rp lay c)))), e'] st =
          .ok .next [some (.tup (encs (p :: r))), some (.tup (encs ms)), some (encW w), some (encT lay), some (enc p), some (.int (c : Nat)), some (.tup (encs ((p :: r).filter fun q => !decide (q = p)))),
            some (.lst ((((pre ++ [lay]).filter fun lay => fitsB ms (rp lay c)).map fun lay => encGs [.mat p (alone true lay), .lay true ((p :: r).filter fun q => !decide (q = p)) (leftB ms (rp lay c)) []]))), some (.tup (encs (leftB ms (rp lay c)))), e'] st := by
        refine b_set (x_op (y := .lst [encGs [.mat p (alone true lay), .lay true ((p :: r).filter fun q => !decide (q = p)) (leftB ms (rp lay c)) []]]) rfl
          (x_lst (x_one (x_tup (x_two (x_tup (x_three rfl rfl (x_call (xs := [.str (gw true), .tup (encs lay)]) rfl ((alone_T true lay (by omega)).mono (by omega) n st))) rfl) rfl) rfl)) rfl) ?_) rfl rfl
        rw [add_lst, filter_step, hf, List.map_append]
        · rfl
        · rw [List.length_map]
          have := List.length_filter_le (fun lay => fitsB ms (rp lay c)) pre
          show _ + 1 ≤ LIM
          have : LIM = 16777216 := rfl
          omega
      exact ⟨_, b_set (d := .tup (encs (leftB ms (rp lay c)))) (x_call (xs := [.tup (encs ms), .tup (encs lay), .int (c : Nat)]) rfl hcall) rfl (r_if (k := true) (x_cmp (y := .non) rfl rfl rfl) (fun _ => Eq.trans (congrArg (fun z => andThen z _) hstep) rfl) (fun z => by cases z)), _, _, _, rfl⟩
  · obtain ⟨a, b, e', rfl⟩ := h
    refine r_ret ?_
    unfold bagSteps
    dsimp only
    rw [hct', List.map_map]
    rfl
theorem set_steps (p : Tm) (r ms ls : List Tm) (w : W) (hp : deps (p :: r) ≤ 3) (hpl : (p :: r).length ≤ 40) (hd : deps ms ≤ 3) (hl : ms.length ≤ 20) (hds : deps ls ≤ 3) (hls : ls.length ≤ 20) (hL : Lok (lays false p w ms)) :
    Ret 3 "set_steps" [.tup (encs (p :: r)), .tup (encs ms), .tup (encs ls), encW w] (.lst ((setSteps (p :: r) ms ls w).map encGs)) := by
  refine ret_of (d := d_set_steps.fn) (k := 2) rfl rfl fun n st => ?_
  have hdp : dep p ≤ 3 := Nat.le_trans (dep_mem List.mem_cons_self) hp
  refine r_set (d := .lst []) rfl rfl ?_
  refine r_for (l := lays false p w ms) (φ := encT) (I := fun pre ρ => ∃ a b e, ρ = [some (.tup (encs (p :: r))), some (.tup (encs ms)), some (.tup (encs ls)), some (encW w),
    some (.lst (((pre.filter fun lay => lay.all fun m => decide (m ∈ ms)).map fun lay => encGs [.mat p (alone false lay), .lay false r ms (ls.filter fun m => !decide (m ∈ lay)) ]))), a, b, e]) (i_plain' (x_call (xs := [.str (gw false), enc p, encW w, .tup (encs ms)]) rfl ((lays_of false p w ms hd hl).mono (by omega) n st)) rfl) (fun pre lay post e ρ hc => ?_) ⟨none, none, none, rfl⟩ fun ρ' h => ?_
  · obtain ⟨a, b, e', rfl⟩ := hc
    have hlay := hL.2 lay (mem_mid e)
    have hfl : (ls.filter fun m => !decide (m ∈ lay)).length ≤ 20 := Nat.le_trans (List.length_filter_le _ _) hls
    have hpre : pre.length + 1 ≤ 1048576 := by
      have := hL.1
      rw [e, List.length_append, List.length_cons] at this
      omega
    have hcond : ∀ (x : Option D) (y : Option D), evE (callP T (n + 2)) (.bi .all (.econs (.lc (.cmp .isin (.slot 7) (.slot 1)) (.slot 7) (.plain (.slot 5)) (.const (.bl true)) [7]) .enil))
        [some (.tup (encs (p :: r))), some (.tup (encs ms)), some (.tup (encs ls)), some (encW w), x, some (encT lay), b, e'] st = .ok (.bl (lay.all fun m => decide (m ∈ ms))) st := fun x y =>
      x_bi (x_one (x_lcm (l := lay) (φ := enc) (g := fun m => .bl (decide (m ∈ ms))) (i_plain' rfl (by rw [← encs_map]; rfl)) (fun m hm s => lc_elt rfl rfl (x_cmp rfl rfl (in_enc (Nat.le_trans (dep_mem hm) hlay.2) hd))) (le_lim (by omega)))) (all_bl _ _)
    cases hf : lay.all fun m => decide (m ∈ ms) with
    | false =>
      refine ⟨_, r_if (k := false) ((hcond _ none).trans (by rw [hf])) (fun z => by cases z) fun _ => rfl, some (encT lay), b, e', ?_⟩
      rw [filter_step, hf, if_neg (by simp), List.append_nil]
      rfl
    | true =>
      have hstep : evS (callP T (n + 2)) (.set (.slot 6) (.bi .tuple (.econs (.lc (.slot 7) (.slot 7) (.plain (.slot 2)) (.cmp .notin (.slot 7) (.slot 5)) [7]) .enil)) (.set (.slot 4) (.op .add (.slot 4) (.lst (.econs (.tup (.econs (.tup (.econs (.const (.str "match")) (.econs (.idx (.slot 0) (.const (.int 0))) (.econs (.call "alone" (.econs (.const (.str "set")) (.econs (.slot 5) .enil))) .enil)))) (.econs (.tup (.econs (.const (.str "lay")) (.econs (.const (.str "set")) (.econs (.slc (.slot 0) (.const (.int 1)) (.const .non)) (.econs (.slot 1) (.econs (.slot 6) .enil)))))) .enil))) .enil))) .nil))
          [some (.tup (encs (p :: r))), some (.tup (encs ms)), some (.tup (encs ls)), some (encW w), some (.lst (((pre.filter fun lay => lay.all fun m => decide (m ∈ ms)).map fun lay => encGs [.mat p (alone false lay), .lay false r ms (ls.filter fun m => !decide (m ∈ lay)) ]))), some (encT lay), b, e'] st =
          .ok .next [some (.tup (encs (p :: r))), some (.tup (encs ms)), some (.tup (encs ls)), some (encW w), some (.lst ((((pre ++ [lay]).filter fun lay => lay.all fun m => decide (m ∈ ms)).map fun lay => encGs [.mat p (alone false lay), .lay false r ms (ls.filter fun m => !decide (m ∈ lay)) ]))), some (encT lay), some (.tup (encs (ls.filter fun m => !decide (m ∈ lay)))), e'] st := by
        refine b_set (d := .tup (encs (ls.filter fun m => !decide (m ∈ lay)))) (x_bi (xs := [.lst (encs (ls.filter fun m => !decide (m ∈ lay)))]) (x_one ?_) rfl) rfl (b_set (x_op (y := .lst [encGs [.mat p (alone false lay), .lay false r ms (ls.filter fun m => !decide (m ∈ lay)) ]]) rfl
          (x_lst (x_one (x_tup (x_two (x_tup (x_three rfl (x_idx rfl rfl rfl) (x_call (xs := [.str (gw false), .tup (encs lay)]) rfl ((alone_T false lay (by omega)).mono (by omega) n st))) rfl)
            (x_tup (x_cons rfl (x_cons rfl (x_cons (x := .tup (encs r)) ?_ (x_two rfl rfl)))) rfl)) rfl)) rfl) ?_) rfl rfl)
        · rw [encs_map (ls.filter _)]
          exact x_lcf (l := ls) (φ := enc) (p := fun m => !decide (m ∈ lay)) (g := enc) (i_plain' rfl (by rw [← encs_map]; rfl)) (fun q hq s => lc_if (k := !decide (q ∈ lay)) rfl (x_cmp rfl rfl (notin_enc (Nat.le_trans (dep_mem hq) hds) hlay.2)) fun _ => rfl) (le_lim (by omega))
        · refine x_slc (lo := some 1) (hi := none) rfl rfl rfl rfl rfl ?_
          show some (D.tup (sliceL (enc p :: encs r) (some 1) none)) = _
          rw [sl_tail]
        · rw [add_lst, filter_step, hf, List.map_append]
          · rfl
          · rw [List.length_map]
            have := List.length_filter_le (fun lay : List Tm => lay.all fun m => decide (m ∈ ms)) pre
            show _ + 1 ≤ LIM
            have : LIM = 16777216 := rfl
            omega
      refine ⟨_, r_if (k := true) ((hcond _ none).trans (by rw [hf])) (fun _ => Eq.trans (congrArg (fun z => andThen z _) hstep) rfl) (fun z => by cases z), _, _, _, rfl⟩
  · obtain ⟨a, b, e', rfl⟩ := h
    refine r_ret ?_
    unfold setSteps
    dsimp only
    rw [List.map_map]
    rfl
end K59
end
section
set_option Elab.async false
set_option linter.all false
set_option maxRecDepth 100000
set_option maxHeartbeats 2000000
namespace K59
open Q
open PySem (Str)
def isCF : Tm → Bool
  | .con _ => true
  | .free _ _ => true
  | _ => false
def inOrd (ps : List Tm) : List Tm := ps.filter isCF ++ ps.filter fun t => !isCF t
theorem r_ifTa {cl : Str → List D → M D} {ρ : Q.Env} {st st1 st2 : List D} {c : E} {a b r : S} {d : D} (h : evE cl c ρ st = .ok (.bl true) st1) (ha : fin (evS cl a ρ st1) = .ok d st2) (hd : d ≠ .non) : fin (evS cl (.iff c a b r) ρ st) = .ok d st2 := by
  rw [r_if (R := andThen (evS cl a ρ st1) (evS cl r)) h (fun _ => rfl) (fun z => by cases z)]
  generalize evS cl a ρ st1 = z at ha
  cases z with
  | ok f ρ s => cases f with
    | ret d' => exact ha
    | next =>
      have : d = .non := by
        injection ha with h1 h2
        exact h1.symm
      exact absurd this hd
    | brk => cases ha
    | cont => cases ha
  | err x ρ s => cases ha
  | stuck => cases ha
theorem ne_nats {m n : Nat} : opC .ne (.int m) (.int n) = some (!decide (m = n)) := by
  show Option.map (!·) (opC .eq (.int m) (.int n)) = _
  rw [eq_nats]
  rfl
theorem ne_strs {a b : Str} : opC .ne (.str a) (.str b) = some (!decide (a = b)) := rfl
theorem in_order (ps : List Tm) (hl : ps.length ≤ 40) : Ret 1 "in_order" [.tup (encs ps)] (.tup (encs (inOrd ps))) := by
  refine ret_of (d := d_in_order.fn) (k := 0) rfl rfl fun n st => ?_
  have h1 := List.length_filter_le isCF ps
  have h2 := List.length_filter_le (fun t => !isCF t) ps
  refine r_set (st1 := st) (d := .lst ((ps.filter isCF).map enc)) (x_lcf (l := ps) (φ := enc) (p := isCF) (g := enc) (i_plain' rfl (by rw [← encs_map]; rfl)) (fun q hq s => lc_if (k := isCF q) rfl (by cases q <;> rfl) fun _ => rfl) (le_lim (by omega))) rfl ?_
  refine r_ret (x_bi (xs := [.lst (encs (inOrd ps))]) (x_one (x_op (y := .lst ((ps.filter fun t => !isCF t).map enc)) rfl (x_lcf (l := ps) (φ := enc) (p := fun t => !isCF t) (g := enc) (i_plain' rfl (by rw [← encs_map]; rfl)) (fun q hq s => lc_if (k := !isCF q) rfl (by cases q <;> rfl) fun _ => rfl) (le_lim (by omega))) ?_)) rfl)
  rw [add_lst (by rw [List.length_map, List.length_map]; exact le_lim (by omega))]
  unfold inOrd
  rw [encs_app, encs_map, encs_map]
def zipG : List Tm → List Tm → List Goal
  | a :: as, b :: bs => .mat a b :: zipG as bs
  | _, _ => []
def matSteps : Tm → Tm → List (List Goal)
  | .con c, f => if Tm.con c = f then [[]] else []
  | .free g ts, f => match f with
    | .free h us => if h = g ∧ us.length = ts.length then [zipG ts us] else []
    | _ => []
  | .bag ts, f => [[.lay true (inOrd ts) (mem true f) []]]
  | .set ts, f => [[.lay false (inOrd ts) (mem false f) (mem false f)]]
  | .unk _, _ => []
theorem eq_strs {a b : Str} : opC .eq (.str a) (.str b) = some (decide (a = b)) := rfl
theorem zip_enc : ∀ a b : List Tm, zipD (encs a) (encs b) = (a.zip b).map fun p => .tup [enc p.1, enc p.2]
  | [], _ => by cases ‹List Tm› <;> rfl
  | _ :: _, [] => rfl
  | a :: as, b :: bs => by
    show D.tup [enc a, enc b] :: zipD (encs as) (encs bs) = _
    rw [zip_enc as bs]
    rfl
theorem zipG_map : ∀ a b : List Tm, zipG a b = (a.zip b).map fun p => .mat p.1 p.2
  | [], _ => by cases ‹List Tm› <;> rfl
  | _ :: _, [] => rfl
  | a :: as, b :: bs => by
    show Goal.mat a b :: zipG as bs = _
    rw [zipG_map as bs]
    rfl
theorem match_steps (p f : Tm) (hp : dep p ≤ 3) (hps : size p ≤ 40) (hf : dep f ≤ 3) (hfs : size f ≤ 40) (hu : word p ≠ "unknown") :
    Ret 2 "match_steps" [enc p, enc f] (.lst ((matSteps p f).map encGs)) := by
  refine ret_of (d := d_match_steps.fn) (k := 1) rfl rfl fun n st => r_set (d := .str (word p)) (word_ite rfl) rfl ?_
  cases p with
  | unk m => exact absurd rfl hu
  | con c =>
    refine r_ifT rfl ?_
    show _ = Q.Res.ok (D.lst ((if Tm.con c = f then [[]] else [] : List (List Goal)).map encGs)) st
    by_cases h : Tm.con c = f
    · rw [if_pos h]
      exact x_iteT (x_cmp (x := enc (.con c)) (y := enc f) rfl rfl (by rw [eq_enc hp hf, decide_eq_true h])) rfl
    · rw [if_neg h]
      exact x_iteF (x_cmp (x := enc (.con c)) (y := enc f) rfl rfl (by rw [eq_enc hp hf, decide_eq_false h])) rfl
  | free g ts =>
    refine r_ifF rfl ?_
    have hgo : ∀ k, evE (callP T (n + 1)) (.or (.cmp .ne (.idx (.slot 1) (.const (.int 0))) (.const (.str "free"))) (.or (.cmp .ne (.idx (.slot 1) (.const (.int 1))) (.idx (.slot 0) (.const (.int 1)))) (.cmp .ne (.bi .len (.econs (.idx (.slot 1) (.const (.int 2))) .enil)) (.bi .len (.econs (.idx (.slot 0) (.const (.int 2))) .enil)))))
        [some (enc (.free g ts)), some (enc f), some (.str "free"), none, none, none] st = .ok (.bl k) st → k = (matSteps (.free g ts) f).isEmpty → fin (evS (callP T (n + 1)) (.iff (.or (.cmp .ne (.idx (.slot 1) (.const (.int 0))) (.const (.str "free"))) (.or (.cmp .ne (.idx (.slot 1) (.const (.int 1))) (.idx (.slot 0) (.const (.int 1)))) (.cmp .ne (.bi .len (.econs (.idx (.slot 1) (.const (.int 2))) .enil)) (.bi .len (.econs (.idx (.slot 0) (.const (.int 2))) .enil))))) (.ret (.lst .enil)) .nil (.ret (.lst (.econs (.bi .tuple (.econs (.lc (.tup (.econs (.const (.str "match")) (.econs (.slot 4) (.econs (.slot 5) .enil)))) (.tup (.cons (.slot 4) (.cons (.slot 5) .nil))) (.zip (.idx (.slot 0) (.const (.int 2))) (.idx (.slot 1) (.const (.int 2)))) (.const (.bl true)) [4, 5]) .enil)) .enil)))) [some (enc (.free g ts)), some (enc f), some (.str "free"), none, none, none] st) = .ok (.lst ((matSteps (.free g ts) f).map encGs)) st := by
      intro k hk e
      cases k with
      | true =>
        refine r_ifT hk ?_
        cases hm : matSteps (.free g ts) f with
        | nil => rfl
        | cons a l => rw [hm] at e; cases e
      | false =>
        refine r_ifF hk ?_
        cases f with
        | free h us =>
          have hc : h = g ∧ us.length = ts.length := by
            refine Classical.byContradiction fun hn => ?_
            have : matSteps (.free g ts) (.free h us) = [] := if_neg hn
            rw [this] at e
            cases e
          have em : matSteps (.free g ts) (.free h us) = [zipG ts us] := if_pos hc
          have h1 := len_sizes ts
          rw [size] at hps
          have h3 : (ts.zip us).length ≤ ts.length := by rw [List.length_zip]; exact Nat.min_le_left _ _
          rw [em]
          refine r_ret (st1 := st) (x_lst (x_one (x_bi (d := encGs (zipG ts us)) (xs := [.lst ((zipG ts us).map encG)]) (x_one ?_) rfl)) rfl)
          rw [zipG_map, List.map_map]
          show evE _ (.lc _ _ _ _ _) _ _ = Q.Res.ok (D.lst ((ts.zip us).map fun p => encG (.mat p.1 p.2))) st
          refine x_lcm (l := ts.zip us) (φ := fun p => .tup [enc p.1, enc p.2]) (g := fun p => encG (.mat p.1 p.2)) ?_ (fun p _ s => ?_) (le_lim (by omega))
          · rw [← zip_enc]
            rfl
          · exact lc_elt rfl rfl rfl
        | unk m => cases e
        | con m => cases e
        | bag us => cases e
        | set us => cases e
    cases f with
    | free h us =>
      have el : ∀ l : List Tm, opBi .len [.tup (encs l)] = some (.int l.length) := fun l => by
        show some (D.int (encs l).length) = _
        rw [encs_len]
      by_cases e1 : h = g
      · have c1 : opC .ne (.str h) (.str g) = some false := by rw [ne_strs, decide_eq_true e1]; rfl
        by_cases e2 : us.length = ts.length
        · refine r_ifTa rfl (hgo false (x_orF rfl (x_orF (x_cmp (x := .str h) (y := .str g) rfl rfl c1) (x_cmp (x := .int us.length) (y := .int ts.length) (x_bi (xs := [.tup (encs us)]) rfl (el us)) (x_bi (xs := [.tup (encs ts)]) rfl (el ts)) ?_))) ?_) fun z => by cases z
          · rw [ne_nats, decide_eq_true e2]; rfl
          · show _ = (if h = g ∧ us.length = ts.length then [zipG ts us] else [] : List (List Goal)).isEmpty
            rw [if_pos ⟨e1, e2⟩]
            rfl
        · refine r_ifTa rfl (hgo true (x_orF rfl (x_orF (x_cmp (x := .str h) (y := .str g) rfl rfl c1) (x_cmp (x := .int us.length) (y := .int ts.length) (x_bi (xs := [.tup (encs us)]) rfl (el us)) (x_bi (xs := [.tup (encs ts)]) rfl (el ts)) ?_))) ?_) fun z => by cases z
          · rw [ne_nats, decide_eq_false e2]; rfl
          · show _ = (if h = g ∧ us.length = ts.length then [zipG ts us] else [] : List (List Goal)).isEmpty
            rw [if_neg fun z => e2 z.2]
            rfl
      · have c1 : opC .ne (.str h) (.str g) = some true := by rw [ne_strs, decide_eq_false e1]; rfl
        refine r_ifTa rfl (hgo true (x_orF rfl (x_orT (x_cmp (x := .str h) (y := .str g) rfl rfl c1))) ?_) fun z => by cases z
        show _ = (if h = g ∧ us.length = ts.length then [zipG ts us] else [] : List (List Goal)).isEmpty
        rw [if_neg fun z => e1 z.1]
        rfl
    | unk m => exact r_ifTa rfl (hgo true (x_orT rfl) rfl) fun z => by cases z
    | con m => exact r_ifTa rfl (hgo true (x_orT rfl) rfl) fun z => by cases z
    | bag us => exact r_ifTa rfl (hgo true (x_orT rfl) rfl) fun z => by cases z
    | set us => exact r_ifTa rfl (hgo true (x_orT rfl) rfl) fun z => by cases z
  | bag ts =>
    have hl : ts.length ≤ 40 := by have := len_sizes ts; rw [size] at hps; omega
    refine r_ifF rfl (r_ifF rfl (r_set (d := .tup (encs (mem true f))) (x_call (xs := [.str (gw true), enc f]) rfl ((members_of true f).mono (by omega) n st)) rfl (r_ret (x_lst (x_one (x_tup (x_one (x_tup (x_cons rfl (x_cons rfl (x_cons (x_call (x_one (x_call (xs := [enc (.bag ts)]) (x_one rfl) (parts_in (.bag ts) n st))) (in_order ts hl n st)) (x_two rfl rfl)))) rfl)) rfl)) rfl))))
  | set ts =>
    have hl : ts.length ≤ 40 := by have := len_sizes ts; rw [size] at hps; omega
    refine r_ifF rfl (r_ifF rfl (r_set (d := .tup (encs (mem false f))) (x_call (xs := [.str (gw false), enc f]) rfl ((members_of false f).mono (by omega) n st)) rfl (r_ret (x_lst (x_one (x_tup (x_one (x_tup (x_cons rfl (x_cons rfl (x_cons (x_call (x_one (x_call (xs := [enc (.set ts)]) (x_one rfl) (parts_in (.set ts) n st))) (in_order ts hl n st)) (x_two rfl rfl)))) rfl)) rfl)) rfl))))
end K59
end
section
set_option Elab.async false
set_option linter.all false
set_option maxRecDepth 100000
set_option maxHeartbeats 2000000
namespace K59
open Q
open PySem (Str)
section
variable {c : Q.Env → M D} {b : MS} {ρ ρ' : Q.Env} {st st1 st' : List D}
theorem loopW_mono : ∀ (n : Nat) (ρ : Q.Env) (st : List D), loopW c b n ρ st ≠ .stuck → loopW c b (n + 1) ρ st = loopW c b n ρ st
  | 0, _, _, h => absurd rfl h
  | n + 1, ρ, st, h => by
    rw [loopW] at h ⊢
    conv => rhs; rw [loopW]
    cases hc : c ρ st with
    | stuck => rfl
    | err x s => rfl
    | ok d s =>
      rw [hc] at h
      cases d with
      | bl k => cases k with
        | false => rfl
        | true =>
          dsimp only at h ⊢
          cases hb : b ρ s with
          | stuck => rfl
          | err x ρ s => rfl
          | ok f ρ s =>
            rw [hb] at h
            cases f with
            | next => exact loopW_mono n _ _ h
            | cont => exact loopW_mono n _ _ h
            | brk => rfl
            | ret d => rfl
      | _ => rfl
theorem loopW_le {n m : Nat} (hnm : n ≤ m) (h : loopW c b n ρ st ≠ .stuck) : loopW c b m ρ st = loopW c b n ρ st := by
  obtain ⟨k, rfl⟩ : ∃ k, m = n + k := ⟨m - n, by omega⟩
  clear hnm
  induction k with
  | zero => rfl
  | succ k ih =>
    rw [← ih]
    exact loopW_mono (n + k) ρ st (by rw [ih]; exact h)
theorem loopL_of {n : Nat} (h : loopW c b n ρ st ≠ .stuck) : loopL c b ρ st = loopW c b n ρ st := by
  unfold loopL
  have he : ∃ n, loopW c b n ρ st ≠ .stuck := ⟨n, h⟩
  rw [dif_pos he]
  rcases Nat.le_total n he.choose with hl | hl
  · exact loopW_le hl h
  · exact (loopW_le hl he.choose_spec).symm
theorem loopL_none (h : ∀ n, loopW c b n ρ st = .stuck) : loopL c b ρ st = .stuck := by
  unfold loopL
  rw [dif_neg fun ⟨n, hn⟩ => hn (h n)]
theorem loopL_stop (h : c ρ st = .ok (.bl false) st1) : loopL c b ρ st = .ok .next ρ st1 := by
  have e : loopW c b 1 ρ st = .ok .next ρ st1 := by rw [loopW, h]
  rw [loopL_of (n := 1) (by rw [e]; exact fun z => by cases z), e]
theorem loopL_step (h : c ρ st = .ok (.bl true) st1) (hb : b ρ st1 = .ok .next ρ' st') : loopL c b ρ st = loopL c b ρ' st' := by
  have e : ∀ n, loopW c b (n + 1) ρ st = loopW c b n ρ' st' := fun n => by rw [loopW, h]; dsimp only; rw [hb]
  by_cases hn : ∃ n, loopW c b n ρ' st' ≠ .stuck
  · obtain ⟨n, hn⟩ := hn
    rw [loopL_of (n := n + 1) (by rw [e]; exact hn), loopL_of hn, e]
  · have hn : ∀ n, loopW c b n ρ' st' = .stuck := fun n => Classical.byContradiction fun h => hn ⟨n, h⟩
    rw [loopL_none hn]
    refine loopL_none fun n => ?_
    cases n with
    | zero => rfl
    | succ n => rw [e]; exact hn n
end
def stepsOf : Goal → W → List (List Goal × W)
  | .mat (.unk n) f, w => if (wget w n).getD f = f then [([], wset w n f)] else []
  | .mat p f, w => (matSteps p f).map fun g => (g, w)
  | .lay b [] ms ls, w => if (bif b then ms else ls) = [] then [([], w)] else []
  | .lay true (p :: r) ms ls, w => (bagSteps (p :: r) ms w).map fun g => (g, w)
  | .lay false (p :: r) ms ls, w => (setSteps (p :: r) ms ls w).map fun g => (g, w)
def encS (s : List Goal × W) : D := .tup [encGs s.1, encW s.2]
def Gsp (w : W) : Goal → Prop
  | .mat p f => dep p ≤ 3 ∧ size p ≤ 40 ∧ dep f ≤ 3 ∧ size f ≤ 40
  | .lay b ps ms ls => deps ps ≤ 3 ∧ ps.length ≤ 40 ∧ deps ms ≤ 3 ∧ ms.length ≤ 20 ∧ deps ls ≤ 3 ∧ ls.length ≤ 20 ∧ ∀ p r, ps = p :: r → Lok (lays b p w ms)
def Wsp (w : W) : Prop := Once w ∧ w.length ≤ 1000 ∧ ∀ n t, wget w n = some t → dep t ≤ 2
theorem ev_wset {cl : Str → List D → M D} {ρ : Q.Env} {st : List D} {w : W} {n : Str} {f : Tm} {a k v : E} (ha : evE cl a ρ st = .ok (encW w) st) (hk : evE cl k ρ st = .ok (.str n) st) (hv : evE cl v ρ st = .ok (enc f) st) (hw : Wsp w) :
    evE cl (.dct (.spread a (.kv k v .enil))) ρ st = .ok (encW (wset w n f)) st := by
  show M.bind (M.bind (evE cl a ρ) fun x => match x with
    | .dct k' v' => (match sprOk [] k' with
      | true => let z := putAllD [] [] k' v'; evKV cl (.kv k v .enil) ρ z.1 z.2
      | false => M.stuck)
    | _ => M.stuck) (fun p => M.pure (D.dct p.1 p.2)) st = _
  have h1 : sprOk [] (keysW w) = true := by
    unfold sprOk
    rw [keys_str, show (keysW w).length = w.length from List.length_map _, Nat.ble_eq_true_of_le hw.2.1]
    simp
  have h2 : putAllD [] [] (keysW w) (valsW w) = (keysW w, valsW w) := by
    have := putW w []
    rw [wcopy_once hw.1] at this
    exact this
  have h3 : M.bind (evE cl a ρ) (fun x => match x with
    | .dct k' v' => (match sprOk [] k' with
      | true => let z := putAllD [] [] k' v'; evKV cl (.kv k v .enil) ρ z.1 z.2
      | false => M.stuck)
    | _ => M.stuck) st = .ok (keysW (wset w n f), valsW (wset w n f)) st := by
    rw [bind_eq ha]
    show (match sprOk [] (keysW w) with
      | true => let z := putAllD [] [] (keysW w) (valsW w); evKV cl (.kv k v .enil) ρ z.1 z.2
      | false => M.stuck) st = _
    rw [h1]
    dsimp only
    rw [h2]
    show M.bind (evE cl k ρ) (fun x => M.bind (evE cl v ρ) fun y => match x.isKey && kvOk (keysW w) x with
      | true => let z := setD (keysW w) (valsW w) x y; evKV cl .enil ρ z.1 z.2
      | false => M.stuck) st = _
    rw [bind_eq hk, bind_eq hv]
    have h4 : ((D.str n).isKey && kvOk (keysW w) (.str n)) = true := by
      unfold kvOk
      rw [kOkW]
      rfl
    rw [h4]
    dsimp only
    rw [setW]
    rfl
  rw [bind_eq h3]
  rfl
theorem x_goals {cl : Str → List D → M D} {ρ : Q.Env} {st : List D} {w : W} {gs : List (List Goal)} {it : E} (hi : evE cl it ρ st = .ok (.lst (gs.map encGs)) st) (h1 : ∀ s g, getE ((wipeE ρ [7]).set 7 (some g)) 7 s = .ok g s) (h2 : ∀ s g, getE ((wipeE ρ [7]).set 7 (some g)) 1 s = .ok (encW w) s) (hl : gs.length ≤ LIM) :
    evE cl (.lc (.tup (.econs (.slot 7) (.econs (.slot 1) .enil))) (.slot 7) (.plain it) (.const (.bl true)) [7]) ρ st = .ok (.lst ((gs.map fun g => (g, w)).map encS)) st := by
  rw [List.map_map]
  exact x_lcm (l := gs) (φ := encGs) (g := fun g => encS (g, w)) (i_plain' hi rfl) (fun g _ s => lc_elt rfl rfl (x_tup (x_two (h1 s (encGs g)) (h2 s (encGs g))) rfl)) hl
theorem bagSteps_len (p : Tm) (r ms : List Tm) (w : W) : (bagSteps (p :: r) ms w).length ≤ (lays true p w ms).length := by
  unfold bagSteps
  rw [List.length_map]
  exact List.length_filter_le _ _
theorem setSteps_len (p : Tm) (r ms ls : List Tm) (w : W) : (setSteps (p :: r) ms ls w).length ≤ (lays false p w ms).length := by
  unfold setSteps
  rw [List.length_map]
  exact List.length_filter_le _ _
theorem matSteps_len (p f : Tm) : (matSteps p f).length ≤ 1 := by
  cases p with
  | unk n => exact Nat.zero_le _
  | con c => show (if Tm.con c = f then [[]] else [] : List (List Goal)).length ≤ 1; split <;> simp
  | free g ts =>
    cases f with
    | free h us => show (if h = g ∧ us.length = ts.length then [zipG ts us] else [] : List (List Goal)).length ≤ 1; split <;> simp
    | _ => exact Nat.zero_le _
  | bag ts => exact Nat.le_refl _
  | set ts => exact Nat.le_refl _
theorem lim_big {n : Nat} (h : n ≤ 1048576) : n ≤ LIM := Nat.le_trans h (by decide)
theorem tup_slice3 (a b c d e : D) : opSl (.tup [a, b, c, d, e]) (some 1) none = some (.tup [b, c, d, e]) := rfl
theorem steps_of (g : Goal) (w : W) (hg : Gsp w g) (hw : Wsp w) : Ret 4 "steps_of" [encG g, encW w] (.lst ((stepsOf g w).map encS)) := by
  refine ret_of (d := d_steps_of.fn) (k := 3) rfl rfl fun n st => ?_
  cases g with
  | mat p f =>
    obtain ⟨hp, hps, hf, hfs⟩ := hg
    have hne : ∀ hu : word p ≠ "unknown", (∀ m, p ≠ .unk m) := fun hu m e => hu (by rw [e]; rfl)
    by_cases hu : word p = "unknown"
    · cases p with
      | unk m =>
        have hd : dep ((wget w m).getD f) ≤ 3 := by
          cases e : wget w m with
          | none => exact hf
          | some t => exact Nat.le_trans (hw.2.2 m t e) (by omega)
        refine r_ifTa (c := .and (.cmp .eq (.idx (.slot 0) (.const (.int 0))) (.const (.str "match"))) (.cmp .eq (.idx (.idx (.slot 0) (.const (.int 1))) (.const (.int 0))) (.const (.str "unknown")))) rfl ?_ fun z => by cases z
        refine r_set (d := .str m) rfl rfl (r_ret (x_ite (st1 := st) (k := decide ((wget w m).getD f = f)) (x_cmp (x_mt (m := .get) (x := encW w) (xs := [.str m, enc f]) rfl rfl rfl (getW w m f)) (y := enc f) rfl (eq_enc hd hf)) (fun h => ?_) fun h => ?_))
        · have e : stepsOf (.mat (.unk m) f) w = [([], wset w m f)] := if_pos (of_decide_eq_true h)
          rw [e]
          exact x_lst (x_one (x_tup (x_two rfl (ev_wset (w := w) (n := m) (f := f) rfl rfl rfl hw)) rfl)) rfl
        · have e : stepsOf (.mat (.unk m) f) w = [] := if_neg (of_decide_eq_false h)
          rw [e]
          rfl
      | con m => exact absurd hu (by dsimp only [word]; decide)
      | free h ts => exact absurd hu (by dsimp only [word]; decide)
      | bag ts => exact absurd hu (by dsimp only [word]; decide)
      | set ts => exact absurd hu (by dsimp only [word]; decide)
    · have e : stepsOf (.mat p f) w = (matSteps p f).map fun g => (g, w) := by
        cases p with
        | unk m => exact absurd rfl hu
        | _ => rfl
      rw [e]
      have c1 : evE (callP T (n + 3)) (.and (.cmp .eq (.idx (.slot 0) (.const (.int 0))) (.const (.str "match"))) (.cmp .eq (.idx (.idx (.slot 0) (.const (.int 1))) (.const (.int 0))) (.const (.str "unknown")))) [some (encG (.mat p f)), some (encW w), none, none, none, none, none, none] st = .ok (.bl false) st := by
        refine x_andT rfl (x_cmp (x := .str (word p)) (y := .str "unknown") (x_idx (x := enc p) (y := .int 0) rfl rfl ?_) rfl ?_)
        · cases p <;> rfl
        · rw [eq_strs, decide_eq_false hu]
      refine r_ifF c1 (r_ifT rfl (x_goals (x_call (xs := [enc p, enc f]) rfl ((match_steps p f hp hps hf hfs hu).mono (by omega) n st)) (fun s g => rfl) (fun s g => rfl) (Nat.le_trans (matSteps_len p f) (by decide))))
  | lay b ps ms ls =>
    obtain ⟨h1, h2, h3, h4, h5, h6, h7⟩ := hg
    refine r_ifF (x_andF rfl) (r_ifF rfl ?_)
    refine r_set (d := .tup [.str (gw b), .tup (encs ps), .tup (encs ms), .tup (encs ls)]) (x_slc (lo := some 1) (hi := none) rfl rfl rfl rfl rfl rfl) rfl ?_
    cases ps with
    | nil =>
      refine r_ifT (x_cmp rfl rfl (eq_nil (l := []) (by decide))) ?_
      cases b with
      | true =>
        refine x_ite (st1 := st) (k := decide (ms = [])) (x_iteF rfl (x_cmp rfl rfl (eq_nil h3))) (fun h => ?_) fun h => ?_
        · have e : stepsOf (.lay true [] ms ls) w = [([], w)] := if_pos (of_decide_eq_true h)
          rw [e]
          rfl
        · have e : stepsOf (.lay true [] ms ls) w = [] := if_neg (of_decide_eq_false h)
          rw [e]
          rfl
      | false =>
        refine x_ite (st1 := st) (k := decide (ls = [])) (x_iteT rfl (x_cmp rfl rfl (eq_nil h5))) (fun h => ?_) fun h => ?_
        · have e : stepsOf (.lay false [] ms ls) w = [([], w)] := if_pos (of_decide_eq_true h)
          rw [e]
          rfl
        · have e : stepsOf (.lay false [] ms ls) w = [] := if_neg (of_decide_eq_false h)
          rw [e]
          rfl
    | cons p r =>
      have hL := h7 p r rfl
      refine r_ifF (x_cmp rfl rfl (by rw [eq_nil h1]; rfl)) ?_
      cases b with
      | true =>
        refine r_ifT rfl (x_goals (x_call (xs := [.tup (encs (p :: r)), .tup (encs ms), encW w]) rfl ((bag_steps p r ms w h1 h2 h3 h4 hL).mono (by omega) n st)) (fun s g => rfl) (fun s g => rfl) ?_)
        exact lim_big (Nat.le_trans (bagSteps_len p r ms w) hL.1)
      | false =>
        refine r_ifF rfl (r_ret (x_goals (x_call (xs := [.tup (encs (p :: r)), .tup (encs ms), .tup (encs ls), encW w]) rfl ((set_steps p r ms ls w h1 h2 h3 h4 h5 h6 hL).mono (by omega) n st)) (fun s g => rfl) (fun s g => rfl) ?_))
        exact lim_big (Nat.le_trans (setSteps_len p r ms ls w) hL.1)
def putOf (w : W) : List (Str × Tm) := (ssort (w.map (·.1))).map fun n => (n, (wget w n).getD (.con ""))
def encPut (p : List (Str × Tm)) : D := .tup (p.map fun q => .tup [.str q.1, enc q.2])
theorem wget_mem : ∀ {w : W} {n : Str}, n ∈ w.map (·.1) → ∃ t, wget w n = some t
  | [], n, h => by cases h
  | (m, f) :: r, n, h => by
    rw [wget]
    by_cases e : m = n
    · exact ⟨f, if_pos e⟩
    · rw [if_neg e]
      rcases List.mem_cons.mp h with z | z
      · exact absurd z.symm e
      · exact wget_mem z
theorem put_of (w : W) (hw : Wsp w) : Ret 1 "put_of" [encW w] (encPut (putOf w)) := by
  refine ret_of (d := d_put_of.fn) (k := 0) rfl rfl fun n st => ?_
  have hs : opBi .sorted [encW w] = some (.lst ((ssort (w.map (·.1))).map D.str)) := by
    show sortD (keysW w) = _
    have e : keysW w = (w.map (·.1)).map D.str := by unfold keysW; rw [List.map_map]; rfl
    rw [e, sort_strs (by rw [List.length_map]; exact hw.2.1), ssort_str]
  refine r_ret (x_bi (xs := [.lst ((ssort (w.map (·.1))).map fun m => .tup [.str m, enc ((wget w m).getD (.con ""))])]) (x_one (x_lcm (l := ssort (w.map (·.1))) (φ := D.str) (g := fun m => .tup [.str m, enc ((wget w m).getD (.con ""))]) (i_plain' (x_bi (x_one rfl) hs) rfl) (fun m hm s => lc_elt rfl rfl (x_tup (x_two (x := .str m) (y := enc ((wget w m).getD (.con ""))) rfl (x_idx (x := encW w) (y := .str m) rfl rfl ?_)) rfl)) (le_lim (by rw [ssort_len, List.length_map]; exact hw.2.1)))) ?_)
  · obtain ⟨t, ht⟩ := wget_mem (mem_ssort.mp hm)
    rw [ht]
    exact ixW ht s
  · unfold encPut putOf
    rw [List.map_map]
    rfl
end K59
end
section
set_option Elab.async false
set_option linter.all false
set_option maxRecDepth 100000
set_option maxHeartbeats 2000000
namespace K59
open Q
open PySem (Str)
def wtG : Goal → Nat
  | .mat p _ => 3 * size p - 1
  | .lay _ ps _ _ => 1 + 3 * sizes ps
def wts : List Goal → Nat
  | [] => 0
  | g :: gs => wtG g + wts gs
theorem wts_app : ∀ a b : List Goal, wts (a ++ b) = wts a + wts b
  | [], b => by simp [wts]
  | g :: a, b => by rw [List.cons_append, wts, wts, wts_app a b]; omega
theorem ne_lnil (xs : List D) : opC .ne (.lst xs) (.lst []) = some (!xs.isEmpty) := by
  show (match (D.lst xs).isPlain && (D.lst []).isPlain with
    | true => some (D.beq (.lst xs) (.lst []))
    | false => eqNil (.lst xs) (.lst [])).map (!·) = _
  cases (D.lst xs).isPlain && (D.lst []).isPlain with
  | true => cases xs <;> rfl
  | false => rfl
theorem cmpL_self : ∀ xs : List D, D.cmpL xs xs = some .eq
  | [] => rfl
  | a :: as => by rw [D.cmpL, D.beq_self]; exact cmpL_self as
theorem last_at {α : Type} (l : List α) (a : α) : atD (l ++ [a]) (-1) = some a := by
  show (match Nat.blt 0 (l ++ [a]).length with
    | true => (l ++ [a])[(l ++ [a]).length - (0 + 1)]?
    | false => none) = _
  have h : Nat.blt 0 (l ++ [a]).length = true := Nat.ble_eq_true_of_le (by rw [List.length_append]; show 1 ≤ _ + 1; omega)
  rw [h]
  dsimp only
  rw [List.length_append, List.length_singleton, Nat.add_sub_cancel, List.getElem?_append_right (Nat.le_refl _), Nat.sub_self]
  rfl
theorem but_last {α : Type} (l : List α) (a : α) : sliceL (l ++ [a]) none (some (-1)) = l := by
  have e : HT.sIx (l ++ [a]).length (l ++ [a]).length (some (-1)) = l.length := by
    show (if (-1 : Int) < 0 then ((-1 : Int) + ((l ++ [a]).length : Int)).toNat else min (-1 : Int).toNat (l ++ [a]).length) = _
    rw [if_pos (by omega), List.length_append, List.length_singleton]
    omega
  unfold sliceL
  rw [e, HT.sIx_none]
  simp
theorem pl_G (g : Goal) : D.pl (encG g) = true := by
  cases g with
  | mat p f => simp [encG, D.pl, D.plL, pl_enc]
  | lay b ps ms ls => simp [encG, D.pl, D.plL, pl_encs]
theorem dp_G {w : W} {g : Goal} (h : Gsp w g) : D.dp (encG g) ≤ 20 := by
  cases g with
  | mat p f =>
    obtain ⟨h1, _, h2, _⟩ := h
    have := dp_enc p
    have := dp_enc f
    simp only [encG, D.dp, D.dpL]
    omega
  | lay b ps ms ls =>
    obtain ⟨h1, _, h2, _, h3, _⟩ := h
    have := dp_encs ps
    have := dp_encs ms
    have := dp_encs ls
    simp only [encG, D.dp, D.dpL]
    omega
theorem plain_Gs {w : W} {gs : List Goal} (h : ∀ g ∈ gs, Gsp w g) : (encGs gs).isPlain = true := by
  have h1 : D.plL (gs.map encG) = true ∧ D.dpL (gs.map encG) ≤ 20 := by
    induction gs with
    | nil => exact ⟨rfl, Nat.zero_le _⟩
    | cons g gs ih =>
      obtain ⟨a, b⟩ := ih fun g hg => h g (List.mem_cons_of_mem _ hg)
      have := dp_G (h g List.mem_cons_self)
      rw [List.map_cons, D.plL, D.dpL, pl_G, a]
      exact ⟨rfl, Nat.max_le.mpr ⟨this, b⟩⟩
  show (D.plL (gs.map encG) && Nat.ble (D.dpL (gs.map encG) + 1) 150) = true
  rw [h1.1, Nat.ble_eq_true_of_le (by have := h1.2; omega)]
  rfl
theorem key_put {p : List (Str × Tm)} (h : ∀ q ∈ p, dep q.2 ≤ 2) : (encPut p).isKey = true := by
  have h1 : D.kyL (p.map fun q => D.tup [.str q.1, enc q.2]) = true ∧ D.dpL (p.map fun q => D.tup [.str q.1, enc q.2]) ≤ 7 := by
    induction p with
    | nil => exact ⟨rfl, Nat.zero_le _⟩
    | cons q p ih =>
      obtain ⟨a, b⟩ := ih fun g hg => h g (List.mem_cons_of_mem _ hg)
      have h2 := h q List.mem_cons_self
      have h3 := dp_enc q.2
      rw [List.map_cons, D.kyL, D.dpL, a]
      refine ⟨by simp [D.ky, D.kyL, ky_enc], Nat.max_le.mpr ⟨?_, b⟩⟩
      simp only [D.dp, D.dpL]
      omega
  show (D.kyL (p.map fun q => D.tup [.str q.1, enc q.2]) && Nat.ble (D.dpL (p.map fun q => D.tup [.str q.1, enc q.2]) + 1) 8) = true
  rw [h1.1, Nat.ble_eq_true_of_le (by have := h1.2; omega)]
  rfl
theorem put_small {w : W} (hw : Wsp w) : ∀ q ∈ putOf w, dep q.2 ≤ 2 := fun q hq => by
  unfold putOf at hq
  obtain ⟨n, hn, rfl⟩ := List.mem_map.mp hq
  obtain ⟨t, ht⟩ := wget_mem (mem_ssort.mp hn)
  show dep ((wget w n).getD (.con "")) ≤ 2
  rw [ht]
  exact hw.2.2 n t ht
theorem sort_one {p : List (Str × Tm)} (h : ∀ q ∈ p, dep q.2 ≤ 2) : sortD [encPut p] = some (.lst [encPut p]) := by
  have h1 : D.allCmp [encPut p] = true := by
    show (((encPut p).isKey && ((D.cmp (encPut p) (encPut p)).isSome && true)) && true) = true
    rw [key_put h]
    show (((D.cmpL (p.map fun q => D.tup [.str q.1, enc q.2]) (p.map fun q => D.tup [.str q.1, enc q.2])).isSome && true) && true) = true
    rw [cmpL_self]
    rfl
  unfold sortD
  rw [h1]
  rfl
abbrev ffC : E := .and (.cmp .ne (.slot 2) (.lst .enil)) (.cmp .le (.bi .len (.econs (.slot 3) .enil)) (.slot 1))
abbrev ffB : S := .set (.tup (.cons (.tup (.cons (.slot 4) (.cons (.slot 5) .nil))) (.cons (.slot 2) .nil))) (.tup (.econs (.idx (.slot 2) (.neg (.const (.int 1)))) (.econs (.slc (.slot 2) (.const .non) (.neg (.const (.int 1)))) .enil))) (.iff (.cmp .eq (.slot 4) (.tup .enil)) (.set (.slot 3) (.dct (.spread (.slot 3) (.kv (.call "put_of" (.econs (.slot 5) .enil)) (.const (.bl true)) .enil))) .nil) (.set (.slot 2) (.op .add (.slot 2) (.lc (.tup (.econs (.op .add (.slot 6) (.slc (.slot 4) (.const (.int 1)) (.const .non))) (.econs (.slot 7) .enil))) (.tup (.cons (.slot 6) (.cons (.slot 7) .nil))) (.plain (.call "steps_of" (.econs (.idx (.slot 4) (.const (.int 0))) (.econs (.slot 5) .enil)))) (.const (.bl true)) [6, 7])) .nil) .nil)
abbrev Stk := List (List Goal × W)
def ffE (P : D) (L : Stk) (F : D) (j : Option D × Option D × Option D × Option D × Option D × Option D) : Q.Env :=
  [some P, some (.int 0), some (.lst (L.map encS)), some F, j.1, j.2.1, j.2.2.1, j.2.2.2.1, j.2.2.2.2.1, j.2.2.2.2.2]
section
variable {n : Nat} {P : D} {st : List D}
theorem ff_go (s : List Goal × W) (L : Stk) (j) : evE (callP T (n + 4)) ffC (ffE P (L ++ [s]) (.dct [] []) j) st = .ok (.bl true) st := by
  refine x_andT (x_cmp (x := .lst ((L ++ [s]).map encS)) (y := .lst []) rfl rfl ?_) rfl
  rw [ne_lnil, List.map_append]
  cases L.map encS <;> rfl
theorem ff_end (F : D) (j) : evE (callP T (n + 4)) ffC (ffE P [] F j) st = .ok (.bl false) st := x_andF rfl
theorem ff_found (L : Stk) (k : D) (j) : evE (callP T (n + 4)) ffC (ffE P L (.dct [k] [.bl true]) j) st = .ok (.bl false) st := by
  cases L with
  | nil => exact x_andF rfl
  | cons s L => exact x_andT (x_cmp (x := .lst ((s :: L).map encS)) (y := .lst []) rfl rfl (ne_lnil _)) rfl
theorem ff_pop (gs : List Goal) (w : W) (L : Stk) (F : D) (j : Option D × Option D × Option D × Option D × Option D × Option D) {R : Q.RS} (h : evS (callP T (n + 4)) (.iff (.cmp .eq (.slot 4) (.tup .enil)) (.set (.slot 3) (.dct (.spread (.slot 3) (.kv (.call "put_of" (.econs (.slot 5) .enil)) (.const (.bl true)) .enil))) .nil) (.set (.slot 2) (.op .add (.slot 2) (.lc (.tup (.econs (.op .add (.slot 6) (.slc (.slot 4) (.const (.int 1)) (.const .non))) (.econs (.slot 7) .enil))) (.tup (.cons (.slot 6) (.cons (.slot 7) .nil))) (.plain (.call "steps_of" (.econs (.idx (.slot 4) (.const (.int 0))) (.econs (.slot 5) .enil)))) (.const (.bl true)) [6, 7])) .nil) .nil) (ffE P L F (some (encGs gs), some (encW w), j.2.2)) st = R) :
    evS (callP T (n + 4)) ffB (ffE P (L ++ [(gs, w)]) F j) st = R := by
  refine b_set (d := .tup [encS (gs, w), .lst (L.map encS)]) (x_tup (x_two (x_idx (x := .lst ((L ++ [(gs, w)]).map encS)) (y := .int (-1)) rfl rfl ?_) (x_slc (x := .lst ((L ++ [(gs, w)]).map encS)) (y := .non) (z := .int (-1)) rfl rfl rfl rfl rfl ?_)) rfl) rfl h
  · have e : opIx (.lst ((L ++ [(gs, w)]).map encS)) (.int (-1)) = some (encS (gs, w)) := by
      show atD ((L ++ [(gs, w)]).map encS) (-1) = _
      rw [List.map_append]
      exact last_at _ _
    show (match opIx (.lst ((L ++ [(gs, w)]).map encS)) (.int (-1)) with
      | some d => (.ok d st : Q.Res D)
      | none => .stuck) = _
    rw [e]
  · show some (D.lst (sliceL ((L ++ [(gs, w)]).map encS) none (some (-1)))) = _
    rw [List.map_append]
    exact congrArg (fun z => some (D.lst z)) (but_last _ _)
theorem ff_hit (w : W) (L : Stk) (j) (hw : Wsp w) : evS (callP T (n + 4)) ffB (ffE P (L ++ [([], w)]) (.dct [] []) j) st = .ok .next (ffE P L (.dct [encPut (putOf w)] [.bl true]) (some (encGs []), some (encW w), j.2.2)) st := by
  refine ff_pop [] w L _ j (r_if (k := true) rfl (fun _ => ?_) fun z => by cases z)
  have h1 : evE (callP T (n + 4)) (.dct (.spread (.slot 3) (.kv (.call "put_of" (.econs (.slot 5) .enil)) (.const (.bl true)) .enil))) (ffE P L (.dct [] []) (some (encGs []), some (encW w), j.2.2)) st = .ok (.dct [encPut (putOf w)] [.bl true]) st := by
    have hk : evE (callP T (n + 4)) (.call "put_of" (.econs (.slot 5) .enil)) (ffE P L (.dct [] []) (some (encGs []), some (encW w), j.2.2)) st = .ok (encPut (putOf w)) st := x_call (xs := [encW w]) rfl ((put_of w hw).mono (by omega) n st)
    show M.bind (M.bind (evE (callP T (n + 4)) (.call "put_of" (.econs (.slot 5) .enil)) (ffE P L (.dct [] []) (some (encGs []), some (encW w), j.2.2))) (fun x => M.bind (M.pure (.bl true)) fun y => match x.isKey && kvOk [] x with
      | true => let z := setD [] [] x y; evKV (callP T (n + 4)) .enil (ffE P L (.dct [] []) (some (encGs []), some (encW w), j.2.2)) z.1 z.2
      | false => M.stuck)) (fun p => M.pure (D.dct p.1 p.2)) st = _
    unfold M.bind
    rw [hk]
    dsimp only [M.pure]
    have h2 : ((encPut (putOf w)).isKey && kvOk [] (encPut (putOf w))) = true := by
      rw [key_put (put_small hw)]
      rfl
    rw [h2]
    rfl
  rw [b_set (R := .ok .next _ st) h1 rfl rfl]
  rfl
theorem ff_step (g : Goal) (gs : List Goal) (w : W) (L : Stk) (j) (hg : ∀ x ∈ g :: gs, Gsp w x) (hw : Wsp w) (hl : (stepsOf g w).length ≤ 4096) (hL : L.length ≤ 10000000) (hgs : gs.length ≤ 1000) (hf : ∀ s ∈ stepsOf g w, s.1.length ≤ 1000) :
    ∃ j', evS (callP T (n + 4)) ffB (ffE P (L ++ [(g :: gs, w)]) (.dct [] []) j) st = .ok .next (ffE P (L ++ (stepsOf g w).map fun s => (s.1 ++ gs, s.2)) (.dct [] []) j') st := by
  refine ⟨(some (encGs (g :: gs)), some (encW w), j.2.2), ff_pop (g :: gs) w L _ j (r_if (k := false) (x_cmp (x := encGs (g :: gs)) (y := .tup []) rfl rfl ?_) (fun z => by cases z) fun _ => ?_)⟩
  · rw [eq_plain (plain_Gs hg) rfl]
    rfl
  · have h1 : evE (callP T (n + 4)) (.op .add (.slot 2) (.lc (.tup (.econs (.op .add (.slot 6) (.slc (.slot 4) (.const (.int 1)) (.const .non))) (.econs (.slot 7) .enil))) (.tup (.cons (.slot 6) (.cons (.slot 7) .nil))) (.plain (.call "steps_of" (.econs (.idx (.slot 4) (.const (.int 0))) (.econs (.slot 5) .enil)))) (.const (.bl true)) [6, 7])) (ffE P L (.dct [] []) (some (encGs (g :: gs)), some (encW w), j.2.2)) st = .ok (.lst ((L ++ (stepsOf g w).map fun s => (s.1 ++ gs, s.2)).map encS)) st := by
      refine x_op (x := .lst (L.map encS)) (y := .lst ((stepsOf g w).map fun s => encS (s.1 ++ gs, s.2))) rfl (x_lcm (l := stepsOf g w) (φ := encS) (g := fun s => encS (s.1 ++ gs, s.2)) (i_plain' (x_call (xs := [encG g, encW w]) rfl (steps_of g w (hg g List.mem_cons_self) hw n st)) rfl) (fun s hs s' => lc_elt rfl rfl (x_tup (x_two (x := encGs (s.1 ++ gs)) (y := encW s.2) (x_op (x := encGs s.1) (y := encGs gs) rfl (x_slc (x := encGs (g :: gs)) (lo := some 1) (hi := none) rfl rfl rfl rfl rfl ?_) ?_) rfl) rfl)) (Nat.le_trans hl (by decide))) ?_
      · show some (D.tup (sliceL (encG g :: gs.map encG) (some 1) none)) = _
        rw [sl_tail]
        rfl
      · show opB .add (.tup (s.1.map encG)) (.tup (gs.map encG)) = some (.tup ((s.1 ++ gs).map encG))
        rw [add_tup, List.map_append]
        rw [List.length_map, List.length_map]
        have := hf s hs
        exact lim_big (by omega)
      · rw [add_lst, List.map_append, List.map_map]
        · rfl
        · rw [List.length_map, List.length_map]
          have : LIM = 16777216 := rfl
          omega
    rw [b_set (R := .ok .next _ st) h1 rfl rfl]
    rfl
end
end K59
end
section
set_option Elab.async false
set_option linter.all false
set_option maxRecDepth 100000
set_option maxHeartbeats 2000000
namespace K59
open Q
open PySem (Str)
structure Sys where
  Inv : List Goal → W → Prop
  S : List Goal → W → Prop
  step : ∀ g gs w, Inv (g :: gs) w → (stepsOf g w).length ≤ 4096 ∧ ∀ s ∈ stepsOf g w, Inv (s.1 ++ gs) s.2 ∧ wts (s.1 ++ gs) < wts (g :: gs) ∧ s.1.length ≤ 1000
  sp : ∀ gs w, Inv gs w → Wsp w ∧ (∀ g ∈ gs, Gsp w g) ∧ gs.length ≤ 1000
  ex : ∀ g gs w, Inv (g :: gs) w → (S (g :: gs) w ↔ ∃ s ∈ stepsOf g w, S (s.1 ++ gs) s.2)
  nil : ∀ w, Inv [] w → S [] w
section
variable (Y : Sys)
noncomputable abbrev ffL (n : Nat) : MS := loopL (evE (callP T (n + 4)) ffC) (evS (callP T (n + 4)) ffB)
abbrev J := Option D × Option D × Option D × Option D × Option D × Option D
def Out (o : Option (List (Str × Tm))) (B : Nat) (bs : Stk) : Prop := (∀ p, o = some p → ∀ q ∈ p, dep q.2 ≤ 2) ∧ ∀ (n : Nat) (P : D) (st : List D) (L : Stk) (j : J), L.length ≤ B → match o with
  | some put => ∃ (L' : Stk) (j' : J), ffL n (ffE P (L ++ bs) (.dct [] []) j) st = .ok .next (ffE P L' (.dct [encPut put] [.bl true]) j') st
  | none => ∃ j' : J, ffL n (ffE P (L ++ bs) (.dct [] []) j) st = ffL n (ffE P L (.dct [] []) j') st
theorem search_all (B : Nat) : ∀ (k : Nat) (bs : Stk), bs.length = k → (∀ s ∈ bs, ∃ o, (o.isSome = true ↔ Y.S s.1 s.2) ∧ Out o (B + k) [s]) → ∃ o, (o.isSome = true ↔ ∃ s ∈ bs, Y.S s.1 s.2) ∧ Out o B bs := by
  intro k
  induction k generalizing B with
  | zero =>
    intro bs hb _
    have : bs = [] := List.length_eq_zero_iff.mp hb
    subst this
    exact ⟨none, ⟨(fun h => by cases h), fun ⟨s, hs, _⟩ => by cases hs⟩, (fun p h => by cases h), fun n P st L j _ => ⟨j, by rw [List.append_nil]⟩⟩
  | succ k ih =>
    intro bs hb hc
    rcases List.eq_nil_or_concat bs with rfl | ⟨b', s, rfl⟩
    · cases hb
    rw [List.concat_eq_append] at hb hc ⊢
    have hb' : b'.length = k := by
      rw [List.length_append, List.length_singleton] at hb
      omega
    obtain ⟨o, ho, h1⟩ := hc s (by simp)
    cases o with
    | some put =>
      refine ⟨some put, ⟨fun _ => ⟨s, by simp, ho.mp rfl⟩, fun _ => rfl⟩, h1.1, fun n P st L j hL => ?_⟩
      have := h1.2 n P st (L ++ b') j (by rw [List.length_append]; omega)
      rw [List.append_assoc] at this
      exact this
    | none =>
      obtain ⟨o2, ho2, h2⟩ := ih B b' hb' fun t ht => by
        obtain ⟨o, h3, h4, h5⟩ := hc t (by simp [ht])
        exact ⟨o, h3, h4, fun n P st L j hL => h5 n P st L j (by omega)⟩
      refine ⟨o2, ?_, h2.1, fun n P st L j hL => ?_⟩
      · rw [ho2]
        constructor
        · rintro ⟨t, ht, h⟩
          exact ⟨t, by simp [ht], h⟩
        · rintro ⟨t, ht, h⟩
          rcases List.mem_append.mp ht with ht | ht
          · exact ⟨t, ht, h⟩
          · rw [List.mem_singleton.mp ht] at h
            exact absurd (ho.mpr h) (by simp)
      · obtain ⟨j', e⟩ := h1.2 n P st (L ++ b') j (by rw [List.length_append]; omega)
        rw [List.append_assoc] at e
        have := h2.2 n P st L j' hL
        cases o2 with
        | some put =>
          obtain ⟨L', j2, e2⟩ := this
          exact ⟨L', j2, e.trans e2⟩
        | none =>
          obtain ⟨j2, e2⟩ := this
          exact ⟨j2, e.trans e2⟩
theorem search (wt : Nat) : ∀ gs w, wts gs < wt → Y.Inv gs w → ∀ B, B + wt * 4096 ≤ 10000000 → ∃ o, (o.isSome = true ↔ Y.S gs w) ∧ Out o B [(gs, w)] := by
  induction wt with
  | zero => exact fun gs w h => absurd h (Nat.not_lt_zero _)
  | succ wt ih =>
    intro gs w hw hI B hB
    cases gs with
    | nil =>
      refine ⟨some (putOf w), ⟨fun _ => Y.nil w hI, fun _ => rfl⟩, fun p hp => ?_, fun n P st L j hL => ⟨L, (some (encGs []), some (encW w), j.2.2), ?_⟩⟩
      · injection hp with hp
        rw [← hp]
        exact put_small (Y.sp _ _ hI).1
      · show loopL _ _ _ _ = _
        rw [loopL_step (ff_go ([], w) L j) (ff_hit w L j (Y.sp _ _ hI).1), loopL_stop (ff_found L _ _)]
    | cons g gs =>
      obtain ⟨hW, hG, hl⟩ := Y.sp _ _ hI
      obtain ⟨h1, h2⟩ := Y.step g gs w hI
      rw [List.length_cons] at hl
      have hlen : ((stepsOf g w).map fun s => (s.1 ++ gs, s.2)).length ≤ 4096 := by rw [List.length_map]; exact h1
      obtain ⟨o, ho, h3⟩ := search_all Y B ((stepsOf g w).map fun s => (s.1 ++ gs, s.2)).length ((stepsOf g w).map fun s => (s.1 ++ gs, s.2)) rfl fun s hs => by
        obtain ⟨t, ht, rfl⟩ := List.mem_map.mp hs
        have h4 := h2 t ht
        exact ih _ _ (by omega) h4.1 _ (by omega)
      refine ⟨o, ?_, h3.1, fun n P st L j hL => ?_⟩
      · rw [ho, Y.ex g gs w hI]
        constructor
        · rintro ⟨s, hs, h⟩
          obtain ⟨t, ht, rfl⟩ := List.mem_map.mp hs
          exact ⟨t, ht, h⟩
        · rintro ⟨t, ht, h⟩
          exact ⟨_, List.mem_map_of_mem ht, h⟩
      · obtain ⟨j1, e1⟩ := ff_step (n := n) (P := P) (st := st) g gs w L j hG hW h1 (by omega) (by omega) fun s hs => (h2 s hs).2.2
        have hgo : ffL n (ffE P (L ++ [(g :: gs, w)]) (.dct [] []) j) st = ffL n (ffE P (L ++ (stepsOf g w).map fun s => (s.1 ++ gs, s.2)) (.dct [] []) j1) st := loopL_step (ff_go (g :: gs, w) L j) e1
        have := h3.2 n P st L j1 hL
        cases o with
        | some put =>
          obtain ⟨L', j2, e2⟩ := this
          exact ⟨L', j2, hgo.trans e2⟩
        | none =>
          obtain ⟨j2, e2⟩ := this
          exact ⟨j2, hgo.trans e2⟩
end
def encPs (l : List (Tm × Tm)) : D := .lst (l.map fun p => .tup [enc p.1, enc p.2])
def goalsOf (l : List (Tm × Tm)) : List Goal := l.map fun p => .mat p.1 p.2
theorem plain_key {d : D} (h : d.isKey = true) (hp : D.pl d = true) : d.isPlain = true := by
  unfold D.isKey at h
  rw [Bool.and_eq_true] at h
  unfold D.isPlain
  rw [hp, Nat.ble_eq_true_of_le (Nat.le_trans (Nat.le_of_ble_eq_true h.2) (by decide))]
  rfl
theorem found_for (Y : Sys) (l : List (Tm × Tm)) (hI : Y.Inv (goalsOf l) []) (hw : wts (goalsOf l) < 2000) (hl : l.length ≤ 1000) :
    ∃ o : Option (List (Str × Tm)), (o.isSome = true ↔ Y.S (goalsOf l) []) ∧ (∀ p, o = some p → ∀ q ∈ p, dep q.2 ≤ 2) ∧ Ret 5 "found_for" [encPs l, .int 0] (.lst (o.map encPut).toList) := by
  have key : ∀ n st (r : List D), (∃ F L j, ffL n (ffE (encPs l) [(goalsOf l, [])] (.dct [] []) (none, none, none, none, none, none)) st = .ok .next (ffE (encPs l) L F j) st ∧ opBi .sorted [F] = some (.lst r)) → callP T (n + 5) "found_for" [encPs l, .int 0] st = .ok (.lst r) st := by
    rintro n st r ⟨F, L, j, e, hs⟩
    show callP T ((n + 4) + 1) "found_for" [encPs l, .int 0] st = _
    rw [call_eq (d := d_found_for.fn) rfl rfl]
    refine r_set (st1 := st) (d := .tup [.lst [encS (goalsOf l, [])], .dct [] []]) (x_tup (x_two (x_lst (x_one (x_tup (x_two (x := encGs (goalsOf l)) (x_bi (st1 := st) (xs := [.lst ((goalsOf l).map encG)]) (x_one ?_) rfl) rfl) rfl)) rfl) rfl) rfl) rfl ?_
    · unfold goalsOf
      rw [List.map_map]
      show evE _ (.lc _ _ _ _ _) _ _ = Q.Res.ok (D.lst (l.map fun p => encG (.mat p.1 p.2))) st
      refine x_lcm (l := l) (φ := fun p => .tup [enc p.1, enc p.2]) (g := fun p => encG (.mat p.1 p.2)) ?_ (fun p _ s => ?_) (le_lim hl)
      · exact i_plain' (x := encPs l) rfl rfl
      · exact lc_elt rfl rfl rfl
    · show fin (andThen (ffL n (ffE (encPs l) [(goalsOf l, [])] (.dct [] []) (none, none, none, none, none, none)) st) _) = _
      rw [e]
      exact r_ret (x_bi (xs := [F]) (x_one rfl) hs)
  obtain ⟨o, ho, h1, h2⟩ := search Y 2000 (goalsOf l) [] hw hI 0 (by decide)
  refine ⟨o, ho, h1, fun n st => key n st _ ?_⟩
  have := h2 n (encPs l) st [] (none, none, none, none, none, none) (Nat.le_refl _)
  cases o with
  | some put =>
    obtain ⟨L', j', e⟩ := this
    exact ⟨_, L', j', e, sort_one (h1 put rfl)⟩
  | none =>
    obtain ⟨j', e⟩ := this
    exact ⟨.dct [] [], [], j', e.trans (loopL_stop (ff_end _ _)), rfl⟩
end K59
end
section
set_option Elab.async false
set_option linter.all false
set_option maxRecDepth 100000
set_option maxHeartbeats 2000000
namespace K59
open Q
open PySem (Str)
def Srt (l : List Tm) : Prop := l.Pairwise fun x y => lt y x = false
theorem srt_encs {l : List Tm} : D.Sorted (encs l) ↔ Srt l := by
  unfold D.Sorted Srt
  rw [encs_map, List.pairwise_map]
  rfl
theorem tsort_srt (l : List Tm) : Srt (tsort l) := by
  rw [← srt_encs, tsort_enc]
  exact D.isort_sorted _
theorem tsort_of {l : List Tm} (h : Srt l) : tsort l = l := by
  refine encs_inj _ _ ?_
  rw [tsort_enc]
  exact (D.isort_of (fun x hx => by obtain ⟨a, _, rfl⟩ := mem_encs hx; exact ky_enc a) (srt_encs.mpr h) (.refl _)).symm
theorem srt_rep (c : Tm → Nat) : ∀ {d : List Tm}, Srt d → Srt (d.flatMap fun m => List.replicate (c m) m)
  | [], _ => List.Pairwise.nil
  | a :: d, h => by
    have h := List.pairwise_cons.mp h
    rw [List.flatMap_cons]
    refine List.pairwise_append.mpr ⟨?_, srt_rep c h.2, fun x hx y hy => ?_⟩
    · refine List.pairwise_replicate.mpr (Or.inr ?_)
      show D.ltT (enc a) (enc a) = false
      unfold D.ltT
      rw [D.cmpT_self]
    · rw [(List.mem_replicate.mp hx).2]
      obtain ⟨m, hm, hy⟩ := List.mem_flatMap.mp hy
      rw [(List.mem_replicate.mp hy).2]
      exact h.1 m hm
theorem count_rep (c : Tm → Nat) (x : Tm) : ∀ {d : List Tm}, d.Nodup → (d.flatMap fun m => List.replicate (c m) m).count x = if x ∈ d then c x else 0
  | [], _ => by simp
  | a :: d, h => by
    have h := List.nodup_cons.mp h
    rw [List.flatMap_cons, List.count_append, count_rep c x h.2, List.count_replicate]
    by_cases e : a = x
    · subst e
      simp [h.1]
    · have e' : ¬ x = a := fun z => e z.symm
      simp [e, e']
theorem tded_self : ∀ (l seen : List Tm), l.Nodup → (∀ t ∈ l, t ∉ seen) → tded seen l = l
  | [], _, _, _ => rfl
  | a :: l, seen, h, hs => by
    have h := List.nodup_cons.mp h
    have e : seen.any (teq a) = false := List.any_eq_false.mpr fun b hb hn => hs a List.mem_cons_self (by rw [teq_iff.mp hn]; exact hb)
    rw [tded, e]
    dsimp only
    rw [tded_self l (a :: seen) h.2 fun t ht hm => by
      rcases List.mem_cons.mp hm with z | z
      · exact h.1 (z ▸ ht)
      · exact hs t (List.mem_cons_of_mem _ ht) z]
theorem tset_of {l : List Tm} (h : l.Nodup) (hs : tsort l = l) : tset l = l := by
  unfold tset
  rw [tded_self l [] h (fun _ _ h => by cases h), hs]
theorem tset_srt (l : List Tm) : tsort (tset l) = tset l := tsort_idem _
theorem flatMap_eq {α β : Type} {f g : α → List β} : ∀ {l : List α}, (∀ a ∈ l, f a = g a) → l.flatMap f = l.flatMap g
  | [], _ => rfl
  | a :: l, h => by rw [List.flatMap_cons, List.flatMap_cons, h a List.mem_cons_self, flatMap_eq fun b hb => h b (List.mem_cons_of_mem _ hb)]
theorem subsA_mem {ms s : List Tm} : ∀ (d : List Tm) (found : List (List Tm)), d.Nodup → s ∈ subsA ms d found → ∃ z ∈ found, ∃ c : Tm → Nat, (∀ m, c m ≤ ms.count m) ∧ s = z ++ d.flatMap fun m => List.replicate (c m) m
  | [], found, _, h => ⟨s, h, fun _ => 0, fun _ => Nat.zero_le _, by simp⟩
  | a :: d, found, hd, h => by
    rw [subsA] at h
    have hd := List.nodup_cons.mp hd
    obtain ⟨z, hz, c, hc, e⟩ := subsA_mem d _ hd.2 h
    obtain ⟨k, hk, hz⟩ := List.mem_flatMap.mp hz
    obtain ⟨y, hy, rfl⟩ := List.mem_map.mp hz
    have hk := List.mem_range.mp hk
    refine ⟨y, hy, fun m => if m = a then k else c m, fun m => ?_, ?_⟩
    · show (if m = a then k else c m) ≤ _
      by_cases e : m = a
      · rw [if_pos e, e]; omega
      · rw [if_neg e]; exact hc m
    · rw [e, List.flatMap_cons, List.append_assoc]
      show _ = y ++ (List.replicate (if a = a then k else c a) a ++ d.flatMap fun m => List.replicate (if m = a then k else c m) m)
      rw [if_pos rfl]
      congr 2
      refine flatMap_eq fun m hm' => ?_
      rw [if_neg fun e : m = a => hd.1 (e ▸ hm')]
theorem subsA_in {ms : List Tm} (c : Tm → Nat) (hc : ∀ m, c m ≤ ms.count m) : ∀ (d : List Tm) (found : List (List Tm)) (z : List Tm), z ∈ found → z ++ (d.flatMap fun m => List.replicate (c m) m) ∈ subsA ms d found
  | [], found, z, h => by simpa [subsA] using h
  | a :: d, found, z, h => by
    rw [subsA, List.flatMap_cons, ← List.append_assoc]
    refine subsA_in c hc d _ _ (List.mem_flatMap.mpr ⟨c a, List.mem_range.mpr (by have := hc a; omega), List.mem_map_of_mem h⟩)
theorem subs_iff {ms s : List Tm} : s ∈ subs ms ↔ tsort s = s ∧ ∀ x, s.count x ≤ ms.count x := by
  constructor
  · intro h
    obtain ⟨z, hz, c, hc, e⟩ := subsA_mem _ _ (tset_nodup ms) h
    rw [List.mem_singleton.mp hz, List.nil_append] at e
    subst e
    refine ⟨tsort_of (srt_rep c (by rw [← tset_srt]; exact tsort_srt _)), fun x => ?_⟩
    rw [count_rep c x (tset_nodup ms)]
    split
    · exact hc x
    · exact Nat.zero_le _
  · rintro ⟨hs, hc⟩
    have e : s = (tset ms).flatMap fun m => List.replicate (s.count m) m := by
      have h1 : tsort ((tset ms).flatMap fun m => List.replicate (s.count m) m) = (tset ms).flatMap fun m => List.replicate (s.count m) m := tsort_of (srt_rep _ (by rw [← tset_srt]; exact tsort_srt _))
      refine Eq.trans (hs.symm.trans (tsort_uniq (List.perm_iff_count.mpr fun x => ?_))) h1
      rw [count_rep _ x (tset_nodup ms)]
      by_cases hx : x ∈ tset ms
      · rw [if_pos hx]
      · rw [if_neg hx]
        have := hc x
        rw [List.count_eq_zero.mpr fun hm => hx (mem_tset.mpr hm)] at this
        omega
    rw [e]
    have := subsA_in (ms := ms) (fun m => s.count m) hc (tset ms) [[]] [] (by simp)
    rw [List.nil_append] at this
    exact this
def Eqv : Bool → List Tm → List Tm → Prop
  | true, l, m => l.Perm m
  | false, l, m => ∀ t, t ∈ l ↔ t ∈ m
theorem Eqv.rfl' {b : Bool} {l : List Tm} : Eqv b l l := by
  cases b with
  | true => exact List.Perm.refl l
  | false => exact fun _ => Iff.rfl
theorem Eqv.symm {b : Bool} {l m : List Tm} (h : Eqv b l m) : Eqv b m l := by
  cases b with
  | true => exact List.Perm.symm h
  | false => exact fun t => (h t).symm
theorem Eqv.trans {b : Bool} {l m k : List Tm} (h : Eqv b l m) (h' : Eqv b m k) : Eqv b l k := by
  cases b with
  | true => exact List.Perm.trans h h'
  | false => exact fun t => (h t).trans (h' t)
theorem Eqv.mem {b : Bool} {l m : List Tm} (h : Eqv b l m) {t : Tm} : t ∈ l ↔ t ∈ m := by
  cases b with
  | true => exact List.Perm.mem_iff h
  | false => exact h t
theorem nrm_eqv {b : Bool} {l m : List Tm} (h : Eqv b l m) : nrm b l = nrm b m := by
  cases b with
  | true => exact tsort_uniq h
  | false => exact tset_uniq h
theorem eqv_nrm (b : Bool) (l : List Tm) : Eqv b (nrm b l) l := by
  cases b with
  | true => exact tsort_perm l
  | false => exact fun t => mem_tset
theorem nrm_idem (b : Bool) (l : List Tm) : nrm b (nrm b l) = nrm b l := nrm_eqv (eqv_nrm b l)
theorem perm_flatMap {f : Tm → List Tm} {l m : List Tm} (h : l.Perm m) : (l.flatMap f).Perm (m.flatMap f) := by
  induction h with
  | nil => exact .refl _
  | cons x _ ih => rw [List.flatMap_cons, List.flatMap_cons]; exact ih.append_left _
  | swap x y l =>
    simp only [List.flatMap_cons, ← List.append_assoc]
    exact List.perm_append_comm.append_right _
  | trans _ _ h1 h2 => exact h1.trans h2
theorem eqv_flatMap {b : Bool} {f : Tm → List Tm} {l m : List Tm} (h : Eqv b l m) : Eqv b (l.flatMap f) (m.flatMap f) := by
  cases b with
  | true => exact perm_flatMap h
  | false =>
    intro t
    simp only [List.mem_flatMap]
    exact ⟨fun ⟨a, ha, ht⟩ => ⟨a, (h a).mp ha, ht⟩, fun ⟨a, ha, ht⟩ => ⟨a, (h a).mpr ha, ht⟩⟩
theorem eqv_congr {b : Bool} {α : Type} {f g : α → List Tm} : ∀ {l : List α}, (∀ a ∈ l, Eqv b (f a) (g a)) → Eqv b (l.flatMap f) (l.flatMap g)
  | [], _ => Eqv.rfl'
  | a :: l, h => by
    have h1 := h a List.mem_cons_self
    have h2 := eqv_congr (l := l) fun a ha => h a (List.mem_cons_of_mem _ ha)
    cases b with
    | true => rw [List.flatMap_cons, List.flatMap_cons]; exact List.Perm.append h1 h2
    | false =>
      intro t
      rw [List.flatMap_cons, List.flatMap_cons, List.mem_append, List.mem_append]
      exact or_congr (h1 t) (h2 t)
mutual
def Nm : Tm → Prop
  | .unk _ => True
  | .con _ => True
  | .free _ ts => Nms ts
  | .bag ts => Nms ts ∧ ts.length ≠ 1 ∧ nrm true ts = ts ∧ ∀ t ∈ ts, word t ≠ "bag"
  | .set ts => Nms ts ∧ ts.length ≠ 1 ∧ nrm false ts = ts ∧ ∀ t ∈ ts, word t ≠ "set"
def Nms : List Tm → Prop
  | [] => True
  | t :: ts => Nm t ∧ Nms ts
end
theorem Nms_iff : ∀ {ts : List Tm}, Nms ts ↔ ∀ t ∈ ts, Nm t
  | [] => by simp [Nms]
  | t :: ts => by rw [Nms, Nms_iff (ts := ts)]; simp
theorem Nm_mk {b : Bool} {ts : List Tm} : Nm (mk b ts) ↔ (∀ t ∈ ts, Nm t) ∧ ts.length ≠ 1 ∧ nrm b ts = ts ∧ ∀ t ∈ ts, word t ≠ gw b := by
  cases b with
  | true => show Nm (.bag ts) ↔ _; rw [Nm, Nms_iff]; exact Iff.rfl
  | false => show Nm (.set ts) ↔ _; rw [Nm, Nms_iff]; exact Iff.rfl
theorem word_of {b : Bool} {t : Tm} (h : word t = gw b) : ∃ us, t = mk b us := by
  cases b <;> cases t <;> first | exact ⟨_, rfl⟩ | (exact absurd h (by dsimp only [word, gw]; decide))
theorem mem_ne {b : Bool} {t : Tm} (h : word t ≠ gw b) : mem b t = [t] := by
  cases b <;> cases t <;> first | rfl | (exact absurd rfl h)
theorem alone_ne {b : Bool} {L : List Tm} (h : L.length ≠ 1) : alone b L = mk b L := by
  match L, h with
  | [], _ => rfl
  | [t], h => exact absurd rfl h
  | _ :: _ :: _, _ => rfl
theorem mem_alone {b : Bool} {L : List Tm} (h : ∀ x ∈ L, word x ≠ gw b) : mem b (alone b L) = L := by
  by_cases hl : L.length = 1
  · match L, hl with
    | [t], _ => exact mem_ne (h t List.mem_cons_self)
  · rw [alone_ne hl, mem_mk]
theorem nrm_one (b : Bool) (t : Tm) : nrm b [t] = [t] := by cases b <;> rfl
theorem mem_nrm_id {b : Bool} {t : Tm} (h : Nm t) : nrm b (mem b t) = mem b t := by
  by_cases hw : word t = gw b
  · obtain ⟨us, rfl⟩ := word_of hw
    rw [mem_mk]
    exact (Nm_mk.mp h).2.2.1
  · rw [mem_ne hw, nrm_one]
theorem alone_mem {b : Bool} {t : Tm} (h : Nm t) : alone b (mem b t) = t := by
  by_cases hw : word t = gw b
  · obtain ⟨us, rfl⟩ := word_of hw
    rw [mem_mk, alone_ne (Nm_mk.mp h).2.1]
  · rw [mem_ne hw]
    rfl
theorem mem_word {b : Bool} {t : Tm} (h : Nm t) : ∀ x ∈ mem b t, word x ≠ gw b := by
  by_cases hw : word t = gw b
  · obtain ⟨us, rfl⟩ := word_of hw
    rw [mem_mk]
    exact (Nm_mk.mp h).2.2.2
  · rw [mem_ne hw]
    intro x hx
    rw [List.mem_singleton.mp hx]
    exact hw
theorem Nm_mem {b : Bool} {t : Tm} (h : Nm t) : ∀ x ∈ mem b t, Nm x := by
  by_cases hw : word t = gw b
  · obtain ⟨us, rfl⟩ := word_of hw
    rw [mem_mk]
    exact (Nm_mk.mp h).1
  · rw [mem_ne hw]
    intro x hx
    rw [List.mem_singleton.mp hx]
    exact h
theorem Nm_alone {b : Bool} {L : List Tm} (h : ∀ x ∈ L, Nm x) (hw : ∀ x ∈ L, word x ≠ gw b) (hn : nrm b L = L) : Nm (alone b L) := by
  by_cases hl : L.length = 1
  · match L, hl with
    | [t], _ => exact h t List.mem_cons_self
  · rw [alone_ne hl]
    exact Nm_mk.mpr ⟨h, hl, hn, hw⟩
theorem nm_eq {b : Bool} {s t : Tm} (hs : Nm s) (ht : Nm t) (h : Eqv b (mem b s) (mem b t)) : s = t := by
  have := nrm_eqv h
  rw [mem_nrm_id hs, mem_nrm_id ht] at this
  rw [← alone_mem (b := b) hs, ← alone_mem (b := b) ht, this]
def fl (b : Bool) (σ : Str → Tm) (L : List Tm) : List Tm := L.flatMap fun t => mem b (app σ t)
theorem flat_apps (b : Bool) (σ : Str → Tm) (L : List Tm) : flat b (apps σ L) = fl b σ L := by
  unfold flat fl
  rw [apps_map, List.flatMap_map]
theorem app_mk (σ : Str → Tm) (b : Bool) (ts : List Tm) : app σ (mk b ts) = alone b (nrm b (fl b σ ts)) := by
  rw [← flat_apps]
  cases b with
  | true => show app σ (.bag ts) = _; rw [app]
  | false => show app σ (.set ts) = _; rw [app]
theorem Nm_ind {σ : Str → Tm} {b : Bool} {ts : List Tm} (h : ∀ t ∈ ts, Nm (app σ t)) : Nm (app σ (mk b ts)) := by
  rw [app_mk]
  refine Nm_alone (fun x hx => ?_) (fun x hx => ?_) (nrm_idem b _)
  · obtain ⟨t, ht, hx⟩ := List.mem_flatMap.mp (mem_nrm.mp hx)
    exact Nm_mem (h t ht) x hx
  · obtain ⟨t, ht, hx⟩ := List.mem_flatMap.mp (mem_nrm.mp hx)
    exact mem_word (h t ht) x hx
mutual
theorem Nm_app {σ : Str → Tm} (hσ : ∀ n, Nm (σ n)) : ∀ t, Nm (app σ t)
  | .unk n => hσ n
  | .con n => by rw [app, Nm]; trivial
  | .free f ts => by
    rw [app, Nm, Nms_iff, apps_map]
    intro t ht
    obtain ⟨u, hu, rfl⟩ := List.mem_map.mp ht
    exact Nm_apps hσ ts u hu
  | .bag ts => Nm_ind (b := true) (Nm_apps hσ ts)
  | .set ts => Nm_ind (b := false) (Nm_apps hσ ts)
theorem Nm_apps {σ : Str → Tm} (hσ : ∀ n, Nm (σ n)) : ∀ (ts : List Tm), ∀ t ∈ ts, Nm (app σ t)
  | [], _, h => by cases h
  | u :: ts, t, h => by
    rcases List.mem_cons.mp h with e | h
    · rw [e]; exact Nm_app hσ u
    · exact Nm_apps hσ ts t h
end
theorem Nm_unk (n : Str) : Nm (.unk n) := by rw [Nm]; trivial
theorem Nm_nf (t : Tm) : Nm (nf t) := Nm_app (σ := .unk) Nm_unk t
theorem fl_word {σ : Str → Tm} (hσ : ∀ n, Nm (σ n)) {b : Bool} {L : List Tm} : ∀ x ∈ fl b σ L, word x ≠ gw b := fun x hx => by
  obtain ⟨t, _, hx⟩ := List.mem_flatMap.mp hx
  exact mem_word (Nm_app hσ t) x hx
theorem mem_app_mk {σ : Str → Tm} (hσ : ∀ n, Nm (σ n)) (b : Bool) (ts : List Tm) : mem b (app σ (mk b ts)) = nrm b (fl b σ ts) := by
  rw [app_mk]
  exact mem_alone fun x hx => fl_word hσ x (mem_nrm.mp hx)
theorem mem_app_alone {σ : Str → Tm} (hσ : ∀ n, Nm (σ n)) (b : Bool) (L : List Tm) : Eqv b (mem b (app σ (alone b L))) (fl b σ L) := by
  by_cases hl : L.length = 1
  · match L, hl with
    | [t], _ =>
      show Eqv b (mem b (app σ t)) (mem b (app σ t) ++ [])
      rw [List.append_nil]
      exact Eqv.rfl'
  · rw [alone_ne hl, mem_app_mk hσ]
    exact eqv_nrm b _
theorem mem_app_mem {σ : Str → Tm} (hσ : ∀ n, Nm (σ n)) (b : Bool) (u : Tm) : Eqv b (mem b (app σ u)) (fl b σ (mem b u)) := by
  by_cases hw : word u = gw b
  · obtain ⟨us, rfl⟩ := word_of hw
    rw [mem_mk, mem_app_mk hσ]
    exact eqv_nrm b _
  · rw [mem_ne hw]
    show Eqv b (mem b (app σ u)) (mem b (app σ u) ++ [])
    rw [List.append_nil]
    exact Eqv.rfl'
theorem comp_mk {σ τ : Str → Tm} (hσ : ∀ n, Nm (σ n)) (hτ : ∀ n, Nm (τ n)) {b : Bool} {ts : List Tm} (h : ∀ t ∈ ts, app σ (app τ t) = app (fun n => app σ (τ n)) t) : app σ (app τ (mk b ts)) = app (fun n => app σ (τ n)) (mk b ts) := by
  refine nm_eq (b := b) (Nm_app hσ _) (Nm_app (fun n => Nm_app hσ _) _) ?_
  rw [mem_app_mk (fun n => Nm_app hσ _), app_mk τ]
  refine (mem_app_alone hσ b _).trans (Eqv.trans ?_ (eqv_nrm b _).symm)
  have h1 : Eqv b (fl b σ (nrm b (fl b τ ts))) (fl b σ (fl b τ ts)) := eqv_flatMap (eqv_nrm b _)
  refine h1.trans ?_
  have h2 : fl b σ (fl b τ ts) = ts.flatMap fun t => fl b σ (mem b (app τ t)) := by
    unfold fl
    rw [List.flatMap_assoc]
  rw [h2]
  refine eqv_congr fun t ht => ?_
  show Eqv b _ (mem b (app (fun n => app σ (τ n)) t))
  rw [← h t ht]
  exact (mem_app_mem hσ b _).symm
mutual
theorem app_comp {σ τ : Str → Tm} (hσ : ∀ n, Nm (σ n)) (hτ : ∀ n, Nm (τ n)) : ∀ t, app σ (app τ t) = app (fun n => app σ (τ n)) t
  | .unk n => by rw [app, app]
  | .con n => by rw [app, app, app]
  | .free f ts => by
    rw [app, app, app, apps_map, apps_map, apps_map, List.map_map]
    congr 1
    exact List.map_congr_left fun t ht => apps_comp hσ hτ ts t ht
  | .bag ts => comp_mk (b := true) hσ hτ (apps_comp hσ hτ ts)
  | .set ts => comp_mk (b := false) hσ hτ (apps_comp hσ hτ ts)
theorem apps_comp {σ τ : Str → Tm} (hσ : ∀ n, Nm (σ n)) (hτ : ∀ n, Nm (τ n)) : ∀ (ts : List Tm), ∀ t ∈ ts, app σ (app τ t) = app (fun n => app σ (τ n)) t
  | [], _, h => by cases h
  | u :: ts, t, h => by
    rcases List.mem_cons.mp h with e | h
    · rw [e]; exact app_comp hσ hτ u
    · exact apps_comp hσ hτ ts t h
end
end K59
end
section
set_option Elab.async false
set_option linter.all false
set_option maxRecDepth 100000
set_option maxHeartbeats 2000000
namespace K59
open Q
open PySem (Str)
theorem counts_cons {a : Tm} {l m : List Tm} (h : ∀ x, (a :: l).count x ≤ m.count x) : a ∈ m ∧ ∀ x, l.count x ≤ (m.erase a).count x := by
  have ha : a ∈ m := by
    have := h a
    rw [List.count_cons_self] at this
    exact List.count_pos_iff.mp (by omega)
  refine ⟨ha, fun x => ?_⟩
  have := h x
  rw [List.count_cons] at this
  rw [List.count_erase]
  by_cases e : a = x
  · subst e
    simp at this ⊢
    omega
  · have e' : ¬ x = a := fun z => e z.symm
    simp [e, e'] at this ⊢
    exact this
theorem sizes_count : ∀ {l m : List Tm}, (∀ x, l.count x ≤ m.count x) → sizes l ≤ sizes m
  | [], _, _ => Nat.zero_le _
  | a :: l, m, h => by
    obtain ⟨ha, h'⟩ := counts_cons h
    have h1 := sizes_count h'
    have h2 := sizes_perm (List.perm_cons_erase ha)
    rw [sizes] at h2 ⊢
    omega
theorem mem_count {l m : List Tm} (h : ∀ x, l.count x ≤ m.count x) {x : Tm} (hx : x ∈ l) : x ∈ m := by
  have h1 := h x
  have h2 := List.count_pos_iff.mpr hx
  exact List.count_pos_iff.mp (by omega)
theorem deps_count {l m : List Tm} (h : ∀ x, l.count x ≤ m.count x) : deps l ≤ deps m := deps_le fun x hx => dep_mem (mem_count h hx)
def Bd (b : Bool) (ms : List Tm) : Prop := ∀ l, (∀ x, l.count x ≤ ms.count x) → dep (alone b l) ≤ 2 ∧ size (alone b l) ≤ 12
def MI (b : Bool) (ms : List Tm) : Prop := ms.length ≤ 12 ∧ (∀ m ∈ ms, Nm m ∧ word m ≠ gw b ∧ dep m ≤ 2) ∧ nrm b ms = ms ∧ Bd b ms
def WI (w : W) : Prop := Once w ∧ ∀ n t, wget w n = some t → Nm t ∧ dep t ≤ 2 ∧ size t ≤ 12
def GI : Goal → Prop
  | .mat p f => dep p ≤ 2 ∧ size p ≤ 20 ∧ Nm f ∧ dep f ≤ 2 ∧ size f ≤ 12
  | .lay b ps ms ls => deps ps ≤ 2 ∧ sizes ps ≤ 20 ∧ MI b ms ∧ (b = true → ls = []) ∧ (∀ x ∈ ls, x ∈ ms) ∧ ls.length ≤ 12
theorem MI_mem {b : Bool} {f : Tm} (hf : Nm f) (hd : dep f ≤ 2) (hs : size f ≤ 12) : MI b (mem b f) := by
  refine ⟨Nat.le_trans (mem_len b f) hs, fun m hm => ⟨Nm_mem hf m hm, mem_word hf m hm, Nat.le_trans (dep_mem' hm) hd⟩, mem_nrm_id hf, fun l hl => ?_⟩
  by_cases hw : word f = gw b
  · obtain ⟨us, rfl⟩ := word_of hw
    rw [mem_mk] at hl
    rw [dep_mk] at hd
    rw [size_mk] at hs
    have h1 := sizes_count hl
    have h2 := deps_count hl
    have h3 := dep_alone b l
    have h4 := size_alone b l
    omega
  · rw [mem_ne hw] at hl
    cases l with
    | nil =>
      rw [alone_ne (by simp), dep_mk, size_mk]
      exact ⟨by decide, by decide⟩
    | cons a l =>
      obtain ⟨ha, h'⟩ := counts_cons hl
      have e := List.mem_singleton.mp ha
      subst e
      have : l = [] := by
        cases l with
        | nil => rfl
        | cons c l =>
          have := (counts_cons h').1
          rw [List.erase_cons_head] at this
          cases this
      subst this
      exact ⟨hd, hs⟩
theorem lays_free {ms lay : List Tm} (h : lay ∈ ((tset ms).filter isFree).map fun t => [t]) : ∃ t ∈ ms, lay = [t] ∧ isFree t = true := by
  obtain ⟨t, ht, rfl⟩ := List.mem_map.mp h
  have := List.mem_filter.mp ht
  exact ⟨t, mem_tset.mp this.1, rfl, this.2⟩
theorem Lok_of {b : Bool} {p : Tm} {w : W} {ms : List Tm} (hm : MI b ms) (hw : WI w) : (lays b p w ms).length ≤ 4096 ∧ ∀ s ∈ lays b p w ms, s.length ≤ 20 ∧ deps s ≤ 3 := by
  have hsub : (subs ms).length ≤ 4096 ∧ ∀ s ∈ subs ms, s.length ≤ 20 ∧ deps s ≤ 3 := by
    refine ⟨Nat.le_trans (subs_len ms) (Nat.le_trans (Nat.pow_le_pow_right (by decide) hm.1) (by decide)), fun s hs => ?_⟩
    have h1 := subs_ok hs
    have h2 := hm.1
    exact ⟨by omega, deps_le fun t ht => by have := (hm.2.1 t (h1.2 t ht)).2.2; omega⟩
  cases p with
  | unk n =>
    unfold lays
    dsimp only
    cases e : wget w n with
    | none => exact hsub
    | some t =>
      have ht := hw.2 n t e
      refine ⟨by show 1 ≤ 4096; decide, fun s hs => ?_⟩
      rw [List.mem_singleton.mp hs]
      have := mem_len b t
      exact ⟨by omega, deps_le fun u hu => by have := dep_mem' hu; omega⟩
  | con c =>
    refine ⟨by show 1 ≤ 4096; decide, fun s hs => ?_⟩
    rw [List.mem_singleton.mp hs]
    exact ⟨by show 1 ≤ 20; decide, by show max 0 0 ≤ 3; decide⟩
  | free f ts =>
    constructor
    · show (((tset ms).filter isFree).map fun t => [t]).length ≤ 4096
      rw [List.length_map]
      have := List.length_filter_le isFree (tset ms)
      have := tset_len ms
      have := hm.1
      omega
    · intro s hs
      obtain ⟨t, ht, rfl, _⟩ := lays_free hs
      have := (hm.2.1 t ht).2.2
      exact ⟨by show 1 ≤ 20; decide, by show max (dep t) 0 ≤ 3; omega⟩
  | bag ts => exact hsub
  | set ts => exact hsub
theorem nodup_of {ms : List Tm} (h : nrm false ms = ms) : ms.Nodup := by
  rw [← h]
  exact tset_nodup ms
theorem sub_nrm {b : Bool} {ms l : List Tm} (hn : nrm b ms = ms) (h : tsort l = l) (hc : ∀ x, l.count x ≤ ms.count x) : nrm b l = l := by
  cases b with
  | true => exact h
  | false =>
    refine tset_of (List.nodup_iff_count.mpr fun x => ?_) h
    exact Nat.le_trans (hc x) (List.nodup_iff_count.mp (nodup_of hn) x)
theorem nrm_srt {b : Bool} {l : List Tm} (h : nrm b l = l) : tsort l = l := by
  rw [← h]
  cases b with
  | true => exact tsort_idem l
  | false => exact tset_srt l
theorem lay_ok {b : Bool} {p : Tm} {w : W} {ms lay : List Tm} (hm : MI b ms) (hw : WI w) (h : lay ∈ lays b p w ms) :
    (∀ x ∈ lay, word x ≠ gw b) ∧ Nm (alone b lay) ∧ dep (alone b lay) ≤ 2 ∧ size (alone b lay) ≤ 12 := by
  have hsub : lay ∈ subs ms → (∀ x ∈ lay, word x ≠ gw b) ∧ Nm (alone b lay) ∧ dep (alone b lay) ≤ 2 ∧ size (alone b lay) ≤ 12 := fun h => by
    obtain ⟨h1, h2⟩ := subs_iff.mp h
    have hx := fun x hx => hm.2.1 x (mem_count h2 hx)
    exact ⟨fun x h => (hx x h).2.1, Nm_alone (fun x h => (hx x h).1) (fun x h => (hx x h).2.1) (sub_nrm hm.2.2.1 h1 h2), hm.2.2.2 lay h2⟩
  cases p with
  | unk n =>
    unfold lays at h
    dsimp only at h
    cases e : wget w n with
    | none => rw [e] at h; exact hsub h
    | some t =>
      rw [e] at h
      rw [List.mem_singleton.mp h]
      obtain ⟨h1, h2, h3⟩ := hw.2 n t e
      rw [alone_mem h1]
      exact ⟨mem_word h1, h1, h2, h3⟩
  | con c =>
    rw [List.mem_singleton.mp h]
    refine ⟨fun x hx => ?_, by show Nm (.con c); rw [Nm]; trivial, by show 0 ≤ 2; decide, by show 1 ≤ 12; decide⟩
    rw [List.mem_singleton.mp hx]
    cases b <;> (dsimp only [word, gw]; decide)
  | free f ts =>
    obtain ⟨t, ht, rfl, _⟩ := lays_free h
    have h1 := hm.2.1 t ht
    refine ⟨fun x hx => by rw [List.mem_singleton.mp hx]; exact h1.2.1, h1.1, hm.2.2.2 [t] fun x => ?_⟩
    rw [List.count_singleton]
    by_cases e : t = x
    · subst e
      have := List.count_pos_iff.mpr ht
      simp
      exact ht
    · simp [e]
  | bag ts => exact hsub h
  | set ts => exact hsub h
theorem leftB_count {ms taken : List Tm} (x : Tm) : (leftB ms taken).count x = ms.count x - taken.count x := by
  unfold leftB
  rw [count_rep (fun m => ms.count m - taken.count m) x (tset_nodup ms)]
  by_cases h : x ∈ tset ms
  · rw [if_pos h]
  · rw [if_neg h, List.count_eq_zero.mpr fun hm => h (mem_tset.mpr hm), Nat.zero_sub]
theorem leftB_srt (ms taken : List Tm) : tsort (leftB ms taken) = leftB ms taken := tsort_of (srt_rep _ (by rw [← tset_srt]; exact tsort_srt _))
theorem MI_left {ms taken : List Tm} (h : MI true ms) : MI true (leftB ms taken) := by
  have hc : ∀ x, (leftB ms taken).count x ≤ ms.count x := fun x => by rw [leftB_count]; omega
  refine ⟨Nat.le_trans (leftB_len ms taken) h.1, fun m hm => h.2.1 m (mem_count hc hm), leftB_srt ms taken, fun l hl => h.2.2.2 l fun x => Nat.le_trans (hl x) (hc x)⟩
theorem wtG_pos (g : Goal) : 1 ≤ wtG g := by
  cases g with
  | mat p f => have := size_pos p; show 1 ≤ 3 * size p - 1; omega
  | lay b ps ms ls => show 1 ≤ 1 + 3 * sizes ps; omega
theorem len_wts : ∀ gs : List Goal, gs.length ≤ wts gs
  | [] => Nat.zero_le _
  | g :: gs => by have := len_wts gs; have := wtG_pos g; rw [wts, List.length_cons]; omega
theorem inOrd_perm (ps : List Tm) : (inOrd ps).Perm ps := List.filter_append_perm isCF ps
theorem zipG_wts : ∀ ts us : List Tm, wts (zipG ts us) ≤ 3 * sizes ts
  | [], us => by simp [zipG, wts]
  | t :: ts, [] => by simp [zipG, wts]
  | t :: ts, u :: us => by
    have := zipG_wts ts us
    simp only [zipG, wts, sizes, wtG]
    omega
theorem zipG_mem : ∀ {ts us : List Tm} {g : Goal}, g ∈ zipG ts us → ∃ t ∈ ts, ∃ u ∈ us, g = .mat t u
  | [], us, g, h => by simp [zipG] at h
  | t :: ts, [], g, h => by simp [zipG] at h
  | t :: ts, u :: us, g, h => by
    rcases List.mem_cons.mp h with e | h
    · exact ⟨t, by simp, u, by simp, e⟩
    · obtain ⟨a, ha, b, hb, e⟩ := zipG_mem h
      exact ⟨a, by simp [ha], b, by simp [hb], e⟩
theorem sizes_filter (q : Tm → Bool) : ∀ l : List Tm, sizes (l.filter q) ≤ sizes l
  | [] => Nat.le_refl _
  | a :: l => by
    have := sizes_filter q l
    rw [List.filter_cons]
    split <;> (simp only [sizes]; omega)
def Kept (w : W) (g : Goal) (s : List Goal × W) : Prop := WI s.2 ∧ (∀ x ∈ s.1, GI x) ∧ wts s.1 < wtG g ∧ s.2.length + wts s.1 ≤ w.length + wtG g
theorem lay_step {b : Bool} {ts : List Tm} {f : Tm} {w : W} (hw : WI w) (hp : deps ts + 1 ≤ 2) (hps : sizes ts + 1 ≤ 20) (hf : Nm f) (hd : dep f ≤ 2) (hs : size f ≤ 12) {ls : List Tm} (h1 : b = true → ls = []) (h2 : ∀ x ∈ ls, x ∈ mem b f) (h3 : ls.length ≤ 12) : Kept w (.mat (mk b ts) f) ([.lay b (inOrd ts) (mem b f) ls], w) := by
  have e1 := sizes_perm (inOrd_perm ts)
  have e2 := deps_perm (inOrd_perm ts)
  have e3 : wts [Goal.lay b (inOrd ts) (mem b f) ls] = 1 + 3 * sizes ts := by rw [← e1]; rfl
  have e4 : wtG (.mat (mk b ts) f) = 3 * (sizes ts + 1) - 1 := by show 3 * size (mk b ts) - 1 = _; rw [size_mk]
  refine ⟨hw, fun x hx => ?_, by rw [e3, e4]; omega, by rw [e3, e4]; show w.length + _ ≤ _; omega⟩
  rw [List.mem_singleton.mp hx]
  exact ⟨by omega, by omega, MI_mem hf hd hs, h1, h2, h3⟩
theorem inv_step {g : Goal} {w : W} (hg : GI g) (hw : WI w) : ∀ s ∈ stepsOf g w, Kept w g s := by
  intro s hs
  cases g with
  | mat p f =>
    obtain ⟨h1, h2, h3, h4, h5⟩ := hg
    cases p with
    | unk n =>
      have hs' : s = ([], wset w n f) := by
        have hs : s ∈ (if (wget w n).getD f = f then [([], wset w n f)] else [] : Stk) := hs
        split at hs
        · exact List.mem_singleton.mp hs
        · cases hs
      subst hs'
      refine ⟨⟨wset_once w n f hw.1, fun m t hm => ?_⟩, fun x hx => (by cases hx), wtG_pos _, ?_⟩
      · have hm : wget (wset w n f) m = some t := hm
        rw [wget_set] at hm
        split at hm
        · injection hm with hm
          rw [← hm]
          exact ⟨h3, h4, h5⟩
        · exact hw.2 m t hm
      · have := wset_len w n f
        have := wtG_pos (.mat (.unk n) f)
        show (wset w n f).length + 0 ≤ _
        omega
    | con c =>
      obtain ⟨z, hz, rfl⟩ := List.mem_map.mp hs
      have hz : z ∈ (if Tm.con c = f then [[]] else [] : List (List Goal)) := hz
      split at hz
      · rw [List.mem_singleton.mp hz]
        exact ⟨hw, fun x hx => (by cases hx), wtG_pos _, Nat.add_le_add_left (Nat.zero_le _) _⟩
      · cases hz
    | free h ts =>
      obtain ⟨z, hz, rfl⟩ := List.mem_map.mp hs
      cases f with
      | free k us =>
        have hz : z ∈ (if k = h ∧ us.length = ts.length then [zipG ts us] else [] : List (List Goal)) := hz
        split at hz
        · rw [List.mem_singleton.mp hz]
          rw [dep] at h1 h4
          rw [size] at h2 h5
          have hw1 := zipG_wts ts us
          have hw2 : wtG (.mat (.free h ts) (.free k us)) = 3 * (sizes ts + 1) - 1 := rfl
          refine ⟨hw, fun x hx => ?_, by rw [hw2]; show wts (zipG ts us) < _; omega, by rw [hw2]; show w.length + wts (zipG ts us) ≤ _; omega⟩
          obtain ⟨t, ht, u, hu, rfl⟩ := zipG_mem hx
          have := dep_mem ht
          have := size_mem ht
          have := dep_mem hu
          have := size_mem hu
          rw [Nm, Nms_iff] at h3
          exact ⟨by omega, by omega, h3 u hu, by omega, by omega⟩
        · cases hz
      | unk n => cases hz
      | con n => cases hz
      | bag n => cases hz
      | set n => cases hz
    | bag ts =>
      obtain ⟨z, hz, rfl⟩ := List.mem_map.mp hs
      rw [List.mem_singleton.mp hz]
      exact lay_step (b := true) hw h1 h2 h3 h4 h5 (fun _ => rfl) (fun x hx => (by cases hx)) (Nat.zero_le _)
    | set ts =>
      obtain ⟨z, hz, rfl⟩ := List.mem_map.mp hs
      rw [List.mem_singleton.mp hz]
      exact lay_step (b := false) hw h1 h2 h3 h4 h5 (fun h => (by cases h)) (fun x hx => hx) (Nat.le_trans (mem_len false f) h5)
  | lay b ps ms ls =>
    obtain ⟨h1, h2, h3, h4, h5, h6⟩ := hg
    cases ps with
    | nil =>
      have hs' : s = ([], w) := by
        have hs : s ∈ (if (bif b then ms else ls) = [] then [([], w)] else [] : Stk) := by cases b <;> exact hs
        split at hs
        · exact List.mem_singleton.mp hs
        · cases hs
      subst hs'
      exact ⟨hw, fun x hx => (by cases hx), wtG_pos _, Nat.add_le_add_left (Nat.zero_le _) _⟩
    | cons p r =>
      have d1 : dep p ≤ 2 := Nat.le_trans (dep_mem List.mem_cons_self) h1
      have d2 : deps r ≤ 2 := Nat.le_trans (deps_le fun t ht => dep_mem (List.mem_cons_of_mem _ ht)) h1
      have d3 : size p + sizes r ≤ 20 := h2
      have d4 := size_pos p
      cases b with
      | true =>
        obtain ⟨z, hz, rfl⟩ := List.mem_map.mp hs
        obtain ⟨lay, hl, rfl⟩ := List.mem_map.mp hz
        obtain ⟨l1, l2, l3, l4⟩ := lay_ok h3 hw (List.mem_filter.mp hl).1
        have hr : sizes ((p :: r).filter fun q => !decide (q = p)) ≤ sizes r := by
          rw [List.filter_cons]
          simp only [decide_true, Bool.not_true]
          exact sizes_filter _ r
        have hd : deps ((p :: r).filter fun q => !decide (q = p)) ≤ 2 := deps_le fun t ht => Nat.le_trans (dep_mem (List.mem_filter.mp ht).1) h1
        have hwt : wts [Goal.mat p (alone true lay), .lay true ((p :: r).filter fun q => !decide (q = p)) (leftB ms (rp lay ((p :: r).count p))) []] = (3 * size p - 1) + (1 + 3 * sizes ((p :: r).filter fun q => !decide (q = p))) := rfl
        have hwg : wtG (.lay true (p :: r) ms ls) = 1 + 3 * (size p + sizes r) := rfl
        refine ⟨hw, fun x hx => ?_, by rw [hwt, hwg]; omega, by rw [hwt, hwg]; show w.length + _ ≤ _; omega⟩
        rcases List.mem_cons.mp hx with rfl | hx
        · exact ⟨d1, by omega, l2, l3, l4⟩
        · rw [List.mem_singleton.mp hx]
          exact ⟨hd, by omega, MI_left h3, fun _ => rfl, fun x hx => (by cases hx), Nat.zero_le _⟩
      | false =>
        obtain ⟨z, hz, rfl⟩ := List.mem_map.mp hs
        obtain ⟨lay, hl, rfl⟩ := List.mem_map.mp hz
        obtain ⟨l1, l2, l3, l4⟩ := lay_ok h3 hw (List.mem_filter.mp hl).1
        have hwt : wts [Goal.mat p (alone false lay), .lay false r ms (ls.filter fun m => !decide (m ∈ lay))] = (3 * size p - 1) + (1 + 3 * sizes r) := rfl
        have hwg : wtG (.lay false (p :: r) ms ls) = 1 + 3 * (size p + sizes r) := rfl
        refine ⟨hw, fun x hx => ?_, by rw [hwt, hwg]; omega, by rw [hwt, hwg]; show w.length + _ ≤ _; omega⟩
        rcases List.mem_cons.mp hx with rfl | hx
        · exact ⟨d1, by omega, l2, l3, l4⟩
        · rw [List.mem_singleton.mp hx]
          exact ⟨d2, by omega, h3, fun h => (by cases h), fun x hx => h5 x (List.mem_filter.mp hx).1, Nat.le_trans (List.length_filter_le _ _) h6⟩
end K59
end
section
set_option Elab.async false
set_option linter.all false
set_option maxRecDepth 100000
set_option maxHeartbeats 2000000
namespace K59
open Q
open PySem (Str)
def Ok (σ : Str → Tm) : Prop := ∀ n, Nm (σ n)
def Over (w : W) (σ : Str → Tm) : Prop := ∀ n t, wget w n = some t → σ n = t
def Sol (σ : Str → Tm) : Goal → Prop
  | .mat p f => app σ p = f
  | .lay true ps ms _ => (fl true σ ps).Perm ms
  | .lay false ps ms ls => (∀ x ∈ fl false σ ps, x ∈ ms) ∧ ∀ x ∈ ls, x ∈ fl false σ ps
theorem apps_zip (σ : Str → Tm) : ∀ ts us : List Tm, apps σ ts = us ↔ us.length = ts.length ∧ ∀ x ∈ zipG ts us, Sol σ x
  | [], [] => by simp [apps, zipG]
  | [], u :: us => by simp [apps]
  | t :: ts, [] => by simp [apps]
  | t :: ts, u :: us => by
    rw [apps, List.cons.injEq, apps_zip σ ts us, zipG]
    simp only [List.length_cons, List.mem_cons, forall_eq_or_imp, Nat.add_right_cancel_iff]
    show (app σ t = u ∧ us.length = ts.length ∧ _) ↔ (us.length = ts.length ∧ app σ t = u ∧ _)
    constructor
    · rintro ⟨a, b, c⟩; exact ⟨b, a, c⟩
    · rintro ⟨a, b, c⟩; exact ⟨b, a, c⟩
theorem sol_mk {σ : Str → Tm} (hσ : Ok σ) {b : Bool} {ts : List Tm} {f : Tm} (hf : Nm f) : app σ (mk b ts) = f ↔ Eqv b (fl b σ ts) (mem b f) := by
  constructor
  · intro h
    rw [← h, mem_app_mk hσ]
    exact (eqv_nrm b _).symm
  · intro h
    refine nm_eq (b := b) (Nm_app hσ _) hf ?_
    rw [mem_app_mk hσ]
    exact (eqv_nrm b _).trans h
theorem fl_cons (b : Bool) (σ : Str → Tm) (t : Tm) (ts : List Tm) : fl b σ (t :: ts) = mem b (app σ t) ++ fl b σ ts := rfl
theorem fl_app (b : Bool) (σ : Str → Tm) (s t : List Tm) : fl b σ (s ++ t) = fl b σ s ++ fl b σ t := List.flatMap_append
theorem rp_app (l : List Tm) (t : Tm) (σ : Str → Tm) (h : mem true (app σ t) = l) : ∀ c : Nat, fl true σ (List.replicate c t) = rp l c
  | 0 => rfl
  | c + 1 => by rw [List.replicate_succ, fl_cons, h, rp_app l t σ h c, rp]
theorem split_count (p : Tm) : ∀ l : List Tm, l.Perm (List.replicate (l.count p) p ++ l.filter fun q => !decide (q = p))
  | [] => .refl _
  | a :: l => by
    have ih := split_count p l
    by_cases e : a = p
    · subst e
      rw [List.count_cons_self, List.replicate_succ, List.filter_cons]
      simp only [decide_true, Bool.not_true, List.cons_append]
      exact ih.cons _
    · rw [List.count_cons_of_ne e, List.filter_cons]
      simp only [e, decide_false, Bool.not_false, if_true]
      exact (ih.cons a).trans (List.perm_middle.symm)
theorem fl_split (p : Tm) (l : List Tm) (σ : Str → Tm) : (fl true σ l).Perm (rp (mem true (app σ p)) (l.count p) ++ fl true σ (l.filter fun q => !decide (q = p))) := by
  rw [← rp_app _ p σ rfl, ← fl_app]
  exact perm_flatMap (split_count p l)
theorem fits_iff {ms taken : List Tm} : fitsB ms taken = true ↔ ∀ x, taken.count x ≤ ms.count x := by
  refine ⟨fun h x => fits_count h x, fun h => ?_⟩
  unfold fitsB
  rw [Bool.not_eq_true']
  refine List.any_eq_false.mpr fun x _ hn => ?_
  have := of_decide_eq_true hn
  have := h x
  omega
theorem lay_in {σ : Str → Tm} (hσ : Ok σ) {b : Bool} {p : Tm} {w : W} {ms : List Tm} (ho : Over w σ) (hm : MI b ms) (hc : ∀ x, (mem b (app σ p)).count x ≤ ms.count x) : mem b (app σ p) ∈ lays b p w ms := by
  have hn := Nm_app hσ p
  have hsub : mem b (app σ p) ∈ subs ms := subs_iff.mpr ⟨nrm_srt (mem_nrm_id hn), hc⟩
  cases p with
  | unk n =>
    unfold lays
    dsimp only
    cases e : wget w n with
    | none => exact hsub
    | some t =>
      have : app σ (.unk n) = t := by rw [app]; exact ho n t e
      rw [this]
      exact List.mem_singleton.mpr rfl
  | con c =>
    have : mem b (app σ (.con c)) = [.con c] := by rw [app]; cases b <;> rfl
    rw [this]
    exact List.mem_singleton.mpr rfl
  | free f ts =>
    have : mem b (app σ (.free f ts)) = [.free f (apps σ ts)] := by rw [app]; cases b <;> rfl
    rw [this] at hc ⊢
    have hx := mem_count hc (List.mem_singleton.mpr rfl)
    exact List.mem_map_of_mem (List.mem_filter.mpr ⟨mem_tset.mpr hx, rfl⟩)
  | bag ts => exact hsub
  | set ts => exact hsub
theorem mem_stepB {p : Tm} {r ms ls : List Tm} {w : W} {s : List Goal × W} : s ∈ stepsOf (.lay true (p :: r) ms ls) w ↔ ∃ lay ∈ lays true p w ms, fitsB ms (rp lay ((p :: r).count p)) = true ∧ s = ([.mat p (alone true lay), .lay true ((p :: r).filter fun q => !decide (q = p)) (leftB ms (rp lay ((p :: r).count p))) []], w) := by
  show s ∈ (bagSteps (p :: r) ms w).map (fun g => (g, w)) ↔ _
  unfold bagSteps
  dsimp only
  rw [List.map_map]
  constructor
  · intro h
    obtain ⟨lay, hl, rfl⟩ := List.mem_map.mp h
    have := List.mem_filter.mp hl
    exact ⟨lay, this.1, this.2, rfl⟩
  · rintro ⟨lay, h1, h2, rfl⟩
    exact List.mem_map_of_mem (f := (fun g => (g, w)) ∘ _) (List.mem_filter.mpr ⟨h1, h2⟩)
theorem mem_stepS {p : Tm} {r ms ls : List Tm} {w : W} {s : List Goal × W} : s ∈ stepsOf (.lay false (p :: r) ms ls) w ↔ ∃ lay ∈ lays false p w ms, (∀ m ∈ lay, m ∈ ms) ∧ s = ([.mat p (alone false lay), .lay false r ms (ls.filter fun m => !decide (m ∈ lay))], w) := by
  show s ∈ (setSteps (p :: r) ms ls w).map (fun g => (g, w)) ↔ _
  unfold setSteps
  dsimp only
  rw [List.map_map]
  constructor
  · intro h
    obtain ⟨lay, hl, rfl⟩ := List.mem_map.mp h
    have := List.mem_filter.mp hl
    exact ⟨lay, this.1, fun m hm => of_decide_eq_true (List.all_eq_true.mp this.2 m hm), rfl⟩
  · rintro ⟨lay, h1, h2, rfl⟩
    exact List.mem_map_of_mem (f := (fun g => (g, w)) ∘ _) (List.mem_filter.mpr ⟨h1, List.all_eq_true.mpr fun m hm => decide_eq_true (h2 m hm)⟩)
theorem step_mk {σ : Str → Tm} (hσ : Ok σ) {w : W} (ho : Over w σ) {b : Bool} {ts : List Tm} {f : Tm} (hf : Nm f) {ls : List Tm} (h1 : b = true → ls = []) (h2 : b = false → ls = mem b f) (hs : stepsOf (.mat (mk b ts) f) w = [([.lay b (inOrd ts) (mem b f) ls], w)]) :
    Sol σ (.mat (mk b ts) f) ↔ ∃ s ∈ stepsOf (.mat (mk b ts) f) w, Over s.2 σ ∧ ∀ x ∈ s.1, Sol σ x := by
  rw [hs]
  have key : Sol σ (.mat (mk b ts) f) ↔ Sol σ (.lay b (inOrd ts) (mem b f) ls) := by
    show app σ (mk b ts) = f ↔ _
    rw [sol_mk hσ hf]
    have hp : Eqv b (fl b σ (inOrd ts)) (fl b σ ts) := eqv_flatMap (by
      cases b with
      | true => exact inOrd_perm ts
      | false => exact fun t => (inOrd_perm ts).mem_iff)
    cases b with
    | true => exact ⟨fun h => Eqv.trans (b := true) hp h, fun h => Eqv.trans (b := true) hp.symm h⟩
    | false =>
      rw [h2 rfl]
      exact ⟨fun h => ⟨fun x hx => (Eqv.mem (hp.trans h)).mp hx, fun x hx => (Eqv.mem (hp.trans h)).mpr hx⟩, fun h => hp.symm.trans fun x => ⟨h.1 x, h.2 x⟩⟩
  rw [key]
  constructor
  · intro h
    exact ⟨_, List.mem_singleton.mpr rfl, ho, fun x hx => by rw [List.mem_singleton.mp hx]; exact h⟩
  · rintro ⟨s, hs, _, h⟩
    rw [List.mem_singleton.mp hs] at h
    exact h _ List.mem_cons_self
theorem step_iff {σ : Str → Tm} (hσ : Ok σ) {g : Goal} {w : W} (hg : GI g) (hw : WI w) (ho : Over w σ) : Sol σ g ↔ ∃ s ∈ stepsOf g w, Over s.2 σ ∧ ∀ x ∈ s.1, Sol σ x := by
  cases g with
  | mat p f =>
    obtain ⟨h1, h2, h3, h4, h5⟩ := hg
    cases p with
    | unk n =>
      show app σ (.unk n) = f ↔ ∃ s ∈ (if (wget w n).getD f = f then [([], wset w n f)] else [] : Stk), _
      rw [app]
      constructor
      · intro h
        have hc : (wget w n).getD f = f := by
          cases e : wget w n with
          | none => rfl
          | some t => exact (ho n t e).symm.trans h
        rw [if_pos hc]
        refine ⟨_, List.mem_singleton.mpr rfl, fun m t hm => ?_, fun x hx => (by cases hx)⟩
        rw [wget_set] at hm
        split at hm
        · rename_i e
          injection hm with hm
          rw [← e, ← hm]
          exact h
        · exact ho m t hm
      · rintro ⟨s, hs, h, _⟩
        split at hs
        · rw [List.mem_singleton.mp hs] at h
          exact h n f (by rw [wget_set, if_pos rfl])
        · cases hs
    | con c =>
      show app σ (.con c) = f ↔ ∃ s ∈ ((if Tm.con c = f then [[]] else [] : List (List Goal)).map fun g => (g, w)), _
      rw [app]
      constructor
      · intro h
        rw [if_pos h]
        exact ⟨_, List.mem_singleton.mpr rfl, ho, fun x hx => (by cases hx)⟩
      · rintro ⟨s, hs, _, _⟩
        split at hs
        · assumption
        · cases hs
    | free k ts =>
      cases f with
      | free k' us =>
        show app σ (.free k ts) = .free k' us ↔ ∃ s ∈ ((if k' = k ∧ us.length = ts.length then [zipG ts us] else [] : List (List Goal)).map fun g => (g, w)), _
        rw [app, Tm.free.injEq, apps_zip]
        constructor
        · rintro ⟨a, b, c⟩
          rw [if_pos ⟨a.symm, b⟩]
          exact ⟨_, List.mem_singleton.mpr rfl, ho, c⟩
        · rintro ⟨s, hs, _, h⟩
          split at hs
          · rename_i e
            rw [List.mem_singleton.mp hs] at h
            exact ⟨e.1.symm, e.2, h⟩
          · cases hs
      | unk n => exact ⟨(fun h => by rw [Sol, app] at h; cases h), fun ⟨s, hs, _⟩ => by cases hs⟩
      | con n => exact ⟨(fun h => by rw [Sol, app] at h; cases h), fun ⟨s, hs, _⟩ => by cases hs⟩
      | bag n => exact ⟨(fun h => by rw [Sol, app] at h; cases h), fun ⟨s, hs, _⟩ => by cases hs⟩
      | set n => exact ⟨(fun h => by rw [Sol, app] at h; cases h), fun ⟨s, hs, _⟩ => by cases hs⟩
    | bag ts => exact step_mk (b := true) hσ ho h3 (fun _ => rfl) (fun h => by cases h) rfl
    | set ts => exact step_mk (b := false) hσ ho h3 (fun h => by cases h) (fun _ => rfl) rfl
  | lay b ps ms ls =>
    obtain ⟨h1, h2, h3, h4, h5, h6⟩ := hg
    cases ps with
    | nil =>
      have hst : stepsOf (.lay b [] ms ls) w = if (bif b then ms else ls) = [] then [([], w)] else [] := by cases b <;> rfl
      have hsol : Sol σ (.lay b [] ms ls) ↔ (bif b then ms else ls) = [] := by
        cases b with
        | true => exact ⟨fun h => List.Perm.eq_nil (List.Perm.symm h), fun h => by have h : ms = [] := h; rw [h]; exact List.Perm.refl _⟩
        | false =>
          constructor
          · rintro ⟨_, h⟩
            show ls = []
            cases ls with
            | nil => rfl
            | cons a l => cases h a List.mem_cons_self
          · intro h
            have h : ls = [] := h
            rw [h]
            exact ⟨fun x hx => (by cases hx), fun x hx => (by cases hx)⟩
      rw [hst, hsol]
      constructor
      · intro h
        rw [if_pos h]
        exact ⟨_, List.mem_singleton.mpr rfl, ho, fun x hx => (by cases hx)⟩
      · rintro ⟨s, hs, _, _⟩
        split at hs
        · assumption
        · cases hs
    | cons p r =>
      have hn := Nm_app hσ p
      cases b with
      | true =>
        have hsp := fl_split p (p :: r) σ
        have hc1 : 1 ≤ (p :: r).count p := List.count_pos_iff.mpr List.mem_cons_self
        constructor
        · intro h
          have h : (fl true σ (p :: r)).Perm ms := h
          have hcnt : ∀ x, ms.count x = (rp (mem true (app σ p)) ((p :: r).count p)).count x + (fl true σ ((p :: r).filter fun q => !decide (q = p))).count x := fun x => by
            rw [← List.count_append]
            exact ((h.symm.trans hsp).count_eq x)
          have hlc : ∀ x, (mem true (app σ p)).count x ≤ ms.count x := fun x => by
            rw [hcnt x]
            obtain ⟨k, hk⟩ : ∃ k, (p :: r).count p = k + 1 := ⟨(p :: r).count p - 1, by omega⟩
            rw [hk, rp, List.count_append]
            omega
          refine ⟨_, mem_stepB.mpr ⟨mem true (app σ p), lay_in hσ ho h3 hlc, fits_iff.mpr fun x => by rw [hcnt x]; omega, rfl⟩, ho, fun x hx => ?_⟩
          rcases List.mem_cons.mp hx with rfl | hx
          · show app σ p = _
            rw [alone_mem hn]
          · rw [List.mem_singleton.mp hx]
            show (fl true σ ((p :: r).filter fun q => !decide (q = p))).Perm (leftB ms _)
            refine List.perm_iff_count.mpr fun x => ?_
            rw [leftB_count, hcnt x]
            omega
        · rintro ⟨s, hs, _, h⟩
          obtain ⟨lay, hl, hf, rfl⟩ := mem_stepB.mp hs
          have e1 : app σ p = alone true lay := h _ List.mem_cons_self
          have e2 : (fl true σ ((p :: r).filter fun q => !decide (q = p))).Perm (leftB ms (rp lay ((p :: r).count p))) := h _ (List.mem_cons_of_mem _ List.mem_cons_self)
          have e3 : mem true (app σ p) = lay := by rw [e1]; exact mem_alone (lay_ok h3 hw hl).1
          rw [e3] at hsp
          show (fl true σ (p :: r)).Perm ms
          refine hsp.trans (List.perm_iff_count.mpr fun x => ?_)
          rw [List.count_append, e2.count_eq x, leftB_count]
          have := fits_iff.mp hf x
          omega
      | false =>
        constructor
        · rintro ⟨ha, hb⟩
          have hlm : ∀ x ∈ mem false (app σ p), x ∈ ms := fun x hx => ha x (List.mem_append_left _ hx)
          have hnd : (mem false (app σ p)).Nodup := nodup_of (mem_nrm_id hn)
          have hlc : ∀ x, (mem false (app σ p)).count x ≤ ms.count x := fun x => by
            by_cases hx : x ∈ mem false (app σ p)
            · have := List.nodup_iff_count.mp hnd x
              have := List.count_pos_iff.mpr (hlm x hx)
              omega
            · rw [List.count_eq_zero.mpr hx]
              exact Nat.zero_le _
          refine ⟨_, mem_stepS.mpr ⟨mem false (app σ p), lay_in hσ ho h3 hlc, hlm, rfl⟩, ho, fun x hx => ?_⟩
          rcases List.mem_cons.mp hx with rfl | hx
          · show app σ p = _
            rw [alone_mem hn]
          · rw [List.mem_singleton.mp hx]
            refine ⟨fun x hx => ha x (List.mem_append_right _ hx), fun x hx => ?_⟩
            have hx := List.mem_filter.mp hx
            rcases List.mem_append.mp (hb x hx.1) with z | z
            · have := hx.2
              rw [decide_eq_true z] at this
              cases this
            · exact z
        · rintro ⟨s, hs, _, h⟩
          obtain ⟨lay, hl, hf, rfl⟩ := mem_stepS.mp hs
          have e1 : app σ p = alone false lay := h _ List.mem_cons_self
          have e2 : (∀ x ∈ fl false σ r, x ∈ ms) ∧ ∀ x ∈ ls.filter fun m => !decide (m ∈ lay), x ∈ fl false σ r := h _ (List.mem_cons_of_mem _ List.mem_cons_self)
          have e3 : mem false (app σ p) = lay := by rw [e1]; exact mem_alone (lay_ok h3 hw hl).1
          refine ⟨fun x hx => ?_, fun x hx => ?_⟩
          · rw [fl_cons, e3] at hx
            rcases List.mem_append.mp hx with z | z
            · exact hf x z
            · exact e2.1 x z
          · rw [fl_cons, e3]
            by_cases z : x ∈ lay
            · exact List.mem_append_left _ z
            · exact List.mem_append_right _ (e2.2 x (List.mem_filter.mpr ⟨hx, by rw [decide_eq_false z]; rfl⟩))
theorem over_step {g : Goal} {w : W} {σ : Str → Tm} : ∀ s ∈ stepsOf g w, Over s.2 σ → Over w σ := by
  intro s hs h
  have same : s.2 = w → Over w σ := fun e => by rw [← e]; exact h
  cases g with
  | mat p f =>
    cases p with
    | unk n =>
      have hs : s ∈ (if (wget w n).getD f = f then [([], wset w n f)] else [] : Stk) := hs
      split at hs
      · rename_i hc
        rw [List.mem_singleton.mp hs] at h
        intro m t hm
        refine h m t ?_
        show wget (wset w n f) m = some t
        rw [wget_set]
        split
        · rename_i e
          rw [e, hm] at hc
          exact congrArg some hc.symm
        · exact hm
      · cases hs
    | _ =>
      obtain ⟨z, _, rfl⟩ := List.mem_map.mp hs
      exact h
  | lay b ps ms ls =>
    cases ps with
    | nil =>
      have hs : s ∈ (if (bif b then ms else ls) = [] then [([], w)] else [] : Stk) := by cases b <;> exact hs
      split at hs
      · exact same (by rw [List.mem_singleton.mp hs])
      · cases hs
    | cons p r =>
      cases b with
      | true => obtain ⟨z, _, rfl⟩ := List.mem_map.mp hs; exact h
      | false => obtain ⟨z, _, rfl⟩ := List.mem_map.mp hs; exact h
theorem Gsp_of {g : Goal} {w : W} (hg : GI g) (hw : WI w) : Gsp w g := by
  cases g with
  | mat p f =>
    obtain ⟨h1, h2, h3, h4, h5⟩ := hg
    exact ⟨by omega, by omega, by omega, by omega⟩
  | lay b ps ms ls =>
    obtain ⟨h1, h2, h3, h4, h5, h6⟩ := hg
    have h7 := len_sizes ps
    have hd : deps ms ≤ 3 := deps_le fun m hm => Nat.le_succ_of_le (h3.2.1 m hm).2.2
    have h8 := h3.1
    refine ⟨by omega, by omega, hd, by omega, deps_le fun m hm => Nat.le_trans (dep_mem (h5 m hm)) hd, by omega, fun p r e => ?_⟩
    have := Lok_of (b := b) (p := p) h3 hw
    exact ⟨by have := this.1; omega, this.2⟩
def sys : Sys where
  Inv gs w := WI w ∧ (∀ g ∈ gs, GI g) ∧ w.length + wts gs ≤ 1000
  S gs w := ∃ σ, Ok σ ∧ Over w σ ∧ ∀ g ∈ gs, Sol σ g
  step g gs w h := by
    obtain ⟨hw, hg, hl⟩ := h
    have h1 := hg g List.mem_cons_self
    constructor
    · cases g with
      | mat p f =>
        have : (stepsOf (.mat p f) w).length ≤ 1 := by
          cases p with
          | unk n =>
            show (if (wget w n).getD f = f then [([], wset w n f)] else [] : Stk).length ≤ 1
            split <;> simp
          | _ => show ((matSteps _ f).map _).length ≤ 1; rw [List.length_map]; exact matSteps_len _ f
        omega
      | lay b ps ms ls =>
        cases ps with
        | nil =>
          have : stepsOf (.lay b [] ms ls) w = if (bif b then ms else ls) = [] then [([], w)] else [] := by cases b <;> rfl
          rw [this]
          split <;> simp
        | cons p r =>
          have h2 := (Lok_of (b := b) (p := p) (w := w) h1.2.2.1 hw).1
          cases b with
          | true =>
            show ((bagSteps (p :: r) ms w).map _).length ≤ _
            rw [List.length_map]
            exact Nat.le_trans (bagSteps_len p r ms w) h2
          | false =>
            show ((setSteps (p :: r) ms ls w).map _).length ≤ _
            rw [List.length_map]
            exact Nat.le_trans (setSteps_len p r ms ls w) h2
    · intro s hs
      obtain ⟨a, b, c, d⟩ := inv_step h1 hw s hs
      have e1 := wts_app s.1 gs
      have e2 : wts (g :: gs) = wtG g + wts gs := rfl
      have e3 := len_wts s.1
      rw [e2] at hl
      refine ⟨⟨a, fun x hx => ?_, by omega⟩, by omega, by omega⟩
      rcases List.mem_append.mp hx with hx | hx
      · exact b x hx
      · exact hg x (List.mem_cons_of_mem _ hx)
  sp gs w h := by
    obtain ⟨hw, hg, hl⟩ := h
    have := len_wts gs
    exact ⟨⟨hw.1, by omega, fun n t ht => (hw.2 n t ht).2.1⟩, fun g h => Gsp_of (hg g h) hw, by omega⟩
  ex g gs w h := by
    obtain ⟨hw, hg, hl⟩ := h
    constructor
    · rintro ⟨σ, hσ, ho, hs⟩
      obtain ⟨s, hs', h1, h2⟩ := (step_iff hσ (hg g List.mem_cons_self) hw ho).mp (hs g List.mem_cons_self)
      refine ⟨s, hs', σ, hσ, h1, fun x hx => ?_⟩
      rcases List.mem_append.mp hx with hx | hx
      · exact h2 x hx
      · exact hs x (List.mem_cons_of_mem _ hx)
    · rintro ⟨s, hs, σ, hσ, h1, h2⟩
      have ho := over_step s hs h1
      refine ⟨σ, hσ, ho, fun x hx => ?_⟩
      rcases List.mem_cons.mp hx with rfl | hx
      · exact (step_iff hσ (hg _ List.mem_cons_self) hw ho).mpr ⟨s, hs, h1, fun y hy => h2 y (List.mem_append_left _ hy)⟩
      · exact h2 x (List.mem_append_right _ hx)
  nil w h := ⟨fun n => (wget w n).getD (.unk n), fun n => by
      show Nm ((wget w n).getD (.unk n))
      cases e : wget w n with
      | none => exact Nm_unk n
      | some t => exact (h.1.2 n t e).1, fun n t e => by
      show (wget w n).getD (.unk n) = t
      rw [e]
      rfl, fun g hg => (by cases hg)⟩
def Leads (ps fs : List Tm) : Prop := ∃ σ, Ok σ ∧ apps σ ps = fs
def SmF (f : Tm) : Prop := Nm f ∧ dep f ≤ 2 ∧ size f ≤ 12
theorem found_ok (ps fs : List Tm) (hp : ∀ p ∈ ps, SmF p) (hf : ∀ f ∈ fs, SmF f) (hl : fs.length = ps.length) (h10 : ps.length ≤ 10) :
    ∃ o : Option (List (Str × Tm)), (o.isSome = true ↔ Leads ps fs) ∧ (∀ p, o = some p → ∀ q ∈ p, dep q.2 ≤ 2) ∧ Ret 5 "found_for" [encPs (ps.zip fs), .int 0] (.lst (o.map encPut).toList) := by
  have hz : goalsOf (ps.zip fs) = zipG ps fs := (zipG_map ps fs).symm
  have hw : wts (zipG ps fs) ≤ 360 := by
    have h1 := zipG_wts ps fs
    have h2 : sizes ps ≤ 12 * ps.length := by
      clear h1 hz hl h10 hf
      induction ps with
      | nil => exact Nat.zero_le _
      | cons a l ih =>
        have := ih fun p h => hp p (List.mem_cons_of_mem _ h)
        have := (hp a List.mem_cons_self).2.2
        rw [sizes, List.length_cons]
        omega
    omega
  have hI : sys.Inv (goalsOf (ps.zip fs)) [] := by
    refine ⟨⟨List.nodup_nil, fun n t h => (by cases h)⟩, fun g hg => ?_, by rw [hz]; show 0 + _ ≤ _; omega⟩
    rw [hz] at hg
    obtain ⟨t, ht, u, hu, rfl⟩ := zipG_mem hg
    have h1 := hp t ht
    have h2 := hf u hu
    exact ⟨h1.2.1, Nat.le_trans h1.2.2 (by decide), h2.1, h2.2.1, h2.2.2⟩
  obtain ⟨o, ho, h1, h2⟩ := found_for sys (ps.zip fs) hI (by rw [hz]; omega) (by rw [List.length_zip]; omega)
  refine ⟨o, ho.trans ?_, h1, h2⟩
  rw [hz]
  constructor
  · rintro ⟨σ, hσ, _, hs⟩
    exact ⟨σ, hσ, (apps_zip σ ps fs).mpr ⟨hl, hs⟩⟩
  · rintro ⟨σ, hσ, hs⟩
    exact ⟨σ, hσ, fun n t h => (by cases h), ((apps_zip σ ps fs).mp hs).2⟩
theorem Leads.trans {a b c : List Tm} (h1 : Leads b a) (h2 : Leads c b) : Leads c a := by
  obtain ⟨σ, hσ, h1⟩ := h1
  obtain ⟨τ, hτ, h2⟩ := h2
  refine ⟨fun n => app σ (τ n), fun n => Nm_app hσ _, ?_⟩
  rw [← h1, ← h2, apps_map, apps_map, apps_map, List.map_map]
  exact List.map_congr_left fun t _ => (app_comp hσ hτ t).symm
end K59
end
section
set_option Elab.async false
set_option linter.all false
set_option maxRecDepth 100000
set_option maxHeartbeats 2000000
namespace K59
open Q
open PySem (Str)
section
variable {cl : Str → List D → M D} {ρ : Q.Env} {st st1 st2 st3 : List D}
theorem x_chain {a b c : E} {x y z : D} {k k2 : Bool} (h1 : evE cl a ρ st = .ok x st1) (h2 : evE cl b ρ st1 = .ok y st2) (h3 : opC .le x y = some k) (h4 : evE cl c ρ st2 = .ok z st2) (h5 : opC .le y z = some k2) : evE cl (.chain a b c) ρ st = .ok (.bl (k && k2)) st2 := by
  show M.bind (evE cl a ρ) (fun x => M.bind (evE cl b ρ) fun y => M.bind (M.ofO (opC .le x y)) fun k => match k with
    | true => M.bind (evE cl c ρ) fun z => M.bind (M.ofO (opC .le y z)) fun k => M.pure (D.bl k)
    | false => M.pure (D.bl false)) st = _
  rw [bind_eq h1, bind_eq h2, bind_eq (ofO_eq h3)]
  cases k with
  | false => rfl
  | true =>
    show M.bind (evE cl c ρ) (fun z => M.bind (M.ofO (opC .le y z)) fun k => M.pure (D.bl k)) st2 = _
    rw [bind_eq h4, bind_eq (ofO_eq h5)]
    rfl
end
theorem le_nats {m n : Nat} : opC .le (.int m) (.int n) = some (decide (m ≤ n)) := by
  show some (decide ((m : Int) ≤ n)) = _
  congr 1
  rw [decide_eq_decide]
  omega
theorem gt_nats {m n : Nat} : opC .gt (.int m) (.int n) = some (decide (n < m)) := by
  show some (decide ((n : Int) < m)) = _
  congr 1
  rw [decide_eq_decide]
  omega
theorem len_T (xs : List D) : opBi .len [.tup xs] = some (.int xs.length) := rfl
theorem is_tuple_of (xs : List D) (lo hi : Nat) : Ret 1 "is_tuple_of" [.tup xs, .int lo, .int hi] (.bl (decide (lo ≤ xs.length) && decide (xs.length ≤ hi))) := by
  refine ret_of (d := d_is_tuple_of.fn) (k := 0) rfl rfl fun n st => r_ret (x_andT rfl (x_chain (x := .int lo) (y := .int xs.length) (z := .int hi) rfl (x_bi (xs := [.tup xs]) rfl (len_T xs)) le_nats rfl le_nats))
theorem tuple_ok {xs : List D} {lo hi : Nat} (h1 : lo ≤ xs.length) (h2 : xs.length ≤ hi) : Ret 1 "is_tuple_of" [.tup xs, .int lo, .int hi] (.bl true) := by
  have := is_tuple_of xs lo hi
  rw [decide_eq_true h1, decide_eq_true h2] at this
  exact this
def leafOk : Tm → Prop
  | .unk n => n = "x" ∨ n = "y"
  | .con n => n = "a" ∨ n = "b" ∨ n = "c" ∨ n = "d"
  | .free f ts => (f = "f" ∨ f = "g") ∧ 1 ≤ ts.length ∧ ts.length ≤ 6
  | .bag ts => ts.length ≤ 60
  | .set ts => ts.length ≤ 60
theorem leaf_name {n : Str} (h : n = "x" ∨ n = "y" ∨ n = "a" ∨ n = "b" ∨ n = "c" ∨ n = "d") : Ret 4 "is_leaf_name" [.str n] (.bl true) := by
  intro m st
  rcases h with rfl | rfl | rfl | rfl | rfl | rfl <;> rfl
theorem name_ok {n : Str} (h : n = "f" ∨ n = "g") : Ret 1 "is_name" [.str n] (.bl true) := by
  intro m st
  rcases h with rfl | rfl <;> rfl
theorem gather_ok (b : Bool) (ts : List Tm) (h : ts.length ≤ 60) : Ret 5 "fits_head" [enc (mk b ts)] (.bl true) := by
  have e : enc (mk b ts) = .tup [.str (gw b), .tup (encs ts)] := by cases b <;> rfl
  rw [e]
  refine ret_of (d := d_fits_head.fn) (k := 4) rfl rfl fun n st => ?_
  have h1 := (tuple_ok (xs := [.str (gw b), .tup (encs ts)]) (lo := 2) (hi := 3) (by simp) (by simp)).mono (k' := 4) (by omega) n st
  have h2 := (tuple_ok (xs := encs ts) (lo := 0) (hi := 60) (Nat.zero_le _) (by rw [encs_len]; exact h)).mono (k' := 4) (by omega) n st
  refine r_ifF (x_orF (x_not (k := true) (x_call (x_three rfl rfl rfl) h1)) rfl) (r_set (d := .tup [.str (gw b), .tup [.tup (encs ts)]]) rfl rfl ?_)
  refine r_ifF (x_cmp (k := false) rfl rfl (by cases b <;> rfl)) (r_ifF rfl (r_ifF (x_cmp (k := false) rfl rfl (by cases b <;> rfl)) (r_ifF (x_not (k := true) (x_call (x_three rfl rfl rfl) h2)) (r_ifF (x_cmp (k := false) rfl rfl (by cases b <;> rfl)) (r_ret (x_cmp rfl rfl (by cases b <;> rfl)))))))
theorem fits_head (t : Tm) (h : leafOk t) : Ret 5 "fits_head" [enc t] (.bl true) := by
  cases t with
  | unk n =>
    intro m st
    rcases h with rfl | rfl <;> rfl
  | con n =>
    intro m st
    rcases h with rfl | rfl | rfl | rfl <;> rfl
  | free f ts =>
    obtain ⟨hf, h1, h2⟩ := h
    refine ret_of (d := d_fits_head.fn) (k := 4) rfl rfl fun n st => ?_
    have t1 := (tuple_ok (xs := [.str "free", .str f, .tup (encs ts)]) (lo := 2) (hi := 3) (by simp) (by simp)).mono (k' := 4) (by omega) n st
    have t2 := (tuple_ok (xs := encs ts) (lo := 1) (hi := 6) (by rw [encs_len]; exact h1) (by rw [encs_len]; exact h2)).mono (k' := 4) (by omega) n st
    refine r_ifF (x_orF (x_not (k := true) (x_call (x_three rfl rfl rfl) t1)) rfl) (r_set (d := .tup [.str "free", .tup [.str f, .tup (encs ts)]]) rfl rfl ?_)
    exact r_ifT rfl (x_andT rfl (x_andT (x_call (x_one rfl) ((name_ok hf).mono (by omega) n st)) (x_call (x_three rfl rfl rfl) t2)))
  | bag ts => exact gather_ok true ts h
  | set ts => exact gather_ok false ts h
abbrev ftC : E := .cmp .ne (.slot 1) (.lst .enil)
abbrev ftB : S := .set (.tup (.cons (.tup (.cons (.slot 3) (.cons (.slot 4) .nil))) (.cons (.slot 1) (.cons (.slot 2) .nil)))) (.tup (.econs (.idx (.slot 1) (.const (.int 0))) (.econs (.slc (.slot 1) (.const (.int 1)) (.const .non)) (.econs (.op .add (.slot 2) (.const (.int 1))) .enil)))) (.iff (.or (.cmp .gt (.slot 2) (.const (.int 60))) (.or (.cmp .gt (.slot 4) (.const (.int 20))) (.not (.call "fits_head" (.econs (.slot 3) .enil))))) (.ret (.const (.bl false))) .nil (.set (.slot 1) (.op .add (.lc (.tup (.econs (.slot 5) (.econs (.op .add (.slot 4) (.const (.int 1))) .enil))) (.slot 5) (.plain (.call "parts_in" (.econs (.slot 3) .enil))) (.const (.bl true)) [5]) (.slot 1)) .nil))
def encQ (q : Tm × Nat) : D := .tup [enc q.1, .int q.2]
def ftE (v : D) (L : List (Tm × Nat)) (k : Nat) (a b : Option D) : Q.Env := [some v, some (.lst (L.map encQ)), some (.int k), a, b, none]
def szL (L : List (Tm × Nat)) : Nat := sizes (L.map (·.1))
def okL (L : List (Tm × Nat)) : Prop := ∀ q ∈ L, q.2 + dep q.1 ≤ 20 ∧ ∀ k ∈ alls q.1, leafOk k
theorem alls_part {t p k : Tm} (hp : p ∈ parts t) (hk : k ∈ alls p) : k ∈ alls t := by
  rw [alls_eq, allss_flat]
  exact List.mem_cons_of_mem _ (List.mem_flatMap.mpr ⟨p, hp, hk⟩)
theorem alls_self (t : Tm) : t ∈ alls t := by rw [alls_eq]; exact List.mem_cons_self
theorem ft_step {n : Nat} {st : List D} (v : D) (t : Tm) (d : Nat) (L : List (Tm × Nat)) (k : Nat) (a b : Option D) (hk : k + szL ((t, d) :: L) ≤ 60) (ho : okL ((t, d) :: L)) :
    ∃ a' b', evS (callP T (n + 5)) ftB (ftE v ((t, d) :: L) k a b) st = .ok .next (ftE v ((parts t).map (fun p => (p, d + 1)) ++ L) (k + 1) a' b') st := by
  have h1 : szL ((t, d) :: L) = size t + szL L := rfl
  have h2 := size_parts t
  have h3 := ho (t, d) List.mem_cons_self
  have h4 := len_sizes (parts t)
  have h5 : L.length ≤ szL L := by have := len_sizes (L.map (·.1)); rw [List.length_map] at this; exact this
  refine ⟨some (enc t), some (.int d), b_set (d := .tup [encQ (t, d), .lst (L.map encQ), .int ((k + 1 : Nat))]) (x_tup (x_three rfl (x_slc (lo := some 1) (hi := none) rfl rfl rfl rfl rfl ?_) rfl) rfl) rfl (r_if (k := false) (x_orF (x_cmp (x := .int (k + 1 : Nat)) (y := .int (60 : Nat)) (k := false) rfl rfl ?_) (x_orF (x_cmp (x := .int d) (y := .int (20 : Nat)) (k := false) rfl rfl ?_) (x_not (k := true) (x_call (x_one rfl) (fits_head t (h3.2 t (alls_self t)) n st))))) (fun z => by cases z) fun _ => ?_)⟩
  · show some (D.lst (sliceL (encQ (t, d) :: L.map encQ) (some 1) none)) = _
    rw [sl_tail]
  · rw [gt_nats, decide_eq_false (by omega)]
  · have : d + dep t ≤ 20 := h3.1
    rw [gt_nats, decide_eq_false (by omega)]
  · have e : evE (callP T (n + 5)) (.op .add (.lc (.tup (.econs (.slot 5) (.econs (.op .add (.slot 4) (.const (.int 1))) .enil))) (.slot 5) (.plain (.call "parts_in" (.econs (.slot 3) .enil))) (.const (.bl true)) [5]) (.slot 1)) (ftE v L (k + 1) (some (enc t)) (some (.int d))) st = .ok (.lst (((parts t).map (fun p => (p, d + 1)) ++ L).map encQ)) st := by
      refine x_op (x := .lst ((parts t).map fun p => encQ (p, d + 1))) (y := .lst (L.map encQ)) (x_lcm (l := parts t) (φ := enc) (g := fun p => encQ (p, d + 1)) ?_ (fun p _ s => ?_) (le_lim (by omega))) rfl ?_
      · exact i_parts rfl (by omega)
      · exact lc_elt rfl rfl rfl
      · rw [add_lst, List.map_append, List.map_map]
        · rfl
        · rw [List.length_map, List.length_map]
          exact le_lim (by omega)
    show andThen (RS.ok .next (ftE v L (k + 1) (some (enc t)) (some (.int d))) st) _ = _
    show evS (callP T (n + 5)) (.set (.slot 1) _ .nil) _ _ = _
    rw [b_set (R := .ok .next _ st) e rfl rfl]
    rfl
theorem ft_all {n : Nat} {st : List D} (v : D) : ∀ (m : Nat) (L : List (Tm × Nat)) (k : Nat) (a b : Option D), szL L ≤ m → k + szL L ≤ 60 → okL L → ∃ ρ', loopL (evE (callP T (n + 5)) ftC) (evS (callP T (n + 5)) ftB) (ftE v L k a b) st = .ok .next ρ' st
  | m, [], k, a, b, _, _, _ => ⟨_, loopL_stop (show evE (callP T (n + 5)) ftC (ftE v [] k a b) st = .ok (.bl false) st from x_cmp rfl rfl rfl)⟩
  | 0, (t, d) :: L, k, a, b, hm, _, _ => by
    have h1 : szL ((t, d) :: L) = size t + szL L := rfl
    have := size_pos t
    omega
  | m + 1, (t, d) :: L, k, a, b, hm, hk, ho => by
    obtain ⟨a', b', e⟩ := ft_step (n := n) (st := st) v t d L k a b hk ho
    have h1 : szL ((t, d) :: L) = size t + szL L := rfl
    have h2 := size_parts t
    have h3 : szL ((parts t).map (fun p => (p, d + 1)) ++ L) = sizes (parts t) + szL L := by
      unfold szL
      rw [List.map_append, sizes_app, List.map_map]
      congr 2
      exact List.map_id _
    obtain ⟨ρ', e2⟩ := ft_all (n := n) (st := st) v m ((parts t).map (fun p => (p, d + 1)) ++ L) (k + 1) a' b' (by omega) (by omega) (fun q hq => by
      have h4 := ho (t, d) List.mem_cons_self
      rcases List.mem_append.mp hq with hq | hq
      · obtain ⟨p, hp, rfl⟩ := List.mem_map.mp hq
        have h5 := dep_part hp
        have h6 : d + dep t ≤ 20 := h4.1
        exact ⟨by show d + 1 + dep p ≤ 20; omega, fun k hk => h4.2 k (alls_part hp hk)⟩
      · exact ho q (List.mem_cons_of_mem _ hq))
    refine ⟨ρ', (loopL_step (st1 := st) (x_cmp (k := true) rfl rfl (ne_lnil _)) e).trans e2⟩
def TG (t : Tm) : Prop := dep t ≤ 1 ∧ size t ≤ 11 ∧ ∀ k ∈ alls t, leafOk k
theorem fits_term (t : Tm) (h : TG t) : Ret 6 "fits_term" [enc t] (.bl true) := by
  refine ret_of (d := d_fits_term.fn) (k := 5) rfl rfl fun n st => ?_
  refine r_set (d := .tup [.lst [encQ (t, 0)], .int 0]) rfl rfl ?_
  have h1 := h.1
  have h2 := h.2.1
  have h3 : szL [(t, 0)] = size t + 0 := rfl
  obtain ⟨ρ', e⟩ := ft_all (n := n) (st := st) (enc t) 60 [(t, 0)] 0 none none (by omega) (by omega) fun q hq => by
    rw [List.mem_singleton.mp hq]
    exact ⟨by show 0 + dep t ≤ 20; omega, h.2.2⟩
  show fin (andThen (loopL (evE (callP T (n + 5)) ftC) (evS (callP T (n + 5)) ftB) (ftE (enc t) [(t, 0)] 0 none none) st) _) = _
  rw [e]
  rfl
def Shp (p : W) : Prop := p = [] ∨ (∃ t, p = [(("x" : Str), t)]) ∨ ∃ t u, p = [(("x" : Str), t), (("y" : Str), u)]
def PG (p : W) : Prop := Shp p ∧ ∀ q ∈ p, TG q.2
theorem PG_key {p : W} (h : PG p) : ∀ q ∈ p, q.1 = "x" ∨ q.1 = "y" := by
  rcases h.1 with rfl | ⟨t, rfl⟩ | ⟨t, u, rfl⟩
  · intro q hq; cases hq
  · intro q hq
    rw [List.mem_singleton.mp hq]
    exact Or.inl rfl
  · intro q hq
    rcases List.mem_cons.mp hq with rfl | hq
    · exact Or.inl rfl
    · rw [List.mem_singleton.mp hq]
      exact Or.inr rfl
theorem PG_len {p : W} (h : PG p) : p.length ≤ 2 := by
  rcases h.1 with rfl | ⟨t, rfl⟩ | ⟨t, u, rfl⟩ <;> simp
theorem PG_once {p : W} (h : PG p) : Once p := by
  rcases h.1 with rfl | ⟨t, rfl⟩ | ⟨t, u, rfl⟩
  · exact List.nodup_nil
  · exact List.nodup_cons.mpr ⟨by simp, List.nodup_nil⟩
  · show [("x" : Str), ("y" : Str)].Nodup
    exact List.nodup_cons.mpr ⟨fun h => absurd (List.mem_singleton.mp h) (by decide), List.nodup_cons.mpr ⟨by simp, List.nodup_nil⟩⟩
def encE (q : Str × Tm) : D := .tup [.str q.1, enc q.2]
theorem all_true {α : Type} (l : List α) : l.all (fun _ => true) = true := List.all_eq_true.mpr fun _ _ => rfl
theorem encPut_eq (p : W) : encPut p = .tup (p.map encE) := rfl
theorem fits_put (p : W) (h : PG p) : Ret 7 "fits_put" [encPut p] (.bl true) := by
  refine ret_of (d := d_fits_put.fn) (k := 6) rfl rfl fun n st => ?_
  have hl := PG_len h
  have t1 := (tuple_ok (xs := p.map encE) (lo := 0) (hi := 12) (Nat.zero_le _) (by rw [List.length_map]; omega)).mono (k' := 6) (by omega) n
  refine r_ifF (x_orF (x_not (k := true) (x_call (x_three rfl rfl rfl) (t1 st))) (x_not (k := true) (x_bi (xs := [.lst (p.map fun _ => .bl true)]) (x_one (x_lcm (l := p) (φ := encE) (g := fun _ => .bl true) (i_plain' rfl rfl) (fun q hq s => lc_elt rfl rfl ?_) (le_lim (by omega)))) ?_))) (r_ifF (x_not (k := true) (x_bi (xs := [.lst (p.map fun _ => .bl true)]) (x_one (x_lcm (l := p) (φ := encE) (g := fun _ => .bl true) (i_plain' rfl rfl) (fun q hq s => lc_elt rfl rfl ?_) (le_lim (by omega)))) ?_)) ?_)
  · exact x_call (xs := [encE q, .int 2, .int 2]) rfl ((tuple_ok (xs := [.str q.1, enc q.2]) (lo := 2) (hi := 2) (by simp) (by simp)).mono (k' := 6) (by omega) n s)
  · rw [all_bl, all_true]
  · refine x_andT (x_call (xs := [.str q.1]) rfl ((leaf_name ?_).mono (k' := 6) (by omega) n s)) (x_call (xs := [enc q.2]) rfl (fits_term q.2 (h.2 q hq) n s))
    rcases PG_key h q hq with e | e <;> simp [e]
  · rw [all_bl, all_true]
  · rcases h.1 with rfl | ⟨t, rfl⟩ | ⟨t, u, rfl⟩
    · rfl
    · rfl
    · rfl
theorem need_put (p : W) (h : PG p) : Ret 8 "need_put" [encPut p] .non := by
  refine ret_of (d := d_need_put.fn) (k := 7) rfl rfl fun n st => ?_
  exact r_ifF (x_not (k := true) (x_call (x_one rfl) (fits_put p h n st))) rfl
theorem is_put (p : W) (h : PG p) : Ret 8 "is_put" [encPut p] (.bl true) := by
  refine ret_of (d := d_is_put.fn) (k := 7) rfl rfl fun n st => ?_
  exact r_ret (x_call (x_one rfl) (fits_put p h n st))
theorem has_plain_signs (t : Tm) (h : TG t) : Ret 4 "has_plain_signs" [enc t] (.bl true) := by
  refine ret_of (d := d_has_plain_signs.fn) (k := 3) rfl rfl fun n st => ?_
  have h1 := h.1
  have h2 := h.2.1
  refine r_ret (x_bi (xs := [.lst ((alls t).map fun _ => .bl true)]) (x_one (x_lcm (l := alls t) (φ := enc) (g := fun _ => .bl true) (i_plain' (x_call (x_one rfl) ((all_knots t (by omega)).mono (k' := 3) (by omega) n st)) (by rw [← encs_map]; rfl)) (fun k _ s => lc_elt rfl rfl ?_) (by rw [alls_len]; exact le_lim (by omega)))) ?_)
  · cases k <;> rfl
  · rw [all_bl, all_true]
theorem need_plain_put (p : W) (h : PG p) : Ret 9 "need_plain_put" [encPut p] .non := by
  refine ret_of (d := d_need_plain_put.fn) (k := 8) rfl rfl fun n st => ?_
  have hl := PG_len h
  refine r_expr (x_call (x_one rfl) (need_put p h n st)) (r_ifF (x_not (k := true) (x_bi (xs := [.lst (p.map fun _ => .bl true)]) (x_one (x_lcm (l := p) (φ := encE) (g := fun _ => .bl true) (i_plain' rfl rfl) (fun q hq s => lc_elt rfl rfl (x_call (xs := [enc q.2]) rfl ((has_plain_signs q.2 (h.2 q hq)).mono (by omega) n s))) (le_lim (by omega)))) ?_)) rfl)
  rw [all_bl, all_true]
def NG (ns : List Str) : Prop := ns = [("x" : Str)] ∨ ns = [("x" : Str), ("y" : Str)]
def encN (ns : List Str) : D := .tup (ns.map D.str)
theorem need_names (ns : List Str) (h : NG ns) : Ret 6 "need_names" [encN ns] .non := by
  intro n st
  rcases h with rfl | rfl <;> rfl
theorem need_two (p q : W) (ns : List Str) (hp : PG p) (hq : PG q) (hn : NG ns) : Ret 10 "need_two" [encPut p, encPut q, encN ns] .non := by
  refine ret_of (d := d_need_two.fn) (k := 9) rfl rfl fun n st => ?_
  exact r_expr (x_call (x_one rfl) (need_plain_put p hp n st)) (r_expr (x_call (x_one rfl) (need_plain_put q hq n st)) (r_expr (x_call (x_one rfl) ((need_names ns hn).mono (by omega) n st)) rfl))
end K59
end
section
set_option Elab.async false
set_option linter.all false
set_option maxRecDepth 100000
set_option maxHeartbeats 2000000
namespace K59
open Q
open PySem (Str)
theorem alls_mem {b : Bool} {u x k : Tm} (hx : x ∈ mem b u) (hk : k ∈ alls x) : k ∈ alls u := by
  by_cases hw : word u = gw b
  · obtain ⟨us, rfl⟩ := word_of hw
    rw [mem_mk] at hx
    exact alls_part (by rw [parts_mk]; exact hx) hk
  · rw [mem_ne hw] at hx
    rw [← List.mem_singleton.mp hx]
    exact hk
theorem unk_alone {b : Bool} {L : List Tm} {n : Str} (h : Tm.unk n ∈ alls (alone b L)) : ∃ x ∈ L, Tm.unk n ∈ alls x := by
  by_cases hl : L.length = 1
  · match L, hl with
    | [t], _ => exact ⟨t, List.mem_cons_self, h⟩
  · rw [alone_ne hl, alls_eq, parts_mk, allss_flat] at h
    rcases List.mem_cons.mp h with e | h
    · cases b <;> cases e
    · obtain ⟨x, hx, h⟩ := List.mem_flatMap.mp h
      exact ⟨x, hx, h⟩
theorem unk_mk {b : Bool} {ts : List Tm} {n : Str} (ih : ∀ t ∈ ts, Tm.unk n ∈ alls (nf t) → Tm.unk n ∈ alls t) (h : Tm.unk n ∈ alls (nf (mk b ts))) : Tm.unk n ∈ alls (mk b ts) := by
  have e : nf (mk b ts) = alone b (nrm b (flat b (nfs ts))) := by cases b <;> rfl
  rw [e] at h
  obtain ⟨x, hx, h⟩ := unk_alone h
  obtain ⟨u, hu, hx⟩ := mem_flat.mp (mem_nrm.mp hx)
  have hu : u ∈ apps .unk ts := hu
  rw [apps_map] at hu
  obtain ⟨t, ht, rfl⟩ := List.mem_map.mp hu
  exact alls_part (by rw [parts_mk]; exact ht) (ih t ht (alls_mem hx h))
mutual
theorem unk_nf {n : Str} : ∀ t : Tm, Tm.unk n ∈ alls (nf t) → Tm.unk n ∈ alls t
  | .unk m, h => h
  | .con m, h => h
  | .free f ts, h => by
    rw [nf_free, alls_eq, allss_flat] at h
    rcases List.mem_cons.mp h with e | h
    · cases e
    · obtain ⟨u, hu, h⟩ := List.mem_flatMap.mp h
      have hu : u ∈ apps .unk ts := hu
      rw [apps_map] at hu
      obtain ⟨t, ht, rfl⟩ := List.mem_map.mp hu
      exact alls_part (show t ∈ parts (.free f ts) from ht) (unk_nfs ts t ht h)
  | .bag ts, h => unk_mk (b := true) (unk_nfs ts) h
  | .set ts, h => unk_mk (b := false) (unk_nfs ts) h
theorem unk_nfs {n : Str} : ∀ (ts : List Tm), ∀ t ∈ ts, Tm.unk n ∈ alls (nf t) → Tm.unk n ∈ alls t
  | [], _, h => by cases h
  | u :: ts, t, h => by
    rcases List.mem_cons.mp h with e | h
    · rw [e]; exact unk_nf u
    · exact unk_nfs ts t h
end
theorem mem_unkn {t : Tm} {n : Str} : n ∈ unkn t ↔ Tm.unk n ∈ alls t := by
  unfold unkn
  rw [List.mem_filterMap]
  constructor
  · rintro ⟨k, hk, e⟩
    cases k with
    | unk m => injection e with e; rw [← e]; exact hk
    | _ => cases e
  · intro h
    exact ⟨_, h, rfl⟩
def FG (f : Tm) : Prop := Nm f ∧ dep f ≤ 1 ∧ size f ≤ 11 ∧ ∀ n ∈ unkn f, n = "x" ∨ n = "y"
theorem FG_nf {t : Tm} (h : TG t) : FG (nf t) := by
  have h1 := h.1
  have h2 := h.2.1
  have h3 := dep_nf t
  have h4 := size_nf t
  refine ⟨Nm_nf t, by omega, by omega, fun n hn => ?_⟩
  exact h.2.2 _ (unk_nf t (mem_unkn.mp hn))
theorem FG_Sm {f : Tm} (h : FG f) : SmF f := ⟨h.1, Nat.le_succ_of_le h.2.1, Nat.le_succ_of_le h.2.2.1⟩
theorem sdd_seen {t : Str} : ∀ {l seen : List Str}, t ∈ sdd seen l → t ∉ seen
  | [], seen, h => by cases h
  | a :: as, seen, h => by
    rw [sdd] at h
    cases e : seen.any fun b => D.beq (.str a) (.str b) with
    | true => rw [e] at h; exact sdd_seen h
    | false =>
      rw [e] at h
      rcases List.mem_cons.mp h with rfl | h
      · intro hm
        have := List.any_eq_false.mp e t hm
        rw [D.beq_self] at this
        exact this rfl
      · exact fun hm => sdd_seen h (List.mem_cons_of_mem _ hm)
theorem sdd_nodup : ∀ (l seen : List Str), (sdd seen l).Nodup
  | [], _ => List.nodup_nil
  | a :: as, seen => by
    rw [sdd]
    cases e : seen.any fun b => D.beq (.str a) (.str b) with
    | true => exact sdd_nodup as seen
    | false => exact List.nodup_cons.mpr ⟨fun h => sdd_seen h List.mem_cons_self, sdd_nodup as (a :: seen)⟩
theorem two_names {l : List Str} (hn : l.Nodup) (h : ∀ n ∈ l, n = "x" ∨ n = "y") : l.length ≤ 2 := by
  match l, hn, h with
  | [], _, _ => exact Nat.zero_le _
  | [a], _, _ => exact Nat.le_succ _
  | [a, b], _, _ => exact Nat.le_refl _
  | a :: b :: c :: l, hn, h =>
    exfalso
    have ha := h a (by simp)
    have hb := h b (by simp)
    have hc := h c (by simp)
    simp only [List.nodup_cons, List.mem_cons, not_or] at hn
    obtain ⟨⟨h1, h2, _⟩, ⟨h3, _⟩, _⟩ := hn
    rcases ha with rfl | rfl <;> rcases hb with rfl | rfl <;> rcases hc with rfl | rfl <;> first | exact h1 rfl | exact h2 rfl | exact h3 rfl
theorem uks_len (t : Tm) : (uks t).length ≤ size t := by
  unfold uks
  rw [ssort_len]
  exact Nat.le_trans (sdd_len _ _) (unkn_len t)
theorem need_few_names (fs : List Tm) (h : ∀ f ∈ fs, FG f) (hl : fs.length ≤ 5) : Ret 6 "need_few_names" [.lst (encs fs)] .non := by
  refine ret_of (d := d_need_few_names.fn) (k := 5) rfl rfl fun n st => ?_
  have hlen : (fs.flatMap uks).length ≤ 55 := by
    have key : ∀ l : List Tm, (∀ f ∈ l, FG f) → (l.flatMap uks).length ≤ 11 * l.length := by
      intro l
      induction l with
      | nil => intro _; exact Nat.zero_le _
      | cons a l ih =>
        intro h
        have h1 := uks_len a
        have h2 := (h a List.mem_cons_self).2.2.1
        have h3 := ih fun f hf => h f (List.mem_cons_of_mem _ hf)
        rw [List.flatMap_cons, List.length_append, List.length_cons]
        omega
    have := key fs h
    omega
  have e : (fs.flatMap fun f => (uks f).map D.str) = (fs.flatMap uks).map D.str := by rw [List.map_flatMap]
  refine r_set (st1 := st) (d := .lst ((fs.flatMap uks).map D.str)) ?_ rfl ?_
  · rw [← e]
    refine x_lc2 (φ := enc) (l := fs) (g := fun f => (uks f).map D.str) (i_plain' rfl (by rw [← encs_map]; rfl)) (fun f hf s => ?_) (by rw [e, List.length_map]; exact le_lim (by omega))
    have h1 := (h f hf).2.1
    have h2 := (h f hf).2.2.1
    rw [← flatMap_one D.str (uks f)]
    refine lc2_elt (φ := D.str) (l := uks f) (g := fun m => [D.str m]) rfl rfl ?_ fun m _ s => ?_
    · exact i_plain' (x_call (xs := [enc f, .str "unknown"]) rfl ((names_in f (by omega)).mono (k' := 5) (by omega) n s)) rfl
    · exact lc_elt rfl rfl rfl
  · refine r_ifF (x_cmp (x := .int ((sdd [] (fs.flatMap uks)).length : Nat)) (y := .int (4 : Nat)) (k := false) (x_bi (xs := [.set (D.dedup [] ((fs.flatMap uks).map D.str))]) (x_one (x_bi (xs := [.lst ((fs.flatMap uks).map D.str)]) rfl (set_strs (by omega)))) ?_) rfl ?_) rfl
    · rw [show D.dedup [] ((fs.flatMap uks).map D.str) = (sdd [] (fs.flatMap uks)).map D.str from (sdd_str _ []).symm]
      show some (D.int ((sdd [] (fs.flatMap uks)).map D.str).length) = _
      rw [List.length_map]
    · have := two_names (sdd_nodup (fs.flatMap uks) []) fun m hm => by
        obtain ⟨f, hf, hm⟩ := List.mem_flatMap.mp (mem_sdd hm)
        exact (h f hf).2.2.2 m (mem_uks hm)
      rw [gt_nats, decide_eq_false (by omega)]
theorem any_false {α : Type} (l : List α) : l.any (fun _ => false) = false := List.any_eq_false.mpr fun _ _ h => by cases h
theorem need_sizes (ps fs : List Tm) (hp : ∀ f ∈ ps, FG f) (hf : ∀ f ∈ fs, FG f) (hl : ps.length ≤ 5) (hl' : fs.length ≤ 5) : Ret 7 "need_sizes" [.lst (encs ps), .lst (encs fs)] .non := by
  refine ret_of (d := d_need_sizes.fn) (k := 6) rfl rfl fun n st => ?_
  refine r_expr (x_call (x_one rfl) (need_few_names ps hp hl n st)) (r_ifF (x_bi (st1 := st) (xs := [.lst ((ps ++ fs).map fun _ => .bl false)]) (x_one (x_lcm (l := ps ++ fs) (φ := enc) (g := fun _ => .bl false) (i_plain' (x := .lst (encs (ps ++ fs))) (x_op (x := .lst (encs ps)) (y := .lst (encs fs)) rfl rfl ?_) ?_) (fun f hm s => lc_elt rfl rfl ?_) (by rw [List.length_append]; exact le_lim (by omega)))) ?_) rfl)
  · rw [add_lst (by rw [encs_len, encs_len]; exact le_lim (by omega)), encs_app]
  · rw [← encs_map]; rfl
  · have h1 : FG f := by
      rcases List.mem_append.mp hm with hm | hm
      · exact hp f hm
      · exact hf f hm
    have h2 := h1.2.1
    have h3 := h1.2.2.1
    refine x_cmp (x := .int (size f : Nat)) (y := .int (16 : Nat)) (k := false) (x_call (xs := [enc f]) rfl ((knots_in f (by omega)).mono (k' := 6) (by omega) n s)) rfl ?_
    rw [gt_nats, decide_eq_false (by omega)]
  · rw [any_bl, any_false]
def getT (p : W) (n : Str) : Tm := (wget p n).getD (.unk n)
def forms (p : W) (ns : List Str) : List Tm := ns.map fun n => nf (getT p n)
theorem wget_in : ∀ {p : W} {n : Str} {t : Tm}, wget p n = some t → ∃ q ∈ p, q.2 = t
  | [], n, t, h => by cases h
  | (m, f) :: r, n, t, h => by
    rw [wget] at h
    split at h
    · injection h with h
      exact ⟨(m, f), List.mem_cons_self, h⟩
    · obtain ⟨q, hq, e⟩ := wget_in h
      exact ⟨q, List.mem_cons_of_mem _ hq, e⟩
theorem TG_unk {n : Str} (h : n = "x" ∨ n = "y") : TG (.unk n) := ⟨Nat.zero_le _, by show 1 ≤ 11; decide, fun k hk => by rw [List.mem_singleton.mp hk]; exact h⟩
theorem NG_mem {ns : List Str} (h : NG ns) {n : Str} (hn : n ∈ ns) : n = "x" ∨ n = "y" := by
  rcases h with rfl | rfl
  · exact Or.inl (List.mem_singleton.mp hn)
  · rcases List.mem_cons.mp hn with e | hn
    · exact Or.inl e
    · exact Or.inr (List.mem_singleton.mp hn)
theorem NG_len {ns : List Str} (h : NG ns) : ns.length ≤ 2 := by
  rcases h with rfl | rfl <;> decide
theorem TG_get {p : W} {n : Str} (hp : PG p) (hn : n = "x" ∨ n = "y") : TG (getT p n) := by
  unfold getT
  cases e : wget p n with
  | none => exact TG_unk hn
  | some t =>
    obtain ⟨q, hq, rfl⟩ := wget_in e
    exact hp.2 q hq
theorem FG_forms {p : W} {ns : List Str} (hp : PG p) (hn : NG ns) : ∀ f ∈ forms p ns, FG f := fun f hf => by
  obtain ⟨n, h, rfl⟩ := List.mem_map.mp hf
  exact FG_nf (TG_get hp (NG_mem hn h))
theorem forms_len (p : W) (ns : List Str) : (forms p ns).length = ns.length := List.length_map _
theorem pairs_W : ∀ p : W, pairsOf (p.map encE) = some (keysW p, valsW p)
  | [] => rfl
  | (n, t) :: r => by
    show (match pairsOf (r.map encE) with
      | some (ks, vs) => (match (D.str n).isKey && kOk ks (.str n) with
        | true => some (D.str n :: ks, enc t :: vs)
        | false => none)
      | none => none) = _
    rw [pairs_W r]
    dsimp only
    rw [kOkW]
    rfl
theorem forms_for (p : W) (ns : List Str) (hp : PG p) (hn : NG ns) : Ret 10 "forms_for" [encPut p, encN ns] (.lst (encs (forms p ns))) := by
  refine ret_of (d := d_forms_for.fn) (k := 9) rfl rfl fun n st => ?_
  have hl := NG_len hn
  have hd : opBi .dict [.lst (p.map encE)] = some (encW p) := by
    show (pairsOf (p.map encE)).map (fun z => let r := putAllD [] [] z.1 z.2; D.dct r.1 r.2) = _
    rw [pairs_W]
    show some (let r := putAllD [] [] (keysW p) (valsW p); D.dct r.1 r.2) = _
    have := putW p []
    rw [wcopy_once (PG_once hp)] at this
    rw [show putAllD [] [] (keysW p) (valsW p) = (keysW p, valsW p) from this]
    rfl
  refine r_set (d := encW p) (x_bi (xs := [.lst (p.map encE)]) (x_one (x_bi (xs := [.tup (p.map encE)]) rfl rfl)) hd) rfl (r_ret (st1 := st) ?_)
  unfold forms
  rw [encs_map, List.map_map]
  refine x_lcm (l := ns) (φ := D.str) (g := fun m => enc (nf (getT p m))) ?_ (fun m hm s => ?_) (le_lim (by omega))
  · exact i_plain' (x := encN ns) rfl rfl
  · have ht := TG_get hp (NG_mem hn hm)
    have h1 := ht.1
    have h2 := ht.2.1
    refine lc_elt rfl rfl (x_call (xs := [enc (getT p m)]) (x_one (x_mt (m := .get) (x := encW p) (xs := [.str m, enc (.unk m)]) rfl rfl rfl (getW p m (.unk m)))) ((normal_by (getT p m) (by omega) (by omega)).mono (k' := 9) (by omega) n s))
def Inst (p q : W) (ns : List Str) : Prop := Leads (forms q ns) (forms p ns)
open Classical in
noncomputable def inst (p q : W) (ns : List Str) : Bool := decide (Inst p q ns)
open Classical in
theorem inst_iff {p q : W} {ns : List Str} : inst p q ns = true ↔ Inst p q ns := by
  unfold inst
  exact @decide_eq_true_iff _ _
theorem inst_trans {p q r : W} {ns : List Str} (h1 : inst p q ns = true) (h2 : inst q r ns = true) : inst p r ns = true := inst_iff.mpr ((inst_iff.mp h1).trans (inst_iff.mp h2))
theorem leads_for (p q : W) (ns : List Str) (hp : PG p) (hq : PG q) (hn : NG ns) : ∃ r : List D, (!r.isEmpty) = inst p q ns ∧ Ret 11 "leads_for" [encPut p, encPut q, encN ns] (.lst r) := by
  have hl := NG_len hn
  have f1 := FG_forms hp hn
  have f2 := FG_forms hq hn
  have l1 := forms_len p ns
  have l2 := forms_len q ns
  obtain ⟨o, ho, _, h⟩ := found_ok (forms q ns) (forms p ns) (fun f hf => FG_Sm (f2 f hf)) (fun f hf => FG_Sm (f1 f hf)) (by rw [l1, l2]) (by omega)
  refine ⟨(o.map encPut).toList, ?_, ret_of (d := d_leads_for.fn) (k := 10) rfl rfl fun n st => ?_⟩
  · cases o with
    | some put => exact (inst_iff.mpr (ho.mp rfl)).symm
    | none =>
      cases e : inst p q ns with
      | false => rfl
      | true => exact absurd (ho.mpr (inst_iff.mp e)) (by simp)
  · refine r_set (st1 := st) (d := .tup [.lst (encs (forms p ns)), .lst (encs (forms q ns))]) (x_tup (x_two (x_call (xs := [encPut p, encN ns]) rfl (forms_for p ns hp hn n st)) (x_call (xs := [encPut q, encN ns]) rfl (forms_for q ns hq hn n st))) rfl) rfl ?_
    refine r_expr (x_call (xs := [.lst (encs (forms q ns)), .lst (encs (forms p ns))]) rfl ((need_sizes (forms q ns) (forms p ns) f2 f1 (by omega) (by omega)).mono (k' := 10) (by omega) n st)) (r_ret ?_)
    refine x_call (xs := [encPs ((forms q ns).zip (forms p ns)), .int 0]) (x_two ?_ rfl) (h.mono (k' := 10) (by omega) n st)
    refine (x_lzp (xs := encs (forms q ns)) (ys := encs (forms p ns)) rfl rfl).trans ?_
    rw [zip_enc]
    rfl
theorem is_instance (p q : W) (ns : List Str) (hp : PG p) (hq : PG q) (hn : NG ns) : Ret 12 "is_instance" [encPut p, encPut q, encN ns] (.bl (inst p q ns)) := by
  obtain ⟨r, hr, h⟩ := leads_for p q ns hp hq hn
  refine ret_of (d := d_is_instance.fn) (k := 11) rfl rfl fun n st => ?_
  refine r_expr (x_call (x_three rfl rfl rfl) ((need_two p q ns hp hq hn).mono (k' := 11) (by omega) n st)) (r_ret (x_cmp (x := .lst r) (y := .lst []) (x_call (xs := [encPut p, encPut q, encN ns]) rfl (h n st)) rfl ?_))
  rw [ne_lnil, hr]
end K59
end
section
set_option Elab.async false
set_option linter.all false
set_option maxRecDepth 100000
set_option maxHeartbeats 2000000
namespace K59
open Q
open PySem (Str)
def encPP (P : List W) : D := .tup (P.map encPut)
def AP (P : List W) : Prop := (∀ p ∈ P, PG p) ∧ P.length ≤ 5
theorem loop_expr {cl : Str → List D → M D} {ρ : Q.Env} {st : List D} {f : Str} {t : Nat} {r : S} {α : Type} {φ : α → D} {l : List α} {it : E} {R : Q.Res D} {es : E} {J : Q.Env → Prop} (hi : evI cl it ρ st = .ok (l.map φ) st) (hJ : J ρ) (hs : ∀ a ∈ l, ∀ ρ, J ρ → ∃ xs d, evEs cl es (ρ.set t (some (φ a))) st = .ok xs st ∧ cl f xs st = .ok d st ∧ J (ρ.set t (some (φ a)))) (hr : ∀ ρ', J ρ' → fin (evS cl r ρ' st) = R) : fin (evS cl (.forS (.slot t) it (.expr (.call f es) .nil) r) ρ st) = R := by
  refine r_for (l := l) (φ := φ) (I := fun _ ρ => J ρ) hi (fun pre a post e ρ hc => ?_) hJ hr
  obtain ⟨xs, d, h1, h2, h3⟩ := hs a (mem_mid e) ρ hc
  refine ⟨ρ.set t (some (φ a)), ?_, h3⟩
  show liftE (evE cl (.call f es)) (fun _ => evS cl .nil) (ρ.set t (some (φ a))) st = _
  unfold liftE
  rw [x_call h1 h2]
  rfl
theorem need_puts (P : List W) (h : AP P) : Ret 10 "need_puts" [encPP P] .non := by
  refine ret_of (d := d_need_puts.fn) (k := 9) rfl rfl fun n st => ?_
  have hl := h.2
  refine r_ifF (x_not (k := true) (x_call (xs := [encPP P, .int 0, .int 12]) rfl ((tuple_ok (xs := P.map encPut) (lo := 0) (hi := 12) (Nat.zero_le _) (by rw [List.length_map]; omega)).mono (k' := 9) (by omega) n st))) ?_
  refine loop_expr (l := P) (φ := encPut) (J := fun ρ => ∃ a, ρ = [some (encPP P), a]) (i_plain' rfl rfl) ⟨_, rfl⟩ (fun p hp ρ hc => ?_) fun ρ' hc => ?_
  · obtain ⟨a, rfl⟩ := hc
    exact ⟨[encPut p], .non, rfl, (need_put p (h.1 p hp)).mono (k' := 9) (by omega) n st, _, rfl⟩
  obtain ⟨a, rfl⟩ := hc
  refine loop_expr (l := P) (φ := encPut) (J := fun ρ => ∃ a, ρ = [some (encPP P), a]) (i_plain' rfl rfl) ⟨_, rfl⟩ (fun p hp ρ hc => ?_) fun ρ' hc => ?_
  · obtain ⟨a, rfl⟩ := hc
    exact ⟨[encPut p], .non, rfl, need_plain_put p (h.1 p hp) n st, _, rfl⟩
  · rfl
def encF (fs : List Tm) : D := .lst (encs fs)
theorem need_all_sizes (L : List (List Tm)) (h : ∀ fs ∈ L, (∀ f ∈ fs, FG f) ∧ fs.length ≤ 5) : Ret 8 "need_all_sizes" [.lst (L.map encF)] .non := by
  refine ret_of (d := d_need_all_sizes.fn) (k := 7) rfl rfl fun n st => ?_
  refine loop_expr (l := L) (φ := encF) (J := fun ρ => ∃ a, ρ = [some (.lst (L.map encF)), a]) (i_plain' rfl rfl) ⟨_, rfl⟩ (fun fs hf ρ hc => ?_) fun ρ' hc => ?_
  · obtain ⟨a, rfl⟩ := hc
    exact ⟨[encF fs], .non, rfl, (need_few_names fs (h fs hf).1 (h fs hf).2).mono (k' := 7) (by omega) n st, _, rfl⟩
  obtain ⟨a, rfl⟩ := hc
  refine loop_expr (l := L) (φ := encF) (J := fun ρ => ∃ a, ρ = [some (.lst (L.map encF)), a]) (i_plain' rfl rfl) ⟨_, rfl⟩ (fun fs hf ρ hc => ?_) fun ρ' hc => ?_
  · obtain ⟨a, rfl⟩ := hc
    exact ⟨[encF fs, .lst []], .non, rfl, need_sizes fs [] (h fs hf).1 (fun f hf => by cases hf) (h fs hf).2 (Nat.zero_le _) n st, _, rfl⟩
  · rfl
def en : List W → Nat → List (Nat × W)
  | [], _ => []
  | p :: r, i => (i, p) :: en r (i + 1)
def encEn (q : Nat × W) : D := .tup [.int q.1, encPut q.2]
theorem en_enc : ∀ (P : List W) (i : Nat), enumD (P.map encPut) i = (en P i).map encEn
  | [], _ => rfl
  | p :: r, i => by
    show D.tup [.int i, encPut p] :: enumD (r.map encPut) (i + 1) = _
    rw [en_enc r (i + 1)]
    rfl
def nth (P : List W) (i : Nat) : W := (P[i]?).getD []
theorem nth_mem {P : List W} {i : Nat} (h : i < P.length) : nth P i ∈ P := by
  unfold nth
  rw [List.getElem?_eq_getElem h]
  exact List.getElem_mem h
theorem en_nth : ∀ (P : List W) (i : Nat) (q : Nat × W), q ∈ en P i → i ≤ q.1 ∧ q.1 < i + P.length ∧ q.2 = nth P (q.1 - i)
  | [], _, _, h => by cases h
  | p :: r, i, q, h => by
    rcases List.mem_cons.mp h with rfl | h
    · refine ⟨Nat.le_refl _, by show i < i + (r.length + 1); omega, ?_⟩
      show p = nth (p :: r) (i - i)
      rw [Nat.sub_self]
      rfl
    · obtain ⟨h1, h2, h3⟩ := en_nth r (i + 1) q h
      refine ⟨by omega, by rw [List.length_cons]; omega, ?_⟩
      rw [h3]
      obtain ⟨k, hk⟩ : ∃ k, q.1 - i = k + 1 := ⟨q.1 - i - 1, by omega⟩
      have : q.1 - (i + 1) = k := by omega
      rw [hk, this]
      rfl
theorem i_enum {cl : Str → List D → M D} {ρ : Q.Env} {st st1 : List D} {a : E} {x : D} {xs : List D} (h : evE cl a ρ st = .ok x st1) (hx : itemsOf x = some xs) : evI cl (.enum a) ρ st = .ok (enumD xs 0) st1 := by
  show M.bind (evE cl a ρ) (fun x => match itemsOf x with
    | some xs => M.pure (enumD xs 0)
    | none => M.stuck) st = _
  rw [bind_eq h, hx]
  rfl
def others (left : List Nat) (a : Nat) : List Nat := left.filter fun o => !decide (o = a)
noncomputable def turn (P : List W) (ns : List Str) (left : List Nat) (q : Nat × W) : List Nat :=
  if (others left q.1).any (fun o => inst q.2 (nth P o) ns) then others left q.1 else left
noncomputable def lft (P : List W) (ns : List Str) : List Nat := (en P 0).foldl (turn P ns) (List.range P.length)
def encI (l : List Nat) : List D := l.map fun i => D.int (i : Nat)
theorem turn_sub {P : List W} {ns : List Str} {left : List Nat} {q : Nat × W} : ∀ o ∈ turn P ns left q, o ∈ left := fun o ho => by
  unfold turn at ho
  split at ho
  · exact (List.mem_filter.mp ho).1
  · exact ho
theorem fold_sub {P : List W} {ns : List Str} : ∀ (l : List (Nat × W)) (left : List Nat), ∀ o ∈ l.foldl (turn P ns) left, o ∈ left
  | [], _, o, ho => ho
  | q :: l, left, o, ho => turn_sub o (fold_sub l _ o ho)
theorem fold_len {P : List W} {ns : List Str} : ∀ (l : List (Nat × W)) (left : List Nat), (l.foldl (turn P ns) left).length ≤ left.length
  | [], _ => Nat.le_refl _
  | q :: l, left => by
    refine Nat.le_trans (fold_len l _) ?_
    unfold turn
    split
    · exact List.length_filter_le _ _
    · exact Nat.le_refl _
theorem ix_put {P : List W} {o : Nat} (h : o < P.length) (st : List D) : ixM (encPP P) (.int (o : Nat)) st = .ok (encPut (nth P o)) st := by
  have e : opIx (encPP P) (.int (o : Nat)) = some (encPut (nth P o)) := by
    show (P.map encPut)[o]? = _
    unfold nth
    rw [List.getElem?_map, List.getElem?_eq_getElem h]
    rfl
  show (match opIx (encPP P) (.int (o : Nat)) with
      | some d => (.ok d st : Q.Res D)
      | none => .stuck) = _
  rw [e]
theorem i_encI {cl : Str → List D → M D} {ρ : Q.Env} {st : List D} {i : Nat} {l : List Nat} (h : getE ρ i st = .ok (.lst (encI l)) st) : evI cl (.plain (.slot i)) ρ st = .ok (l.map fun i => D.int (i : Nat)) st := i_plain' h rfl
theorem i_encIT {cl : Str → List D → M D} {ρ : Q.Env} {st : List D} {i : Nat} {l : List Nat} (h : getE ρ i st = .ok (.tup (encI l)) st) : evI cl (.plain (.slot i)) ρ st = .ok (l.map fun i => D.int (i : Nat)) st := i_plain' h rfl
theorem x_others {cl : Str → List D → M D} {ρ : Q.Env} {st : List D} {i a o : Nat} {l : List Nat} {c : Nat} (h : getE ρ i st = .ok (.lst (encI l)) st) (h1 : ∀ (s : List D) (d : D), getE ((wipeE ρ [o]).set o (some d)) o s = .ok d s) (h2 : ∀ (s : List D) (d : D), getE ((wipeE ρ [o]).set o (some d)) a s = .ok (.int (c : Nat)) s) (hl : l.length ≤ 1000) :
    evE cl (.lc (.slot o) (.slot o) (.plain (.slot i)) (.cmp .ne (.slot o) (.slot a)) [o]) ρ st = .ok (.lst (encI (others l c))) st := by
  refine x_lcf (l := l) (φ := fun i => D.int (i : Nat)) (p := fun o => !decide (o = c)) (g := fun i => D.int (i : Nat)) (i_encI h) (fun m _ s => ?_) (le_lim hl)
  exact lc_if (k := !decide (m = c)) rfl (x_cmp (h1 s _) (h2 s _) ne_nats) fun _ => h1 s _
theorem lrg_eq {n : Nat} {cl : Str → List D → M D} {ρ : Q.Env} {st : List D} {a : E} (h : evE cl a ρ st = .ok (.int (n : Nat)) st) (hn : n ≤ 1000) : evE cl (.lrg a) ρ st = .ok (.lst (encI (List.range n))) st := by
  show M.bind (evE cl a ρ) (fun x => match x with
    | .int n => M.bind (M.ofO (rangeD 0 n)) fun xs => M.pure (D.lst xs)
    | _ => M.stuck) st = _
  rw [bind_eq h]
  show M.bind (M.ofO (rangeD 0 (n : Nat))) (fun xs => M.pure (D.lst xs)) st = _
  rw [bind_eq (ofO_eq (range_eq hn))]
  rfl
theorem len_PP (P : List W) : opBi .len [encPP P] = some (.int P.length) := by
  show some (D.int (P.map encPut).length) = _
  rw [List.length_map]
theorem others_sub {l : List Nat} {c : Nat} : ∀ o ∈ others l c, o ∈ l := fun o h => (List.mem_filter.mp h).1
theorem others_len (l : List Nat) (c : Nat) : (others l c).length ≤ l.length := List.length_filter_le _ _
theorem fold_pre (P : List W) (ns : List Str) (pre : List (Nat × W)) (q : Nat × W) (l : List Nat) : (pre ++ [q]).foldl (turn P ns) l = turn P ns (pre.foldl (turn P ns) l) q := by
  rw [List.foldl_append]
  rfl
theorem spared_puts (P : List W) (ns : List Str) (hP : AP P) (hn : NG ns) : Ret 13 "spared_puts" [encPP P, encN ns] (.tup (encI (lft P ns))) := by
  refine ret_of (d := d_spared_puts.fn) (k := 12) rfl rfl fun n st => ?_
  have hl := hP.2
  refine r_expr (x_call (x_one rfl) ((need_puts P hP).mono (k' := 12) (by omega) n st)) (r_expr (x_call (x_one rfl) ((need_names ns hn).mono (k' := 12) (by omega) n st)) ?_)
  refine r_expr (st1 := st) (x_call (xs := [.lst ((P.map fun p => forms p ns).map encF)]) (x_one ?_) ((need_all_sizes (P.map fun p => forms p ns) ?_).mono (k' := 12) (by omega) n st)) ?_
  · rw [List.map_map]
    refine x_lcm (l := P) (φ := encPut) (g := fun p => encF (forms p ns)) ?_ (fun p hp s => ?_) (le_lim (by omega))
    · exact i_plain' (x := encPP P) rfl rfl
    · exact lc_elt rfl rfl (x_call (xs := [encPut p, encN ns]) rfl ((forms_for p ns (hP.1 p hp) hn).mono (k' := 12) (by omega) n s))
  · intro fs hf
    obtain ⟨p, hp, rfl⟩ := List.mem_map.mp hf
    refine ⟨FG_forms (hP.1 p hp) hn, ?_⟩
    have := NG_len hn
    rw [forms_len]
    omega
  refine r_set (d := .lst (encI (List.range P.length))) (lrg_eq (x_bi (xs := [encPP P]) rfl (len_PP P)) (by omega)) rfl ?_
  refine r_for (st1 := st) (l := en P 0) (φ := encEn) (I := fun pre ρ => ∃ a b c d, ρ = [some (encPP P), some (encN ns), some (.lst (encI (pre.foldl (turn P ns) (List.range P.length)))), a, b, c, d]) ?_ (fun pre q post e ρ hc => ?_) ⟨_, _, _, _, rfl⟩ fun ρ' hc => ?_
  · rw [← en_enc]
    exact i_enum (x := encPP P) rfl rfl
  · obtain ⟨a, b, c, d, rfl⟩ := hc
    have hq := en_nth P 0 q (mem_mid e)
    have hqp : PG q.2 := by rw [hq.2.2]; exact hP.1 _ (nth_mem (by omega))
    have hlt : ∀ o ∈ pre.foldl (turn P ns) (List.range P.length), o < P.length := fun o ho => List.mem_range.mp (fold_sub pre _ o ho)
    have hln : (pre.foldl (turn P ns) (List.range P.length)).length ≤ P.length := Nat.le_trans (fold_len pre _) (by rw [List.length_range]; exact Nat.le_refl _)
    rw [fold_pre]
    generalize pre.foldl (turn P ns) (List.range P.length) = left at hlt hln ⊢
    have ho := others_len left q.1
    have e1 : evE (callP T (n + 12)) (.lc (.slot 6) (.slot 6) (.plain (.slot 2)) (.cmp .ne (.slot 6) (.slot 3)) [6]) [some (encPP P), some (encN ns), some (.lst (encI left)), some (.int (q.1 : Nat)), some (encPut q.2), c, d] st = .ok (.lst (encI (others left q.1))) st :=
      x_others (c := q.1) rfl (fun s d => rfl) (fun s d => rfl) (by omega)
    have e2 : evE (callP T (n + 12)) (.bi .any (.econs (.lc (.cmp .ne (.call "leads_for" (.econs (.slot 4) (.econs (.idx (.slot 0) (.slot 6)) (.econs (.slot 1) .enil)))) (.lst .enil)) (.slot 6) (.plain (.slot 5)) (.const (.bl true)) [6]) .enil))
        [some (encPP P), some (encN ns), some (.lst (encI left)), some (.int (q.1 : Nat)), some (encPut q.2), some (.lst (encI (others left q.1))), d] st = .ok (.bl ((others left q.1).any fun o => inst q.2 (nth P o) ns)) st := by
      refine x_bi (st1 := st) (xs := [.lst ((others left q.1).map fun o => .bl (inst q.2 (nth P o) ns))]) (x_one (x_lcm (l := others left q.1) (φ := fun i => D.int (i : Nat)) (g := fun o => .bl (inst q.2 (nth P o) ns)) (i_encI rfl) (fun o hm s => ?_) (le_lim (by omega)))) (any_bl _ _)
      have hol := hlt o (others_sub o hm)
      obtain ⟨r, hr, h⟩ := leads_for q.2 (nth P o) ns hqp (hP.1 _ (nth_mem hol)) hn
      refine lc_elt rfl rfl (x_cmp (x := .lst r) (y := .lst []) (x_call (xs := [encPut q.2, encPut (nth P o), encN ns]) (x_three rfl (x_idx rfl rfl (ix_put hol s)) rfl) (h.mono (k' := 12) (by omega) n s)) rfl ?_)
      rw [ne_lnil, hr]
    cases hk : (others left q.1).any fun o => inst q.2 (nth P o) ns with
    | true =>
      rw [hk] at e2
      refine ⟨_, b_set e1 rfl (r_if (k := true) e2 (fun _ => rfl) fun z => by cases z), some (.int (q.1 : Nat)), some (encPut q.2), some (.lst (encI (others left q.1))), d, ?_⟩
      unfold turn
      rw [hk]
      rfl
    | false =>
      rw [hk] at e2
      refine ⟨_, b_set e1 rfl (r_if (k := false) e2 (fun z => by cases z) fun _ => rfl), some (.int (q.1 : Nat)), some (encPut q.2), some (.lst (encI (others left q.1))), d, ?_⟩
      unfold turn
      rw [hk]
      rfl
  · obtain ⟨a, b, c, d, rfl⟩ := hc
    exact r_ret rfl
end K59
end
section
set_option Elab.async false
set_option linter.all false
set_option maxRecDepth 100000
set_option maxHeartbeats 2000000
namespace K59
open Q
open PySem (Str)
theorem turn_ne {P : List W} {ns : List Str} {left : List Nat} {q : Nat × W} (h : left ≠ []) : turn P ns left q ≠ [] := by
  unfold turn
  cases hk : (others left q.1).any fun o => inst q.2 (nth P o) ns with
  | true =>
    intro e
    have e : others left q.1 = [] := e
    rw [e] at hk
    cases hk
  | false => exact h
theorem fold_ne {P : List W} {ns : List Str} : ∀ (l : List (Nat × W)) (left : List Nat), left ≠ [] → l.foldl (turn P ns) left ≠ []
  | [], _, h => h
  | q :: l, left, h => fold_ne l _ (turn_ne h)
theorem lft_nil (P : List W) (ns : List Str) : (lft P ns = []) ↔ P = [] := by
  constructor
  · intro h
    refine Classical.byContradiction fun hn => ?_
    refine fold_ne (P := P) (ns := ns) (en P 0) (List.range P.length) (fun e => hn ?_) h
    have := congrArg List.length e
    rw [List.length_range] at this
    exact List.length_eq_zero_iff.mp this
  · rintro rfl
    rfl
theorem lft_lt {P : List W} {ns : List Str} : ∀ o ∈ lft P ns, o < P.length := fun o ho => List.mem_range.mp (fold_sub _ _ o ho)
theorem lft_len (P : List W) (ns : List Str) : (lft P ns).length ≤ P.length := Nat.le_trans (fold_len _ _) (by rw [List.length_range]; exact Nat.le_refl _)
theorem en_mem : ∀ (P : List W) (i a : Nat), a < P.length → (i + a, nth P a) ∈ en P i
  | [], _, _, h => by cases h
  | p :: r, i, 0, _ => List.mem_cons_self
  | p :: r, i, a + 1, h => by
    have := en_mem r (i + 1) a (Nat.lt_of_succ_lt_succ h)
    rw [show i + 1 + a = i + (a + 1) by omega] at this
    exact List.mem_cons_of_mem _ this
theorem lft_apart {P : List W} {ns : List Str} {a o : Nat} (ha : a ∈ lft P ns) (ho : o ∈ lft P ns) (hne : o ≠ a) : inst (nth P a) (nth P o) ns = false := by
  have hm := en_mem P 0 a (lft_lt a ha)
  rw [Nat.zero_add] at hm
  obtain ⟨pre, post, e⟩ := List.append_of_mem hm
  have e2 : lft P ns = post.foldl (turn P ns) (turn P ns (pre.foldl (turn P ns) (List.range P.length)) (a, nth P a)) := by
    unfold lft
    rw [e, List.foldl_append]
    rfl
  rw [e2] at ha ho
  have ha := fold_sub _ _ a ha
  have ho := fold_sub _ _ o ho
  generalize pre.foldl (turn P ns) (List.range P.length) = left at ha ho
  have ho' := turn_sub o ho
  unfold turn at ha
  dsimp only at ha
  cases hk : (others left a).any fun o => inst (nth P a) (nth P o) ns with
  | true =>
    rw [if_pos hk] at ha
    have := (List.mem_filter.mp ha).2
    rw [decide_eq_true rfl] at this
    cases this
  | false =>
    have := List.any_eq_false.mp hk o (List.mem_filter.mpr ⟨ho', by rw [decide_eq_false hne]; rfl⟩)
    simpa using this
theorem fold_led {P : List W} {ns : List Str} : ∀ (l : List (Nat × W)) (left : List Nat), (∀ q ∈ l, q.2 = nth P q.1) → (∀ a, a < P.length → a ∉ left → ∃ o ∈ left, inst (nth P a) (nth P o) ns = true) → ∀ a, a < P.length → a ∉ l.foldl (turn P ns) left → ∃ o ∈ l.foldl (turn P ns) left, inst (nth P a) (nth P o) ns = true
  | [], left, _, h => h
  | q :: l, left, hq, h => by
    refine fold_led l (turn P ns left q) (fun q' hq' => hq q' (List.mem_cons_of_mem _ hq')) fun a ha hn => ?_
    have hq2 := hq q List.mem_cons_self
    unfold turn at hn ⊢
    cases hk : (others left q.1).any fun o => inst q.2 (nth P o) ns with
    | false =>
      rw [hk, if_neg (by simp)] at hn
      rw [if_neg (by simp)]
      exact h a ha hn
    | true =>
      rw [hk, if_pos rfl] at hn
      rw [if_pos rfl]
      obtain ⟨o, ho, hi⟩ := List.any_eq_true.mp hk
      rw [hq2] at hi
      by_cases haq : a = q.1
      · exact ⟨o, ho, by rw [haq]; exact hi⟩
      · have hal : a ∉ left := fun hm => hn (List.mem_filter.mpr ⟨hm, by rw [decide_eq_false haq]; rfl⟩)
        obtain ⟨o', ho', hi'⟩ := h a ha hal
        by_cases e : o' = q.1
        · exact ⟨o, ho, inst_trans hi' (by rw [e]; exact hi)⟩
        · exact ⟨o', List.mem_filter.mpr ⟨ho', by rw [decide_eq_false e]; rfl⟩, hi'⟩
theorem lft_led {P : List W} {ns : List Str} {a : Nat} (ha : a < P.length) (hn : a ∉ lft P ns) : ∃ o ∈ lft P ns, inst (nth P a) (nth P o) ns = true := by
  refine fold_led (en P 0) (List.range P.length) (fun q hq => ?_) (fun a ha hn => absurd (List.mem_range.mpr ha) hn) a ha hn
  have := (en_nth P 0 q hq).2.2
  rw [Nat.sub_zero] at this
  exact this
theorem pl_encI : ∀ l : List Nat, D.plL (encI l) = true
  | [] => rfl
  | a :: l => pl_encI l
theorem dp_encI : ∀ l : List Nat, D.dpL (encI l) = 0
  | [] => rfl
  | a :: l => by
    show max 0 (D.dpL (encI l)) = 0
    rw [dp_encI l]
    rfl
theorem plain_encI (l : List Nat) : (D.tup (encI l)).isPlain = true := by
  show (D.plL (encI l) && Nat.ble (D.dpL (encI l) + 1) 150) = true
  rw [pl_encI, dp_encI]
  rfl
theorem plain_PP {P : List W} (h : AP P) : (encPP P).isPlain = true := by
  have key : ∀ P : List W, (∀ p ∈ P, PG p) → D.plL (P.map encPut) = true ∧ D.dpL (P.map encPut) ≤ 8 := by
    intro P
    induction P with
    | nil => exact fun _ => ⟨rfl, Nat.zero_le _⟩
    | cons p P ih =>
      intro h
      obtain ⟨h1, h2⟩ := ih fun q hq => h q (List.mem_cons_of_mem _ hq)
      have hk := key_put (p := p) fun q hq => Nat.le_succ_of_le ((h p List.mem_cons_self).2 q hq).1
      unfold D.isKey at hk
      rw [Bool.and_eq_true] at hk
      have h3 := Nat.le_of_ble_eq_true hk.2
      have h4 : D.pl (encPut p) = true := by
        have : ∀ l : W, D.plL (l.map encE) = true := by
          intro l
          induction l with
          | nil => rfl
          | cons q l ih =>
            show (D.pl (encE q) && D.plL (l.map encE)) = true
            rw [ih]
            simp [encE, D.pl, D.plL, pl_enc]
        exact this p
      rw [List.map_cons, D.plL, D.dpL, h1, h4]
      exact ⟨rfl, Nat.max_le.mpr ⟨h3, h2⟩⟩
  obtain ⟨h1, h2⟩ := key P h.1
  show (D.plL (P.map encPut) && Nat.ble (D.dpL (P.map encPut) + 1) 150) = true
  rw [h1, Nat.ble_eq_true_of_le (by omega)]
  rfl
theorem any_int (a : Nat) : ∀ l : List Nat, ((encI l).any fun y => D.beq y (.int (a : Nat))) = decide (a ∈ l)
  | [] => by rfl
  | b :: l => by
    show (D.beq (.int (b : Nat)) (.int (a : Nat)) || (encI l).any fun y => D.beq y (.int (a : Nat))) = _
    rw [any_int a l, nat_cast_beq]
    by_cases h : b = a
    · simp [h]
    · simp [h, Ne.symm h]
theorem notin_int {a : Nat} {l : List Nat} : opC .notin (.int (a : Nat)) (.tup (encI l)) = some (!decide (a ∈ l)) := by
  have hp : (encI l).all D.isPlain = true := List.all_eq_true.mpr fun d hd => by
    obtain ⟨i, _, rfl⟩ := List.mem_map.mp hd
    rfl
  show (match (D.int (a : Nat)).isPlain && (encI l).all D.isPlain with
    | true => some ((encI l).any fun y => D.beq y (.int (a : Nat)))
    | false => none).map (!·) = _
  rw [plain_int, hp, any_int]
  rfl
theorem eq_lnil (xs : List D) : opC .eq (.lst xs) (.lst []) = some xs.isEmpty := by
  show (match (D.lst xs).isPlain && (D.lst []).isPlain with
    | true => some (D.beq (.lst xs) (.lst []))
    | false => eqNil (.lst xs) (.lst [])) = _
  cases (D.lst xs).isPlain && (D.lst []).isPlain with
  | true => cases xs <;> rfl
  | false => rfl
theorem ne_tnil {xs : List D} (h : (D.tup xs).isPlain = true) : opC .ne (.tup xs) (.tup []) = some (!xs.isEmpty) := by
  rw [ne_plain h rfl]
  cases xs <;> rfl
theorem encI_nil (l : List Nat) : (encI l).isEmpty = l.isEmpty := by cases l <;> rfl
theorem x_insts {n : Nat} {ρ : Q.Env} {st : List D} {i : Nat} {ae : E} {a : W} {P : List W} {ns : List Str} {l : List Nat} (hP : AP P) (hn : NG ns) (ha : PG a) (hi : evI (callP T (n + 13)) (.plain (.slot i)) ρ st = .ok (l.map fun i => D.int (i : Nat)) st) (h8 : ∀ (s : List D) (d : D), getE ((wipeE ρ [8]).set 8 (some d)) 8 s = .ok d s) (ha' : ∀ (s : List D) (d : D), evE (callP T (n + 13)) ae ((wipeE ρ [8]).set 8 (some d)) s = .ok (encPut a) s) (h0 : ∀ (s : List D) (d : D), getE ((wipeE ρ [8]).set 8 (some d)) 0 s = .ok (encPP P) s) (h1 : ∀ (s : List D) (d : D), getE ((wipeE ρ [8]).set 8 (some d)) 1 s = .ok (encN ns) s) (hl : l.length ≤ 1000) (hlt : ∀ o ∈ l, o < P.length) :
    evE (callP T (n + 13)) (.lc (.slot 8) (.slot 8) (.plain (.slot i)) (.call "is_instance" (.econs ae (.econs (.idx (.slot 0) (.slot 8)) (.econs (.slot 1) .enil)))) [8]) ρ st = .ok (.lst (encI (l.filter fun o => inst a (nth P o) ns))) st := by
  refine x_lcf (l := l) (φ := fun i => D.int (i : Nat)) (p := fun o => inst a (nth P o) ns) (g := fun i => D.int (i : Nat)) hi (fun m hm s => ?_) (le_lim hl)
  exact lc_if (k := inst a (nth P m) ns) rfl (x_call (xs := [encPut a, encPut (nth P m), encN ns]) (x_three (ha' s _) (x_idx (h0 s _) (h8 s _) (ix_put (hlt m hm) s)) (h1 s _)) ((is_instance a (nth P m) ns ha (hP.1 _ (nth_mem (hlt m hm))) hn).mono (k' := 13) (by omega) n s)) fun _ => h8 s _
theorem filter_any {α : Type} (p : α → Bool) : ∀ l : List α, (!(l.filter p).isEmpty) = l.any p
  | [] => rfl
  | a :: l => by
    rw [List.filter_cons, List.any_cons, ← filter_any p l]
    cases p a <;> rfl
theorem law_right (P : List W) (ns : List Str) (hP : AP P) (hn : NG ns) : Ret 14 "_law_right" [encPP P, encN ns] (.bl true) := by
  refine ret_of (d := d__law_right.fn) (k := 13) rfl rfl fun n st => ?_
  have hl := hP.2
  refine r_set (st1 := st) (d := .tup [.tup (encI (lft P ns)), .lst (encI (List.range P.length))]) (x_tup (x_two (x_call (xs := [encPP P, encN ns]) rfl (spared_puts P ns hP hn n st)) (lrg_eq (x_bi (xs := [encPP P]) rfl (len_PP P)) (by omega))) rfl) rfl ?_
  refine r_for (st1 := st) (l := en P 0) (φ := encEn) (I := fun pre ρ => ∃ a b c d, ρ = [some (encPP P), some (encN ns), a, none, some (.tup (encI (lft P ns))), some (.lst (encI (pre.foldl (turn P ns) (List.range P.length)))), b, c, d]) ?_ (fun pre q post e ρ hc => ?_) ⟨_, _, _, _, rfl⟩ fun ρ' hc => ?_
  · rw [← en_enc]
    exact i_enum (x := encPP P) rfl rfl
  · obtain ⟨a, b, c, d, rfl⟩ := hc
    have hq := en_nth P 0 q (mem_mid e)
    have hqp : PG q.2 := by rw [hq.2.2]; exact hP.1 _ (nth_mem (by omega))
    have hlt : ∀ o ∈ pre.foldl (turn P ns) (List.range P.length), o < P.length := fun o ho => List.mem_range.mp (fold_sub pre _ o ho)
    have hln : (pre.foldl (turn P ns) (List.range P.length)).length ≤ P.length := Nat.le_trans (fold_len pre _) (by rw [List.length_range]; exact Nat.le_refl _)
    rw [fold_pre]
    generalize pre.foldl (turn P ns) (List.range P.length) = left at hlt hln ⊢
    generalize lft P ns = told
    have ho := others_len left q.1
    have e1 : evE (callP T (n + 13)) (.lc (.slot 8) (.slot 8) (.plain (.slot 5)) (.cmp .ne (.slot 8) (.slot 2)) [8]) [some (encPP P), some (encN ns), some (.int (q.1 : Nat)), none, some (.tup (encI told)), some (.lst (encI left)), some (encPut q.2), c, d] st = .ok (.lst (encI (others left q.1))) st :=
      x_others (c := q.1) rfl (fun s d => rfl) (fun s d => rfl) (by omega)
    have e2 : evE (callP T (n + 13)) (.cmp .ne (.lc (.slot 8) (.slot 8) (.plain (.slot 7)) (.call "is_instance" (.econs (.slot 6) (.econs (.idx (.slot 0) (.slot 8)) (.econs (.slot 1) .enil)))) [8]) (.lst .enil))
        [some (encPP P), some (encN ns), some (.int (q.1 : Nat)), none, some (.tup (encI told)), some (.lst (encI left)), some (encPut q.2), some (.lst (encI (others left q.1))), d] st = .ok (.bl ((others left q.1).any fun o => inst q.2 (nth P o) ns)) st := by
      refine x_cmp (x_insts (a := q.2) (P := P) (ns := ns) (l := others left q.1) hP hn hqp (i_encI rfl) (fun s d => rfl) (fun s d => rfl) (fun s d => rfl) (fun s d => rfl) (by omega) fun o hm => hlt o (others_sub o hm)) (y := .lst []) rfl ?_
      rw [ne_lnil, encI_nil, filter_any]
    cases hk : (others left q.1).any fun o => inst q.2 (nth P o) ns with
    | true =>
      rw [hk] at e2
      refine ⟨_, b_set e1 rfl (r_if (k := true) e2 (fun _ => rfl) fun z => by cases z), some (.int (q.1 : Nat)), some (encPut q.2), some (.lst (encI (others left q.1))), d, ?_⟩
      unfold turn
      rw [hk]
      rfl
    | false =>
      rw [hk] at e2
      refine ⟨_, b_set e1 rfl (r_if (k := false) e2 (fun z => by cases z) fun _ => rfl), some (.int (q.1 : Nat)), some (encPut q.2), some (.lst (encI (others left q.1))), d, ?_⟩
      unfold turn
      rw [hk]
      rfl
  obtain ⟨a, b, c, d, rfl⟩ := hc
  have hlt := lft_lt (P := P) (ns := ns)
  have hln := lft_len P ns
  have hnil : (lft P ns).isEmpty = P.isEmpty := by
    have h := lft_nil P ns
    cases hz : lft P ns with
    | nil => rw [h.mp hz]; rfl
    | cons x y =>
      cases hp : P with
      | nil => rw [h.mpr hp] at hz; cases hz
      | cons p r => rfl
  have hap := fun a o => lft_apart (P := P) (ns := ns) (a := a) (o := o)
  have hled := fun a => lft_led (P := P) (ns := ns) (a := a)
  show fin (evS _ _ [some (encPP P), some (encN ns), a, none, some (.tup (encI (lft P ns))), some (.lst (encI (lft P ns))), b, c, d] st) = _
  generalize lft P ns = told at hlt hln hnil hap hled ⊢
  refine r_ifF (x_orF (x_cmp (k := false) (x := .tup (encI told)) (y := .tup (encI told)) rfl (x_bi (xs := [.lst (encI told)]) rfl rfl) ?_) (x_cmp (k := false) (x := .bl (!P.isEmpty)) (y := .bl (!P.isEmpty)) (x_cmp (x := encPP P) (y := .tup []) rfl rfl ?_) (x_cmp (x := .tup (encI told)) (y := .tup []) rfl rfl ?_) ?_)) ?_
  · rw [ne_plain (plain_encI told) (plain_encI told), D.beq_self]
    rfl
  · rw [show encPP P = .tup (P.map encPut) from rfl, ne_tnil (plain_PP hP)]
    cases P <;> rfl
  · rw [ne_tnil (plain_encI told), encI_nil, hnil]
  · cases P <;> rfl
  refine r_for (st1 := st) (l := told) (φ := fun i => D.int (i : Nat)) (I := fun pre ρ => ∃ a b c d, ρ = [some (encPP P), some (encN ns), a, none, some (.tup (encI told)), some (.lst (encI told)), b, c, d]) (i_encIT rfl) (fun pre at' post e ρ hc => ?_) ⟨_, _, _, _, rfl⟩ fun ρ' hc => ?_
  · obtain ⟨a, b, c, d, rfl⟩ := hc
    have hat := mem_mid e
    have hpa : PG (nth P at') := hP.1 _ (nth_mem (hlt at' hat))
    have e2 : evE (callP T (n + 13)) (.cmp .ne (.lc (.slot 8) (.slot 8) (.plain (.slot 4)) (.and (.cmp .ne (.slot 8) (.slot 2)) (.call "is_instance" (.econs (.idx (.slot 0) (.slot 2)) (.econs (.idx (.slot 0) (.slot 8)) (.econs (.slot 1) .enil))))) [8]) (.lst .enil))
        [some (encPP P), some (encN ns), some (.int (at' : Nat)), none, some (.tup (encI told)), some (.lst (encI told)), b, c, d] st = .ok (.bl false) st := by
      refine x_cmp (x := .lst (encI (told.filter fun _ => false))) (y := .lst []) (k := false) (x_lcf (l := told) (φ := fun i => D.int (i : Nat)) (p := fun _ => false) (g := fun i => D.int (i : Nat)) (i_encIT rfl) (fun m hm s => ?_) (le_lim (by omega))) rfl ?_
      · refine lc_if (k := false) rfl (x_and (k := !decide (m = at')) (x_cmp rfl rfl ne_nats) (fun hk => ?_) fun _ => ⟨rfl, rfl⟩) fun z => by cases z
        have hne : m ≠ at' := fun e => by rw [e, decide_eq_true rfl] at hk; cases hk
        have := is_instance (nth P at') (nth P m) ns hpa (hP.1 _ (nth_mem (hlt m hm))) hn
        rw [hap at' m hat hm hne] at this
        exact x_call (xs := [encPut (nth P at'), encPut (nth P m), encN ns]) (x_three (x_idx rfl rfl (ix_put (hlt at' hat) s)) (x_idx rfl rfl (ix_put (hlt m hm) s)) rfl) (this.mono (k' := 13) (by omega) n s)
      · rw [ne_lnil, List.filter_eq_nil_iff.mpr fun _ _ h => by cases h]
        rfl
    exact ⟨_, r_if (k := false) e2 (fun z => by cases z) fun _ => rfl, _, _, _, _, rfl⟩
  obtain ⟨a, b, c, d, rfl⟩ := hc
  have eg : evE (callP T (n + 13)) (.lc (.slot 2) (.slot 2) (.range (.bi .len (.econs (.slot 0) .enil))) (.cmp .notin (.slot 2) (.slot 4)) [2]) [some (encPP P), some (encN ns), a, none, some (.tup (encI told)), some (.lst (encI told)), b, c, d] st = .ok (.lst (encI ((List.range P.length).filter fun o => !decide (o ∈ told)))) st := by
    refine x_lcf (l := List.range P.length) (φ := fun i => D.int (i : Nat)) (p := fun o => !decide (o ∈ told)) (g := fun i => D.int (i : Nat)) (i_range (x_bi (xs := [encPP P]) rfl (len_PP P)) (by omega)) (fun m _ s => ?_) (by rw [List.length_range]; exact le_lim (by omega))
    exact lc_if (k := !decide (m ∈ told)) rfl (x_cmp rfl rfl notin_int) fun _ => rfl
  refine r_set eg rfl ?_
  have hg : ∀ o ∈ (List.range P.length).filter fun o => !decide (o ∈ told), o < P.length ∧ o ∉ told := fun o ho => by
    have := List.mem_filter.mp ho
    refine ⟨List.mem_range.mp this.1, fun hm => ?_⟩
    have h2 := this.2
    rw [decide_eq_true hm] at h2
    cases h2
  have hgl : ((List.range P.length).filter fun o => !decide (o ∈ told)).length ≤ 1000 := by
    have := List.length_filter_le (fun o => !decide (o ∈ told)) (List.range P.length)
    rw [List.length_range] at this
    omega
  generalize (List.range P.length).filter (fun o => !decide (o ∈ told)) = gone at hg hgl ⊢
  refine r_ret (x_cmp (x := .lst (encI (gone.filter fun _ => false))) (y := .lst []) (x_lcf (l := gone) (φ := fun i => D.int (i : Nat)) (p := fun _ => false) (g := fun i => D.int (i : Nat)) (i_encI rfl) (fun m hm s => ?_) (le_lim hgl)) rfl ?_)
  · obtain ⟨h1, h2⟩ := hg m hm
    refine lc_if (k := false) rfl (x_cmp (x_insts (a := nth P m) (P := P) (ns := ns) (l := told) hP hn (hP.1 _ (nth_mem h1)) (i_encIT rfl) (fun s d => rfl) (fun s d => ?_) (fun s d => rfl) (fun s d => rfl) (by omega) hlt) (y := .lst []) rfl ?_) fun z => by cases z
    · exact x_idx rfl rfl (ix_put h1 s)
    · rw [eq_lnil, encI_nil]
      obtain ⟨o, ho, hi⟩ := hled m h1 h2
      have : (!(told.filter fun o => inst (nth P m) (nth P o) ns).isEmpty) = true := by
        rw [filter_any]
        exact List.any_eq_true.mpr ⟨o, ho, hi⟩
      cases hz : (told.filter fun o => inst (nth P m) (nth P o) ns).isEmpty with
      | true => rw [hz] at this; cases this
      | false => rfl
  · rw [eq_lnil, List.filter_eq_nil_iff.mpr fun _ _ h => by cases h]
    rfl
end K59
end
section
set_option Elab.async false
set_option linter.all false
set_option maxRecDepth 100000
set_option maxHeartbeats 2000000
namespace K59
open Q
open PySem (Str)
theorem l_parts (t : Tm) : Ret 1 "_law_parts" [enc t] (.tup (encs (parts t))) := by
  intro n st
  cases t <;> rfl
theorem i_lparts {k n i : Nat} {t : Tm} {ρ : Q.Env} {st : List D} (h : ρ[i]? = some (some (enc t))) (hk : 1 ≤ k) : evI (callP T (n + k)) (.plain (.call "_law_parts" (.econs (.slot i) .enil))) ρ st = .ok ((parts t).map enc) st :=
  i_plain' (x_call (x_one (by show getE ρ i st = _; unfold getE; rw [h]; rfl)) ((l_parts t).mono hk n st)) (by rw [← encs_map]; rfl)
theorem l_knots (t : Tm) (hs : size t ≤ 1000) : Ret (dep t + 2) "_law_knots" [enc t] (.int (size t)) := by
  refine ret_of (d := d__law_knots.fn) rfl rfl fun n st => ?_
  refine r_ret (x_op (x := .int 1) (y := .int (sizes (parts t))) rfl (x_bi (x_one (x_lcm (l := parts t) (g := fun p => .int (size p)) (i_lparts rfl (by omega)) (fun p hp s => lc_elt rfl rfl (x_call (x_one rfl) ?_)) (le_lim (parts_len hs)))) ?_) ?_)
  · have := dep_part hp
    have := part_size hp
    exact (l_knots p (by omega)).mono (by omega) n s
  · show (allInt _).map _ = _
    rw [allInt_map fun p => (size p : Int)]
    show some (D.int (sumI _)) = _
    rw [sum_sizes]
  · show some (D.int (1 + (sizes (parts t) : Nat))) = _
    rw [size_parts t]
    congr 2
    omega
termination_by dep t
decreasing_by exact dep_part hp
theorem flat_app (b : Bool) (l m : List Tm) : flat b (l ++ m) = flat b l ++ flat b m := List.flatMap_append
theorem l_gathered (b : Bool) (l : List Tm) (hd : deps l ≤ 3) (hl : sizes l ≤ 63) : Ret 1 "_law_gathered" [.str (gw b), .lst (encs l)] (.lst (encs (tsort (flat b l)))) := by
  refine ret_of (d := d__law_gathered.fn) (k := 0) rfl rfl fun n st => ?_
  refine r_set (d := .lst []) rfl rfl ?_
  refine r_for (st1 := st) (l := l) (φ := enc) (I := fun pre ρ => ∃ a, ρ = [some (.str (gw b)), some (.lst (encs l)), some (.lst (encs (flat b pre))), a]) (i_plain' (x := .lst (encs l)) rfl (by rw [← encs_map]; rfl)) (fun pre t post e ρ hc => ?_) ⟨_, rfl⟩ fun ρ' hc => ?_
  · obtain ⟨a, rfl⟩ := hc
    have h1 : sizes (flat b pre) + size t ≤ 63 := by
      have h2 : sizes (pre ++ t :: post) = sizes l := by rw [e]
      rw [sizes_app, sizes] at h2
      have := sizes_flat b pre
      omega
    have h3 := len_sizes (flat b pre)
    have h4 := mem_len b t
    have ei : evE (callP T (n + 0)) (.ite (.cmp .eq (.idx (.slot 3) (.const (.int 0))) (.slot 0)) (.bi .list (.econs (.idx (.slot 3) (.const (.int 1))) .enil)) (.lst (.econs (.slot 3) .enil))) [some (.str (gw b)), some (.lst (encs l)), some (.lst (encs (flat b pre))), some (enc t)] st = .ok (.lst (encs (mem b t))) st := by
      refine x_ite (st1 := st) (k := decide (word t = gw b)) (x_cmp (x := .str (word t)) (y := .str (gw b)) (x_idx (x := enc t) (y := .int 0) rfl rfl ?_) rfl rfl) (fun h => ?_) fun h => ?_
      · cases t <;> rfl
      · obtain ⟨us, rfl⟩ := word_of (of_decide_eq_true h)
        rw [mem_mk]
        exact x_bi (xs := [.tup (encs us)]) (x_one (x_idx (x := enc (mk b us)) (y := .int 1) rfl rfl (by cases b <;> rfl))) rfl
      · rw [mem_ne (of_decide_eq_false h)]
        rfl
    refine ⟨_, b_set (d := .lst (encs (flat b (pre ++ [t])))) (x_op (x := .lst (encs (flat b pre))) (y := .lst (encs (mem b t))) rfl ei ?_) rfl rfl, _, rfl⟩
    rw [add_lst (by rw [encs_len, encs_len]; exact le_lim (by omega)), ← encs_app, flat_app]
    congr 3
    show _ ++ mem b t = _ ++ (mem b t ++ [])
    rw [List.append_nil]
  · obtain ⟨a, rfl⟩ := hc
    exact r_ret (x_bi (xs := [.lst (encs (flat b l))]) rfl (sort_flat hd hl))
theorem l_normal_mk (b : Bool) (ts : List Tm) (hd : dep (mk b ts) ≤ 3) (hs : size (mk b ts) ≤ 63) (k : Nat) (hk : 2 ≤ k) (ih : ∀ p ∈ ts, Ret k "_law_normal" [enc p] (enc (nf p))) : Ret (k + 1) "_law_normal" [enc (mk b ts)] (enc (nf (mk b ts))) := by
  refine ret_of (d := d__law_normal.fn) rfl rfl fun n st => ?_
  have e : enc (mk b ts) = .tup [.str (gw b), .tup (encs ts)] := by cases b <;> rfl
  rw [dep_mk] at hd
  rw [size_mk] at hs
  have h1 := len_sizes ts
  have h3 := sizes_nfs ts
  have h4 := deps_nfs ts
  have e2 : encs (nfs ts) = ts.map fun p => enc (nf p) := by rw [encs_map]; show (apps .unk ts).map enc = _; rw [apps_map, List.map_map]; rfl
  refine r_set (st1 := st) (d := .lst (encs (nfs ts))) ?_ rfl ?_
  · rw [e2]
    refine x_lcm (l := ts) (φ := enc) (g := fun p => enc (nf p)) ?_ (fun p hp s => ?_) (le_lim (by omega))
    · have := i_lparts (k := k) (n := n) (i := 0) (t := mk b ts) (ρ := [some (enc (mk b ts)), none, none, none, none]) (st := st) rfl (by omega)
      rw [parts_mk] at this
      exact this
    · exact lc_elt rfl rfl (x_call (x_one rfl) (ih p hp n s))
  have w0 : ∀ (ρ : Q.Env) (s : List D), getE ρ 0 s = .ok (enc (mk b ts)) s → evE (callP T (n + k)) (.idx (.slot 0) (.const (.int 0))) ρ s = .ok (.str (gw b)) s := fun ρ s h => by
    have := word_ite (cl := callP T (n + k)) h
    rw [word_mk] at this
    exact this
  refine r_ifF (x_cmp (x := .str (gw b)) (k := false) (w0 _ st rfl) rfl (by cases b <;> rfl)) (r_ifF (x_cmp (x := .str (gw b)) (k := false) (w0 _ st rfl) rfl (by cases b <;> rfl)) (r_ifF (x_cmp (x := .str (gw b)) (k := false) (w0 _ st rfl) rfl (by cases b <;> rfl)) ?_))
  refine r_set (st1 := st) (d := .lst (encs (tsort (flat b (nfs ts))))) (x_call (xs := [.str (gw b), .lst (encs (nfs ts))]) (x_two (w0 _ st rfl) rfl) ((l_gathered b (nfs ts) (by omega) (by omega)).mono (k' := k) (by omega) n st)) rfl ?_
  have hln := len_nrm_flat b (nfs ts)
  have hlf := len_flat b (nfs ts)
  refine r_set (st1 := st) (d := .lst (encs (nrm b (flat b (nfs ts))))) ?_ rfl ?_
  · cases b with
    | true => exact x_iteF (x_cmp (x := .str "bag") (k := false) (w0 _ st rfl) rfl rfl) rfl
    | false =>
      have hs2 := sort_set (l := tsort (flat false (nfs ts))) (fun t h => Nat.le_trans (dep_flat (mem_tsort.mp h)) (by omega)) (by rw [tsort_len]; omega)
      have e3 : tset (tsort (flat false (nfs ts))) = tset (flat false (nfs ts)) := tset_uniq fun t => mem_tsort
      rw [e3] at hs2
      exact x_iteT (x_cmp (x := .str "set") (k := true) (w0 _ st rfl) rfl rfl) (x_bi (xs := [.set (encs (tded [] (tsort (flat false (nfs ts)))))]) (x_one (x_bi (xs := [.lst (encs (tsort (flat false (nfs ts))))]) rfl hs2.1)) hs2.2)
  have e4 : nf (mk b ts) = alone b (nrm b (flat b (nfs ts))) := by cases b <;> rfl
  rw [e4]
  generalize nrm b (flat b (nfs ts)) = m at hln
  refine r_ret (x_ite (st1 := st) (k := decide (m.length = 1)) (x_cmp (x := .int m.length) (y := .int (1 : Nat)) (x_bi (xs := [.lst (encs m)]) rfl ?_) rfl eq_nats) (fun h => ?_) fun h => ?_)
  · show some (D.int (encs m).length) = _
    rw [encs_len]
  · match m, of_decide_eq_true h with
    | [t], _ => exact x_idx rfl rfl rfl
  · rw [alone_ne (of_decide_eq_false h)]
    refine (x_tup (x_two (w0 _ st rfl) (x_bi (d := .tup (encs m)) (x_one rfl) rfl)) rfl).trans ?_
    cases b <;> rfl
theorem l_normal (t : Tm) (hd : dep t ≤ 3) (hs : size t ≤ 63) : Ret (dep t + 3) "_law_normal" [enc t] (enc (nf t)) := by
  have ih : ∀ p ∈ parts t, Ret (dep t + 2) "_law_normal" [enc p] (enc (nf p)) := fun p hp => by
    have h1 := dep_part hp
    have h2 := part_size hp
    exact (l_normal p (by omega) (by omega)).mono (by omega)
  cases t with
  | unk m => intro n st; rfl
  | con m => intro n st; rfl
  | free f ts =>
    refine ret_of (d := d__law_normal.fn) rfl rfl fun n st => ?_
    have h1 := len_sizes ts
    rw [size] at hs
    have e2 : encs (nfs ts) = ts.map fun p => enc (nf p) := by rw [encs_map]; show (apps .unk ts).map enc = _; rw [apps_map, List.map_map]; rfl
    refine r_set (st1 := st) (d := .lst (encs (nfs ts))) ?_ rfl ?_
    · rw [e2]
      refine x_lcm (l := ts) (φ := enc) (g := fun p => enc (nf p)) ?_ (fun p hp s => ?_) (le_lim (by omega))
      · exact i_lparts (i := 0) (t := .free f ts) rfl (by omega)
      · exact lc_elt rfl rfl (x_call (x_one rfl) (ih p hp n s))
    · exact r_ifT rfl (x_call (xs := [enc (.free f ts), .lst (encs (nfs ts))]) rfl rfl)
  | bag ts => exact l_normal_mk true ts hd hs _ (by omega) ih
  | set ts => exact l_normal_mk false ts hd hs _ (by omega) ih
termination_by dep t
decreasing_by exact dep_part hp
end K59
end
section
set_option Elab.async false
set_option linter.all false
set_option maxRecDepth 100000
set_option maxHeartbeats 2000000
namespace K59
open Q
open PySem (Str)
def Cup (st : List D) : Prop := ∃ a b : Int, 0 ≤ a ∧ 0 ≤ b ∧ b < 1099511627776 ∧ st = [.lst [.int a, .int b]]
def Rnd (k : Nat) (f : Str) (xs : List D) (Pr : D → Prop) : Prop := ∀ n st, Cup st → ∃ r st', callP T (n + k) f xs st = .ok r st' ∧ Cup st' ∧ Pr r
theorem Rnd.mono {k k' : Nat} {f : Str} {xs : List D} {Pr : D → Prop} (h : Rnd k f xs Pr) (hk : k ≤ k') : Rnd k' f xs Pr := fun n st hc => by
  have e : n + k' = (n + (k' - k)) + k := by omega
  rw [e]
  exact h _ _ hc
theorem rnd_of {f : Str} {d : Fn} {xs : List D} {k : Nat} {Pr : D → Prop} (hf : findFn f T = some d) (hl : Nat.beq xs.length d.ps = true) (h : ∀ n st, Cup st → ∃ r st', fin (evS (callP T (n + k)) d.body (xs.map some ++ List.replicate (d.n - xs.length) none) st) = .ok r st' ∧ Cup st' ∧ Pr r) : Rnd (k + 1) f xs Pr := fun n st hc => by
  obtain ⟨r, st', e, h1, h2⟩ := h n st hc
  refine ⟨r, st', ?_, h1, h2⟩
  show callP T ((n + k) + 1) f xs st = _
  rw [call_eq hf hl]
  exact e
section
variable {cl : Str → List D → M D} {ρ : Q.Env} {st st1 st2 st3 : List D}
theorem r_put {o i e : E} {r : S} {d : D} {n m : Nat} {xs : List D} {R : Q.Res D} (he : evE cl e ρ st = .ok d st1) (ho : evE cl o ρ st1 = .ok (.cell n) st2) (hi : evE cl i ρ st2 = .ok (.int (.ofNat m)) st3) (hs : st3[n]? = some (.lst xs)) (hm : Nat.blt m xs.length = true) (hr : fin (evS cl r ρ (st3.set n (.lst (xs.set m d)))) = R) : fin (evS cl (.put o i e r) ρ st) = R := by
  show fin (liftE (evE cl e) (fun d => liftE (evE cl o) fun x => liftE (evE cl i) fun k ρ st => match x, k with
    | .cell n, .int j => (match st[n]?, j with
      | some (.lst xs), .ofNat m => (match Nat.blt m xs.length with
        | true => evS cl r ρ (st.set n (.lst (xs.set m d)))
        | false => .stuck)
      | _, _ => .stuck)
    | _, _ => .stuck) ρ st) = _
  unfold liftE
  rw [he]
  dsimp only
  rw [ho]
  dsimp only
  rw [hi]
  dsimp only
  rw [hs]
  dsimp only
  rw [hm]
  exact hr
end
theorem mod_int {a : Int} {m : Nat} (hm : 1 ≤ m) : opB .mod (.int a) (.int m) = some (.int ((a.fmod m).toNat : Nat)) := by
  have h0 : (m : Int) ≠ 0 := by omega
  have h1 : 0 ≤ a.fmod m := Int.fmod_nonneg_of_pos a (by omega)
  show (match decide ((m : Int) = 0) with
    | true => none
    | false => some (D.int (a.fmod m))) = _
  rw [decide_eq_false h0]
  show some (D.int (a.fmod m)) = _
  congr 2
  omega
theorem mod_lt {a : Int} {m : Nat} (hm : 1 ≤ m) : (a.fmod m).toNat < m := by
  have h1 : 0 ≤ a.fmod m := Int.fmod_nonneg_of_pos a (by omega)
  have h2 : a.fmod m < m := Int.fmod_lt_of_pos a (by omega)
  omega
def isRoll (m : Nat) (d : D) : Prop := ∃ i : Nat, i < m ∧ d = .int i
theorem l_roll (m : Nat) (hm : 1 ≤ m) (hm2 : m ≤ 1000) : Rnd 1 "_law_roll" [.cell 0, .int m] (isRoll m) := by
  refine rnd_of (d := d__law_roll.fn) (k := 0) rfl rfl fun n st hc => ?_
  obtain ⟨a, b, ha, hb, hb2, rfl⟩ := hc
  by_cases h : 0 < a
  · have hd : opB .fdiv (.int a) (.int m) = some (.int (a.fdiv m)) := by
      show (match decide ((m : Int) = 0) || !Nat.blt (m : Int).natAbs 1073741824 with
        | true => none
        | false => some (D.int (a.fdiv m))) = _
      have h1 : Nat.blt (m : Int).natAbs 1073741824 = true := Nat.ble_eq_true_of_le (by omega)
      rw [decide_eq_false (by omega), h1]
      rfl
    refine ⟨.int ((a.fmod m).toNat : Nat), [.lst [.int (a.fdiv m), .int b]], ?_, ⟨a.fdiv m, b, Int.fdiv_nonneg ha (by omega), hb, hb2, rfl⟩, _, mod_lt hm, rfl⟩
    have hcnd : evE (callP T (n + 0)) (.cmp .gt (.idx (.slot 0) (.const (.int 0))) (.const (.int 0))) [some (.cell 0), some (.int m), none, none] [.lst [.int a, .int b]] = .ok (.bl true) [.lst [.int a, .int b]] := by
      refine x_cmp (x := .int a) (y := .int 0) (x_idx rfl rfl rfl) rfl ?_
      show some (decide (0 < a)) = _
      rw [decide_eq_true h]
    refine r_ifTa hcnd ?_ fun z => by cases z
    refine r_set (x_op (x := .int a) (y := .int m) (x_bi (xs := [.int a]) (x_one (x_idx rfl rfl rfl)) rfl) rfl (mod_int hm)) rfl ?_
    exact r_put (x_op (x := .int a) (y := .int m) (x_idx rfl rfl rfl) rfl hd) rfl rfl rfl rfl (r_ret rfl)
  · have hcnd : evE (callP T (n + 0)) (.cmp .gt (.idx (.slot 0) (.const (.int 0))) (.const (.int 0))) [some (.cell 0), some (.int m), none, none] [.lst [.int a, .int b]] = .ok (.bl false) [.lst [.int a, .int b]] := by
      refine x_cmp (x := .int a) (y := .int 0) (x_idx rfl rfl rfl) rfl ?_
      show some (decide (0 < a)) = _
      rw [decide_eq_false h]
    have mulc : ∀ x y : Int, y.natAbs < 18446744073709551616 → opB .mul (.int x) (.int y) = some (.int (x * y)) := fun x y hy => by
      show (match Nat.blt x.natAbs (2 ^ 64) || Nat.blt y.natAbs (2 ^ 64) with
        | true => some (D.int (x * y))
        | false => none) = _
      have : Nat.blt y.natAbs (2 ^ 64) = true := Nat.ble_eq_true_of_le hy
      rw [this, Bool.or_true]
    obtain ⟨b', hb', hlt⟩ : ∃ b' : Nat, ((b * 30997 + 7937).fmod (2147483579 : Nat)).toNat = b' ∧ b' < 2147483579 := ⟨_, rfl, mod_lt (by decide)⟩
    refine ⟨.int (((((((b' : Int) * ((b' : Int) + 199)).fmod (2147483587 : Nat)).toNat : Nat) : Int).fdiv 787).fmod m).toNat, [.lst [.int a, .int (b' : Nat)]], r_ifF hcnd ?_, ⟨a, (b' : Nat), ha, Int.natCast_nonneg _, by omega, rfl⟩, _, mod_lt hm, rfl⟩
    refine r_put (d := .int (b' : Nat)) (st1 := [.lst [.int a, .int b]]) (st2 := [.lst [.int a, .int b]]) (st3 := [.lst [.int a, .int b]]) (x_op (x := .int (b * 30997 + 7937)) (y := .int ((2147483579 : Nat) : Int)) (x_bi (xs := [.int (b * 30997 + 7937)]) (x_one (x_op (x := .int (b * 30997)) (y := .int 7937) (x_op (x := .int b) (y := .int 30997) (x_idx rfl rfl rfl) rfl (mulc b 30997 (by decide))) rfl rfl)) rfl) rfl ?_) rfl rfl rfl rfl ?_
    · rw [mod_int (by decide), hb']
    refine r_set (d := .int (((((b' : Int) * ((b' : Int) + 199)).fmod (2147483587 : Nat)).toNat : Nat))) (st1 := [.lst [.int a, .int (b' : Nat)]]) (x_op (x := .int ((b' : Int) * ((b' : Int) + 199))) (y := .int ((2147483587 : Nat) : Int)) (x_bi (xs := [.int ((b' : Int) * ((b' : Int) + 199))]) (x_one (x_op (x := .int (b' : Nat)) (y := .int ((b' : Int) + 199)) (x_idx rfl rfl rfl) (x_op (x := .int (b' : Nat)) (y := .int 199) (x_idx rfl rfl rfl) rfl rfl) (mulc _ _ (by omega)))) rfl) rfl (mod_int (by decide))) rfl ?_
    refine r_ret (x_op (x := .int ((((((b' : Int) * ((b' : Int) + 199)).fmod (2147483587 : Nat)).toNat : Nat) : Int).fdiv 787)) (y := .int m) (x_bi (xs := [.int ((((((b' : Int) * ((b' : Int) + 199)).fmod (2147483587 : Nat)).toNat : Nat) : Int).fdiv 787)]) (x_one (x_op (y := .int 787) rfl rfl rfl)) rfl) rfl (mod_int hm))
def itemsL : D → List D
  | .lst xs => xs
  | .tup xs => xs
  | _ => []
theorem l_some (xs : List D) (h1 : 1 ≤ xs.length) (h2 : xs.length ≤ 1000) : Rnd 2 "_law_some" [.cell 0, .lst xs] (fun d => d ∈ xs) := by
  refine rnd_of (d := d__law_some.fn) (k := 1) rfl rfl fun n st hc => ?_
  obtain ⟨r, st', e, hc', i, hi, rfl⟩ := l_roll xs.length h1 h2 n st hc
  refine ⟨xs[i], st', ?_, hc', List.getElem_mem hi⟩
  refine r_ret (x_idx (x := .lst xs) (y := .int i) rfl (x_call (xs := [.cell 0, .int xs.length]) (x_two rfl (x_bi (xs := [.lst xs]) rfl rfl)) e) ?_)
  show (match xs[i]? with
      | some d => (.ok d st' : Q.Res D)
      | none => .stuck) = _
  rw [List.getElem?_eq_getElem hi]
def isLeaf (d : D) : Prop := ∃ t : Tm, d = enc t ∧ dep t = 0 ∧ size t = 1 ∧ TG t
theorem TG_con {n : Str} (h : n = "a" ∨ n = "b" ∨ n = "c" ∨ n = "d") : TG (.con n) := ⟨Nat.zero_le _, by show 1 ≤ 11; decide, fun k hk => by rw [List.mem_singleton.mp hk]; exact h⟩
theorem l_leaf : Rnd 3 "_law_leaf" [.cell 0, .int 2] isLeaf := by
  refine rnd_of (d := d__law_leaf.fn) (k := 2) rfl rfl fun n st hc => ?_
  obtain ⟨r, st1, e1, hc1, i, hi, rfl⟩ := l_roll 2 (by decide) (by decide) (n + 1) st hc
  by_cases h0 : i = 0
  · subst h0
    obtain ⟨d, st2, e2, hc2, hd⟩ := l_some [.str "x", .str "y"] (by decide) (by decide) n st1 hc1
    have : ∃ m : Str, d = .str m ∧ (m = "x" ∨ m = "y") := by
      rcases List.mem_cons.mp hd with rfl | hd
      · exact ⟨_, rfl, Or.inl rfl⟩
      · rw [List.mem_singleton.mp hd]; exact ⟨_, rfl, Or.inr rfl⟩
    obtain ⟨m, rfl, hm⟩ := this
    refine ⟨enc (.unk m), st2, ?_, hc2, .unk m, rfl, rfl, rfl, TG_unk hm⟩
    refine r_set (d := .lst [.str "x", .str "y"]) rfl rfl (r_ret (x_iteT (st1 := st1) (x_andT rfl (x_cmp (x := .int (0 : Nat)) (y := .int (0 : Nat)) (k := true) (x_call (xs := [.cell 0, .int (2 : Nat)]) rfl e1) rfl rfl)) (x_call (xs := [.str m]) (x_one (x_call (xs := [.cell 0, .lst [.str "x", .str "y"]]) rfl e2)) rfl)))
  · obtain ⟨d, st2, e2, hc2, hd⟩ := l_some [.str "a", .str "b", .str "c"] (by decide) (by decide) n st1 hc1
    have : ∃ m : Str, d = .str m ∧ (m = "a" ∨ m = "b" ∨ m = "c" ∨ m = "d") := by
      rcases List.mem_cons.mp hd with rfl | hd
      · exact ⟨_, rfl, Or.inl rfl⟩
      · rcases List.mem_cons.mp hd with rfl | hd
        · exact ⟨_, rfl, Or.inr (Or.inl rfl)⟩
        · rw [List.mem_singleton.mp hd]; exact ⟨_, rfl, Or.inr (Or.inr (Or.inl rfl))⟩
    obtain ⟨m, rfl, hm⟩ := this
    refine ⟨enc (.con m), st2, ?_, hc2, .con m, rfl, rfl, rfl, TG_con hm⟩
    refine r_set (d := .lst [.str "x", .str "y"]) rfl rfl (r_ret (x_iteF (st1 := st1) (x_andT rfl (x_cmp (x := .int (i : Nat)) (y := .int (0 : Nat)) (k := false) (x_call (xs := [.cell 0, .int (2 : Nat)]) rfl e1) rfl ?_)) (x_call (xs := [.str m]) (x_one (x_call (xs := [.cell 0, .lst [.str "a", .str "b", .str "c"]]) rfl e2)) rfl)))
    rw [eq_nats, decide_eq_false h0]
theorem loopC_rnd {F : D → M (List D)} {Pr : D → Prop} : ∀ (l : List D) (st : List D), (∀ x ∈ l, ∀ s, Cup s → ∃ y s', F x s = .ok [y] s' ∧ Cup s' ∧ Pr y) → Cup st → ∃ ys st', loopC F l st = .ok ys st' ∧ Cup st' ∧ ys.length = l.length ∧ ∀ y ∈ ys, Pr y
  | [], st, _, hc => ⟨[], st, rfl, hc, rfl, fun y hy => by cases hy⟩
  | x :: l, st, h, hc => by
    obtain ⟨y, s1, e1, hc1, hy⟩ := h x List.mem_cons_self st hc
    obtain ⟨ys, s2, e2, hc2, hl, hys⟩ := loopC_rnd l s1 (fun x hx => h x (List.mem_cons_of_mem _ hx)) hc1
    refine ⟨y :: ys, s2, ?_, hc2, by rw [List.length_cons, List.length_cons, hl], fun z hz => ?_⟩
    · show M.bind (F x) (fun ys => M.bind (loopC F l) fun zs => M.pure (ys ++ zs)) st = _
      rw [bind_eq e1, bind_eq e2]
      rfl
    · rcases List.mem_cons.mp hz with rfl | hz
      · exact hy
      · exact hys z hz
theorem x_lcr {cl : Str → List D → M D} {ρ : Q.Env} {st0 st : List D} {te : E} {tg : Q.T} {it c : E} {own : List Nat} {Pr : D → Prop} {l : List D} (hi : evI cl it ρ st0 = .ok l st) (hl : l.length ≤ 1000) (hc : Cup st) (hF : ∀ x ∈ l, ∀ s, Cup s → ∃ y s', lcF cl te tg c (wipeE ρ own) x s = .ok [y] s' ∧ Cup s' ∧ Pr y) : ∃ ys st', evE cl (.lc te tg it c own) ρ st0 = .ok (.lst ys) st' ∧ Cup st' ∧ ys.length = l.length ∧ ∀ y ∈ ys, Pr y := by
  obtain ⟨ys, st', e, hc', hy, hys⟩ := loopC_rnd l st hF hc
  refine ⟨ys, st', ?_, hc', hy, hys⟩
  show M.bind (evI cl it ρ) (fun items => M.bind (loopC (lcF cl te tg c (wipeE ρ own)) items) fun ys => M.ofO (sizeOk ys.length (D.lst ys))) st0 = _
  rw [bind_eq hi, bind_eq e]
  unfold sizeOk
  rw [Nat.ble_eq_true_of_le (show ys.length ≤ LIM by rw [hy]; exact le_lim hl)]
  rfl
theorem leaves : ∀ ys : List D, (∀ y ∈ ys, isLeaf y) → ∃ ts : List Tm, ys = encs ts ∧ ts.length = ys.length ∧ ∀ t ∈ ts, dep t = 0 ∧ size t = 1 ∧ TG t
  | [], _ => ⟨[], rfl, rfl, fun t ht => by cases ht⟩
  | y :: ys, h => by
    obtain ⟨t, rfl, h1, h2, h3⟩ := h y List.mem_cons_self
    obtain ⟨ts, e, hl, hts⟩ := leaves ys fun y hy => h y (List.mem_cons_of_mem _ hy)
    refine ⟨t :: ts, by rw [e]; rfl, by rw [List.length_cons, List.length_cons, hl], fun u hu => ?_⟩
    rcases List.mem_cons.mp hu with rfl | hu
    · exact ⟨h1, h2, h3⟩
    · exact hts u hu
theorem TG_over {t : Tm} (hk : leafOk t) (hl : (parts t).length ≤ 3) (hp : ∀ p ∈ parts t, dep p = 0 ∧ size p = 1 ∧ TG p) (hd : dep t ≤ deps (parts t) + 1) : TG t := by
  have h1 : deps (parts t) ≤ 0 := deps_le fun p h => by rw [(hp p h).1]; exact Nat.le_refl _
  have h2 : ∀ l : List Tm, (∀ p ∈ l, size p = 1) → sizes l = l.length := by
    intro l
    induction l with
    | nil => intro _; rfl
    | cons a l ih =>
      intro h
      rw [sizes, h a List.mem_cons_self, ih fun p hp => h p (List.mem_cons_of_mem _ hp), List.length_cons]
      omega
  have h3 := h2 (parts t) fun p h => (hp p h).2.1
  have h4 := size_parts t
  refine ⟨by omega, by omega, fun k hk' => ?_⟩
  rw [alls_eq, allss_flat] at hk'
  rcases List.mem_cons.mp hk' with rfl | hk'
  · exact hk
  · obtain ⟨p, h, hk'⟩ := List.mem_flatMap.mp hk'
    exact (hp p h).2.2.2.2 k hk'
def isTerm (d : D) : Prop := ∃ t : Tm, d = enc t ∧ TG t
def isWord (d : D) : Prop := d = .str "bag" ∨ d = .str "free" ∨ d = .str "set"
theorem l_kind (w : D) (ts : List Tm) (hw : isWord w) (hl : ts.length ≤ 3) (ht : ∀ t ∈ ts, dep t = 0 ∧ size t = 1 ∧ TG t) : Rnd 3 "_law_of_kind" [.cell 0, w, .lst (encs ts)] isTerm := by
  refine rnd_of (d := d__law_of_kind.fn) (k := 2) rfl rfl fun n st hc => ?_
  rcases hw with rfl | rfl | rfl
  · exact ⟨enc (.bag ts), st, r_ifF rfl (r_ifF rfl (r_ret (x_tup (x_two rfl (x_bi (xs := [.lst (encs ts)]) rfl rfl)) rfl))), hc, .bag ts, rfl, TG_over (by show ts.length ≤ 60; omega) hl ht (Nat.le_refl _)⟩
  · obtain ⟨d, st2, e2, hc2, hd⟩ := l_some [.str "f", .str "f", .str "g"] (by decide) (by decide) n st hc
    have : ∃ m : Str, d = .str m ∧ (m = "f" ∨ m = "g") := by
      rcases List.mem_cons.mp hd with rfl | hd
      · exact ⟨_, rfl, Or.inl rfl⟩
      · rcases List.mem_cons.mp hd with rfl | hd
        · exact ⟨_, rfl, Or.inl rfl⟩
        · rw [List.mem_singleton.mp hd]; exact ⟨_, rfl, Or.inr rfl⟩
    obtain ⟨m, rfl, hm⟩ := this
    have key : ∀ us : List Tm, 1 ≤ us.length → us.length ≤ 3 → (∀ t ∈ us, dep t = 0 ∧ size t = 1 ∧ TG t) → TG (.free m us) := fun us h1 h2 h3 => TG_over ⟨hm, h1, by omega⟩ h2 h3 (Nat.le_refl _)
    have ec : evE (callP T (n + 2)) (.call "_law_some" (.econs (.slot 0) (.econs (.lst (.econs (.const (.str "f")) (.econs (.const (.str "f")) (.econs (.const (.str "g")) .enil)))) .enil))) [some (.cell 0), some (.str "free"), some (.lst (encs ts)), none] st = .ok (.str m) st2 := x_call (xs := [.cell 0, .lst [.str "f", .str "f", .str "g"]]) rfl e2
    match ts, hl, ht with
    | [], _, _ => exact ⟨enc (.free m [.con "a"]), st2, r_ifF rfl (r_ifT rfl (x_tup (x_three rfl ec rfl) rfl)), hc2, _, rfl, key _ (by simp) (by simp) fun t ht => by rw [List.mem_singleton.mp ht]; exact ⟨rfl, rfl, TG_con (Or.inl rfl)⟩⟩
    | [t], _, ht => exact ⟨enc (.free m [t]), st2, r_ifF rfl (r_ifT rfl (x_tup (x_three rfl ec (x_iteT (x_cmp (k := true) (x := .lst [enc t]) (y := .lst []) rfl rfl (ne_lnil _)) rfl)) rfl)), hc2, _, rfl, key _ (by simp) (by simp) ht⟩
    | [t, u], _, ht => exact ⟨enc (.free m [t, u]), st2, r_ifF rfl (r_ifT rfl (x_tup (x_three rfl ec (x_iteT (x_cmp (k := true) (x := .lst [enc t, enc u]) (y := .lst []) rfl rfl (ne_lnil _)) rfl)) rfl)), hc2, _, rfl, key _ (by simp) (by simp) ht⟩
    | [t, u, v], _, ht => exact ⟨enc (.free m [t, u]), st2, r_ifF rfl (r_ifT rfl (x_tup (x_three rfl ec (x_iteT (x_cmp (k := true) (x := .lst [enc t, enc u, enc v]) (y := .lst []) rfl rfl (ne_lnil _)) rfl)) rfl)), hc2, _, rfl, key _ (by simp) (by simp) fun z hz => ht z (by rcases List.mem_cons.mp hz with rfl | hz; simp; rw [List.mem_singleton.mp hz]; simp)⟩
    | _ :: _ :: _ :: _ :: l, hl, _ => simp at hl
  · exact ⟨enc (.set ts), st, r_ifF rfl (r_ifF rfl (r_ret (x_tup (x_two rfl (x_bi (xs := [.lst (encs ts)]) rfl rfl)) rfl))), hc, .set ts, rfl, TG_over (by show ts.length ≤ 60; omega) hl ht (Nat.le_refl _)⟩
theorem l_term0 (ws : D) : Rnd 4 "_law_term" [.cell 0, ws, .int 0, .int 2] isLeaf := by
  refine rnd_of (d := d__law_term.fn) (k := 3) rfl rfl fun n st hc => ?_
  obtain ⟨d, st2, e2, hc2, hd⟩ := l_leaf n st hc
  exact ⟨d, st2, r_ifT (x_orT rfl) (x_call (xs := [.cell 0, .int 2]) rfl e2), hc2, hd⟩
theorem l_term (ws : List D) (h1 : 1 ≤ ws.length) (h2 : ws.length ≤ 1000) (hw : ∀ w ∈ ws, isWord w) : Rnd 5 "_law_term" [.cell 0, .lst ws, .int 1, .int 2] isTerm := by
  refine rnd_of (d := d__law_term.fn) (k := 4) rfl rfl fun n st hc => ?_
  obtain ⟨r, st1, e1, hc1, i, hi, rfl⟩ := l_roll 5 (by decide) (by decide) (n + 3) st hc
  have ec : evE (callP T (n + 4)) (.or (.cmp .eq (.slot 2) (.const (.int 0))) (.cmp .eq (.call "_law_roll" (.econs (.slot 0) (.econs (.const (.int 5)) .enil))) (.const (.int 0)))) [some (.cell 0), some (.lst ws), some (.int 1), some (.int 2), none, none, none] st = .ok (.bl (decide (i = 0))) st1 := x_orF rfl (x_cmp (x := .int (i : Nat)) (y := .int (0 : Nat)) (x_call (xs := [.cell 0, .int (5 : Nat)]) rfl e1) rfl eq_nats)
  by_cases h0 : i = 0
  · rw [decide_eq_true h0] at ec
    obtain ⟨d, st2, e2, hc2, t, hd, _, _, ht⟩ := l_leaf (n + 1) st1 hc1
    exact ⟨d, st2, r_ifT ec (x_call (xs := [.cell 0, .int 2]) rfl e2), hc2, t, hd, ht⟩
  · rw [decide_eq_false h0] at ec
    obtain ⟨d, st2, e2, hc2, hd⟩ := l_some [.int 0, .int 1, .int 2, .int 2, .int 2, .int 3] (by decide) (by decide) (n + 2) st1 hc1
    have : ∃ m : Nat, d = .int m ∧ m ≤ 3 := by
      simp only [List.mem_cons, List.not_mem_nil, or_false] at hd
      rcases hd with rfl | rfl | rfl | rfl | rfl | rfl
      · exact ⟨0, rfl, by decide⟩
      · exact ⟨1, rfl, by decide⟩
      · exact ⟨2, rfl, by decide⟩
      · exact ⟨2, rfl, by decide⟩
      · exact ⟨2, rfl, by decide⟩
      · exact ⟨3, rfl, by decide⟩
    obtain ⟨m, rfl, hm⟩ := this
    obtain ⟨ys, st3, e3, hc3, hy, hys⟩ := x_lcr (cl := callP T (n + 4)) (ρ := [some (.cell 0), some (.lst ws), some (.int 1), some (.int 2), some (.int (m : Nat)), none, none]) (st := st2) (te := .call "_law_term" (.econs (.slot 0) (.econs (.slot 1) (.econs (.op .sub (.slot 2) (.const (.int 1))) (.econs (.slot 3) .enil))))) (tg := .slot 6) (it := .range (.slot 4)) (c := .const (.bl true)) (own := [6]) (Pr := isLeaf) (l := (List.range m).map fun i => D.int (i : Nat)) (i_range rfl (by omega)) (by rw [List.length_map, List.length_range]; omega) hc2 fun x hx s hs => by
      obtain ⟨y, s', e, hs', hy⟩ := l_term0 (.lst ws) n s hs
      exact ⟨y, s', lc_elt rfl rfl (x_call (xs := [.cell 0, .lst ws, .int 0, .int 2]) rfl e), hs', hy⟩
    obtain ⟨ts, rfl, htl, hts⟩ := leaves ys hys
    obtain ⟨w, st4, e4, hc4, hw4⟩ := l_some ws h1 h2 (n + 2) st3 hc3
    obtain ⟨d, st5, e5, hc5, hd5⟩ := l_kind w ts (hw w hw4) (by rw [List.length_map, List.length_range] at hy; omega) hts (n + 1) st4 hc4
    refine ⟨d, st5, r_ifF ec (r_set (d := .int (m : Nat)) (st1 := st2) (x_call (xs := [.cell 0, .lst [.int 0, .int 1, .int 2, .int 2, .int 2, .int 3]]) rfl e2) rfl (r_set e3 rfl (r_ret (x_call (xs := [.cell 0, w, .lst (encs ts)]) (x_three (st3 := st4) rfl (x_call (xs := [.cell 0, .lst ws]) rfl e4) rfl) e5)))), hc5, hd5⟩
theorem l_small (ws : List D) (h1 : 1 ≤ ws.length) (h2 : ws.length ≤ 1000) (hw : ∀ w ∈ ws, isWord w) : Rnd 6 "_law_small" [.cell 0, .lst ws] isTerm := by
  refine rnd_of (d := d__law_small.fn) (k := 5) rfl rfl fun n st hc => ?_
  obtain ⟨d, st1, e1, hc1, t, rfl, ht⟩ := l_term ws h1 h2 hw n st hc
  have a1 := ht.1
  have a2 := ht.2.1
  have a3 := dep_nf t
  have a4 := size_nf t
  have ek : evE (callP T (n + 5)) (.cmp .le (.call "_law_knots" (.econs (.call "_law_normal" (.econs (.slot 2) .enil)) .enil)) (.const (.int 4))) [some (.cell 0), some (.lst ws), some (enc t)] st1 = .ok (.bl (decide (size (nf t) ≤ 4))) st1 := x_cmp (x := .int (size (nf t) : Nat)) (y := .int (4 : Nat)) (x_call (xs := [enc (nf t)]) (x_one (x_call (xs := [enc t]) rfl ((l_normal t (by omega) (by omega)).mono (k' := 5) (by omega) n st1))) ((l_knots (nf t) (by omega)).mono (k' := 5) (by omega) n st1)) rfl le_nats
  by_cases h : size (nf t) ≤ 4
  · rw [decide_eq_true h] at ek
    exact ⟨enc t, st1, r_set (x_call (xs := [.cell 0, .lst ws, .int 1, .int 2]) rfl e1) rfl (r_ret (x_iteT ek rfl)), hc1, t, rfl, ht⟩
  · rw [decide_eq_false h] at ek
    exact ⟨enc (.unk "x"), st1, r_set (x_call (xs := [.cell 0, .lst ws, .int 1, .int 2]) rfl e1) rfl (r_ret (x_iteF ek (x_call (xs := [.str "x"]) rfl rfl))), hc1, .unk "x", rfl, TG_unk (Or.inl rfl)⟩
end K59
end
section
set_option Elab.async false
set_option linter.all false
set_option maxRecDepth 100000
set_option maxHeartbeats 2000000
namespace K59
open Q
open PySem (Str)
theorem l_cup (ns : List Int) (hl : ns.length ≤ 63) (n : Nat) : ∃ st', callP T (n + 1) "_law_cup" [.inp (ns.map D.int)] [] = .ok (.cell 0) st' ∧ Cup st' := by
  obtain ⟨c, hc⟩ : ∃ c : Int, (ns ++ [0])[0]? = some c := by cases ns with
    | nil => exact ⟨0, rfl⟩
    | cons a l => exact ⟨a, rfl⟩
  have hx : ∀ st : List D, ixM (.lst (ns.map D.int ++ [.int 0])) (.int 0) st = .ok (.int c) st := fun st => by
    have e : opIx (.lst (ns.map D.int ++ [.int 0])) (.int 0) = some (.int c) := by
      show (ns.map D.int ++ [D.int 0])[0]? = _
      have : ns.map D.int ++ [D.int 0] = (ns ++ [0]).map D.int := by rw [List.map_append]; rfl
      rw [this, List.getElem?_map, hc]
      rfl
    show (match opIx (.lst (ns.map D.int ++ [.int 0])) (.int 0) with
      | some d => (.ok d st : Q.Res D)
      | none => .stuck) = _
    rw [e]
  obtain ⟨k, hk, hk0⟩ : ∃ k : Int, (if c < 0 then -c else c) = k ∧ 0 ≤ k := ⟨_, rfl, by split <;> omega⟩
  have mulc : opB .mul (.int k) (.int 257) = some (.int (k * 257)) := by
    show (match Nat.blt k.natAbs (2 ^ 64) || Nat.blt (257 : Int).natAbs (2 ^ 64) with
      | true => some (D.int (k * 257))
      | false => none) = _
    have : Nat.blt (257 : Int).natAbs (2 ^ 64) = true := rfl
    rw [this, Bool.or_true]
  have hb := mod_lt (a := k * 257 + 2203) (m := 2077503203) (by decide)
  obtain ⟨a, ha, ha0⟩ : ∃ a : Int, (if 1000000000000000000 ≤ k then k.fdiv 47 else 0) = a ∧ 0 ≤ a := ⟨_, rfl, by
    split
    · exact Int.fdiv_nonneg hk0 (by decide)
    · decide⟩
  refine ⟨[.lst [.int a, .int ((((k * 257 + 2203).fmod (2077503203 : Nat)).toNat : Nat) + 139)]], ?_, a, _, ha0, by omega, by omega, rfl⟩
  rw [call_eq (d := d__law_cup.fn) rfl rfl]
  refine r_set (d := .int k) (st1 := []) (x_bi (xs := [.int c]) (x_one (x_idx (x := .lst (ns.map D.int ++ [.int 0])) (y := .int 0) (x_op (x := .lst (ns.map D.int)) (y := .lst [.int 0]) (x_bi (xs := [.inp (ns.map D.int)]) rfl rfl) rfl (add_lst (by rw [List.length_map]; show ns.length + 1 ≤ LIM; exact le_lim (by omega)))) rfl (hx _))) (by show some (D.int (if c < 0 then -c else c)) = _; rw [hk])) rfl ?_
  have e1 : evE (callP T n) (.ite (.cmp .ge (.slot 1) (.op .pow (.const (.int 10)) (.const (.int 18)))) (.op .fdiv (.slot 1) (.const (.int 47))) (.const (.int 0))) [some (.inp (ns.map D.int)), some (.int k)] [] = .ok (.int a) [] := by
    have hcmp : opC .ge (.int k) (.int 1000000000000000000) = some (decide ((1000000000000000000 : Int) ≤ k)) := rfl
    by_cases h : (1000000000000000000 : Int) ≤ k
    · rw [if_pos h] at ha
      rw [decide_eq_true h] at hcmp
      refine x_iteT (x_cmp (x := .int k) (y := .int 1000000000000000000) rfl rfl hcmp) (x_op (x := .int k) (y := .int 47) rfl rfl ?_)
      rw [← ha]
      rfl
    · rw [if_neg h] at ha
      rw [decide_eq_false h] at hcmp
      rw [← ha]
      exact x_iteF (x_cmp (x := .int k) (y := .int 1000000000000000000) rfl rfl hcmp) rfl
  have e2 : evE (callP T n) (.op .add (.op .mod (.bi .int (.econs (.op .add (.op .mul (.slot 1) (.const (.int 257))) (.const (.int 2203))) .enil)) (.const (.int 2077503203))) (.const (.int 139))) [some (.inp (ns.map D.int)), some (.int k)] [] = .ok (.int ((((k * 257 + 2203).fmod (2077503203 : Nat)).toNat : Nat) + 139)) [] := by
    refine x_op (x := .int (((k * 257 + 2203).fmod (2077503203 : Nat)).toNat : Nat)) (y := .int 139) (x_op (x := .int (k * 257 + 2203)) (y := .int ((2077503203 : Nat) : Int)) (x_bi (xs := [.int (k * 257 + 2203)]) (x_one (x_op (x := .int (k * 257)) (y := .int 2203) (x_op (x := .int k) (y := .int 257) rfl rfl mulc) rfl rfl)) rfl) rfl (mod_int (by decide))) rfl rfl
  refine r_ret ?_
  show M.bind (evEs (callP T n) (.econs _ (.econs _ .enil)) _) (fun xs => match Nat.ble xs.length LIM with
    | true => fun st => .ok (D.cell st.length) (st ++ [.lst xs])
    | false => M.stuck) [] = _
  exact Eq.trans (bind_eq (x_two e1 e2)) rfl
abbrev tc : Tm := .con "c"
abbrev td : Tm := .con "d"
abbrev tx : Tm := .unk "x"
abbrev ty : Tm := .unk "y"
abbrev t0 : Tm := .bag []
abbrev t2 : Tm := .bag [tc, td]
abbrev nx : List Str := ["x"]
abbrev nxy : List Str := ["x", "y"]
def w0 : W := [("x", tc), ("y", td)]
def w1 : W := [("x", td), ("y", tc)]
def w2 : W := [("x", t0), ("y", t2)]
def w3 : W := [("x", t2), ("y", t0)]
def w4 : W := [("x", tx), ("y", ty)]
def ways : List W := [w0, w1, w2, w3]
theorem TG_c : TG tc := TG_con (by simp)
theorem TG_d : TG td := TG_con (by simp)
theorem TG_t0 : TG t0 := TG_over (by show 0 ≤ 60; decide) (by simp [parts]) (fun p h => by cases h) (Nat.le_refl _)
theorem TG_t2 : TG t2 := TG_over (by show 2 ≤ 60; decide) (by simp [parts]) (fun p h => by
  rcases List.mem_cons.mp h with rfl | h
  · exact ⟨rfl, rfl, TG_c⟩
  · rw [List.mem_singleton.mp h]; exact ⟨rfl, rfl, TG_d⟩) (Nat.le_refl _)
theorem PG_1 {t : Tm} (h : TG t) : PG [("x", t)] := ⟨Or.inr (Or.inl ⟨t, rfl⟩), fun q hq => by rw [List.mem_singleton.mp hq]; exact h⟩
theorem PG_2 {t u : Tm} (h : TG t) (h' : TG u) : PG [("x", t), ("y", u)] := ⟨Or.inr (Or.inr ⟨t, u, rfl⟩), fun q hq => by
  rcases List.mem_cons.mp hq with rfl | hq
  · exact h
  · rw [List.mem_singleton.mp hq]; exact h'⟩
theorem PG_0 : PG [] := ⟨Or.inl rfl, fun q hq => by cases hq⟩
theorem NG_x : NG nx := Or.inl rfl
theorem NG_xy : NG nxy := Or.inr rfl
theorem AP_ways : AP ways := ⟨fun p hp => by
  simp only [ways, List.mem_cons, List.not_mem_nil, or_false] at hp
  rcases hp with rfl | rfl | rfl | rfl
  · exact PG_2 TG_c TG_d
  · exact PG_2 TG_d TG_c
  · exact PG_2 TG_t0 TG_t2
  · exact PG_2 TG_t2 TG_t0, by decide⟩
theorem AP_ways4 : AP (ways ++ [w4]) := ⟨fun p hp => by
  rcases List.mem_append.mp hp with hp | hp
  · exact AP_ways.1 p hp
  · rw [List.mem_singleton.mp hp]; exact PG_2 (TG_unk (Or.inl rfl)) (TG_unk (Or.inr rfl)), by decide⟩
theorem AP_1 : AP [[("x", tc)], [("x", tx)], [("x", ty)]] := ⟨fun p hp => by
  simp only [List.mem_cons, List.not_mem_nil, or_false] at hp
  rcases hp with rfl | rfl | rfl
  · exact PG_1 TG_c
  · exact PG_1 (TG_unk (Or.inl rfl))
  · exact PG_1 (TG_unk (Or.inr rfl)), by simp⟩
theorem AP_0 : AP [] := ⟨(fun p hp => by cases hp), Nat.zero_le _⟩
theorem AP_5 : AP [w0, [("x", tc)]] := ⟨fun p hp => by
  simp only [List.mem_cons, List.not_mem_nil, or_false] at hp
  rcases hp with rfl | rfl
  · exact PG_2 TG_c TG_d
  · exact PG_1 TG_c, by simp⟩
theorem AP_7 : AP [[], [], []] := ⟨fun p hp => by
  simp only [List.mem_cons, List.not_mem_nil, or_false] at hp
  rcases hp with rfl | rfl | rfl <;> exact PG_0, by simp⟩
theorem turn_T {P : List W} {ns : List Str} {left : List Nat} {q : Nat × W} (o : Nat) (ho : o ∈ others left q.1) (h : inst q.2 (nth P o) ns = true) : turn P ns left q = others left q.1 := by
  unfold turn
  rw [if_pos (List.any_eq_true.mpr ⟨o, ho, h⟩)]
theorem turn_F {P : List W} {ns : List Str} {left : List Nat} {q : Nat × W} (h : ∀ o ∈ others left q.1, inst q.2 (nth P o) ns = false) : turn P ns left q = left := by
  unfold turn
  rw [if_neg]
  intro hn
  obtain ⟨o, ho, hi⟩ := List.any_eq_true.mp hn
  rw [h o ho] at hi
  cases hi
theorem inst_T {p q : W} {ns : List Str} (σ : Str → Tm) (hσ : ∀ n, Nm (σ n)) (h : apps σ (forms q ns) = forms p ns) : inst p q ns = true := inst_iff.mpr ⟨σ, hσ, h⟩
theorem inst_F {p q : W} {ns : List Str} (h : ∀ σ, apps σ (forms q ns) ≠ forms p ns) : inst p q ns = false := by
  cases e : inst p q ns with
  | false => rfl
  | true =>
    obtain ⟨σ, _, hs⟩ := inst_iff.mp e
    exact absurd hs (h σ)
theorem Nm_c (c : Str) : Nm (.con c) := by rw [Nm]; trivial
theorem lft_1 : lft [[("x", tc)], [("x", tx)], [("x", ty)]] nx = [2] := by
  show turn _ nx (turn _ nx (turn _ nx [0, 1, 2] (0, [("x", tc)])) (1, [("x", tx)])) (2, [("x", ty)]) = [2]
  rw [turn_T (left := [0, 1, 2]) (q := (0, [("x", tc)])) 1 (by decide) (inst_T (fun _ => tc) (fun _ => Nm_c _) rfl)]
  rw [turn_T (left := others [0, 1, 2] 0) (q := (1, [("x", tx)])) 2 (by decide) (inst_T (fun _ => tx) (fun _ => Nm_unk _) rfl)]
  exact turn_F fun o ho => by cases ho
theorem forms_w0 : forms w0 nxy = [tc, td] := rfl
theorem forms_w1 : forms w1 nxy = [td, tc] := rfl
theorem forms_w2 : forms w2 nxy = [t0, t2] := rfl
theorem forms_w3 : forms w3 nxy = [t2, t0] := rfl
theorem apps_w0 (σ : Str → Tm) : apps σ (forms w0 nxy) = [tc, td] := rfl
theorem apps_w1 (σ : Str → Tm) : apps σ (forms w1 nxy) = [td, tc] := rfl
theorem apps_w2 (σ : Str → Tm) : apps σ (forms w2 nxy) = [t0, t2] := rfl
theorem apps_w3 (σ : Str → Tm) : apps σ (forms w3 nxy) = [t2, t0] := rfl
theorem cd_ne : tc ≠ td := by decide
theorem lft_3 : lft ways nxy = [0, 1, 2, 3] := by
  show turn ways nxy (turn ways nxy (turn ways nxy (turn ways nxy [0, 1, 2, 3] (0, w0)) (1, w1)) (2, w2)) (3, w3) = [0, 1, 2, 3]
  have h0 : turn ways nxy [0, 1, 2, 3] (0, w0) = [0, 1, 2, 3] := turn_F fun o ho => by
    have ho : o ∈ [1, 2, 3] := ho
    simp only [List.mem_cons, List.not_mem_nil, or_false] at ho
    rcases ho with rfl | rfl | rfl
    · exact inst_F (q := w1) fun σ => by rw [apps_w1, forms_w0]; decide
    · exact inst_F (q := w2) fun σ => by rw [apps_w2, forms_w0]; decide
    · exact inst_F (q := w3) fun σ => by rw [apps_w3, forms_w0]; decide
  have h1 : turn ways nxy [0, 1, 2, 3] (1, w1) = [0, 1, 2, 3] := turn_F fun o ho => by
    have ho : o ∈ [0, 2, 3] := ho
    simp only [List.mem_cons, List.not_mem_nil, or_false] at ho
    rcases ho with rfl | rfl | rfl
    · exact inst_F (q := w0) fun σ => by rw [apps_w0, forms_w1]; decide
    · exact inst_F (q := w2) fun σ => by rw [apps_w2, forms_w1]; decide
    · exact inst_F (q := w3) fun σ => by rw [apps_w3, forms_w1]; decide
  have h2 : turn ways nxy [0, 1, 2, 3] (2, w2) = [0, 1, 2, 3] := turn_F fun o ho => by
    have ho : o ∈ [0, 1, 3] := ho
    simp only [List.mem_cons, List.not_mem_nil, or_false] at ho
    rcases ho with rfl | rfl | rfl
    · exact inst_F (q := w0) fun σ => by rw [apps_w0, forms_w2]; decide
    · exact inst_F (q := w1) fun σ => by rw [apps_w1, forms_w2]; decide
    · exact inst_F (q := w3) fun σ => by rw [apps_w3, forms_w2]; decide
  have h3 : turn ways nxy [0, 1, 2, 3] (3, w3) = [0, 1, 2, 3] := turn_F fun o ho => by
    have ho : o ∈ [0, 1, 2] := ho
    simp only [List.mem_cons, List.not_mem_nil, or_false] at ho
    rcases ho with rfl | rfl | rfl
    · exact inst_F (q := w0) fun σ => by rw [apps_w0, forms_w3]; decide
    · exact inst_F (q := w1) fun σ => by rw [apps_w1, forms_w3]; decide
    · exact inst_F (q := w2) fun σ => by rw [apps_w2, forms_w3]; decide
  rw [h0, h1, h2, h3]
theorem forms_w4 : forms w4 nxy = [tx, ty] := rfl
theorem inst_4 {p : W} {t u : Tm} (h : forms p nxy = [t, u]) (ht : Nm t) (hu : Nm u) : inst p w4 nxy = true := by
  refine inst_T (fun n => if n = "x" then t else u) (fun n => ?_) ?_
  · show Nm (if n = "x" then t else u)
    split
    · exact ht
    · exact hu
  · rw [h, forms_w4]
    rfl
theorem lft_4 : lft (ways ++ [w4]) nxy = [4] := by
  show turn (ways ++ [w4]) nxy (turn (ways ++ [w4]) nxy (turn (ways ++ [w4]) nxy (turn (ways ++ [w4]) nxy (turn (ways ++ [w4]) nxy [0, 1, 2, 3, 4] (0, w0)) (1, w1)) (2, w2)) (3, w3)) (4, w4) = [4]
  rw [turn_T (P := ways ++ [w4]) (ns := nxy) (left := [0, 1, 2, 3, 4]) (q := (0, w0)) 4 (by decide) (inst_4 forms_w0 (Nm_c _) (Nm_c _))]
  rw [turn_T (P := ways ++ [w4]) (ns := nxy) (left := others [0, 1, 2, 3, 4] 0) (q := (1, w1)) 4 (by decide) (inst_4 forms_w1 (Nm_c _) (Nm_c _))]
  rw [turn_T (P := ways ++ [w4]) (ns := nxy) (q := (2, w2)) 4 (by decide) (inst_4 forms_w2 (Nm_nf t0) (Nm_nf t2))]
  rw [turn_T (P := ways ++ [w4]) (ns := nxy) (q := (3, w3)) 4 (by decide) (inst_4 forms_w3 (Nm_nf t2) (Nm_nf t0))]
  exact turn_F fun o ho => by cases ho
theorem lft_5 : lft [w0, [("x", tc)]] nx = [1] := by
  show turn _ nx (turn _ nx [0, 1] (0, w0)) (1, [("x", tc)]) = [1]
  rw [turn_T (left := [0, 1]) (q := (0, w0)) 1 (by decide) (inst_T (fun _ => tc) (fun _ => Nm_c _) rfl)]
  exact turn_F fun o ho => by cases ho
end K59
end
section
set_option Elab.async false
set_option linter.all false
set_option maxRecDepth 100000
set_option maxHeartbeats 2000000
namespace K59
open Q
open PySem (Str)
theorem lc_one {cl : Str → List D → M D} {ρ : Q.Env} {st st1 st2 : List D} {te : E} {tg : Q.T} {it c : E} {own : List Nat} {a y : D} (hi : evI cl it ρ st = .ok [a] st1) (h1 : lcF cl te tg c (wipeE ρ own) a st1 = .ok [y] st2) : evE cl (.lc te tg it c own) ρ st = .ok (.lst [y]) st2 := by
  show M.bind (evI cl it ρ) (fun items => M.bind (loopC (lcF cl te tg c (wipeE ρ own)) items) fun ys => M.ofO (sizeOk ys.length (D.lst ys))) st = _
  have e : loopC (lcF cl te tg c (wipeE ρ own)) [a] st1 = .ok [y] st2 := by
    show M.bind (lcF cl te tg c (wipeE ρ own) a) (fun ys => M.bind (loopC (lcF cl te tg c (wipeE ρ own)) []) fun zs => M.pure (ys ++ zs)) st1 = _
    rw [bind_eq h1]
    rfl
  rw [bind_eq hi, bind_eq e]
  rfl
theorem lc_two {cl : Str → List D → M D} {ρ : Q.Env} {st st1 st2 st3 : List D} {te : E} {tg : Q.T} {it c : E} {own : List Nat} {a b y z : D} (hi : evI cl it ρ st = .ok [a, b] st1) (h1 : lcF cl te tg c (wipeE ρ own) a st1 = .ok [y] st2) (h2 : lcF cl te tg c (wipeE ρ own) b st2 = .ok [z] st3) : evE cl (.lc te tg it c own) ρ st = .ok (.lst [y, z]) st3 := by
  show M.bind (evI cl it ρ) (fun items => M.bind (loopC (lcF cl te tg c (wipeE ρ own)) items) fun ys => M.ofO (sizeOk ys.length (D.lst ys))) st = _
  have e : loopC (lcF cl te tg c (wipeE ρ own)) [a, b] st1 = .ok [y, z] st3 := by
    show M.bind (lcF cl te tg c (wipeE ρ own) a) (fun ys => M.bind (M.bind (lcF cl te tg c (wipeE ρ own) b) fun ys => M.bind (loopC (lcF cl te tg c (wipeE ρ own)) []) fun zs => M.pure (ys ++ zs)) fun zs => M.pure (ys ++ zs)) st1 = _
    have e2 : M.bind (lcF cl te tg c (wipeE ρ own) b) (fun ys => M.bind (loopC (lcF cl te tg c (wipeE ρ own)) []) fun zs => M.pure (ys ++ zs)) st2 = .ok [z] st3 := by
      rw [bind_eq h2]
      rfl
    rw [bind_eq h1, bind_eq e2]
    rfl
  rw [bind_eq hi, bind_eq e]
  rfl
def isPut (d : D) : Prop := ∃ p : W, d = encPut p ∧ PG p
theorem puts_of : ∀ ys : List D, (∀ y ∈ ys, isPut y) → ∃ P : List W, ys = P.map encPut ∧ P.length = ys.length ∧ ∀ p ∈ P, PG p
  | [], _ => ⟨[], rfl, rfl, fun t ht => by cases ht⟩
  | y :: ys, h => by
    obtain ⟨p, rfl, h1⟩ := h y List.mem_cons_self
    obtain ⟨P, e, hl, hP⟩ := puts_of ys fun y hy => h y (List.mem_cons_of_mem _ hy)
    refine ⟨p :: P, by rw [e]; rfl, by rw [List.length_cons, List.length_cons, hl], fun u hu => ?_⟩
    rcases List.mem_cons.mp hu with rfl | hu
    · exact h1
    · exact hP u hu
theorem isnot_tt : opC .isnot (.bl true) (.bl true) = some false := rfl
theorem l_draw {n : Nat} {ρ : Q.Env} {st : List D} {ws : List D} {ns : List Str} (h1 : 1 ≤ ws.length) (h2 : ws.length ≤ 1000) (hw : ∀ w ∈ ws, isWord w) (hn : NG ns) (hc : Cup st) (g5 : ∀ s, getE ρ 5 s = .ok (encN ns) s) (g1 : ∀ (s : List D) (d : D), getE ((wipeE ρ [13]).set 13 (some d)) 1 s = .ok (.cell 0) s) (g4 : ∀ (s : List D) (d : D), getE ((wipeE ρ [13]).set 13 (some d)) 4 s = .ok (.lst ws) s) (g13 : ∀ (s : List D) (d : D), getE ((wipeE ρ [13]).set 13 (some d)) 13 s = .ok d s) :
    ∃ y st', evE (callP T (n + 14)) (.bi .tuple (.econs (.lc (.tup (.econs (.slot 13) (.econs (.call "_law_small" (.econs (.slot 1) (.econs (.slot 4) .enil))) .enil))) (.slot 13) (.plain (.slot 5)) (.const (.bl true)) [13]) .enil)) ρ st = .ok y st' ∧ Cup st' ∧ isPut y := by
  have one : ∀ (m : Str) (s : List D), Cup s → ∃ t s', lcF (callP T (n + 14)) (.tup (.econs (.slot 13) (.econs (.call "_law_small" (.econs (.slot 1) (.econs (.slot 4) .enil))) .enil))) (.slot 13) (.const (.bl true)) (wipeE ρ [13]) (.str m) s = .ok [.tup [.str m, enc t]] s' ∧ Cup s' ∧ TG t := fun m s hs => by
    obtain ⟨d, s', e, hs', t, rfl, ht⟩ := l_small ws h1 h2 hw (n + 8) s hs
    exact ⟨t, s', lc_elt rfl rfl (x_tup (x_two (g13 s _) (x_call (xs := [.cell 0, .lst ws]) (x_two (g1 s _) (g4 s _)) e)) rfl), hs', ht⟩
  rcases hn with rfl | rfl
  · obtain ⟨t, s1, e1, hc1, ht⟩ := one "x" st hc
    exact ⟨encPut [("x", t)], s1, x_bi (xs := [.lst [.tup [.str "x", enc t]]]) (x_one (lc_one (a := .str "x") (i_plain' (g5 st) rfl) e1)) rfl, hc1, _, rfl, PG_1 ht⟩
  · obtain ⟨t, s1, e1, hc1, ht⟩ := one "x" st hc
    obtain ⟨u, s2, e2, hc2, hu⟩ := one "y" s1 hc1
    exact ⟨encPut [("x", t), ("y", u)], s2, x_bi (xs := [.lst [.tup [.str "x", enc t], .tup [.str "y", enc u]]]) (x_one (lc_two (a := .str "x") (b := .str "y") (i_plain' (g5 st) rfl) e1 e2)) rfl, hc2, _, rfl, PG_2 ht hu⟩
theorem sp_1 : Ret 13 "spared_puts" [encPP [[("x", tc)], [("x", tx)], [("x", ty)]], encN nx] (.tup [.int 2]) := by
  have := spared_puts _ _ AP_1 NG_x
  rw [lft_1] at this
  exact this
theorem sp_0 : Ret 13 "spared_puts" [encPP [], encN nx] (.tup []) := by
  have := spared_puts _ _ AP_0 NG_x
  rw [(lft_nil [] nx).mpr rfl] at this
  exact this
theorem sp_3 : Ret 13 "spared_puts" [encPP ways, encN nxy] (.tup [.int 0, .int 1, .int 2, .int 3]) := by
  have := spared_puts _ _ AP_ways NG_xy
  rw [lft_3] at this
  exact this
theorem sp_4 : Ret 13 "spared_puts" [encPP (ways ++ [w4]), encN nxy] (.tup [.int 4]) := by
  have := spared_puts _ _ AP_ways4 NG_xy
  rw [lft_4] at this
  exact this
theorem sp_5 : Ret 13 "spared_puts" [encPP [w0, [("x", tc)]], encN nx] (.tup [.int 1]) := by
  have := spared_puts _ _ AP_5 NG_x
  rw [lft_5] at this
  exact this
theorem law_ok (ns : List Int) (hl : ns.length ≤ 63) (n : Nat) : ∃ st', callP T ((n + 14) + 1) "law" [.inp (ns.map D.int)] [] = .ok (.bl true) st' := by
  obtain ⟨s1, e1, hc1⟩ := l_cup ns hl (n + 13)
  obtain ⟨wd, s2, e2, hc2, hwd⟩ := l_some [.lst [.str "bag", .str "free"], .lst [.str "set", .str "free"], .lst [.str "bag", .str "set"]] (by simp) (by simp) (n + 12) s1 hc1
  obtain ⟨nd, s3, e3, hc3, hnd⟩ := l_some [encN nx, encN nxy] (by simp) (by simp) (n + 12) s2 hc2
  obtain ⟨ws, rfl, hw1, hw2, hw⟩ : ∃ ws : List D, wd = .lst ws ∧ 1 ≤ ws.length ∧ ws.length ≤ 1000 ∧ ∀ w ∈ ws, isWord w := by
    simp only [List.mem_cons, List.not_mem_nil, or_false] at hwd
    rcases hwd with rfl | rfl | rfl
    · exact ⟨_, rfl, by simp, by simp, fun w hw => by
        simp only [List.mem_cons, List.not_mem_nil, or_false] at hw
        rcases hw with rfl | rfl
        · exact Or.inl rfl
        · exact Or.inr (Or.inl rfl)⟩
    · exact ⟨_, rfl, by simp, by simp, fun w hw => by
        simp only [List.mem_cons, List.not_mem_nil, or_false] at hw
        rcases hw with rfl | rfl
        · exact Or.inr (Or.inr rfl)
        · exact Or.inr (Or.inl rfl)⟩
    · exact ⟨_, rfl, by simp, by simp, fun w hw => by
        simp only [List.mem_cons, List.not_mem_nil, or_false] at hw
        rcases hw with rfl | rfl
        · exact Or.inl rfl
        · exact Or.inr (Or.inr rfl)⟩
  obtain ⟨nm, rfl, hn⟩ : ∃ nm : List Str, nd = encN nm ∧ NG nm := by
    simp only [List.mem_cons, List.not_mem_nil, or_false] at hnd
    rcases hnd with rfl | rfl
    · exact ⟨_, rfl, NG_x⟩
    · exact ⟨_, rfl, NG_xy⟩
  obtain ⟨r, s4, e4, hc4, i, hi, rfl⟩ := l_roll 4 (by decide) (by decide) (n + 13) s3 hc3
  obtain ⟨ys, s5, e5, hc5, hy, hys⟩ := x_lcr (cl := callP T (n + 14)) (ρ := [some (.inp (ns.map D.int)), some (.cell 0), none, none, some (.lst ws), some (encN nm), none, none, none, none, none, none, none, none]) (st0 := s3) (st := s4) (te := .bi .tuple (.econs (.lc (.tup (.econs (.slot 13) (.econs (.call "_law_small" (.econs (.slot 1) (.econs (.slot 4) .enil))) .enil))) (.slot 13) (.plain (.slot 5)) (.const (.bl true)) [13]) .enil)) (tg := .slot 12) (it := .range (.op .add (.const (.int 1)) (.call "_law_roll" (.econs (.slot 1) (.econs (.const (.int 4)) .enil))))) (c := .const (.bl true)) (own := [12]) (Pr := isPut) (l := (List.range (1 + i)).map fun i => D.int (i : Nat)) (i_range (x_op (x := .int 1) (y := .int (i : Nat)) rfl (x_call (xs := [.cell 0, .int (4 : Nat)]) rfl e4) (by show some (D.int (1 + (i : Int))) = some (D.int ((1 + i : Nat) : Int)); congr 2)) (by omega)) (by rw [List.length_map, List.length_range]; omega) hc4 fun x hx s hs => by
    obtain ⟨y, s', e, hs', hp⟩ := l_draw (n := n) (ρ := [some (.inp (ns.map D.int)), some (.cell 0), none, none, some (.lst ws), some (encN nm), none, none, none, none, none, none, some x, none]) hw1 hw2 hw hn hs (fun s => rfl) (fun s d => rfl) (fun s d => rfl) (fun s d => rfl)
    exact ⟨y, s', lc_elt rfl rfl e, hs', hp⟩
  refine ⟨s5, ?_⟩
  rw [call_eq (d := d_law.fn) rfl rfl]
  refine r_set (d := .cell 0) (st1 := s1) (x_call (xs := [.inp (ns.map D.int)]) rfl e1) rfl (r_set (d := .tup [.lst ws, encN nm]) (st1 := s3) (x_tup (x_two (x_call (xs := [.cell 0, .lst [.lst [.str "bag", .str "free"], .lst [.str "set", .str "free"], .lst [.str "bag", .str "set"]]]) rfl e2) (x_call (xs := [.cell 0, .lst [encN nx, encN nxy]]) rfl e3)) rfl) rfl ?_)
  obtain ⟨P, rfl, hPl, hP⟩ := puts_of ys hys
  have hAP : AP P := ⟨hP, by rw [List.length_map, List.length_map, List.length_range] at hy; omega⟩
  have k13 : ∀ {f : Str} {xs : List D} {r : D} {k : Nat}, Ret k f xs r → k ≤ 14 → ∀ s, callP T (n + 14) f xs s = .ok r s := fun h hk s => h.mono hk n s
  refine r_set (d := encPP P) (st1 := s5) (x_bi (xs := [.lst (P.map encPut)]) (x_one e5) rfl) rfl ?_
  refine r_ifF (st1 := s5) (x_orF (x_cmp (x := .lst (encI (([] : List W).map fun _ => 0))) (y := .lst []) (k := false) ?_ rfl rfl) (x_not (k := true) (x_call (xs := [encPP P, encN nm]) rfl (k13 (law_right P nm hAP hn) (by omega) s5)))) ?_
  · have := x_lcf (cl := callP T (n + 14)) (ρ := [some (.inp (ns.map D.int)), some (.cell 0), some (encPP P), none, some (.lst ws), some (encN nm), none, none, none, none, none, none, none, none]) (st := s5) (te := .slot 12) (tg := .slot 12) (it := .plain (.slot 2)) (c := .cmp .isnot (.call "is_put" (.econs (.slot 12) .enil)) (.const (.bl true))) (own := [12]) (l := P) (φ := encPut) (p := fun _ => false) (g := encPut) (i_plain' (x := encPP P) rfl rfl) (fun p hp s => lc_if (k := false) rfl (x_cmp (x := .bl true) (y := .bl true) (x_call (xs := [encPut p]) rfl (k13 (is_put p (hP p hp)) (by omega) s)) rfl rfl) fun z => by cases z) (le_lim (by have := hAP.2; omega))
    rw [List.filter_eq_nil_iff.mpr fun _ _ h => by cases h] at this
    exact this
  refine r_set (d := .tup [enc tx, enc ty, enc tc, enc td]) (x_tup (x_cons (x_call (xs := [.str "x"]) rfl rfl) (x_three (x_call (xs := [.str "y"]) rfl rfl) (x_call (xs := [.str "c"]) rfl rfl) (x_call (xs := [.str "d"]) rfl rfl))) rfl) rfl ?_
  refine r_ifF (st1 := s5) (x_orF (x_cmp (x := .tup [.int 2]) (y := .tup [.int 2]) (k := false) (x_call (xs := [encPP [[("x", tc)], [("x", tx)], [("x", ty)]], encN nx]) rfl (k13 sp_1 (by omega) s5)) rfl rfl) (x_cmp (x := .tup []) (y := .tup []) (k := false) (x_call (xs := [encPP [], encN nx]) rfl (k13 sp_0 (by omega) s5)) rfl rfl)) ?_
  refine r_set (d := .tup [enc t0, enc t2]) rfl rfl ?_
  refine r_set (d := encPP ways) rfl rfl ?_
  refine r_ifF (st1 := s5) (x_orF (x_cmp (x := .tup [.int 0, .int 1, .int 2, .int 3]) (y := .tup [.int 0, .int 1, .int 2, .int 3]) (k := false) (x_call (xs := [encPP ways, encN nxy]) rfl (k13 sp_3 (by omega) s5)) rfl rfl) (x_cmp (x := .tup [.int 4]) (y := .tup [.int 4]) (k := false) (x_call (xs := [encPP (ways ++ [w4]), encN nxy]) rfl (k13 sp_4 (by omega) s5)) rfl rfl)) ?_
  refine r_ret (x_andT (st1 := s5) (x_cmp (x := .tup [.int 1]) (y := .tup [.int 1]) (k := true) (x_call (xs := [encPP [w0, [("x", tc)]], encN nx]) rfl (k13 sp_5 (by omega) s5)) rfl rfl) (x_andT (st1 := s5) (x_call (xs := [encPP ways, encN nx]) rfl (k13 (law_right ways nx AP_ways NG_x) (by omega) s5)) (x_call (xs := [encPP [[], [], []], encN nxy]) rfl (k13 (law_right [[], [], []] nxy AP_7 NG_xy) (by omega) s5))))
end K59
end
set_option Elab.async false
set_option linter.all false
set_option maxRecDepth 100000
set_option maxHeartbeats 2000000
theorem PySem.Challenge.cw_gathersolve_k59_whole_spared_lots_of_put_holds : PySem.Challenge.rw_gathersolve_k59_whole_spared_lots_of_put.Holds := by
  exact K59.headed 14 ⟨rfl, by decide, by decide⟩ fun ns hl => K59.law_ok ns hl 0
