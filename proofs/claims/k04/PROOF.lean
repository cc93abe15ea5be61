import PyProof.Rows.All
import Wide.All
import OpenK.AllK
import Wide.FinOn
import HandS.Base
import HandS.ForMost
import HandS.Lambda
import HandS.ForExc
import HandS.TupAny
import HandS.Wide
import HandS.WideBits
import HandS.Text
import HandS.Codes
import HandS.TupLe
import KE.BitLaws
import PyProof.P3In
import HandS.StrMore
import HandS.Style
import HandS.Deep
import PyProof.StrBlock2
import HandS.TupMul
import HandS.IsInst
import HandS.SortInts
import HandS.Strs
import KE.KTupSum
import KE.DatumOrd
import HandS.CallSlots
import HandS.Defaults
import HandS.WordsExc
import KE.DataFind
import PyProof.StrLawsIn
import HandS.Zip
import HandS.Iter
import KE.GoesEnum
import PyProof.EnumMake
import HandS.Small
import KE.KExcSuper
import KE.KExcMake
import HandS.ExcInit
import HandS.HeadWalk
import KE.KDflt
import HandS.HeadHook4
import HandS.HeadHook2
import HandS.ExcIs
import HandS.ExcField
import HandS.SetFor
import HandS.Star
import HandS.More
import HandS.NamedTupSort
import HandS.SortRule
import HandS.Conv
import KE.GoesZip
import KE.KDictZip
import HandS.Head0
import HandS.Head1
import HandS.Head2
import HandS.HeadEnd
import HandS.HeadHook1
import HandS.EndTab
import PySem.Challenge.RW_saidcounts_k04_known_words
set_option Elab.async false
set_option linter.all false
set_option maxRecDepth 100000
set_option maxHeartbeats 0
namespace QE
open PySem

inductive Fl where
  | own | ownM | fr | old
  deriving DecidableEq, Repr

inductive Cl where
  | int | bool | str | tuple | list | dict | cls (n : Nat)
  deriving DecidableEq, Repr

inductive D where
  | non | bl (b : Bool) | int (i : Int) | str (s : List Nat)
  | fn (f : Nat) | exc (c : Nat) (x : D)
  | tup (xs : List D) | lst (f : Fl) (xs : List D) | dic (f : Fl) (t : Bool) (kvs : List (D × D))
  deriving Repr

inductive Res (α : Type) where
  | ok (a : α) | err (c : Nat) (x : D) | bad
  deriving Repr
@[inline] def Res.bind {α β : Type} : Res α → (α → Res β) → Res β
  | .ok a, f => f a
  | .err c x, _ => .err c x
  | .bad, _ => .bad
def Res.of {α : Type} : Option α → Res α
  | some a => .ok a
  | none => .bad

def LIM : Nat := 16777216

def share : D → D
  | .lst .own xs => .lst .fr xs
  | .dic .own t kvs => .dic .fr t kvs
  | d => d
def isM : D → Bool
  | .lst .ownM _ => true
  | .dic .ownM _ _ => true
  | _ => false
def shareR (d : D) : Res D := if isM d then .bad else .ok (share d)
def flat : D → Bool
  | .non | .bl _ | .int _ | .str _ => true
  | _ => false
def flatVals : List (D × D) → Bool
  | [] => true
  | (_, v) :: r => flat v && flatVals r
mutual
def asOld : D → D
  | .lst _ xs => .lst .old (asOlds xs)
  | .dic _ t kvs => .dic .old t kvs
  | .tup xs => .tup (asOlds xs)
  | .exc c x => .exc c x
  | .non => .non
  | .bl b => .bl b
  | .int i => .int i
  | .str s => .str s
  | .fn f => .fn f
termination_by structural d => d
def asOlds : List D → List D
  | [] => []
  | x :: xs => asOld x :: asOlds xs
termination_by structural ds => ds
end
mutual
def okArg : D → Bool
  | .lst _ xs => okArgs xs
  | .dic _ _ kvs => flatVals kvs
  | .tup xs => okArgs xs
  | .exc _ _ => true
  | .non | .bl _ | .int _ | .str _ | .fn _ => true
termination_by structural d => d
def okArgs : List D → Bool
  | [] => true
  | x :: xs => okArg x && okArgs xs
termination_by structural ds => ds
end
mutual
def noOld : D → Bool
  | .lst f xs => f != .old && f != .ownM && noOlds xs
  | .dic f _ kvs => f != .old && f != .ownM && flatVals kvs
  | .tup xs => noOlds xs
  | .exc _ _ => true
  | .non | .bl _ | .int _ | .str _ | .fn _ => true
termination_by structural d => d
def noOlds : List D → Bool
  | [] => true
  | x :: xs => noOld x && noOlds xs
termination_by structural ds => ds
end
def asOldKv : List (D × D) → List (D × D)
  | [] => []
  | (k, v) :: r => (k, asOld v) :: asOldKv r
def okArgKv : List (D × D) → Bool
  | [] => true
  | (_, v) :: r => okArg v && okArgKv r
def noOldKv : List (D × D) → Bool
  | [] => true
  | (_, v) :: r => noOld v && noOldKv r
mutual
def deq : D → D → Bool
  | .non, .non => true
  | .bl a, .bl b => a == b
  | .bl a, .int b => (if a then 1 else 0) == b
  | .int a, .bl b => a == (if b then 1 else 0)
  | .int a, .int b => a == b
  | .str a, .str b => a == b
  | .tup xs, .tup ys => deqs xs ys
  | .lst _ xs, .lst _ ys => deqs xs ys
  | _, _ => false
termination_by structural x => x
def deqs : List D → List D → Bool
  | [], [] => true
  | x :: xs, y :: ys => deq x y && deqs xs ys
  | _, _ => false
termination_by structural xs => xs
end
def okN : List Nat → Bool
  | [] => true
  | c :: r => Nat.blt c 1114112 && okN r
mutual
def eqOk : Nat → D → Bool
  | _, .non | _, .bl _ | _, .int _ => true
  | _, .str s => okN s
  | 0, _ => false
  | n + 1, .tup xs => eqOks n xs
  | n + 1, .lst _ xs => eqOks n xs
  | _, _ => false
termination_by structural _ x => x
def eqOks : Nat → List D → Bool
  | _, [] => true
  | n, x :: xs => eqOk n x && eqOks n xs
termination_by structural _ xs => xs
end
def lexN : List Nat → List Nat → Bool
  | [], [] => false
  | [], _ :: _ => true
  | _ :: _, [] => false
  | a :: as, b :: bs => if a == b then lexN as bs else Nat.blt a b
mutual
def dlt : D → D → Option Bool
  | .int a, .int b => some (decide (a < b))
  | .str a, .str b => some (lexN a b)
  | .tup xs, .tup ys => dlts xs ys
  | .lst _ xs, .lst _ ys => dlts xs ys
  | _, _ => none
termination_by structural x => x
def dlts : List D → List D → Option Bool
  | [], [] => some false
  | [], _ :: _ => some true
  | _ :: _, [] => some false
  | x :: xs, y :: ys => if deq x y then dlts xs ys else dlt x y
termination_by structural xs => xs
end

def intsOnly : List D → Option (List Int)
  | [] => some []
  | .int i :: r => (intsOnly r).map (i :: ·)
  | _ :: _ => none
def lexI : List Int → List Int → Bool
  | [], [] => false
  | [], _ :: _ => true
  | _ :: _, [] => false
  | x :: xs, y :: ys => if x = y then lexI xs ys else decide (x < y)
def dltT : D → D → Option Bool
  | .int a, .int b => some (decide (a < b))
  | .str a, .str b => some (lexN a b)
  | .tup xs, .tup ys => match intsOnly xs, intsOnly ys with
    | some a, some b => some (lexI a b)
    | _, _ => none
  | _, _ => none

def dfind (k : D) : List (D × D) → Option D
  | [] => none
  | (a, b) :: r => if deq a k then some b else dfind k r
def dany (k : D) : List (D × D) → Bool
  | [] => false
  | (a, _) :: r => deq a k || dany k r
def dmapv (k v : D) : List (D × D) → List (D × D)
  | [] => []
  | (a, b) :: r => (a, if deq a k then v else b) :: dmapv k v r
def dput (k v : D) (l : List (D × D)) : List (D × D) := if dany k l then dmapv k v l else l ++ [(k, v)]
def keyOk : D → Bool
  | .int _ | .str _ => true
  | _ => false
def allFlatKey : List D → Bool
  | [] => true
  | x :: xs => keyOk x && allFlatKey xs
def keyIs : Bool → D → Bool
  | false, .int _ | false, .str _ => true
  | true, .tup xs => allFlatKey xs
  | _, _ => false
def kindsAre (t : Bool) : List (D × D) → Bool
  | [] => true
  | (k, _) :: r => keyIs t k && kindsAre t r

def ixN (n : Nat) (i : Int) : Option Nat :=
  match i with
  | .ofNat k => if Nat.blt k n then some k else none
  | .negSucc k => if Nat.blt k n then some (n - (k + 1)) else none
def nth {α : Type} : List α → Nat → Option α
  | [], _ => none
  | x :: _, 0 => some x
  | _ :: xs, n + 1 => nth xs n
def atI {α : Type} (xs : List α) (i : Int) : Option α := (ixN xs.length i).bind fun k => nth xs k
def sIx (n dflt : Nat) : Option Int → Nat
  | none => dflt
  | some (.ofNat k) => if Nat.blt n k then n else k
  | some (.negSucc k) => n - (k + 1)
def cut {α : Type} (xs : List α) (lo hi : Option Int) : List α :=
  let a := sIx xs.length 0 lo
  let b := sIx xs.length xs.length hi
  (xs.drop a).take (b - a)

def intsD : List D → Option (List Int)
  | [] => some []
  | .int i :: r => (intsD r).map (i :: ·)
  | _ :: _ => none
def boolsD : List D → Option (List Bool)
  | [] => some []
  | .bl i :: r => (boolsD r).map (i :: ·)
  | _ :: _ => none
def strsD : List D → Option (List (List Nat))
  | [] => some []
  | .str i :: r => (strsD r).map (i :: ·)
  | _ :: _ => none
def firstsN (l : List (List Nat)) : List (List Nat) := l.foldl (fun s x => if x ∈ s then s else s ++ [x]) []
def dcN (l : List (List Nat)) : Nat := (firstsN l).length
def sumI : List Int → Int
  | [] => 0
  | x :: r => x + sumI r
def maxI (m : Int) : List Int → Int
  | [] => m
  | x :: r => maxI (if m < x then x else m) r
def minI (m : Int) : List Int → Int
  | [] => m
  | x :: r => minI (if x < m then x else m) r
def insI (x : Int) : List Int → List Int
  | [] => [x]
  | y :: r => if x < y then x :: y :: r else y :: insI x r
def sortI : List Int → List Int
  | [] => []
  | x :: r => insI x (sortI r)
def lexLtI : List Int → List Int → Bool
  | [], [] => false
  | [], _ :: _ => true
  | _ :: _, [] => false
  | x :: xs, y :: ys => if x = y then lexLtI xs ys else decide (x < y)
def insT (x : List Int) : List (List Int) → List (List Int)
  | [] => [x]
  | y :: r => if lexLtI y x then y :: insT x r else x :: y :: r
def sortT : List (List Int) → List (List Int)
  | [] => []
  | x :: r => insT x (sortT r)
def insU (x : Int) : List Int → List Int
  | [] => [x]
  | y :: r => if x < y then x :: y :: r else if x == y then y :: r else y :: insU x r
def sortU : List Int → List Int
  | [] => []
  | x :: r => insU x (sortU r)
def insS (x : List Nat) : List (List Nat) → List (List Nat)
  | [] => [x]
  | y :: r => if lexN x y then x :: y :: r else y :: insS x r
def sortS : List (List Nat) → List (List Nat)
  | [] => []
  | x :: r => insS x (sortS r)
def insSU (x : List Nat) : List (List Nat) → List (List Nat)
  | [] => [x]
  | y :: r => if lexN x y then x :: y :: r else if x == y then y :: r else y :: insSU x r
def sortSU : List (List Nat) → List (List Nat)
  | [] => []
  | x :: r => insSU x (sortSU r)
def insK (k : D) (x : D) : List (D × D) → Option (List (D × D))
  | [] => some [(k, x)]
  | (j, y) :: r => (dlt j k).bind fun b => if b then (insK k x r).map ((j, y) :: ·) else some ((k, x) :: (j, y) :: r)
def sortK : List (D × D) → Option (List (D × D))
  | [] => some []
  | (k, x) :: r => (sortK r).bind fun s => insK k x s
def joinS (sep : List Nat) : List (List Nat) → List Nat
  | [] => []
  | [x] => x
  | x :: r => x ++ sep ++ joinS sep r
def sumLen : List (List Nat) → Nat
  | [] => 0
  | x :: r => x.length + sumLen r
def cntD (x : D) : List D → Nat
  | [] => 0
  | y :: r => if deq y x then cntD x r + 1 else cntD x r
def cntN (x : Nat) : List Nat → Nat
  | [] => 0
  | y :: r => if Nat.beq y x then cntN x r + 1 else cntN x r
def idxD (x : D) (n : Nat) : List D → Option Nat
  | [] => none
  | y :: r => if deq y x then some n else idxD x (n + 1) r
def memD (x : D) : List D → Bool
  | [] => false
  | y :: r => deq y x || memD x r
def memN (x : Nat) : List Nat → Bool
  | [] => false
  | y :: r => Nat.beq y x || memN x r
def idxN (x : Nat) (n : Nat) : List Nat → Option Nat
  | [] => none
  | y :: r => if Nat.beq y x then some n else idxN x (n + 1) r
def allFlat : List D → Bool
  | [] => true
  | x :: r => flat x && allFlat r
def rep {α : Type} (xs : List α) : Nat → List α
  | 0 => []
  | n + 1 => xs ++ rep xs n
def enumD (n : Nat) : List D → List D
  | [] => []
  | x :: r => .tup [.int n, x] :: enumD (n + 1) r
def zipD : List D → List D → List D
  | x :: xs, y :: ys => .tup [x, y] :: zipD xs ys
  | _, _ => []
def zip3D : List D → List D → List D → List D
  | x :: xs, y :: ys, z :: zs => .tup [x, y, z] :: zip3D xs ys zs
  | _, _, _ => []
def signs : List Nat → List D
  | [] => []
  | c :: r => .str [c] :: signs r
def rangeL (lo : Int) : Nat → List D
  | 0 => []
  | n + 1 => .int lo :: rangeL (lo + 1) n
def rangeC (lo c : Int) : Nat → List D
  | 0 => []
  | n + 1 => .int lo :: rangeC (lo + c) c n
def kvD : List (D × D) → List D
  | [] => []
  | (k, v) :: r => .tup [k, v] :: kvD r
def valsD : List (D × D) → List D
  | [] => []
  | (_, v) :: r => v :: valsD r
def keysD : List (D × D) → List D
  | [] => []
  | (k, _) :: r => k :: keysD r
def pairsOf : List D → Option (List (D × D))
  | [] => some []
  | .tup [k, v] :: r => (pairsOf r).map ((k, v) :: ·)
  | _ :: _ => none
def pairUp : List D → List (D × D)
  | a :: b :: r => (a, b) :: pairUp r
  | _ => []
def mergeD : List (D × D) → List (D × D) → List (D × D)
  | acc, [] => acc
  | acc, (k, v) :: r => mergeD (dput k v acc) r

def isCl : Cl → D → Bool
  | .int, .int _ => true
  | .int, .bl _ => true
  | .bool, .bl _ => true
  | .str, .str _ => true
  | .tuple, .tup _ => true
  | .list, .lst _ _ => true
  | .dict, .dic _ _ _ => true
  | .cls n, .exc c _ => Nat.beq n 0 || Nat.beq n c
  | _, _ => false

def isiOk : D → Bool
  | .fn _ | .exc _ _ | .dic _ true _ => false
  | _ => true
def kindN : D → Nat
  | .str _ => 1
  | .lst _ _ => 2
  | .tup _ => 3
  | .dic _ _ _ => 4
  | _ => 0
def log2 (n : Nat) : Nat := Nat.log2 n
def mulOk (a b : Int) : Bool := Nat.blt (a.natAbs.log2 + b.natAbs.log2) 1000000
def divOk (b : Int) : Bool := decide (0 < b) && Nat.blt b.natAbs.log2 9000

inductive Pr where
  | add | sub | mul | fdiv | mod | pow | xor | neg
  | eq | ne | lt | le | gt | ge | in_ | notIn
  | isC (d : D) (pos : Bool)
  | ix | sl (lo hi : Bool) | rev
  | len | abs | min2 | max2 | minL | maxL | sumL | anyL | allL | sorted | tuple | list | sortedSet | lenSet | int1 | str1
  | dictL | dictEnum | listRange1 | listRange2 | tupRange1 | tupRange2 | listZip
  | count | index | indexL | get1 | get2 | join | sumVals | startswith | excField
  | isi (ts : List Cl)
  deriving Repr

def notOwnB : D → Bool
  | .lst .own _ | .lst .ownM _ | .dic .own _ _ | .dic .ownM _ _ => false
  | _ => true
def methOk : Pr → Nat → Bool
  | .count, 1 | .count, 2 | .index, 1 | .index, 2 | .indexL, 2 | .get1, 4 | .get2, 4 | .join, 1 => true
  | _, _ => false
def D.own (xs : List D) : D := .lst .own xs
def limL (xs : List D) : Res D := if Nat.ble xs.length LIM then .ok (.lst .own xs) else .bad
def limT (xs : List D) : Res D := if Nat.ble xs.length LIM then .ok (.tup xs) else .bad
def limS (xs : List Nat) : Res D := if Nat.ble xs.length LIM then .ok (.str xs) else .bad

def digitsF : Nat → Nat → List Nat → List Nat
  | 0, _, acc => acc
  | f + 1, n, acc => if Nat.blt n 10 then (48 + n) :: acc else digitsF f (n / 10) ((48 + n % 10) :: acc)
def digits (n : Nat) : List Nat := digitsF (n.log2 + 1) n []
def strInt : Int → List Nat
  | .ofNat n => digits n
  | .negSucc n => 45 :: digits (n + 1)
def parseDigits : List Nat → Nat → Option Nat
  | [], acc => some acc
  | c :: r, acc => if Nat.ble 48 c && Nat.ble c 57 then parseDigits r (acc * 10 + (c - 48)) else none

def sliceD (x : D) (lo hi : Option Int) : Res D := match x with
  | .str s => if Nat.ble s.length LIM then .ok (.str (cut s lo hi)) else .bad
  | .lst _ xs => .ok (.lst .own (cut xs lo hi))
  | .tup xs => .ok (.tup (cut xs lo hi))
  | _ => .bad
def pCmp (x y : D) : Res D := match dltT x y with
  | some b => .ok (.bl b)
  | none => .bad
def bxor (i j : Int) : Option Int := match i, j with
  | .ofNat a, .ofNat b => some (.ofNat (a ^^^ b))
  | _, _ => none
def prefixN : List Nat → List Nat → Bool
  | [], _ => true
  | _ :: _, [] => false
  | a :: as, b :: bs => Nat.beq a b && prefixN as bs

def rowsI : List D → Option (List (List Int))
  | [] => some []
  | .tup xs :: r => (intsD xs).bind fun a => (rowsI r).map fun b => a :: b
  | _ :: _ => none
def tupI (ns : List Int) : D := .tup (ns.map .int)
def sortRows (xs : List D) : Res D := match rowsI xs with
  | some r => if Nat.blt r.length 2 || r.all (fun z => !z.isEmpty) then .ok (.lst .own ((sortT r).map tupI)) else .bad
  | none => .bad
def prim : Pr → List D → Res D
  | .add, [.int a, .int b] => .ok (.int (a + b))
  | .add, [.str a, .str b] => limS (a ++ b)
  | .add, [.lst _ a, .lst _ b] => limL (a ++ b)
  | .add, [.tup a, .tup b] => limT (a ++ b)
  | .sub, [.int a, .int b] => .ok (.int (a - b))
  | .mul, [.int a, .int b] => if mulOk a b then .ok (.int (a * b)) else .bad
  | .mul, [.str a, .int k] => if Nat.ble (a.length * k.toNat) LIM && Nat.ble a.length LIM && decide (k < 16777216) && decide (-16777216 < k) then .ok (.str (rep a k.toNat)) else .bad
  | .mul, [.lst _ a, .int k] => if Nat.ble (a.length * k.toNat) LIM && decide (k < 16777216) && decide (-16777216 < k) then .ok (.lst .own (rep a k.toNat)) else .bad
  | .mul, [.tup a, .int k] => if Nat.blt 0 a.length && decide (1 ≤ k) && decide (k ≤ 1000) && Nat.ble a.length 1000 then .ok (.tup (rep a k.toNat)) else .bad
  | .fdiv, [.int a, .int b] => if divOk b then .ok (.int (a / b)) else .bad
  | .mod, [.int a, .int b] => if decide (0 < b) then .ok (.int (a % b)) else .bad
  | .pow, [.int a, .int b] => if decide (0 ≤ b) && decide (b ≤ 1000000) && Nat.blt a.natAbs.log2 64 then .ok (.int (a ^ b.toNat)) else .bad
  | .xor, [.int a, .int b] => match bxor a b with
    | some c => .ok (.int c)
    | none => .bad
  | .neg, [.int a] => .ok (.int (-a))
  | .eq, [.str a, .str b] => .ok (.bl (a == b))
  | .ne, [.str a, .str b] => .ok (.bl (!(a == b)))
  | .eq, [x, y] => if eqOk 50 x && eqOk 50 y then .ok (.bl (deq x y)) else .bad
  | .ne, [x, y] => if eqOk 50 x && eqOk 50 y then .ok (.bl (!deq x y)) else .bad
  | .lt, [x, y] => pCmp x y
  | .gt, [.int a, .int b] => .ok (.bl (decide (b < a)))
  | .gt, [.str a, .str b] => .ok (.bl (lexN b a))
  | .gt, [.tup a, .tup b] => match intsD a, intsD b with
    | some i, some j => .ok (.bl (lexI j i))
    | _, _ => .bad
  | .le, [.int a, .int b] => .ok (.bl (decide (a ≤ b)))
  | .ge, [.int a, .int b] => .ok (.bl (decide (b ≤ a)))
  | .le, [.str a, .str b] => .ok (.bl (!lexN b a))
  | .ge, [.str a, .str b] => .ok (.bl (!lexN a b))
  | .in_, [.str [c], .str s] => .ok (.bl (memN c s))
  | .notIn, [.str [c], .str s] => .ok (.bl (!memN c s))
  | .in_, [x, .tup ys] => if eqOk 50 x && eqOks 49 ys then .ok (.bl (memD x ys)) else .bad
  | .notIn, [x, .tup ys] => if eqOk 50 x && eqOks 49 ys then .ok (.bl (!memD x ys)) else .bad
  | .in_, [x, .lst _ ys] => if eqOk 50 x && eqOks 49 ys then .ok (.bl (memD x ys)) else .bad
  | .notIn, [x, .lst _ ys] => if eqOk 50 x && eqOks 49 ys then .ok (.bl (!memD x ys)) else .bad
  | .in_, [x, .dic _ t kvs] => if keyIs t x then .ok (.bl (dfind x kvs).isSome) else .bad
  | .notIn, [x, .dic _ t kvs] => if keyIs t x then .ok (.bl (!(dfind x kvs).isSome)) else .bad
  | .isC .non pos, [x] => .ok (.bl ((match x with | .non => true | _ => false) == pos))
  | .isC (.bl b) pos, [.bl a] => .ok (.bl ((a == b) == pos))
  | .ix, [.str s, .int i] => if Nat.ble s.length LIM then (match atI s i with
    | some c => .ok (.str [c])
    | none => .bad) else .bad
  | .ix, [.lst _ xs, .int i] => .of (atI xs i)
  | .ix, [.tup xs, .int i] => .of (atI xs i)
  | .ix, [.dic _ t kvs, k] => if keyIs t k then .of (dfind k kvs) else .bad
  | .sl false false, [x] => sliceD x none none
  | .sl true false, [x, .int a] => sliceD x (some a) none
  | .sl false true, [x, .int b] => sliceD x none (some b)
  | .rev, [.lst _ xs] => .ok (.lst .own xs.reverse)
  | .rev, [.str xs] => limS xs.reverse
  | .rev, [.tup xs] => .ok (.tup xs.reverse)
  | .len, [.str s] => if Nat.ble s.length LIM then .ok (.int s.length) else .bad
  | .len, [.lst _ s] => .ok (.int s.length)
  | .len, [.tup s] => .ok (.int s.length)
  | .abs, [.int a] => .ok (.int (if a < 0 then -a else a))
  | .min2, [.int a, .int b] => .ok (.int (if b < a then b else a))
  | .max2, [.int a, .int b] => .ok (.int (if a < b then b else a))
  | .minL, [.lst _ xs] => match intsD xs with
    | some (x :: r) => .ok (.int (minI x r))
    | _ => .bad
  | .minL, [.tup xs] => match intsD xs with
    | some (x :: r) => .ok (.int (minI x r))
    | _ => .bad
  | .maxL, [.lst _ xs] => match intsD xs with
    | some (x :: r) => .ok (.int (maxI x r))
    | _ => .bad
  | .maxL, [.tup xs] => match intsD xs with
    | some (x :: r) => .ok (.int (maxI x r))
    | _ => .bad
  | .sumL, [.lst _ xs] => match intsD xs with
    | some r => .ok (.int (sumI r))
    | _ => .bad
  | .sumL, [.tup xs] => match intsD xs with
    | some r => .ok (.int (sumI r))
    | _ => .bad
  | .anyL, [.lst _ xs] => match boolsD xs with
    | some r => .ok (.bl (r.any id))
    | _ => .bad
  | .allL, [.lst _ xs] => match boolsD xs with
    | some r => .ok (.bl (r.all id))
    | _ => .bad
  | .sorted, [.lst _ xs] => match intsD xs with
    | some r => .ok (.lst .own ((sortI r).map .int))
    | none => sortRows xs
  | .sorted, [.tup xs] => match intsD xs with
    | some r => .ok (.lst .own ((sortI r).map .int))
    | none => .bad
  | .sorted, [.dic _ false kvs] => match intsD (keysD kvs) with
    | some r => if Nat.blt r.length 64 then .ok (.lst .own ((sortI r).map .int)) else .bad
    | none => .bad
  | .sortedSet, [.lst _ xs] => match intsD xs with
    | some r => if Nat.blt r.length 4095 && Nat.blt (sortU r).length 64 then .ok (.lst .own ((sortU r).map .int)) else .bad
    | none => .bad
  | .lenSet, [.lst _ xs] => match strsD xs with
    | some r => if Nat.blt r.length 4095 then .ok (.int (dcN r : Nat)) else .bad
    | none => .bad
  | .tuple, [.lst _ xs] => .ok (.tup xs)
  | .tuple, [.tup xs] => .ok (.tup xs)
  | .list, [.lst _ xs] => .ok (.lst .own xs)
  | .list, [.tup xs] => .ok (.lst .own xs)
  | .int1, [.int a] => .ok (.int a)
  | .str1, [.int a] => if Nat.blt a.natAbs.log2 1920 then .ok (.str (strInt a)) else .bad
  | .dictL, [.lst _ xs] => match pairsOf xs with
    | some ps => if kindsAre false ps then .ok (.dic .own false (mergeD [] ps)) else .bad
    | none => .bad
  | .dictEnum, [.lst _ xs] => .ok (.dic .own false (mergeD [] ((enumD 0 xs).filterMap fun | .tup [a, b] => some (a, b) | _ => none)))
  | .dictEnum, [.tup xs] => .ok (.dic .own false (mergeD [] ((enumD 0 xs).filterMap fun | .tup [a, b] => some (a, b) | _ => none)))
  | .listRange1, [.int n] => if decide (-1000000 ≤ n) && decide (n ≤ 1000000) then .ok (.lst .own (rangeL 0 n.toNat)) else .bad
  | .listRange2, [.int a, .int b] => if decide (-1000000 ≤ a) && decide (a ≤ 1000000) && decide (-1000000 ≤ b) && decide (b ≤ 1000000) then .ok (.lst .own (rangeL a (b - a).toNat)) else .bad
  | .tupRange1, [.int n] => if decide (-1000000 ≤ n) && decide (n ≤ 1000000) then .ok (.tup (rangeL 0 n.toNat)) else .bad
  | .tupRange2, [.int a, .int b] => if decide (-1000000 ≤ a) && decide (a ≤ 1000000) && decide (-1000000 ≤ b) && decide (b ≤ 1000000) then .ok (.tup (rangeL a (b - a).toNat)) else .bad
  | .listZip, [.lst _ a, .lst _ b] => .ok (.lst .own (zipD a b))
  | .count, [.str s, .str [c]] => .ok (.int (cntN c s))
  | .count, [.lst _ xs, x] => if eqOk 50 x && eqOks 49 xs then .ok (.int (cntD x xs)) else .bad
  | .count, [.tup xs, x] => if eqOk 50 x && eqOks 49 xs then .ok (.int (cntD x xs)) else .bad
  | .index, [.str s, .str [c]] => match idxN c 0 s with
    | some i => .ok (.int i)
    | none => .bad
  | .index, [.lst _ xs, x] => if eqOk 50 x && eqOks 49 xs then match idxD x 0 xs with
      | some i => .ok (.int i)
      | none => .bad else .bad
  | .indexL, [.lst _ xs, x] => if eqOk 50 x && eqOks 49 xs then match idxD x 0 xs with
      | some i => .ok (.int i)
      | none => .bad else .bad
  | .index, [.tup xs, x] => if eqOk 50 x && eqOks 49 xs then match idxD x 0 xs with
      | some i => .ok (.int i)
      | none => .bad else .bad
  | .get1, [.dic _ t kvs, k] => if keyIs t k then .ok ((dfind k kvs).getD .non) else .bad
  | .get2, [.dic _ t kvs, k, d] => if keyIs t k && notOwnB d then .ok ((dfind k kvs).getD d) else .bad
  | .join, [.str sep, .lst _ xs] => match strsD xs with
    | some r => if Nat.ble (sumLen r + r.length * sep.length) LIM then .ok (.str (joinS sep r)) else .bad
    | none => .bad
  | .sumVals, [.dic _ _ kvs] => match intsD (valsD kvs) with
    | some r => .ok (.int (sumI r))
    | none => .bad
  | .startswith, [.str a, .str b] => .ok (.bl (prefixN b a))
  | .excField, [.exc _ x] => .ok x
  | _, _ => .bad

def noErr {α : Type} : Res α → Res α
  | .err _ _ => .bad
  | r => r
inductive It where
  | list | enum | zip | zip3 | range1 | range2 | range3 | items | values
  deriving DecidableEq, Repr
inductive Tg where
  | var (i : Nat) | tup (ts : List Tg)
  deriving Repr

inductive IE where
  | lit (d : D)
  | var (i : Nat)
  | pr (p : Pr) (args : List IE)
  | isi (ts : List Cl) (a : IE)
  | meth (p : Pr) (o : IE) (args : List IE)
  | fail
  | slc (a lo hi : IE)
  | and (a b : IE) | or (a b : IE) | not (a : IE)
  | ite (c a b : IE)
  | chain (p q : Pr) (a b c : IE)
  | tup (es : List IE) | lst (es : List IE)
  | tupS (es : List IE) | lstS (es : List IE) | star (e : IE)
  | dic (t : Bool) (kvs : List IE)
  | call (f : Nat) (args : List IE)
  | callv (i : Nat) (args : List IE)
  | thunk (g : Nat) (f : IE) (args : List IE)
  | comp (own : List Nat) (elt : IE) (t : Tg) (it : It) (src : List IE) (ifs : List IE)
  | sortK (own : List Nat) (src : IE) (key : IE) (i : Nat)
  | pop (i : Nat)
  | exIs (i : Nat) (c : Option Nat)
  | exF (i : Nat) (cs : List Nat)

inductive IS where
  | fail
  | asg (t : Tg) (e : IE)
  | par (ts : List Tg) (es : List IE)
  | setS (i : Nat) (path : List IE) (k : IE) (e : IE)
  | augS (i : Nat) (path : List IE) (k : IE) (p : Pr) (e : IE)
  | aug (i : Nat) (p : Pr) (e : IE)
  | app (i : Nat) (path : List IE) (e : IE)
  | ext (i : Nat) (path : List IE) (e : IE)
  | expr (e : IE)
  | ret (e : IE)
  | iff (c : IE) (a b : List IS)
  | for_ (t : Tg) (it : It) (src : List IE) (body : List IS)
  | while_ (c : IE) (body : List IS)
  | raise (c : Nat) (args : List IE)
  | try_ (body : List IS) (c : Nat) (as_ : Option Nat) (h : List IS)
  | pass

abbrev Env := List (Option D)
def getS : Env → Nat → Option D
  | [], _ => none
  | d :: _, 0 => d
  | _ :: r, n + 1 => getS r n
def setS : Env → Nat → Option D → Env
  | [], _, _ => []
  | _ :: r, 0, v => v :: r
  | d :: r, n + 1, v => d :: setS r n v
def wipe (ρ : Env) : List Nat → Env
  | [] => ρ
  | i :: r => setS (wipe ρ r) i none
def restore (ρ0 ρ : Env) : List Nat → Env
  | [] => ρ
  | i :: r => setS (restore ρ0 ρ r) i (getS ρ0 i)

inductive Opd where
  | slot (i : Nat) | val (d : D)
def Opd.get (ρ : Env) : Opd → Option D
  | .slot i => getS ρ i
  | .val d => some d
def gets (ρ : Env) : List Opd → Option (List D)
  | [] => some []
  | o :: r => (o.get ρ).bind fun d => (gets ρ r).map (d :: ·)

mutual
def bindT : Tg → D → Env → Option Env
  | .var i, d, ρ => some (setS ρ i (some (share d)))
  | .tup ts, .tup xs, ρ => bindTs ts xs ρ
  | .tup _, _, _ => none
termination_by structural t => t
def bindTs : List Tg → List D → Env → Option Env
  | [], [], ρ => some ρ
  | t :: ts, x :: xs, ρ => (bindT t x ρ).bind fun ρ1 => bindTs ts xs ρ1
  | _, _, _ => none
termination_by structural ts => ts
end

def rgOk (n : Int) : Bool := decide (-(2 ^ 62) ≤ n) && decide (n < 2 ^ 62)
def itList : List D → Option (List D)
  | [.lst _ xs] => some xs
  | [.tup xs] => some xs
  | [.str s] => some (signs s)
  | _ => none
def itZip : List D → Option (List D)
  | [.lst _ x, .lst _ y] => some (zipD x y)
  | [.tup x, .tup y] => some (zipD x y)
  | _ => none
def itZip3 : List D → Option (List D)
  | [.lst _ x, .lst _ y, .lst _ z] => some (zip3D x y z)
  | _ => none
def iterOf (it : It) (ds : List D) : Option (List D) := match it with
  | .list => itList ds
  | .enum => (itList ds).map (enumD 0)
  | .zip => itZip ds
  | .zip3 => itZip3 ds
  | .range1 => match intsD ds with
    | some [n] => if rgOk n then some (rangeL 0 n.toNat) else none
    | _ => none
  | .range2 => match intsD ds with
    | some [a, b] => if rgOk a && rgOk b then some (rangeL a (b - a).toNat) else none
    | _ => none
  | .range3 => match intsD ds with
    | some [a, b, c] => if rgOk a && rgOk b && decide (c = -1) then some (rangeC a c (a - b).toNat) else none
    | _ => none
  | _ => none

inductive Fw where
  | nx (ρ : Env) | rt (d : D) (ρ : Env)

def pathGet (d : D) : List D → Option D
  | [] => some d
  | k :: r => match prim .ix [d, k] with
    | .ok x => pathGet x r
    | _ => none
def setAt {α : Type} : List α → Nat → α → List α
  | [], _, _ => []
  | _ :: r, 0, v => v :: r
  | x :: r, n + 1, v => x :: setAt r n v
def setItem (d k v : D) : Option D :=
  match d with
  | .lst f xs => if f == .own || f == .ownM then match k with
      | .int i => (ixN xs.length i).map fun n => .lst f (setAt xs n v)
      | _ => none else none
  | .dic f t kvs => if (f == .own || f == .ownM) && keyIs t k && Nat.blt kvs.length LIM then some (.dic f t (dput k v kvs)) else none
  | _ => none

def whileF (c : Env → Res (Bool × Env)) (b : Env → Res Fw) : Nat → Env → Res Fw
  | 0, _ => .bad
  | n + 1, ρ => (c ρ).bind fun (t, ρ1) => if t then (b ρ1).bind fun
      | .nx ρ2 => whileF c b n ρ2
      | .rt d ρ2 => .ok (.rt d ρ2) else .ok (.nx ρ1)
def forF (t : Tg) (b : Env → Res Fw) : List D → Env → Res Fw
  | [], ρ => .ok (.nx ρ)
  | x :: r, ρ => (Res.of (bindT t x ρ)).bind fun ρ1 => (b ρ1).bind fun
      | .nx ρ2 => forF t b r ρ2
      | .rt d ρ2 => .ok (.rt d ρ2)
def compF (t : Tg) (own : List Nat) (ρ0 : Env) (b : Env → Res (Option D × Env)) : List D → List D → Env → Res (List D × Env)
  | acc, [], ρ => .ok (acc, ρ)
  | acc, x :: r, ρ => (Res.of (bindT t x (wipe ρ own))).bind fun ρ1 => (b ρ1).bind fun
      | (some d, ρ2) => if Nat.blt acc.length LIM then (shareR d).bind fun d' => compF t own ρ0 b (acc ++ [d']) r ρ2 else .bad
      | (none, ρ2) => compF t own ρ0 b acc r ρ2

abbrev Calls := Nat → List D → Res (D × List D)
abbrev Muts := Nat → Option Nat
def mNext : Option Nat → Option Nat
  | some (k + 1) => some k
  | _ => none

def give (d : D) : Option D := if okArg d then some (asOld d) else none
def giveM : D → Option D
  | .lst .own xs => if okArgs xs then some (.lst .ownM (asOlds xs)) else none
  | .lst .ownM xs => if okArgs xs then some (.lst .ownM (asOlds xs)) else none
  | .dic .own t kvs => if okArgKv kvs then some (.dic .ownM t (asOldKv kvs)) else none
  | .dic .ownM t kvs => if okArgKv kvs then some (.dic .ownM t (asOldKv kvs)) else none
  | _ => none
def mHere : Option Nat → Bool
  | some 0 => true
  | _ => false
def handOver (ρ : Env) : Option Nat → List Opd → Option (List D)
  | _, [] => some []
  | m, o :: r => (o.get ρ).bind fun d => (if mHere m then giveM d else give d).bind fun d' => (handOver ρ (mNext m) r).map (d' :: ·)
def takeBack (m : Option Nat) (os : List Opd) (outs : List D) (ρ : Env) : Option Env := match m with
  | none => some ρ
  | some j => match nth os j with
    | some (.slot i) => match outs with
      | [.lst .ownM ys] => match getS ρ i with
        | some (.lst f _) => some (setS ρ i (some (.lst f ys)))
        | _ => none
      | [.dic .ownM t ys] => match getS ρ i with
        | some (.dic f _ _) => some (setS ρ i (some (.dic f t ys)))
        | _ => none
      | _ => none
    | some (.val _) => some ρ
    | none => none
def ownD : D → Bool
  | .lst .own _ | .lst .ownM _ | .dic .own _ _ | .dic .ownM _ _ => true
  | _ => false
def lends (ρ : Env) : Option Nat → List Opd → Bool
  | _, [] => false
  | m, o :: r => (!mHere m && (match o.get ρ with
      | some d => ownD d
      | none => false)) || lends ρ (mNext m) r
def shareLent : Option Nat → List Opd → Env → Option Env
  | _, [], ρ => some ρ
  | m, o :: r, ρ => if mHere m then shareLent (mNext m) r ρ else match o with
    | .val _ => shareLent (mNext m) r ρ
    | .slot i => match getS ρ i with
      | some d => if isM d then none else shareLent (mNext m) r (setS ρ i (some (share d)))
      | none => none
def notSlot (i : Nat) : Opd → Bool
  | .slot j => !Nat.beq j i
  | .val _ => true
def allNot (i : Nat) : List Opd → Bool
  | [] => true
  | o :: r => notSlot i o && allNot i r
def othersNot (i : Nat) : Nat → List Opd → Bool
  | _, [] => true
  | 0, _ :: r => allNot i r
  | k + 1, o :: r => notSlot i o && othersNot i k r
def soleM (m : Option Nat) (os : List Opd) : Bool := match m with
  | none => true
  | some j => match nth os j with
    | some (.slot i) => othersNot i j os
    | some (.val _) => true
    | none => false
def notM : D → Bool
  | .lst .ownM _ | .dic .ownM _ _ => false
  | _ => true
def noOldOuts : List D → Bool
  | [] => true
  | .lst _ xs :: r => noOlds xs && noOldOuts r
  | .dic _ _ kvs :: r => noOldKv kvs && noOldOuts r
  | _ :: _ => false

def shareOs : Option Nat → List Opd → List Opd
  | _, [] => []
  | m, .slot i :: r => .slot i :: shareOs (mNext m) r
  | m, .val d :: r => .val (if mHere m then d else share d) :: shareOs (mNext m) r
def valsOk : Option Nat → List Opd → Bool
  | _, [] => true
  | m, .slot _ :: r => valsOk (mNext m) r
  | m, .val d :: r => (mHere m || !isM d) && valsOk (mNext m) r

def doCall (Φ : Calls) (M : Muts) (f : Nat) (os0 : List Opd) (ρ : Env) : Res (D × Env) :=
  let os := shareOs (M f) os0
  if valsOk (M f) os0 && soleM (M f) os then
  match handOver ρ (M f) os with
  | some ds => match Φ f ds with
    | .ok (d, outs) => if !notM d then .bad else if noOld d && noOldOuts outs then (match takeBack (M f) os outs ρ with
        | some ρ' => .ok (d, ρ')
        | none => .bad) else match shareLent (M f) os ρ with
      | some ρb => if lends ρb (M f) os then .bad else match takeBack (M f) os outs ρb with
        | some ρ' => .ok (d, ρ')
        | none => .bad
      | none => .bad
    | .err c x => .err c x
    | .bad => .bad
  | none => .bad
  else .bad

def flatS : Env → Env
  | [] => []
  | some d :: r => (if flat d then some d else none) :: flatS r
  | none :: r => none :: flatS r
def plainR : D → Bool
  | .tup xs => allFlat xs
  | d => flat d
def fnOf : IE → Env → Option Nat
  | .lit (.fn n), _ => some n
  | .var i, ρ => match getS ρ i with
    | some (.fn n) => some n
    | _ => none
  | _, _ => none
def thunkG (Φ : Calls) (g : Nat) (x : D) (ρ : Env) : Res (D × Env) := match Φ g [x] with
  | .ok (d, outs) => if plainR d && outs.isEmpty then .ok (d, ρ) else .bad
  | _ => .bad
def thunkR (Φ : Calls) (M : Muts) (g : Nat) (r : Res (D × Env)) (n : Nat) (ρ : Env) : Res (D × Env) :=
  if (M n).isSome then .bad else match r with
  | .ok (_, ρ2) => thunkG Φ g (.tup [.non]) ρ2
  | .err c x => thunkG Φ g (.exc c x) ρ
  | .bad => .bad
def varOf : IE → Option Nat
  | .var i => some i
  | _ => none
def isStar : IE → Bool
  | .star _ => true
  | _ => false
def starOf : Bool → D → Option (List D)
  | false, d => some [d]
  | true, .tup xs => some xs
  | true, .lst _ xs => some xs
  | _, _ => none
def opOf (e : IE) (ρ : Env) (r : Res (D × Env)) : Res (Opd × Env) := match varOf e with
  | some i => match getS ρ i with
    | some _ => .ok (.slot i, ρ)
    | none => .bad
  | none => r.bind fun (d, ρ1) => .ok (.val d, ρ1)
section
variable (Φ : Calls) (M : Muts) (W : Nat)
mutual
def ev : IE → Env → Res (D × Env)
  | .lit d, ρ => .ok (d, ρ)
  | .var i, ρ => match getS ρ i with
    | some d => if isM d then .bad else .ok (share d, setS ρ i (some (share d)))
    | none => .bad
  | .pr p args, ρ => (evOs args ρ).bind fun (os, ρ1) => match gets ρ1 os with
    | some ds => (noErr (prim p ds)).bind fun d => .ok (d, ρ1)
    | none => .bad
  | .isi ts a, ρ => (opOf a ρ (ev a ρ)).bind fun (o, ρ1) => match o.get ρ1 with
    | some d => if isiOk d then .ok (.bl (ts.any fun t => isCl t d), ρ1) else .bad
    | none => .bad
  | .fail, _ => .bad
  | .meth p o args, ρ => (opOf o ρ (ev o ρ)).bind fun (oo, ρ1) => match oo.get ρ1 with
    | some d1 => if methOk p (kindN d1) then (evOs args ρ1).bind fun (os, ρ2) => match oo.get ρ2 with
      | some d2 => if Nat.beq (kindN d2) (kindN d1) then match gets ρ2 os with
        | some ds => (noErr (prim p (d2 :: ds))).bind fun d => .ok (d, ρ2)
        | none => .bad else .bad
      | none => .bad else .bad
    | none => .bad
  | .slc a lo hi, ρ => (opOf a ρ (ev a ρ)).bind fun (o, ρ1) => (ev lo ρ1).bind fun
    | (.int i, ρ2) => (ev hi ρ2).bind fun
      | (.int j, ρ3) => match o.get ρ3 with
        | some x => (noErr (sliceD x (some i) (some j))).bind fun d => .ok (d, ρ3)
        | none => .bad
      | _ => .bad
    | _ => .bad
  | .and a b, ρ => (ev a ρ).bind fun
    | (.bl true, ρ1) => ev b ρ1
    | (.bl false, ρ1) => .ok (.bl false, ρ1)
    | _ => .bad
  | .or a b, ρ => (ev a ρ).bind fun
    | (.bl false, ρ1) => ev b ρ1
    | (.bl true, ρ1) => .ok (.bl true, ρ1)
    | _ => .bad
  | .not a, ρ => (ev a ρ).bind fun
    | (.bl b, ρ1) => .ok (.bl (!b), ρ1)
    | _ => .bad
  | .ite c a b, ρ => (ev c ρ).bind fun
    | (.bl true, ρ1) => ev a ρ1
    | (.bl false, ρ1) => ev b ρ1
    | _ => .bad
  | .chain p q a b c, ρ => (ev a ρ).bind fun (x, ρ1) => (ev b ρ1).bind fun (y, ρ2) => (noErr (prim p [x, y])).bind fun
    | .bl true => (ev c ρ2).bind fun (z, ρ3) => (noErr (prim q [y, z])).bind fun d => .ok (d, ρ3)
    | .bl false => .ok (.bl false, ρ2)
    | _ => .bad
  | .tup es, ρ => (evs es ρ).bind fun (ds, ρ1) => (limT ds).bind fun d => .ok (d, ρ1)
  | .lst es, ρ => (evs es ρ).bind fun (ds, ρ1) => (limL ds).bind fun d => .ok (d, ρ1)
  | .tupS es, ρ => (evSt es ρ).bind fun (ds, ρ1) => (limT ds).bind fun d => .ok (d, ρ1)
  | .lstS es, ρ => (evSt es ρ).bind fun (ds, ρ1) => (limL ds).bind fun d => .ok (d, ρ1)
  | .star e, ρ => ev e ρ
  | .dic t es, ρ => (evs es ρ).bind fun (ds, ρ1) => let kvs := pairUp ds
      if kindsAre t kvs then .ok (.dic .own t (mergeD [] kvs), ρ1) else .bad
  | .call f args, ρ => (evOs args ρ).bind fun (os, ρ1) => doCall Φ M f os ρ1
  | .callv i args, ρ => match getS ρ i with
    | some (.fn f) => (evOs args ρ).bind fun (os, ρ1) => doCall Φ M f os ρ1
    | some (.exc c x) => .err c x
    | some (.tup [d]) => .ok (d, ρ)
    | _ => .bad
  | .thunk g f args, ρ => match fnOf f ρ with
    | some n => (noErr (evOs args ρ)).bind fun (os, ρ1) => thunkR Φ M g (doCall Φ M n os ρ1) n ρ1
    | none => .bad
  | .comp own elt t it src ifs, ρ => (evs src ρ).bind fun (ss, ρ1) => match iterOf it ss with
    | some xs => (noErr (compF t own ρ1 (fun ρ2 => (evIfs ifs ρ2).bind fun (b, ρ3) =>
        if b then (ev elt ρ3).bind fun (d, ρ4) => .ok (some d, ρ4) else .ok (none, ρ3)) [] xs ρ1)).bind fun (acc, ρ5) => .ok (.lst .own acc, restore ρ1 (wipe ρ5 own) own)
    | none => .bad
  | .sortK own src key i, ρ => (ev src ρ).bind fun (s, ρ1) => match s with
    | .lst _ xs => (compF (.var i) own ρ1 (fun ρ2 => (ev key ρ2).bind fun (d, ρ4) => .ok (some d, ρ4)) [] xs ρ1).bind fun (ks, ρ5) =>
      match sortK (ks.zip xs) with
      | some s => .ok (.lst .own (valsD s), restore ρ1 ρ5 own)
      | none => .bad
    | _ => .bad
  | .pop i, ρ => match getS ρ i with
    | some (.lst f xs) => if f == .own || f == .ownM then match nth xs (xs.length - 1) with
        | some d => .ok (d, setS ρ i (some (.lst f xs.dropLast)))
        | none => .bad else .bad
    | _ => .bad
  | .exIs i cc, ρ => match getS ρ i with
    | some (.exc c _) => .ok (.bl (match cc with
      | none => true
      | some c' => Nat.beq c c'), ρ)
    | _ => .bad
  | .exF i cs, ρ => match getS ρ i with
    | some (.exc c x) => if memN c cs && flat x then .ok (x, ρ) else .bad
    | _ => .bad
termination_by structural e => e
def evOs : List IE → Env → Res (List Opd × Env)
  | [], ρ => .ok ([], ρ)
  | e :: es, ρ => (opOf e ρ (ev e ρ)).bind fun (o, ρ1) => (evOs es ρ1).bind fun (os, ρ2) => .ok (o :: os, ρ2)
termination_by structural es => es
def evs : List IE → Env → Res (List D × Env)
  | [], ρ => .ok ([], ρ)
  | e :: es, ρ => (ev e ρ).bind fun (d, ρ1) => (shareR d).bind fun d' => (evs es ρ1).bind fun (ds, ρ2) => .ok (d' :: ds, ρ2)
termination_by structural es => es
def evSt : List IE → Env → Res (List D × Env)
  | [], ρ => .ok ([], ρ)
  | e :: es, ρ => (ev e ρ).bind fun (d, ρ1) => (shareR d).bind fun d' => match starOf (isStar e) d' with
    | some xs => (evSt es ρ1).bind fun (ds, ρ2) => .ok (xs ++ ds, ρ2)
    | none => .bad
termination_by structural es => es
def evIfs : List IE → Env → Res (Bool × Env)
  | [], ρ => .ok (true, ρ)
  | c :: cs, ρ => (ev c ρ).bind fun
    | (.bl true, ρ1) => evIfs cs ρ1
    | (.bl false, ρ1) => .ok (false, ρ1)
    | _ => .bad
termination_by structural es => es
end

def evO (e : IE) (ρ : Env) : Res (Opd × Env) := opOf e ρ (ev Φ M e ρ)
def evB (c : IE) (ρ : Env) : Res (Bool × Env) := (ev Φ M c ρ).bind fun
  | (.bl b, ρ1) => .ok (b, ρ1)
  | _ => .bad

def canSet : D → Bool
  | .lst _ _ | .dic _ _ _ => true
  | _ => false
def pathUpd (f : D → Option D) : List D → D → Option D
  | [], d => f d
  | k :: r, .lst fl xs => if fl == .own || fl == .ownM then match k with
      | .int i => (ixN xs.length i).bind fun n => (nth xs n).bind fun x => (pathUpd f r x).map fun y => .lst fl (setAt xs n y)
      | _ => none else none
  | k :: r, .tup xs => match k with
      | .int i => (ixN xs.length i).bind fun n => (nth xs n).bind fun x => (pathUpd f r x).map fun y => .tup (setAt xs n y)
      | _ => none
  | k :: r, .dic fl t kvs => if (fl == .own || fl == .ownM) && keyIs t k then (dfind k kvs).bind fun x => (pathUpd f r x).map fun y => .dic fl t (dput k y kvs) else none
  | _, _ => none
def appD (x : D) : D → Option D
  | .lst f xs => if (f == .own || f == .ownM) && Nat.blt xs.length LIM then some (.lst f (xs ++ [x])) else none
  | _ => none
def extD (ys : List D) : D → Option D
  | .lst f xs => if (f == .own || f == .ownM) && Nat.ble (xs.length + ys.length) LIM then some (.lst f (xs ++ ys)) else none
  | _ => none

def extOf : D → Option (List D)
  | .lst .old _ => none
  | .lst _ ys => some ys
  | _ => none
def evPar : List IE → Env → Res (List D × Env)
  | [], ρ => .ok ([], ρ)
  | e :: es, ρ => (ev Φ M e ρ).bind fun (d, ρ1) => (evPar es ρ1).bind fun (ds, ρ2) => .ok (d :: ds, ρ2)
def parT : List Tg → List D → Env → Option Env
  | [], [], ρ => some ρ
  | .var i :: ts, d :: ds, ρ => parT ts ds (setS ρ i (some d))
  | t :: ts, d :: ds, ρ => (bindT t d ρ).bind fun ρ1 => parT ts ds ρ1
  | _, _, _ => none
mutual
def ex : IS → Env → Res Fw
  | .fail, _ => .bad
  | .asg t e, ρ => (ev Φ M e ρ).bind fun (d, ρ1) => match t with
    | .var i => .ok (.nx (setS ρ1 i (some d)))
    | t => (Res.of (bindT t d ρ1)).bind fun ρ2 => .ok (.nx ρ2)
  | .par ts es, ρ => (evPar Φ M es ρ).bind fun (ds, ρ1) => (Res.of (parT ts ds ρ1)).bind fun ρ2 => .ok (.nx ρ2)
  | .setS i path k e, ρ => match path with
    | [] => (ev Φ M e ρ).bind fun (d0, ρ1) => (shareR d0).bind fun d => if (getS ρ1 i).isSome then (ev Φ M k ρ1).bind fun (kd, ρ2) => match getS ρ2 i with
      | some o => match setItem o kd d with
        | some o' => .ok (.nx (setS ρ2 i (some o')))
        | none => .bad
      | none => .bad else .bad
    | _ => .bad
  | .augS i path k p e, ρ => match path with
    | [] => if (getS ρ i).isSome then (ev Φ M k ρ).bind fun (kd, ρ1) => match getS ρ1 i with
      | some o => if canSet o then (noErr (prim .ix [o, kd])).bind fun
        | .int a => (ev Φ M e ρ1).bind fun
          | (.int b, ρ2) => (noErr (prim p [.int a, .int b])).bind fun
            | .int c => match getS ρ2 i with
              | some o2 => match setItem o2 kd (.int c) with
                | some o' => .ok (.nx (setS ρ2 i (some o')))
                | none => .bad
              | none => .bad
            | _ => .bad
          | _ => .bad
        | _ => .bad else .bad
      | none => .bad else .bad
    | _ => .bad
  | .aug i p e, ρ => match getS ρ i with
    | some (.int a) => (ev Φ M e ρ).bind fun
      | (.int b, ρ1) => (noErr (prim p [.int a, .int b])).bind fun
        | .int c => .ok (.nx (setS ρ1 i (some (.int c))))
        | _ => .bad
      | _ => .bad
    | _ => .bad
  | .app i path e, ρ => match path, getS ρ i with
    | [], some (.lst _ _) => (ev Φ M e ρ).bind fun (d0, ρ1) => (shareR d0).bind fun d => match getS ρ1 i with
      | some o => match appD d o with
        | some o' => .ok (.nx (setS ρ1 i (some o')))
        | none => .bad
      | none => .bad
    | _, _ => .bad
  | .ext i path e, ρ => match path, getS ρ i with
    | [], some (.lst _ _) => (ev Φ M e ρ).bind fun (d, ρ1) => match extOf d with
      | some ys => match getS ρ1 i with
        | some o => match extD ys o with
          | some o' => .ok (.nx (setS ρ1 i (some o')))
          | none => .bad
        | none => .bad
      | none => .bad
    | _, _ => .bad
  | .expr e, ρ => (ev Φ M e ρ).bind fun (_, ρ1) => .ok (.nx ρ1)
  | .ret e, ρ => (ev Φ M e ρ).bind fun (d, ρ1) => .ok (.rt d ρ1)
  | .iff c a b, ρ => (evB Φ M c ρ).bind fun (t, ρ1) => if t then exs a ρ1 else exs b ρ1
  | .for_ t it src body, ρ => (evs Φ M src ρ).bind fun (ss, ρ1) => match iterOf it ss with
    | some xs => forF t (fun ρ2 => exs body ρ2) xs ρ1
    | none => .bad
  | .while_ c body, ρ => whileF (fun ρ1 => evB Φ M c ρ1) (fun ρ1 => exs body ρ1) W ρ
  | .raise c args, ρ => (evs Φ M args ρ).bind fun (ds, _) => match ds with
    | [] => .err c .non
    | [x] => if flat x then .err c x else .bad
    | _ => .bad
  | .try_ body c as_ h, ρ => match exs body ρ with
    | .ok f => .ok f
    | .err c' x => if Nat.beq c 0 || Nat.beq c c' then match as_ with
        | some i => (exs h (setS (flatS ρ) i (some (.exc c' x)))).bind fun
          | .nx ρ1 => .ok (.nx (setS ρ1 i none))
          | .rt d ρ1 => .ok (.rt d ρ1)
        | none => exs h (flatS ρ)
      else .err c' x
    | .bad => .bad
  | .pass, ρ => .ok (.nx ρ)
termination_by structural s => s
def exs : List IS → Env → Res Fw
  | [], ρ => .ok (.nx ρ)
  | s :: r, ρ => (ex s ρ).bind fun
    | .nx ρ1 => exs r ρ1
    | .rt d ρ1 => .ok (.rt d ρ1)
termination_by structural ss => ss
end
end

structure FD where
  np : Nat
  ns : Nat
  muts : Option Nat
  body : List IS

def none? {α : Type} : Nat → List (Option α)
  | 0 => []
  | n + 1 => none :: none? n
def somes : List D → Env
  | [] => []
  | d :: r => some d :: somes r
def outsOf (ρ : Env) : Option Nat → Option (List D)
  | none => some []
  | some i => match getS ρ i with
    | some d => if isM d then some [d] else none
    | none => none
def mOk (m : Option Nat) (ds : List D) : Bool := match m with
  | none => true
  | some j => match nth ds j with
    | some d => isM d
    | none => false
def lenIs {α : Type} : List α → Nat → Bool
  | [], 0 => true
  | _ :: r, n + 1 => lenIs r n
  | _, _ => false
def lookF : List (Nat × FD) → Nat → Option FD
  | [], _ => none
  | (n, d) :: r, f => if Nat.beq n f then some d else lookF r f
def mutsOf (T : List (Nat × FD)) : Muts := fun f => match lookF T f with
  | some d => d.muts
  | none => none
def call (T : List (Nat × FD)) (W : Nat) : Nat → Calls
  | 0 => fun _ _ => .bad
  | n + 1 => fun f ds => match lookF T f with
    | some d => if lenIs ds d.np && mOk d.muts ds then match exs (call T W n) (mutsOf T) W d.body (somes ds ++ none? (d.ns - d.np)) with
        | .ok (.rt v ρ) => match outsOf ρ d.muts with
          | some outs => .ok (v, outs)
          | none => .bad
        | .ok (.nx ρ) => match outsOf ρ d.muts with
          | some outs => .ok (.non, outs)
          | none => .bad
        | .err c x => .err c x
        | .bad => .bad else .bad
    | none => .bad
end QE
namespace QE
open PySem

def nm (s : Str) : Nat := s.cps.foldl (fun a c => a * 256 + c) 1
def nmS (s : String) : Nat := nm (Str.ofString s)
def strL (s : Str) : List Nat := s.cps.toList

structure CC where
  N : List Str
  fns : List Str
  excs : List (Str × Nat)
  consts : List (Str × D)
  tk : Bool := false

def idxS (x : Str) : List Str → Nat → Option Nat
  | [], _ => none
  | y :: r, n => if y == x then some n else idxS x r (n + 1)

def kindIs (sc : Scope) (x : Str) (k : NameKind) : Bool := sc.names.lookup x == some k
def visible (sc : Scope) (x : Str) : Bool := kindIs sc x .local || kindIs sc x .cell || kindIs sc x .free
def isGlob (sc : Scope) (x : Str) : Bool := kindIs sc x .globalImplicit
def isBlt (sc : Scope) (x : Str) (s : String) : Bool := isGlob sc x && x == Str.ofString s

def slotOf (C : CC) (sc : Scope) (x : Str) : Option Nat := if visible sc x then idxS x C.N 0 else none

def cOp : Operator → Option Pr
  | .Add => some .add | .Sub => some .sub | .Mult => some .mul | .FloorDiv => some .fdiv | .Mod => some .mod | .Pow => some .pow | .BitXor => some .xor
  | _ => none
def cCmp : CmpOp → Option Pr
  | .Eq => some .eq | .NotEq => some .ne | .Lt => some .lt | .LtE => some .le | .Gt => some .gt | .GtE => some .ge | .In => some .in_ | .NotIn => some .notIn
  | _ => none
def cConst : Const → Option D
  | .none => some .non
  | .bool b => some (.bl b)
  | .int i => some (.int i)
  | .str s => some (.str (strL s))
  | _ => none
def cCl (C : CC) (sc : Scope) : Expr → Option Cl
  | .Name x _ => if isGlob sc x then
      (if x == ("int" : Str) then some .int else if x == ("bool" : Str) then some .bool else if x == ("str" : Str) then some .str
      else if x == ("tuple" : Str) then some .tuple else if x == ("list" : Str) then some .list else if x == ("dict" : Str) then some .dict
      else if x == ("ValueError" : Str) then some (.cls 0)
      else (C.excs.lookup x).map .cls) else none
  | _ => none

def ownNames (sc : Scope) : List Str := (sc.names.filter fun (n, k) => (k == .local || k == .cell) && n != (".0" : Str)).map (·.1)

def foldB (f : IE → IE → IE) : List IE → Option IE
  | [] => none
  | [a] => some a
  | a :: r => (foldB f r).map (f a)

def cMeth (m : Str) (n : Nat) : Option Pr :=
  if m == ("count" : Str) && n == 1 then some .count
  else if m == ("index" : Str) && n == 1 then some .index
  else if m == ("get" : Str) && n == 1 then some .get1
  else if m == ("get" : Str) && n == 2 then some .get2
  else if m == ("join" : Str) && n == 1 then some .join
  else if m == ("startswith" : Str) && n == 1 then some .startswith
  else none
def cBlt (f : Str) (n : Nat) : Option Pr :=
  if n == 1 then
    (if f == ("len" : Str) then some .len else if f == ("abs" : Str) then some .abs
    else if f == ("min" : Str) then some .minL else if f == ("max" : Str) then some .maxL
    else if f == ("sum" : Str) then some .sumL else if f == ("any" : Str) then some .anyL else if f == ("all" : Str) then some .allL
    else if f == ("sorted" : Str) then some .sorted else if f == ("tuple" : Str) then some .tuple else if f == ("list" : Str) then some .list
    else if f == ("int" : Str) then some .int1 else if f == ("str" : Str) then some .str1 else if f == ("dict" : Str) then some .dictL
    else none)
  else if n == 2 then (if f == ("min" : Str) then some .min2 else if f == ("max" : Str) then some .max2 else none)
  else none

mutual
def cE (C : CC) (sc : Scope) : Nat → Expr → Option IE
  | 0, _ => none
  | n + 1, e => match e with
    | .Name x _ => match slotOf C sc x with
      | some i => some (.var i)
      | none => if isGlob sc x then
          (match C.consts.lookup x with
          | some d => some (.lit d)
          | none => if C.fns.contains x then some (.lit (.fn (nm x))) else none) else none
    | .Constant c _ _ => (cConst c).map .lit
    | .BoolOp op vs _ => (cEs C sc n vs).bind fun es => foldB (match op with | .And => IE.and | .Or => IE.or) es
    | .UnaryOp .Not a _ => (cE C sc n a).map .not
    | .UnaryOp .USub a _ => (cE C sc n a).map fun a => .pr .neg [a]
    | .BinOp a op b _ => (cOp op).bind fun p => (cE C sc n a).bind fun a => (cE C sc n b).map fun b => .pr p [a, b]
    | .IfExp c a b _ => (cE C sc n c).bind fun c => (cE C sc n a).bind fun a => (cE C sc n b).map fun b => .ite c a b
    | .Compare a [op] [b] _ => (match op, b with
      | .Is, .Constant .none _ _ => (cE C sc n a).map fun a => .pr (.isC .non true) [a]
      | .IsNot, .Constant .none _ _ => (cE C sc n a).map fun a => .pr (.isC .non false) [a]
      | .Is, .Constant (.bool v) _ _ => (cE C sc n a).map fun a => .pr (.isC (.bl v) true) [a]
      | .IsNot, .Constant (.bool v) _ _ => (cE C sc n a).map fun a => .pr (.isC (.bl v) false) [a]
      | op, b => (cCmp op).bind fun p => (cE C sc n a).bind fun a => (cE C sc n b).map fun b => .pr p [a, b])
    | .Compare a [op, op'] [b, c] _ => (cCmp op).bind fun p => (cCmp op').bind fun q => (cE C sc n a).bind fun a => (cE C sc n b).bind fun b => (cE C sc n c).map fun c => .chain p q a b c
    | .Tuple es _ _ => if es.any (fun | .Starred .. => true | _ => false) then (cEst C sc n es).map .tupS else (cEs C sc n es).map .tup
    | .List es _ => if es.any (fun | .Starred .. => true | _ => false) then (cEst C sc n es).map .lstS else (cEs C sc n es).map .lst
    | .Dict ks vs _ => if ks.length == vs.length then (cKv C sc n ks vs).map (.dic C.tk) else none
    | .Subscript o (.Slice none none (some (.UnaryOp .USub (.Constant (.int 1) _ _) _)) _) _ => (cE C sc n o).map fun o => .pr .rev [o]
    | .Subscript o (.Slice none none none _) _ => (cE C sc n o).map fun o => .pr (.sl false false) [o]
    | .Subscript o (.Slice (some a) none none _) _ => (cE C sc n o).bind fun o => (cE C sc n a).map fun a => .pr (.sl true false) [o, a]
    | .Subscript o (.Slice none (some b) none _) _ => (cE C sc n o).bind fun o => (cE C sc n b).map fun b => .pr (.sl false true) [o, b]
    | .Subscript o (.Slice (some a) (some b) none _) _ => (cE C sc n o).bind fun o => (cE C sc n a).bind fun a => (cE C sc n b).map fun b => .slc o a b
    | .Subscript _ (.Slice ..) _ => none
    | .Subscript o i _ => (cE C sc n o).bind fun o => (cE C sc n i).map fun i => .pr .ix [o, i]
    | .Attribute (.Name x _) _ _ => (slotOf C sc x).map fun i => .pr .excField [.var i]
    | .ListComp elt [⟨tg, iter, ifs, 0⟩] scope _ =>
      (cIter C sc n iter).bind fun (it, src) => ((ownNames scope).mapM fun x => idxS x C.N 0).bind fun own =>
      (cT C scope n tg).bind fun t => (cEs C scope n ifs).bind fun ifs => (cE C scope n elt).map fun elt => .comp own elt t it src ifs
    | .Call (.Attribute (.Name x _) m _) [] [] _ => if m == ("pop" : Str) then (slotOf C sc x).map .pop else none
    | .Call (.Attribute o m _) args [] _ => (cMeth m args.length).bind fun p => (cE C sc n o).bind fun o => (cEs C sc n args).map fun as => .meth p o as
    | .Call (.Name f _) args kws _ => match slotOf C sc f with
      | some i => if kws.isEmpty then (cEs C sc n args).map fun as => .callv i as else none
      | none => if !isGlob sc f then none else
        if C.fns.contains f then (match args, kws with
          | [.Lambda _ body lsc _], [] => (match body with | .Call (.Name h _) as [] _ => (cEs C lsc n as).map fun b => .thunk (nm f) (.lit (.fn (nm h))) b | _ => none)
          | args, [] => (cEs C sc n args).map fun as => .call (nm f) as
          | _, _ => none)
        else match args, kws with
          | [.Call (.Name g _) [a] [] _], [] =>
            if f == ("sorted" : Str) && isBlt sc g "set" then (cE C sc n a).map fun a => .pr .sortedSet [a]
            else if f == ("len" : Str) && isBlt sc g "set" then (cE C sc n a).map fun a => .pr .lenSet [a]
            else if f == ("dict" : Str) && isBlt sc g "enumerate" then (cE C sc n a).map fun a => .pr .dictEnum [a]
            else if f == ("list" : Str) && isBlt sc g "range" then (cE C sc n a).map fun a => .pr .listRange1 [a]
            else if f == ("tuple" : Str) && isBlt sc g "range" then (cE C sc n a).map fun a => .pr .tupRange1 [a]
            else (cBlt f 1).bind fun p => (cE C sc n (.Call (.Name g ⟨0,0,0,0⟩) [a] [] ⟨0,0,0,0⟩)).map fun a => .pr p [a]
          | [.Call (.Name g _) [a, b] [] _], [] =>
            if f == ("list" : Str) && isBlt sc g "range" then (cE C sc n a).bind fun a => (cE C sc n b).map fun b => .pr .listRange2 [a, b]
            else if f == ("tuple" : Str) && isBlt sc g "range" then (cE C sc n a).bind fun a => (cE C sc n b).map fun b => .pr .tupRange2 [a, b]
            else if f == ("list" : Str) && isBlt sc g "zip" then (cE C sc n a).bind fun a => (cE C sc n b).map fun b => .pr .listZip [a, b]
            else (cBlt f 1).bind fun p => (cE C sc n (.Call (.Name g ⟨0,0,0,0⟩) [a, b] [] ⟨0,0,0,0⟩)).map fun a => .pr p [a]
          | [.Call (.Attribute o m _) [] [] _], [] =>
            if f == ("sum" : Str) && m == ("values" : Str) then (cE C sc n o).map fun o => .pr .sumVals [o] else none
          | [e, .Tuple ts _ _], [] => if f == ("isinstance" : Str) then (ts.mapM (cCl C sc)).bind fun ts => (cE C sc n e).map fun e => .isi ts e
            else (cBlt f 2).bind fun p => (cEs C sc n args).map fun as => .pr p as
          | [e, t], [] => if f == ("isinstance" : Str) then (cCl C sc t).bind fun t => (cE C sc n e).map fun e => .isi [t] e
            else (cBlt f 2).bind fun p => (cEs C sc n args).map fun as => .pr p as
          | [src], [⟨_, .Lambda _ body lsc _, _⟩] => if f == ("sorted" : Str) then
              (match ownNames lsc with
              | [x] => (idxS x C.N 0).bind fun i => (cE C sc n src).bind fun s => (cE C lsc n body).map fun k => .sortK [i] s k i
              | _ => none) else none
          | args, [] => (cBlt f args.length).bind fun p => (cEs C sc n args).map fun as => .pr p as
          | _, _ => none
    | _ => none
def cEs (C : CC) (sc : Scope) : Nat → List Expr → Option (List IE)
  | 0, _ => none
  | _ + 1, [] => some []
  | n + 1, e :: es => (cE C sc n e).bind fun e => (cEs C sc n es).map (e :: ·)
def cEst (C : CC) (sc : Scope) : Nat → List Expr → Option (List IE)
  | 0, _ => none
  | _ + 1, [] => some []
  | n + 1, .Starred e _ :: es => (cE C sc n e).bind fun e => (cEst C sc n es).map (.star e :: ·)
  | n + 1, e :: es => (cE C sc n e).bind fun e => (cEst C sc n es).map (e :: ·)
def cKv (C : CC) (sc : Scope) : Nat → List (Option Expr) → List Expr → Option (List IE)
  | 0, _, _ => none
  | _ + 1, [], [] => some []
  | n + 1, some k :: ks, v :: vs => (cE C sc n k).bind fun k => (cE C sc n v).bind fun v => (cKv C sc n ks vs).map fun r => k :: v :: r
  | _, _, _ => none
def cT (C : CC) (sc : Scope) : Nat → Expr → Option Tg
  | 0, _ => none
  | n + 1, e => match e with
    | .Name x _ => if kindIs sc x .local || kindIs sc x .cell then (idxS x C.N 0).map .var else none
    | .Tuple ts _ _ => (cTs C sc n ts).map .tup
    | _ => none
def cTs (C : CC) (sc : Scope) : Nat → List Expr → Option (List Tg)
  | 0, _ => none
  | _ + 1, [] => some []
  | n + 1, e :: es => (cT C sc n e).bind fun e => (cTs C sc n es).map (e :: ·)
def cIter (C : CC) (sc : Scope) : Nat → Expr → Option (It × List IE)
  | 0, _ => none
  | n + 1, e => match e with
    | .Call (.Name f _) args [] _ =>
      if isBlt sc f "range" then (cEs C sc n args).bind fun as => match as with
        | [_] => some (.range1, as)
        | [_, _] => some (.range2, as)
        | [_, _, _] => some (.range3, as)
        | _ => none
      else if isBlt sc f "enumerate" then (cEs C sc n args).bind fun as => match as with
        | [_] => some (.enum, as)
        | _ => none
      else if isBlt sc f "zip" then (cEs C sc n args).bind fun as => match as with
        | [_, _] => some (.zip, as)
        | [_, _, _] => some (.zip3, as)
        | _ => none
      else (cE C sc n e).map fun e => (.list, [e])
    | .Call (.Attribute o m _) [] [] _ =>
      if m == ("items" : Str) then (cE C sc n o).map fun o => (.items, [o])
      else if m == ("values" : Str) then (cE C sc n o).map fun o => (.values, [o])
      else (cE C sc n e).map fun e => (.list, [e])
    | e => (cE C sc n e).map fun e => (.list, [e])
end

def cPath (C : CC) (sc : Scope) (n : Nat) : Nat → Expr → Option (Nat × List IE)
  | 0, _ => none
  | m + 1, e => match e with
    | .Name x _ => (slotOf C sc x).map fun i => (i, [])
    | .Subscript o k _ => (cPath C sc n m o).bind fun (i, ks) => (cE C sc n k).map fun k => (i, ks ++ [k])
    | _ => none

mutual
def cS (C : CC) (sc : Scope) : Nat → Stmt → Option IS
  | 0, _ => none
  | n + 1, s => match s with
    | .Assign [.Tuple ts _ _] (.Tuple es k p) _ =>
      if ts.length == es.length && !(es.any fun | .Starred .. => true | _ => false) then (cTs C sc n ts).bind fun ts => (cEs C sc n es).map fun es => .par ts es
      else (cTs C sc n ts).bind fun ts => (cE C sc n (.Tuple es k p)).map fun e => .asg (.tup ts) e
    | .Assign [.Subscript o i _] e _ => (cPath C sc n n o).bind fun (j, ks) => (cE C sc n i).bind fun i => (cE C sc n e).map fun e => .setS j ks i e
    | .Assign [t] e _ => (cT C sc n t).bind fun t => (cE C sc n e).map fun e => .asg t e
    | .AugAssign (.Subscript o i _) op e _ => (cOp op).bind fun p => (cPath C sc n n o).bind fun (j, ks) => (cE C sc n i).bind fun i => (cE C sc n e).map fun e => .augS j ks i p e
    | .AugAssign (.Name x _) op e _ => (cOp op).bind fun p => (slotOf C sc x).bind fun i => (cE C sc n e).map fun e => .aug i p e
    | .Expr (.Call (.Attribute o m _) [a] [] p) _ =>
      if m == ("append" : Str) then (cPath C sc n n o).bind fun (j, ks) => (cE C sc n a).map fun e => .app j ks e
      else if m == ("extend" : Str) then (cPath C sc n n o).bind fun (j, ks) => (cE C sc n a).map fun e => .ext j ks e
      else (cE C sc n (.Call (.Attribute o m p) [a] [] p)).map .expr
    | .Expr e _ => (cE C sc n e).map .expr
    | .Return none _ => some (.ret (.lit .non))
    | .Return (some e) _ => (cE C sc n e).map .ret
    | .If c a b _ => (cE C sc n c).bind fun c => (cSs C sc n a).bind fun a => (cSs C sc n b).map fun b => .iff c a b
    | .For t it body [] _ => (cT C sc n t).bind fun t => (cIter C sc n it).bind fun (i, src) => (cSs C sc n body).map fun b => .for_ t i src b
    | .While c body [] _ => (cE C sc n c).bind fun c => (cSs C sc n body).map fun b => .while_ c b
    | .Raise (some (.Call (.Name x _) args [] _)) none _ => if isGlob sc x then (C.excs.lookup x).bind fun c => (cEs C sc n args).map fun as => .raise c as else none
    | .Try body [.ExceptHandler (some (.Name x _)) as_ h _] [] [] _ => (C.excs.lookup x).bind fun c => (cSs C sc n body).bind fun b => (cSs C sc n h).bind fun h =>
      match as_ with
      | none => some (.try_ b c none h)
      | some a => (idxS a C.N 0).map fun i => .try_ b c (some i) h
    | .Pass _ => some .pass
    | _ => none
def cSs (C : CC) (sc : Scope) : Nat → List Stmt → Option (List IS)
  | 0, _ => none
  | _ + 1, [] => some []
  | n + 1, s :: r => (cS C sc n s).bind fun s => (cSs C sc n r).map (s :: ·)
end

mutual
def compsE : Nat → Expr → List Str
  | 0, _ => []
  | n + 1, e => match e with
    | .BoolOp _ vs _ => compsEs n vs
    | .BinOp a _ b _ => compsE n a ++ compsE n b
    | .UnaryOp _ a _ => compsE n a
    | .Lambda p b sc _ => (if p.defaults.isEmpty then ownNames sc else []) ++ compsE n b
    | .IfExp a b c _ => compsE n a ++ compsE n b ++ compsE n c
    | .Dict ks vs _ => compsEs n (ks.filterMap id) ++ compsEs n vs
    | .ListComp elt gs sc _ => ownNames sc ++ compsE n elt ++ (gs.map fun g => compsE n g.iter ++ compsEs n g.ifs).flatten
    | .Compare a _ bs _ => compsE n a ++ compsEs n bs
    | .Call f as ks _ => compsE n f ++ compsEs n as ++ compsEs n (ks.map (·.value))
    | .Attribute v _ _ => compsE n v
    | .Subscript v i _ => compsE n v ++ compsE n i
    | .Starred v _ => compsE n v
    | .List es _ => compsEs n es
    | .Tuple es _ _ => compsEs n es
    | .Slice a b c _ => compsEs n (a.toList ++ b.toList ++ c.toList)
    | _ => []
def compsEs : Nat → List Expr → List Str
  | 0, _ => []
  | _ + 1, [] => []
  | n + 1, e :: es => compsE n e ++ compsEs n es
end
mutual
def compsS : Nat → Stmt → List Str
  | 0, _ => []
  | n + 1, s => match s with
    | .Return (some e) _ => compsE n e
    | .Assign ts e _ => compsEs n ts ++ compsE n e
    | .AugAssign t _ e _ => compsE n t ++ compsE n e
    | .For t i b _ _ => compsE n t ++ compsE n i ++ compsSs n b
    | .While c b _ _ => compsE n c ++ compsSs n b
    | .If c a b _ => compsE n c ++ compsSs n a ++ compsSs n b
    | .Raise (some e) _ _ => compsE n e
    | .Try b hs _ _ _ => compsSs n b ++ (hs.map fun | .ExceptHandler _ _ h _ => compsSs n h).flatten
    | .Expr e _ => compsE n e
    | _ => []
def compsSs : Nat → List Stmt → List Str
  | 0, _ => []
  | _ + 1, [] => []
  | n + 1, e :: es => compsS n e ++ compsSs n es
end
def addNew (acc : List Str) : List Str → List Str
  | [] => acc
  | x :: r => if acc.contains x then addNew acc r else addNew (acc ++ [x]) r
def FUEL : Nat := 200
def namesOf (ps : List Str) (sc : Scope) (body : List Stmt) : List Str :=
  addNew (addNew ps (ownNames sc)) (compsSs FUEL body)

structure Src where
  name : Str
  ps : List Str
  body : List Stmt
  sc : Scope
def srcOf : Stmt → Option Src
  | .FunctionDef name args body _ _ _ sc _ _ _ => some ⟨name, args.args.map (·.arg), body, sc⟩
  | _ => none
def srcs (p : Program) : List Src := p.main.body.filterMap srcOf
def excsOf : List Stmt → List (Str × Nat)
  | [] => []
  | .ClassDef name [.Name b _] _ _ _ _ _ _ _ _ _ :: r => (if b == ("ValueError" : Str) then [(name, 0)] else if b == ("SayError" : Str) then [(name, nm name)] else []) ++ excsOf r
  | _ :: r => excsOf r
def constsOf (sc : Scope) : List Stmt → List (Str × D) → List (Str × D)
  | [], acc => acc
  | .Assign [.Name x _] e _ :: r, acc => match (cE ⟨[], [], [], [], false⟩ { sc with names := [] } FUEL e).bind fun e => (match ev (fun _ _ => .bad) (fun _ => none) e [] with | .ok (d, _) => some d | _ => none) with
    | some d => constsOf sc r (acc ++ [(x, d)])
    | none => constsOf sc r acc
  | _ :: r, acc => constsOf sc r acc
def ccOf (p : Program) (N : List Str) (tk : Bool) : CC := ⟨N, (srcs p).map (·.name), excsOf p.main.body, (constsOf p.main.scope p.main.body []).filter fun c => c.1 != ("__name__" : Str), tk⟩
def compD (p : Program) (tk : Str → Bool) (muts : Str → Option Nat) (s : Src) : Option (Nat × FD) :=
  let N := namesOf s.ps s.sc s.body
  (cSs (ccOf p N (tk s.name)) s.sc FUEL s.body).map fun b => (nm s.name, ⟨s.ps.length, N.length, muts s.name, b⟩)
end QE
namespace QE
open PySem L2

def Stay (H1 H2 : Hp) : Prop := ∀ b o, H1 b = some o → H2 b = some o ∨ Mut (some o) ∨ ∃ ps, o = .tbl ps
def tabOf1 (o : Obj) : Option (Addr × Str) := match o.data with
  | .fields vs => (match (vs[1]? : Option Value), (vs[11]? : Option Value) with
    | some (.str q _), some (.ref P) => some (P, q ++ ".<locals>." ++ "<lambda>")
    | _, _ => none)
  | _ => none
def tabsK (K : PySem.W.Frag) : List (Addr × Str) := K.filterMap fun p => tabOf1 p.2
structure FA where
  fn : Nat → Addr → Prop
  ex : Addr → Nat → D → Hp → Prop
instance : CoeFun FA fun _ => Nat → Addr → Prop := ⟨FA.fn⟩
structure RC where
  K : PySem.W.Frag
  fnA : FA
  H0 : Hp
  Old : Addr → Prop
  M : Option Addr

abbrev RC.exA (C : RC) := C.fnA.ex
def strV (l : List Nat) : V := .str ⟨l.toArray⟩
def kD : D → Option Key
  | .int i => some (.inl i)
  | .str s => some (.inr ⟨s.toArray⟩)
  | _ => none
def kDs : List D → Option (List Key)
  | [] => some []
  | x :: r => (kD x).bind fun k => (kDs r).map (k :: ·)
def kT : D → Option (List Key)
  | .tup xs => kDs xs
  | _ => none

inductive DH (H : Hp) (a : Addr) : Bool → List (D × V) → Prop
  | k {kvs : List (Key × V)} {l : List (D × V)} : Rd H a (.dK kvs) → Paired (fun (p : Key × V) (q : D × V) => kD q.1 = some p.1 ∧ p.2 = q.2) kvs l → DH H a false l
  | t {kvs : List (List Key × V)} {l : List (D × V)} : Rd H a (.dT kvs) → Paired (fun (p : List Key × V) (q : D × V) => kT q.1 = some p.1 ∧ p.2 = q.2) kvs l → DH H a true l

mutual
inductive Rep (C : RC) (O : List Addr) (H : Hp) : V → D → Prop
  | non : Rep C O H .non .non
  | bl (b : Bool) : Rep C O H (.bl b) (.bl b)
  | int (i : Int) : Rep C O H (.int i) (.int i)
  | str (l : List Nat) : Rep C O H (.str ⟨l.toArray⟩) (.str l)
  | fn {a : Addr} {f : Nat} : C.fnA f a → Rep C O H (.ref a) (.fn f)
  | exc {a : Addr} {c : Nat} {x : D} : C.exA a c x H → Rep C O H (.ref a) (.exc c x)
  | tup {a : Addr} {vs : List V} {ds : List D} : H a = some (.tup vs) → RepL C O H vs ds → Rep C O H (.ref a) (.tup ds)
  | fr {a : Addr} {vs : List V} {ds : List D} : H a = some (.lst vs) → a ∉ O → C.H0 a = none → RepL C O H vs ds → Rep C O H (.ref a) (.lst .fr ds)
  | old {a : Addr} {vs : List V} {ds : List D} : Rd H a (.lst vs) → a ∉ O → (C.Old a ∨ C.H0 a = none) → RepL C O H vs ds → Rep C O H (.ref a) (.lst .old ds)
  | dfr {a : Addr} {t : Bool} {l : List (D × V)} {kvs : List (D × D)} : DH H a t l → a ∉ O → C.H0 a = none → RepKv C O H l kvs → Rep C O H (.ref a) (.dic .fr t kvs)
  | dold {a : Addr} {t : Bool} {l : List (D × V)} {kvs : List (D × D)} : DH H a t l → a ∉ O → (C.Old a ∨ C.H0 a = none) → RepKv C O H l kvs → Rep C O H (.ref a) (.dic .old t kvs)
inductive RepL (C : RC) (O : List Addr) (H : Hp) : List V → List D → Prop
  | nil : RepL C O H [] []
  | cons {v : V} {d : D} {vs : List V} {ds : List D} : Rep C O H v d → RepL C O H vs ds → RepL C O H (v :: vs) (d :: ds)
inductive RepKv (C : RC) (O : List Addr) (H : Hp) : List (D × V) → List (D × D) → Prop
  | nil : RepKv C O H [] []
  | cons {k : D} {v : V} {d : D} {l : List (D × V)} {kvs : List (D × D)} : Rep C O H v d → RepKv C O H l kvs → RepKv C O H ((k, v) :: l) ((k, d) :: kvs)
end

def root : V × D → List Addr
  | (.ref a, .lst .own _) => [a]
  | (.ref a, .lst .ownM _) => [a]
  | (.ref a, .dic .own _ _) => [a]
  | (.ref a, .dic .ownM _ _) => [a]
  | _ => []
def roots (its : List (V × D)) : List Addr := its.flatMap root

def ItemOk (C : RC) (O : List Addr) (H : Hp) : V × D → Prop
  | (v, .lst .own ds) => ∃ a vs, v = .ref a ∧ H a = some (.lst vs) ∧ C.H0 a = none ∧ RepL C O H vs ds
  | (v, .lst .ownM ds) => ∃ a vs, v = .ref a ∧ H a = some (.lst vs) ∧ C.M = some a ∧ RepL C O H vs ds
  | (v, .dic .own t kvs) => ∃ a l, v = .ref a ∧ DH H a t l ∧ (∃ o, H a = some o ∧ Mut (some o)) ∧ C.H0 a = none ∧ RepKv C O H l kvs
  | (v, .dic .ownM t kvs) => ∃ a l, v = .ref a ∧ DH H a t l ∧ (∃ o, H a = some o ∧ Mut (some o)) ∧ C.M = some a ∧ RepKv C O H l kvs
  | (v, d) => Rep C O H v d

structure Ext (C : RC) (H : Hp) : Prop where
  keep : ∀ b o, C.H0 b = some o → C.M ≠ some b → (∀ ps, o ≠ .tbl ps) → H b = some o
  there : ∀ b, C.H0 b ≠ none → H b ≠ none
  old : ∀ b, C.Old b → C.H0 b ≠ none ∧ C.M ≠ some b
  muta : ∀ b, C.M = some b → C.H0 b ≠ none
  exs : ∀ a c x H1 H2, C.exA a c x H1 → Stay H1 H2 → C.exA a c x H2
  tabs : ∀ p ∈ tabsK C.K, LamX.TabS H p.1 p.2

structure Good (C : RC) (its : List (V × D)) (H : Hp) : Prop where
  nd : (roots its).Nodup
  ok : ∀ it ∈ its, ItemOk C (roots its) H it
  ext : Ext C H

theorem nt_lst {xs : List V} (ps : Array Value) : HO.lst xs ≠ .tbl ps := fun z => nomatch z
theorem nt_tup {xs : List V} (ps : Array Value) : HO.tup xs ≠ .tbl ps := fun z => nomatch z
theorem nt_frz {o : Obj} {u : HO} (ps : Array Value) : HO.frz o u ≠ .tbl ps := fun z => nomatch z
theorem nt_dK {xs : List (Key × V)} (ps : Array Value) : HO.dK xs ≠ .tbl ps := fun z => nomatch z
theorem nt_dT {xs : List (List Key × V)} (ps : Array Value) : HO.dT xs ≠ .tbl ps := fun z => nomatch z
structure Keep (X : List Addr) (H H' : Hp) : Prop where
  keep : ∀ b o, H b = some o → b ∉ X → (∀ ps, o ≠ .tbl ps) → H' b = some o
  muta : ∀ b ∈ X, ∀ o, H b = some o → Mut (some o)
theorem Keep.of {H H' : Hp} (h : ∀ b o, H b = some o → H' b = some o) : Keep [] H H' := ⟨fun b o e _ _ => h b o e, fun _ z => nomatch z⟩
theorem Keep.new {H : Hp} {p : Addr} {o : HO} (h : H p = none) : Keep [] H (upd H p o) := .of fun b u e => by
  rw [upd_ne (ne_of_none e h)]
  exact e
section
variable {C : RC} {O O' X : List Addr} {H H' : Hp}
theorem Keep.tup (k : Keep X H H') {a : Addr} {vs : List V} (h : SqT C.K H a vs) : SqT C.K H' a vs := by
  rcases h with h | h
  · refine .inl ?_
    rcases h with h | ⟨o, h⟩
    · exact .inl (k.keep _ _ h (fun z => k.muta _ z _ h) nt_tup)
    · exact .inr ⟨o, k.keep _ _ h (fun z => k.muta _ z _ h) nt_frz⟩
  · exact .inr h
theorem Keep.rd (k : Keep X H H') {a : Addr} {o : HO} (ha : a ∉ X) (nt : ∀ ps, o ≠ .tbl ps) (h : Rd H a o) : Rd H' a o := by
  rcases h with h | ⟨u, h⟩
  · exact .inl (k.keep _ _ h ha nt)
  · exact .inr ⟨u, k.keep _ _ h ha nt_frz⟩
theorem Keep.dh (k : Keep X H H') {a : Addr} {t : Bool} {l : List (D × V)} (ha : a ∉ X) (h : DH H a t l) : DH H' a t l := by
  cases h with
  | k r p => exact .k (k.rd ha nt_dK r) p
  | t r p => exact .t (k.rd ha nt_dT r) p
theorem Keep.stay (k : Keep X H H') : Stay H H' := fun b o e => by
  by_cases hb : b ∈ X
  · exact .inr (.inl (k.muta b hb o e))
  · by_cases ht : ∃ ps, o = .tbl ps
    · exact .inr (.inr ht)
    · exact .inl (k.keep b o e hb fun ps z => ht ⟨ps, z⟩)
mutual
theorem Rep.keep (k : Keep X H H') (hX : ∀ b ∈ X, b ∈ O) (hO : ∀ b ∈ O', b ∈ O ∨ H b = none) (he : ∀ a c x H1 H2, C.exA a c x H1 → Stay H1 H2 → C.exA a c x H2) :
    ∀ {v : V} {d : D}, Rep C O H v d → Rep C O' H' v d
  | _, _, .non => .non
  | _, _, .bl b => .bl b
  | _, _, .int i => .int i
  | _, _, .str l => .str l
  | _, _, .fn h => .fn h
  | _, _, .exc h => .exc (he _ _ _ _ _ h k.stay)
  | _, _, .tup h r => .tup (k.keep _ _ h (fun z => k.muta _ z _ h) nt_tup) (RepL.keep k hX hO he r)
  | _, _, .fr h n f r => .fr (k.keep _ _ h (fun z => n (hX _ z)) nt_lst) (fun z => by
      rcases hO _ z with z | z
      · exact n z
      · rw [h] at z; cases z) f (RepL.keep k hX hO he r)
  | _, _, .old h n f r => .old (k.rd (fun z => n (hX _ z)) nt_lst h) (fun z => by
      rcases hO _ z with z | z
      · exact n z
      · rcases h with h | ⟨_, h⟩ <;> (rw [h] at z; cases z)) f (RepL.keep k hX hO he r)
  | _, _, .dfr h n f r => .dfr (k.dh (fun z => n (hX _ z)) h) (fun z => by
      rcases hO _ z with z | z
      · exact n z
      · cases h with
        | k r _ => rcases r with r | ⟨_, r⟩ <;> (rw [r] at z; cases z)
        | t r _ => rcases r with r | ⟨_, r⟩ <;> (rw [r] at z; cases z)) f (RepKv.keep k hX hO he r)
  | _, _, .dold h n f r => .dold (k.dh (fun z => n (hX _ z)) h) (fun z => by
      rcases hO _ z with z | z
      · exact n z
      · cases h with
        | k r _ => rcases r with r | ⟨_, r⟩ <;> (rw [r] at z; cases z)
        | t r _ => rcases r with r | ⟨_, r⟩ <;> (rw [r] at z; cases z)) f (RepKv.keep k hX hO he r)
theorem RepL.keep (k : Keep X H H') (hX : ∀ b ∈ X, b ∈ O) (hO : ∀ b ∈ O', b ∈ O ∨ H b = none) (he : ∀ a c x H1 H2, C.exA a c x H1 → Stay H1 H2 → C.exA a c x H2) :
    ∀ {vs : List V} {ds : List D}, RepL C O H vs ds → RepL C O' H' vs ds
  | _, _, .nil => .nil
  | _, _, .cons h r => .cons (Rep.keep k hX hO he h) (RepL.keep k hX hO he r)
theorem RepKv.keep (k : Keep X H H') (hX : ∀ b ∈ X, b ∈ O) (hO : ∀ b ∈ O', b ∈ O ∨ H b = none) (he : ∀ a c x H1 H2, C.exA a c x H1 → Stay H1 H2 → C.exA a c x H2) :
    ∀ {l : List (D × V)} {kvs : List (D × D)}, RepKv C O H l kvs → RepKv C O' H' l kvs
  | _, _, .nil => .nil
  | _, _, .cons h r => .cons (Rep.keep k hX hO he h) (RepKv.keep k hX hO he r)
end
end
end QE
namespace QE
open PySem L2
section
variable {C : RC} {O O' X : List Addr} {H H' : Hp} {its its' : List (V × D)} {v : V} {d : D}

def NotOwn : D → Prop
  | .lst .own _ => False
  | .lst .ownM _ => False
  | .dic .own _ _ => False
  | .dic .ownM _ _ => False
  | _ => True
theorem root_not (h : NotOwn d) : root (v, d) = [] := by
  cases d with
  | lst f xs => cases f <;> first | exact h.elim | (cases v <;> rfl)
  | dic f t xs => cases f <;> first | exact h.elim | (cases v <;> rfl)
  | _ => cases v <;> rfl
theorem item_not (h : NotOwn d) : ItemOk C O H (v, d) = Rep C O H v d := by
  cases d with
  | lst f xs => cases f <;> first | exact h.elim | rfl
  | dic f t xs => cases f <;> first | exact h.elim | rfl
  | _ => rfl
theorem share_not (h : isM d = false) : NotOwn (share d) := by
  cases d with
  | lst f xs => cases f <;> first | trivial | cases h
  | dic f t xs => cases f <;> first | trivial | cases h
  | _ => trivial
theorem share_of (h : NotOwn d) : share d = d := by
  cases d with
  | lst f xs => cases f <;> first | exact h.elim | rfl
  | dic f t xs => cases f <;> first | exact h.elim | rfl
  | _ => rfl
theorem Rep.notOwn (h : Rep C O H v d) : NotOwn d := by
  cases h <;> trivial

theorem roots_nil : roots [] = [] := rfl
theorem roots_cons {x : V × D} : roots (x :: its) = root x ++ roots its := rfl
theorem roots_app : roots (its ++ its') = roots its ++ roots its' := by
  unfold roots
  exact List.flatMap_append
theorem roots_perm (h : its.Perm its') : (roots its).Perm (roots its') := h.flatMap_right root
theorem roots_sub (h : its'.Sublist its) : (roots its').Sublist (roots its) := by
  induction h with
  | slnil => exact List.Sublist.refl _
  | cons a _ ih => exact ih.trans (List.sublist_append_right _ _)
  | cons_cons a _ ih => exact ih.append_left _

theorem Keep.refl : Keep [] H H := .of fun _ _ e => e
theorem ItemOk.keep (k : Keep X H H') (hX : ∀ b ∈ X, b ∈ O) (hO : ∀ b ∈ O', b ∈ O ∨ H b = none) (he : ∀ a c x H1 H2, C.exA a c x H1 → Stay H1 H2 → C.exA a c x H2)
    (hr : ∀ a ∈ root (v, d), a ∉ X) (h : ItemOk C O H (v, d)) : ItemOk C O' H' (v, d) := by
  cases d with
  | lst f xs =>
    cases f with
    | own =>
      obtain ⟨a, vs, rfl, e, n, r⟩ := h
      exact ⟨a, vs, rfl, k.keep _ _ e (hr a (by simp [root])) nofun, n, r.keep k hX hO he⟩
    | ownM =>
      obtain ⟨a, vs, rfl, e, n, r⟩ := h
      exact ⟨a, vs, rfl, k.keep _ _ e (hr a (by simp [root])) nofun, n, r.keep k hX hO he⟩
    | fr => exact Rep.keep k hX hO he h
    | old => exact Rep.keep k hX hO he h
  | dic f t xs =>
    cases f with
    | own =>
      obtain ⟨a, l, rfl, e, ⟨o, eo, m⟩, n, r⟩ := h
      have ha := hr a (by simp [root])
      exact ⟨a, l, rfl, k.dh ha e, ⟨o, k.keep _ _ eo ha (fun ps z => by rw [z] at m; exact m), m⟩, n, r.keep k hX hO he⟩
    | ownM =>
      obtain ⟨a, l, rfl, e, ⟨o, eo, m⟩, n, r⟩ := h
      have ha := hr a (by simp [root])
      exact ⟨a, l, rfl, k.dh ha e, ⟨o, k.keep _ _ eo ha (fun ps z => by rw [z] at m; exact m), m⟩, n, r.keep k hX hO he⟩
    | fr => exact Rep.keep k hX hO he h
    | old => exact Rep.keep k hX hO he h
  | _ => exact Rep.keep k hX hO he h
theorem ItemOk.root_some (h : ItemOk C O H (v, d)) {a : Addr} (ha : a ∈ root (v, d)) : (∃ o, H a = some o ∧ Mut (some o)) ∧ (C.H0 a = none ∨ C.M = some a) := by
  cases d with
  | lst f xs =>
    cases f with
    | own =>
      obtain ⟨b, vs, rfl, e, n, r⟩ := h
      simp [root] at ha; subst ha
      exact ⟨⟨_, e, trivial⟩, .inl n⟩
    | ownM =>
      obtain ⟨b, vs, rfl, e, n, r⟩ := h
      simp [root] at ha; subst ha
      exact ⟨⟨_, e, trivial⟩, .inr n⟩
    | fr => cases v <;> simp [root] at ha
    | old => cases v <;> simp [root] at ha
  | dic f t xs =>
    cases f with
    | own =>
      obtain ⟨b, l, rfl, e, u, n, r⟩ := h
      simp [root] at ha; subst ha
      exact ⟨u, .inl n⟩
    | ownM =>
      obtain ⟨b, l, rfl, e, u, n, r⟩ := h
      simp [root] at ha; subst ha
      exact ⟨u, .inr n⟩
    | fr => cases v <;> simp [root] at ha
    | old => cases v <;> simp [root] at ha
  | _ => cases v <;> simp [root] at ha

theorem Good.root_some (g : Good C its H) {a : Addr} (ha : a ∈ roots its) : (∃ o, H a = some o ∧ Mut (some o)) ∧ (C.H0 a = none ∨ C.M = some a) := by
  obtain ⟨⟨v, d⟩, hm, ha⟩ := List.mem_flatMap.mp ha
  exact (g.ok _ hm).root_some ha

theorem Good.perm (h : its.Perm its') (g : Good C its H) : Good C its' H :=
  ⟨(roots_perm h).nodup_iff.mp g.nd, fun ⟨v, d⟩ hm => (g.ok _ (h.mem_iff.mpr hm)).keep .refl (fun _ z => nomatch z) (fun b hb => .inl ((roots_perm h).mem_iff.mpr hb)) g.ext.exs (fun _ _ z => nomatch z), g.ext⟩
theorem Good.sub (h : its'.Sublist its) (g : Good C its H) : Good C its' H :=
  ⟨g.nd.sublist (roots_sub h), fun ⟨v, d⟩ hm => (g.ok _ (h.subset hm)).keep .refl (fun _ z => nomatch z) (fun b hb => .inl ((roots_sub h).subset hb)) g.ext.exs (fun _ _ z => nomatch z), g.ext⟩
theorem Good.tail {x : V × D} (g : Good C (x :: its) H) : Good C its H := g.sub (List.sublist_cons_self x its)
theorem Good.head {x : V × D} (g : Good C (x :: its) H) : ItemOk C (roots (x :: its)) H x := g.ok x List.mem_cons_self

theorem Good.add (g : Good C its H) (h : Rep C (roots its) H v d) : Good C ((v, d) :: its) H := by
  have e : roots ((v, d) :: its) = roots its := by rw [roots_cons, root_not h.notOwn]; rfl
  refine ⟨by rw [e]; exact g.nd, fun it hm => ?_, g.ext⟩
  rw [e]
  rcases List.mem_cons.mp hm with rfl | hm
  · rw [item_not h.notOwn]; exact h
  · exact g.ok _ hm
theorem Rep.less (he : ∀ a c x H1 H2, C.exA a c x H1 → Stay H1 H2 → C.exA a c x H2) (hO : ∀ b ∈ O', b ∈ O) (h : Rep C O H v d) : Rep C O' H v d := h.keep .refl (fun _ z => nomatch z) (fun b hb => .inl (hO b hb)) he
theorem RepL.less {vs : List V} {ds : List D} (he : ∀ a c x H1 H2, C.exA a c x H1 → Stay H1 H2 → C.exA a c x H2) (hO : ∀ b ∈ O', b ∈ O) (h : RepL C O H vs ds) : RepL C O' H vs ds := h.keep .refl (fun _ z => nomatch z) (fun b hb => .inl (hO b hb)) he
theorem RepKv.less {l : List (D × V)} {kvs : List (D × D)} (he : ∀ a c x H1 H2, C.exA a c x H1 → Stay H1 H2 → C.exA a c x H2) (hO : ∀ b ∈ O', b ∈ O) (h : RepKv C O H l kvs) : RepKv C O' H l kvs := h.keep .refl (fun _ z => nomatch z) (fun b hb => .inl (hO b hb)) he

theorem Good.share_rep (hm : isM d = false) (g : Good C ((v, d) :: its) H) : Rep C (roots its) H v (share d) := by
  have h := g.head
  have nd := g.nd
  rw [roots_cons] at h nd
  have sub : ∀ b ∈ roots its, b ∈ root (v, d) ++ roots its := fun b hb => List.mem_append_right _ hb
  have ne : ∀ a ∈ root (v, d), a ∉ roots its := fun a ha hb => (List.nodup_append.mp nd).2.2 a ha a hb rfl
  cases d with
  | lst f xs =>
    cases f with
    | own =>
      obtain ⟨a, vs, rfl, e, n, r⟩ := h
      exact .fr e (ne a (by simp [root])) n (r.less g.ext.exs sub)
    | ownM => cases hm
    | fr => exact Rep.less g.ext.exs sub h
    | old => exact Rep.less g.ext.exs sub h
  | dic f t xs =>
    cases f with
    | own =>
      obtain ⟨a, l, rfl, e, u, n, r⟩ := h
      exact .dfr e (ne a (by simp [root])) n (r.less g.ext.exs sub)
    | ownM => cases hm
    | fr => exact Rep.less g.ext.exs sub h
    | old => exact Rep.less g.ext.exs sub h
  | _ => exact Rep.less g.ext.exs sub h
theorem Good.share1 (hm : isM d = false) (g : Good C ((v, d) :: its) H) : Good C ((v, share d) :: its) H := g.tail.add (g.share_rep hm)
theorem Good.share2 (hm : isM d = false) (g : Good C ((v, d) :: its) H) : Good C ((v, share d) :: (v, share d) :: its) H := by
  refine (g.share1 hm).add ?_
  rw [roots_cons, root_not (share_not hm)]
  exact g.share_rep hm

theorem tabS_write {P a : Addr} {q : Str} {o : HO} (t : LamX.TabS H P q) (h1 : ∀ ps, H a ≠ some (.tbl ps)) (h2 : ∀ c q, H a ≠ some (LamX.CodeO c q)) : LamX.TabS (upd H a o) P q := by
  obtain ⟨ps, e, ht, hc⟩ := t
  refine ⟨ps, by rw [upd_ne (fun z => h1 ps (by rw [← z]; exact e))]; exact e, ht, fun pos cv h => ?_⟩
  obtain ⟨c, e1, e2⟩ := hc pos cv h
  exact ⟨c, e1, by rw [upd_ne (fun z => h2 c q (by rw [← z]; exact e2))]; exact e2⟩
theorem rd_code {a : Addr} {u : HO} (r : Rd H a u) (n1 : ∀ ps, u ≠ .tbl ps) (n2 : ∀ φ, u ≠ .ext φ) : (∀ ps, H a ≠ some (.tbl ps)) ∧ ∀ c q, H a ≠ some (LamX.CodeO c q) := by
  rcases r with e | ⟨o, e⟩
  · exact ⟨fun ps z => n1 ps (Option.some.inj (e.symm.trans z)), fun c q z => n2 _ (Option.some.inj (e.symm.trans z))⟩
  · exact ⟨fun ps z => (nomatch (Option.some.inj (e.symm.trans z))), fun c q z => (nomatch (show HO.frz o u = HO.ext _ from Option.some.inj (e.symm.trans z)))⟩
structure KeepS (H H' : Hp) : Prop where
  all : ∀ b o, H b = some o → H' b = some o
theorem KeepS.w (k : KeepS H H') : Keep [] H H' := .of k.all
theorem KeepS.new {p : Addr} {o : HO} (h : H p = none) : KeepS H (upd H p o) := ⟨fun b u e => by
  rw [upd_ne (ne_of_none e h)]
  exact e⟩
theorem Ext.keepS (e : Ext C H) (k : KeepS H H') : Ext C H' :=
  ⟨fun b o h m n => k.all b o (e.keep b o h m n), fun b h z => by
    cases q : H b with
    | none => exact e.there b h q
    | some o => exact (nomatch (k.all b o q).symm.trans z), e.old, e.muta, e.exs, fun p hp => (e.tabs p hp).ext k.all⟩
theorem Good.step0 (g : Good C its H) (k : KeepS H H') : Good C its H' :=
  ⟨g.nd, fun ⟨v, d⟩ hm => (g.ok _ hm).keep k.w (fun _ z => nomatch z) (fun b hb => .inl hb) g.ext.exs (fun _ _ z => nomatch z), g.ext.keepS k⟩
theorem Good.H0none (g : Good C its H) {p : Addr} (h : H p = none) : C.H0 p = none := by
  cases e : C.H0 p with
  | none => rfl
  | some o => exact absurd h (g.ext.there p (by rw [e]; simp))
theorem Good.fresh (g : Good C its H) {p : Addr} (h : H p = none) : p ∉ roots its := fun hp => by
  obtain ⟨⟨o, e, _⟩, _⟩ := g.root_some hp
  rw [h] at e; cases e
theorem RepL.new {vs : List V} {ds : List D} {p : Addr} {o : HO} (g : Good C its H) (r : RepL C (roots its) H vs ds) (h : H p = none) : RepL C (p :: roots its) (upd H p o) vs ds :=
  r.keep (Keep.new h) (fun _ z => nomatch z) (fun b hb => by
    rcases List.mem_cons.mp hb with rfl | hb
    · exact .inr h
    · exact .inl hb) g.ext.exs
theorem RepKv.new {l : List (D × V)} {kvs : List (D × D)} {p : Addr} {o : HO} (g : Good C its H) (r : RepKv C (roots its) H l kvs) (h : H p = none) : RepKv C (p :: roots its) (upd H p o) l kvs :=
  r.keep (Keep.new h) (fun _ z => nomatch z) (fun b hb => by
    rcases List.mem_cons.mp hb with rfl | hb
    · exact .inr h
    · exact .inl hb) g.ext.exs
theorem Good.cons (g : Good C its H) {a : Addr} (hr : root (v, d) = [a]) (ha : a ∉ roots its) (hi : ItemOk C (a :: roots its) H (v, d)) (hf : ∀ it ∈ its, ItemOk C (a :: roots its) H it) : Good C ((v, d) :: its) H := by
  have e : roots ((v, d) :: its) = a :: roots its := by rw [roots_cons, hr]; rfl
  refine ⟨by rw [e]; exact List.nodup_cons.mpr ⟨ha, g.nd⟩, fun it hm => ?_, g.ext⟩
  rw [e]
  rcases List.mem_cons.mp hm with rfl | hm
  · exact hi
  · exact hf it hm
theorem Good.newL {vs : List V} {ds : List D} {p : Addr} (g : Good C its H) (r : RepL C (roots its) H vs ds) (h : H p = none) : Good C ((.ref p, .lst .own ds) :: its) (upd H p (.lst vs)) := by
  refine (g.step0 (KeepS.new h)).cons (a := p) rfl (g.fresh h) ⟨p, vs, rfl, upd_same, g.H0none h, r.new g h⟩ fun ⟨v, d⟩ hm => ?_
  refine (g.ok _ hm).keep (Keep.new h) (fun _ z => nomatch z) (fun b hb => ?_) g.ext.exs fun _ _ z => nomatch z
  rcases List.mem_cons.mp hb with rfl | hb
  · exact .inr h
  · exact .inl hb
theorem Good.newT {vs : List V} {ds : List D} {p : Addr} (g : Good C its H) (r : RepL C (roots its) H vs ds) (h : H p = none) : Good C ((.ref p, .tup ds) :: its) (upd H p (.tup vs)) := by
  refine (g.step0 (KeepS.new h)).add (.tup upd_same ?_)
  exact (r.new g h).less g.ext.exs fun b hb => List.mem_cons_of_mem _ hb
theorem Good.newD {t : Bool} {l : List (D × V)} {kvs : List (D × D)} {p : Addr} {o : HO} (g : Good C its H) (r : RepKv C (roots its) H l kvs) (h : H p = none) (hd : DH (upd H p o) p t l) (mo : Mut (some o)) : Good C ((.ref p, .dic .own t kvs) :: its) (upd H p o) := by
  refine (g.step0 (KeepS.new h)).cons (a := p) rfl (g.fresh h) ⟨p, l, rfl, hd, ⟨o, upd_same, mo⟩, g.H0none h, r.new g h⟩ fun ⟨v, d⟩ hm => ?_
  refine (g.ok _ hm).keep (Keep.new h) (fun _ z => nomatch z) (fun b hb => ?_) g.ext.exs fun _ _ z => nomatch z
  rcases List.mem_cons.mp hb with rfl | hb
  · exact .inr h
  · exact .inl hb

theorem item_lst {f : Fl} {ds : List D} (h : ItemOk C O H (v, .lst f ds)) : ∃ a vs, v = .ref a ∧ Rd H a (.lst vs) ∧ RepL C O H vs ds := by
  cases f with
  | own => obtain ⟨a, vs, rfl, e, n, r⟩ := h; exact ⟨a, vs, rfl, .of e, r⟩
  | ownM => obtain ⟨a, vs, rfl, e, n, r⟩ := h; exact ⟨a, vs, rfl, .of e, r⟩
  | fr => cases h with | fr e n f r => exact ⟨_, _, rfl, .of e, r⟩
  | old => cases h with | old e n f r => exact ⟨_, _, rfl, e, r⟩
theorem item_tup {ds : List D} (h : ItemOk C O H (v, .tup ds)) : ∃ a vs, v = .ref a ∧ H a = some (.tup vs) ∧ RepL C O H vs ds := by
  cases (show Rep C O H v (.tup ds) from h) with
  | tup s r => exact ⟨_, _, rfl, s, r⟩
theorem item_dic {f : Fl} {t : Bool} {kvs : List (D × D)} (h : ItemOk C O H (v, .dic f t kvs)) : ∃ a l, v = .ref a ∧ DH H a t l ∧ RepKv C O H l kvs := by
  cases f with
  | own => obtain ⟨a, l, rfl, e, _, _, r⟩ := h; exact ⟨a, l, rfl, e, r⟩
  | ownM => obtain ⟨a, l, rfl, e, _, _, r⟩ := h; exact ⟨a, l, rfl, e, r⟩
  | fr => cases (show Rep C O H v _ from h) with | dfr e n f r => exact ⟨_, _, rfl, e, r⟩
  | old => cases (show Rep C O H v _ from h) with | dold e n f r => exact ⟨_, _, rfl, e, r⟩
theorem item_int {i : Int} (h : ItemOk C O H (v, .int i)) : v = .int i := by cases (show Rep C O H v _ from h); rfl
theorem item_bl {b : Bool} (h : ItemOk C O H (v, .bl b)) : v = .bl b := by cases (show Rep C O H v _ from h); rfl
theorem item_str {l : List Nat} (h : ItemOk C O H (v, .str l)) : v = .str ⟨l.toArray⟩ := by cases (show Rep C O H v _ from h); rfl
theorem item_non (h : ItemOk C O H (v, .non)) : v = .non := by cases (show Rep C O H v _ from h); rfl
theorem item_fn {f : Nat} (h : ItemOk C O H (v, .fn f)) : ∃ a, v = .ref a ∧ C.fnA f a := by cases (show Rep C O H v _ from h) with | fn q => exact ⟨_, rfl, q⟩
theorem RepL.length : ∀ {vs : List V} {ds : List D}, RepL C O H vs ds → vs.length = ds.length
  | _, _, .nil => rfl
  | _, _, .cons _ r => by rw [List.length_cons, List.length_cons, RepL.length r]
theorem RepL.app : ∀ {vs ws : List V} {ds es : List D}, RepL C O H vs ds → RepL C O H ws es → RepL C O H (vs ++ ws) (ds ++ es)
  | _, _, _, _, .nil, s => s
  | _, _, _, _, .cons h r, s => .cons h (RepL.app r s)
theorem RepL.drop : ∀ {vs : List V} {ds : List D} (n : Nat), RepL C O H vs ds → RepL C O H (vs.drop n) (ds.drop n)
  | _, _, 0, r => r
  | _, _, _ + 1, .nil => .nil
  | _, _, n + 1, .cons _ r => RepL.drop n r
theorem RepL.take : ∀ {vs : List V} {ds : List D} (n : Nat), RepL C O H vs ds → RepL C O H (vs.take n) (ds.take n)
  | _, _, 0, _ => .nil
  | _, _, _ + 1, .nil => .nil
  | _, _, n + 1, .cons h r => .cons h (RepL.take n r)
theorem RepL.rev {vs : List V} {ds : List D} (h : RepL C O H vs ds) : RepL C O H vs.reverse ds.reverse := by
  have go : ∀ (ws : List V) (es : List D), RepL C O H ws es → ∀ (xs : List V) (ys : List D), RepL C O H xs ys → RepL C O H (ws.reverseAux xs) (es.reverseAux ys) := by
    intro ws
    induction ws with
    | nil => intro es h xs ys q; cases h; exact q
    | cons w ws ih =>
      intro es h xs ys q
      cases h with
      | cons h r => exact ih _ r _ _ (.cons h q)
  exact go vs ds h [] [] .nil
theorem RepL.get : ∀ {vs : List V} {ds : List D} {n : Nat} {d : D}, RepL C O H vs ds → nth ds n = some d → ∃ v, vs[n]? = some v ∧ Rep C O H v d
  | _, _, _, _, .nil, e => by simp [nth] at e
  | _, _, 0, _, .cons h _, e => by simp [nth] at e; subst e; exact ⟨_, rfl, h⟩
  | _, _, n + 1, _, .cons _ r, e => by
    obtain ⟨v, h1, h2⟩ := RepL.get (n := n) r (by simpa [nth] using e)
    exact ⟨v, by simpa using h1, h2⟩
theorem RepL.set : ∀ {vs : List V} {ds : List D} (n : Nat), RepL C O H vs ds → Rep C O H v d → RepL C O H (vs.set n v) (setAt ds n d)
  | _, _, _, .nil, _ => .nil
  | _, _, 0, .cons _ r, q => .cons q r
  | _, _, n + 1, .cons h r, q => .cons h (RepL.set n r q)
theorem RepL.rep : ∀ {vs : List V} {ds : List D} (n : Nat), RepL C O H vs ds → RepL C O H (List.replicate n vs).flatten (QE.rep ds n)
  | _, _, 0, _ => .nil
  | _, _, n + 1, h => by
    rw [List.replicate_succ, List.flatten_cons]
    exact RepL.app h (RepL.rep n h)
theorem RepL.intsD : ∀ {vs : List V} {ds : List D} {ns : List Int}, RepL C O H vs ds → QE.intsD ds = some ns → vs = ns.map V.int
  | _, _, _, .nil, e => by simp [QE.intsD] at e; subst e; rfl
  | _, _, _, .cons (d := d) h r, e => by
    cases d with
    | int i =>
      simp only [QE.intsD, Option.map_eq_some_iff] at e
      obtain ⟨ms, e1, rfl⟩ := e
      cases h
      rw [RepL.intsD r e1]; rfl
    | _ => simp [QE.intsD] at e
theorem RepL.boolsD : ∀ {vs : List V} {ds : List D} {ns : List Bool}, RepL C O H vs ds → QE.boolsD ds = some ns → vs = ns.map V.bl
  | _, _, _, .nil, e => by simp [QE.boolsD] at e; subst e; rfl
  | _, _, _, .cons (d := d) h r, e => by
    cases d with
    | bl i =>
      simp only [QE.boolsD, Option.map_eq_some_iff] at e
      obtain ⟨ms, e1, rfl⟩ := e
      cases h
      rw [RepL.boolsD r e1]; rfl
    | _ => simp [QE.boolsD] at e
theorem RepL.strsD : ∀ {vs : List V} {ds : List D} {ns : List (List Nat)}, RepL C O H vs ds → QE.strsD ds = some ns → vs = (ns.map fun l => (⟨l.toArray⟩ : Str)).map V.str
  | _, _, _, .nil, e => by simp [QE.strsD] at e; subst e; rfl
  | _, _, _, .cons (d := d) h r, e => by
    cases d with
    | str i =>
      simp only [QE.strsD, Option.map_eq_some_iff] at e
      obtain ⟨ms, e1, rfl⟩ := e
      cases h
      rw [RepL.strsD r e1]; rfl
    | _ => simp [QE.strsD] at e
theorem RepL.ofInts : ∀ (ns : List Int), RepL C O H (ns.map V.int) (ns.map D.int)
  | [] => .nil
  | _ :: r => .cons (.int _) (RepL.ofInts r)
theorem RepL.ofStrs : ∀ (ns : List (List Nat)), RepL C O H ((ns.map fun l => (⟨l.toArray⟩ : Str)).map V.str) (ns.map D.str)
  | [] => .nil
  | _ :: r => .cons (.str _) (RepL.ofStrs r)
end
end QE
namespace QE
open PySem L2

def sl : L2.St → Env → List (V × D)
  | some v :: σ, some d :: ρ => (v, d) :: sl σ ρ
  | _ :: σ, _ :: ρ => sl σ ρ
  | _, _ => []
inductive SlOk : L2.St → Env → Prop
  | nil : SlOk [] []
  | skip {x : Option V} {σ : L2.St} {ρ : Env} : SlOk σ ρ → SlOk (x :: σ) (none :: ρ)
  | keep {v : V} {d : D} {σ : L2.St} {ρ : Env} : SlOk σ ρ → SlOk (some v :: σ) (some d :: ρ)
section
variable {σ : L2.St} {ρ : Env} {i : Nat} {v : V} {d : D}
theorem SlOk.len (h : SlOk σ ρ) : σ.length = ρ.length := by
  induction h with
  | nil => rfl
  | skip _ ih => simp [ih]
  | keep _ ih => simp [ih]
theorem sl_none {x : Option V} : sl (x :: σ) (none :: ρ) = sl σ ρ := by cases x <;> rfl
theorem SlOk.off (h : SlOk σ ρ) : ∀ i, SlOk σ (setS ρ i none) ∧ (sl σ (setS ρ i none)).Sublist (sl σ ρ) := by
  induction h with
  | nil => intro i; exact ⟨.nil, List.Sublist.refl _⟩
  | skip h ih =>
    intro i
    cases i with
    | zero => exact ⟨.skip h, List.Sublist.refl _⟩
    | succ i => exact ⟨.skip (ih i).1, by show (sl (_ :: _) (none :: _)).Sublist _; rw [sl_none, sl_none]; exact (ih i).2⟩
  | keep h ih =>
    intro i
    cases i with
    | zero => exact ⟨.skip h, by show (sl (_ :: _) (none :: _)).Sublist _; rw [sl_none]; exact List.sublist_cons_self _ _⟩
    | succ i => exact ⟨.keep (ih i).1, (ih i).2.cons_cons _⟩
theorem SlOk.at (h : SlOk σ ρ) : ∀ {i : Nat}, getS ρ i = Option.some d → ∃ v, σ[i]? = Option.some (Option.some v) ∧ (sl σ ρ).Perm ((v, d) :: sl σ (setS ρ i Option.none)) := by
  induction h with
  | nil => intro i e; cases e
  | skip h ih =>
    intro i e
    cases i with
    | zero => cases e
    | succ i =>
      obtain ⟨v, h1, h2⟩ := ih (i := i) e
      refine ⟨v, by simpa using h1, ?_⟩
      show (sl (_ :: _) (Option.none :: _)).Perm (_ :: sl (_ :: _) (Option.none :: _))
      rw [sl_none, sl_none]
      exact h2
  | keep h ih =>
    intro i e
    cases i with
    | zero =>
      cases e
      refine ⟨_, rfl, ?_⟩
      show (_ :: sl _ _).Perm (_ :: sl (_ :: _) (Option.none :: _))
      rw [sl_none]
    | succ i =>
      obtain ⟨w, h1, h2⟩ := ih (i := i) e
      refine ⟨w, by simpa using h1, ?_⟩
      show (_ :: sl _ _).Perm (_ :: _ :: sl _ _)
      exact (h2.cons _).trans (List.Perm.swap _ _ _)
theorem SlOk.on (h : SlOk σ ρ) : ∀ {i : Nat}, σ[i]? = Option.some (Option.some v) → SlOk σ (setS ρ i (Option.some d)) ∧ (sl σ (setS ρ i (Option.some d))).Perm ((v, d) :: sl σ (setS ρ i Option.none)) := by
  induction h with
  | nil => intro i e; simp at e
  | skip h ih =>
    intro i e
    cases i with
    | zero =>
      simp at e; subst e
      exact ⟨.keep h, by show (_ :: sl _ _).Perm (_ :: sl (_ :: _) (Option.none :: _)); rw [sl_none]⟩
    | succ i =>
      obtain ⟨h1, h2⟩ := ih (i := i) (by simpa using e)
      refine ⟨.skip h1, ?_⟩
      show (sl (_ :: _) (Option.none :: _)).Perm (_ :: sl (_ :: _) (Option.none :: _))
      rw [sl_none, sl_none]
      exact h2
  | keep h ih =>
    intro i e
    cases i with
    | zero =>
      simp at e; subst e
      exact ⟨.keep h, by show (_ :: sl _ _).Perm (_ :: sl (_ :: _) (Option.none :: _)); rw [sl_none]⟩
    | succ i =>
      obtain ⟨h1, h2⟩ := ih (i := i) (by simpa using e)
      exact ⟨.keep h1, (h2.cons _).trans (List.Perm.swap _ _ _)⟩
theorem SlOk.put (h : SlOk σ ρ) : ∀ {i : Nat}, i < σ.length → SlOk (σ.set i (Option.some v)) (setS ρ i (Option.some d)) ∧ (sl (σ.set i (Option.some v)) (setS ρ i (Option.some d))).Perm ((v, d) :: sl σ (setS ρ i Option.none)) := by
  induction h with
  | nil => intro i e; simp at e
  | skip h ih =>
    intro i e
    cases i with
    | zero => exact ⟨.keep h, by show (_ :: sl _ _).Perm (_ :: sl (_ :: _) (Option.none :: _)); rw [sl_none]⟩
    | succ i =>
      obtain ⟨h1, h2⟩ := ih (i := i) (by simpa using e)
      refine ⟨.skip h1, ?_⟩
      show (sl (_ :: _) (Option.none :: _)).Perm (_ :: sl (_ :: _) (Option.none :: _))
      rw [sl_none, sl_none]
      exact h2
  | keep h ih =>
    intro i e
    cases i with
    | zero => exact ⟨.keep h, by show (_ :: sl _ _).Perm (_ :: sl (_ :: _) (Option.none :: _)); rw [sl_none]⟩
    | succ i =>
      obtain ⟨h1, h2⟩ := ih (i := i) (by simpa using e)
      exact ⟨.keep h1, (h2.cons _).trans (List.Perm.swap _ _ _)⟩
theorem getS_lt : ∀ {ρ : Env} {i : Nat} {d : D}, getS ρ i = some d → i < ρ.length
  | [], _, _, e => by cases e
  | _ :: _, 0, _, _ => Nat.succ_pos _
  | _ :: r, n + 1, _, e => Nat.succ_lt_succ (getS_lt (ρ := r) e)
theorem getS_set_same : ∀ {ρ : Env} {i : Nat} {x : Option D}, i < ρ.length → getS (setS ρ i x) i = x
  | _ :: _, 0, _, _ => rfl
  | _ :: r, n + 1, _, h => getS_set_same (ρ := r) (Nat.lt_of_succ_lt_succ h)
theorem setS_setS : ∀ {ρ : Env} {i : Nat} {x y : Option D}, setS (setS ρ i x) i y = setS ρ i y
  | [], _, _, _ => rfl
  | _ :: _, 0, _, _ => rfl
  | d :: r, n + 1, _, _ => by show d :: _ = d :: _; rw [setS_setS]
theorem setS_len : ∀ {ρ : Env} {i : Nat} {x : Option D}, (setS ρ i x).length = ρ.length
  | [], _, _ => rfl
  | _ :: _, 0, _ => rfl
  | d :: r, n + 1, _ => by show _ + 1 = _ + 1; rw [setS_len]
end

structure StOk (C : RC) (F : List (V × D)) (σ : L2.St) (ρ : Env) (H : Hp) : Prop where
  ok : SlOk σ ρ
  good : Good C (F ++ sl σ ρ) H

def post {α : Type} (r : Res α) (k : α → Prop) (e : Nat → D → Prop) : Prop :=
  match r with
  | .ok a => k a
  | .err c x => e c x
  | .bad => False
theorem post_bind {α β : Type} {r : Res α} {f : α → Res β} {k : β → Prop} {e : Nat → D → Prop} (h : post (r.bind f) k e) : post r (fun a => post (f a) k e) e := by
  cases r <;> exact h
theorem post_mono {α : Type} {r : Res α} {k k' : α → Prop} {e e' : Nat → D → Prop} (h : post r k e) (hk : ∀ a, k a → k' a) (he : ∀ c x, e c x → e' c x) : post r k' e' := by
  cases r with
  | ok a => exact hk a h
  | err c x => exact he c x h
  | bad => exact h

structure EC where
  exc : Nat → D → Value → Option Addr → Hp → Prop

def ErrP (EX : EC) (Wx : WX) (C : RC) (σ : L2.St) (c : Nat) (x : D) : Prop := ∀ cls dd H', Ext C H' → EX.exc c x cls dd H' → Wx cls dd σ H'

section
variable (Φ : Calls) (Mu : Muts) (K : PySem.W.Frag) (fnA : FA) (EX : EC) (Wx : WX)
structure CtxOk (C : RC) : Prop where
  K : C.K = K
  fnA : C.fnA = fnA
def TV (e : IE) : TE := fun σ H Q => ∃ C F ρ, CtxOk K fnA C ∧ StOk C F σ ρ H ∧ post (ev Φ Mu e ρ) (fun r => ∀ v H', StOk C ((v, r.1) :: F) σ r.2 H' → Q v H') (ErrP EX Wx C σ)
def opI (v : V) : Opd → List (V × D)
  | .slot _ => []
  | .val d => [(v, d)]
def opAt (σ : L2.St) (v : V) : Opd → Prop
  | .slot i => σ[i]? = some (some v)
  | .val _ => True
def TO (e : IE) : TE := fun σ H Q => ∃ C F ρ, CtxOk K fnA C ∧ StOk C F σ ρ H ∧ post (evO Φ Mu e ρ) (fun r => ∀ v H', opAt σ v r.1 → StOk C (opI v r.1 ++ F) σ r.2 H' → Q v H') (ErrP EX Wx C σ)
def TB (e : IE) : TT := fun σ H Q => ∃ C F ρ, CtxOk K fnA C ∧ StOk C F σ ρ H ∧ post (ev Φ Mu e ρ) (fun r => ∃ b, r.1 = .bl b ∧ ∀ H', StOk C F σ r.2 H' → Q b H') (ErrP EX Wx C σ)
def opIs : List V → List Opd → List (V × D)
  | v :: vs, o :: os => opIs vs os ++ opI v o
  | _, _ => []
def opAts (σ : L2.St) : List V → List Opd → Prop
  | [], [] => True
  | v :: vs, o :: os => opAt σ v o ∧ opAts σ vs os
  | _, _ => False
def TOs (es : List IE) : TA := fun σ H Q => ∃ C F ρ, CtxOk K fnA C ∧ StOk C F σ ρ H ∧ post (evOs Φ Mu es ρ) (fun r => ∀ vs H', opAts σ vs r.1 → StOk C (opIs vs r.1 ++ F) σ r.2 H' → Q vs H') (ErrP EX Wx C σ)
def TVs (es : List IE) : TA := fun σ H Q => ∃ C F ρ, CtxOk K fnA C ∧ StOk C F σ ρ H ∧ post (evs Φ Mu es ρ) (fun r => ∀ vs H', vs.length = r.1.length → StOk C (vs.zip r.1 ++ F) σ r.2 H' → Q vs H') (ErrP EX Wx C σ)
end

theorem weakE {X : Cx} {e : Expr} {t t' : TE} (h : PE X e t) (w : ∀ σ H Q, t' σ H Q → t σ H Q) : PE X e t' := ⟨fun pins s σ H Q I q => h.run pins s σ H Q I (w _ _ _ q)⟩
theorem weakT {X : Cx} {e : Expr} {t t' : TT} (h : PT X e t) (w : ∀ σ H Q, t' σ H Q → t σ H Q) : PT X e t' := ⟨fun pins s σ H Q I q => h.run pins s σ H Q I (w _ _ _ q)⟩
theorem weakW {X : Cx} {e : Expr} {t t' : TT} (h : PW X e t) (w : ∀ σ H Q, t' σ H Q → t σ H Q) : PW X e t' := ⟨fun wh pins s σ H Q I q => h.run wh pins s σ H Q I (w _ _ _ q)⟩
theorem weakA {X : Cx} {e : List Expr} {t t' : TA} (h : PA X e t) (w : ∀ σ H Q, t' σ H Q → t σ H Q) : PA X e t' := ⟨fun pos pins s σ H Q I q => h.run pos pins s σ H Q I (w _ _ _ q)⟩
theorem weakS {X : Cx} {e : Stmt} {t t' : TS} (h : PS X e t) (w : ∀ σ H Q, t' σ H Q → t σ H Q) : PS X e t' := ⟨fun pins s σ H Q I q => h.run pins s σ H Q I (w _ _ _ q)⟩
theorem weakSs {X : Cx} {e : List Stmt} {t t' : TS} (h : PSs X e t) (w : ∀ σ H Q, t' σ H Q → t σ H Q) : PSs X e t' := ⟨fun pins s σ H Q I q => h.run pins s σ H Q I (w _ _ _ q)⟩
theorem orE {X : Cx} {e : Expr} {t t' : TE} (h : PE X e t) (h' : PE X e t') : PE X e (fun σ H Q => t σ H Q ∨ t' σ H Q) := ⟨fun pins s σ H Q I q => by
  rcases q with q | q
  · exact h.run pins s σ H Q I q
  · exact h'.run pins s σ H Q I q⟩

section
variable {C : RC} {F : List (V × D)} {σ : L2.St} {ρ : Env} {H H' : Hp} {i : Nat} {v : V} {d : D} {o : Opd}
theorem StOk.at (s : StOk C F σ ρ H) (e : getS ρ i = some d) : ∃ v, σ[i]? = some (some v) ∧ Good C ((v, d) :: (F ++ sl σ (setS ρ i none))) H ∧ (F ++ sl σ ρ).Perm ((v, d) :: (F ++ sl σ (setS ρ i none))) := by
  obtain ⟨v, h1, h2⟩ := s.ok.at e
  have p : (F ++ sl σ ρ).Perm ((v, d) :: (F ++ sl σ (setS ρ i none))) := (h2.append_left F).trans List.perm_middle
  exact ⟨v, h1, s.good.perm p, p⟩
theorem StOk.back {d' : D} (s : SlOk σ ρ) (hv : σ[i]? = some (some v)) (g : Good C ((v, d') :: (F ++ sl σ (setS ρ i none))) H) : StOk C F σ (setS ρ i (some d')) H :=
  ⟨(s.on hv).1, g.perm (List.perm_middle.symm.trans (((s.on (d := d') hv).2.symm).append_left F))⟩
theorem StOk.put (s : SlOk σ ρ) (hi : i < σ.length) (g : Good C ((v, d) :: (F ++ sl σ (setS ρ i none))) H) : StOk C F (σ.set i (some v)) (setS ρ i (some d)) H :=
  ⟨(s.put hi).1, g.perm (List.perm_middle.symm.trans (((s.put (v := v) (d := d) hi).2.symm).append_left F))⟩
theorem StOk.off (s : StOk C F σ ρ H) (i : Nat) : StOk C F σ (setS ρ i none) H := ⟨(s.ok.off i).1, s.good.sub ((s.ok.off i).2.append_left F)⟩
theorem StOk.sub {F' : List (V × D)} (s : StOk C F σ ρ H) (h : F'.Sublist F) : StOk C F' σ ρ H := ⟨s.ok, s.good.sub (h.append_right _)⟩
theorem StOk.permF {F' : List (V × D)} (s : StOk C F σ ρ H) (h : F.Perm F') : StOk C F' σ ρ H := ⟨s.ok, s.good.perm (h.append_right _)⟩
theorem StOk.opd (s : StOk C (opI v o ++ F) σ ρ H) (ha : opAt σ v o) (e : o.get ρ = some d) : (v, d) ∈ opI v o ++ F ++ sl σ ρ := by
  cases o with
  | slot i =>
    obtain ⟨w, h1, _, p⟩ := s.at (i := i) e
    have : w = v := by
      have ha : σ[i]? = some (some v) := ha
      rw [ha] at h1; cases h1; rfl
    subst this
    exact p.mem_iff.mpr List.mem_cons_self
  | val d' =>
    cases e
    exact List.mem_append_left _ (List.mem_append_left _ List.mem_cons_self)
theorem opI_mem (o : Opd) (e : o.get ρ = some d) (ha : opAt σ v o) (s : SlOk σ ρ) {F : List (V × D)} (hF : ∀ x ∈ opI v o, x ∈ F) : (v, d) ∈ F ++ sl σ ρ := by
  cases o with
  | slot i =>
    obtain ⟨w, h1, p⟩ := s.at (i := i) e
    have : w = v := by
      have ha : σ[i]? = some (some v) := ha
      rw [ha] at h1; cases h1; rfl
    subst this
    exact List.mem_append_right _ (p.mem_iff.mpr List.mem_cons_self)
  | val d' =>
    cases e
    exact List.mem_append_left _ (hF _ List.mem_cons_self)
end
end QE
namespace QE
open PySem L2 PySem.Spec PyProof.Rows

def R2ok (X : Cx) (r : R2) (p : Pr) : Prop := ∀ (C : RC) (its : List (V × D)) (H : Hp) (x y : V) (dx dy d : D) (Q : VK), C.K = X.K → Good C its H →
  ItemOk C (roots its) H (x, dx) → ItemOk C (roots its) H (y, dy) → prim p [dx, dy] = .ok d → (∀ v H', Good C ((v, d) :: its) H' → Q v H') → r x y H Q
theorem R2ok.imp {X : Cx} {r r' : R2} {p : Pr} (h : R2ok X r p) (w : ∀ x y H Q, r x y H Q → r' x y H Q) : R2ok X r' p :=
  fun C its H x y dx dy d Q hK g hx hy e q => w _ _ _ _ (h C its H x y dx dy d Q hK g hx hy e q)
theorem Good.flat {C : RC} {its : List (V × D)} {H : Hp} {v : V} {d : D} (g : Good C its H) (h : ∀ O, Rep C O H v d) : Good C ((v, d) :: its) H := g.add (h _)
theorem Good.int {C : RC} {its : List (V × D)} {H : Hp} (g : Good C its H) (i : Int) : Good C ((.int i, .int i) :: its) H := g.add (.int i)
theorem Good.bl {C : RC} {its : List (V × D)} {H : Hp} (g : Good C its H) (i : Bool) : Good C ((.bl i, .bl i) :: its) H := g.add (.bl i)
theorem Good.str {C : RC} {its : List (V × D)} {H : Hp} (g : Good C its H) (l : List Nat) : Good C ((.str ⟨l.toArray⟩, .str l) :: its) H := g.add (.str l)

theorem sizeLine_LIM : sizeLine = LIM := by decide
theorem ok_of_limL {xs : List D} {d : D} (h : limL xs = .ok d) : xs.length ≤ sizeLine ∧ d = .lst .own xs := by
  unfold limL at h
  split at h
  · rename_i q
    cases h
    exact ⟨by rw [sizeLine_LIM]; exact Nat.le_of_ble_eq_true q, rfl⟩
  · cases h
theorem ok_of_limT {xs : List D} {d : D} (h : limT xs = .ok d) : xs.length ≤ sizeLine ∧ d = .tup xs := by
  unfold limT at h
  split at h
  · rename_i q
    cases h
    exact ⟨by rw [sizeLine_LIM]; exact Nat.le_of_ble_eq_true q, rfl⟩
  · cases h
theorem ok_of_limS {xs : List Nat} {d : D} (h : limS xs = .ok d) : xs.length ≤ sizeLine ∧ d = .str xs := by
  unfold limS at h
  split at h
  · rename_i q
    cases h
    exact ⟨by rw [sizeLine_LIM]; exact Nat.le_of_ble_eq_true q, rfl⟩
  · cases h

section
variable {X : Cx} {pins : List (Addr × Obj)} {σ : L2.St} {H : Hp} {s : Shared} {a : Addr} {xs : List V}
theorem lstR (I : Inv X pins σ H s) (h : Rd H a (.lst xs)) : ∃ (its : List Value) (n : Nat), Vals xs its ∧ xs.length = its.length ∧ s.heap.get? a = some { cls := .type "list", data := .seq its.toArray n } := by
  obtain ⟨z, its, n, r, e⟩ := h.ok I.hok
  exact ⟨its, n, r, r.length, e⟩
end

def rCatR : R2 := fun x y H Q => ∃ l b xs zs, x = .ref l ∧ y = .ref b ∧ Rd H l (.lst xs) ∧ Rd H b (.lst zs) ∧ xs.length + zs.length ≤ sizeLine ∧ ∀ p, H p = none → Q (.ref p) (upd H p (.lst (xs ++ zs)))
theorem op_catR {X : Cx} : OpR X (binaryOp .Add) rCatR := by
  intro pins s σ H x y v u Q I rx ry h
  obtain ⟨l, b, xs, zs, rfl, rfl, hH, hB, hz, q⟩ := h
  cases rx
  cases ry
  obtain ⟨its, n, r, hl, e⟩ := lstR I hH
  obtain ⟨its2, n2, r2, hl2, e2⟩ := lstR I hB
  refine PySem.P.add_list e e2 ?_ (by rw [List.size_toArray, List.size_toArray]; omega)
  have ea : its.toArray ++ its2.toArray = (its ++ its2).toArray := by simp
  rw [ea]
  exact ⟨.ref _, _, I.lnew (t' := s.toks) (r.append r2) (by rw [List.length_append]; omega), rfl, q _ I.fresh⟩
def rAddStr : R2 := fun x y H Q => ∃ i j : Str, x = .str i ∧ y = .str j ∧ i.length + j.length ≤ sizeLine ∧ Q (.str (i ++ j)) H
def rAddI : R2 := rI0 fun i j => .int (i + j)
def rAddAll (K : PySem.W.Frag) : R2 := fun x y H Q => rAddI x y H Q ∨ rAddStr x y H Q ∨ rCatR x y H Q ∨ rCatA K x y H Q
theorem op_addAll {X : Cx} : OpR X (binaryOp .Add) (rAddAll X.K) := op_add.or (op_add_str.or (op_catR.or op_catA))

theorem add_ok {X : Cx} : R2ok X (rAddAll X.K) .add := by
  intro C its H x y dx dy d Q hK g hx hy e q
  cases dx with
  | int i =>
    cases dy with
    | int j =>
      cases item_int hx; cases item_int hy; cases e
      exact .inl ⟨i, j, rfl, rfl, q _ _ (g.int _)⟩
    | _ => cases e
  | str i =>
    cases dy with
    | str j =>
      cases item_str hx; cases item_str hy
      obtain ⟨z, rfl⟩ := ok_of_limS (show limS (i ++ j) = .ok d from e)
      refine .inr (.inl ⟨_, _, rfl, rfl, by simpa [Str.length] using z, ?_⟩)
      have : (⟨i.toArray⟩ : Str) ++ (⟨j.toArray⟩ : Str) = ⟨(i ++ j).toArray⟩ := by
        show Str.append _ _ = _
        unfold Str.append
        simp
      rw [this]
      exact q _ _ (g.str _)
    | _ => cases e
  | lst f i =>
    cases dy with
    | lst f' j =>
      obtain ⟨l, xs, rfl, hl, rl⟩ := item_lst hx
      obtain ⟨b, zs, rfl, hb, rb⟩ := item_lst hy
      obtain ⟨z, rfl⟩ := ok_of_limL (show limL (i ++ j) = .ok d from e)
      refine .inr (.inr (.inl ⟨l, b, xs, zs, rfl, rfl, hl, hb, by rw [rl.length, rb.length]; simpa using z, fun p hp => q _ _ (g.newL (rl.app rb) hp)⟩))
    | _ => cases e
  | tup i =>
    cases dy with
    | tup j =>
      obtain ⟨l, xs, rfl, hl, rl⟩ := item_tup hx
      obtain ⟨b, zs, rfl, hb, rb⟩ := item_tup hy
      obtain ⟨z, rfl⟩ := ok_of_limT (show limT (i ++ j) = .ok d from e)
      refine .inr (.inr (.inr ⟨l, b, xs, zs, rfl, rfl, SqT.of hl, SqT.of hb, by rw [rl.length, rb.length]; simpa using z, fun e1 => ?_, fun e1 e2 => ?_, fun _ _ p hp => q _ _ (g.newT (rl.app rb) hp)⟩))
      · subst e1
        cases rl
        exact q _ _ (g.add (.tup hb rb))
      · subst e2
        cases rb
        rw [List.append_nil] at q
        exact q _ _ (g.add (.tup hl rl))
    | _ => cases e
  | _ => cases e

theorem sub_ok {X : Cx} : R2ok X (rI0 fun i j => .int (i - j)) .sub := by
  intro C its H x y dx dy d Q hK g hx hy e q
  cases dx with
  | int i =>
    cases dy with
    | int j =>
      cases item_int hx; cases item_int hy; cases e
      exact ⟨i, j, rfl, rfl, q _ _ (g.int _)⟩
    | _ => cases e
  | _ => cases e
theorem fdiv_ok {X : Cx} : R2ok X (rI CDivW fun i j => .int (i / j)) .fdiv := by
  intro C its H x y dx dy d Q hK g hx hy e q
  cases dx with
  | int i =>
    cases dy with
    | int j =>
      cases item_int hx; cases item_int hy
      have e : (if divOk j then Res.ok (D.int (i / j)) else .bad) = .ok d := e
      split at e
      · rename_i c
        cases e
        unfold divOk at c
        rw [Bool.and_eq_true, decide_eq_true_eq] at c
        exact ⟨i, j, rfl, rfl, ⟨c.1, Nat.blt_eq.mp c.2⟩, q _ _ (g.int _)⟩
      · cases e
    | _ => cases e
  | _ => cases e
theorem mod_ok {X : Cx} : R2ok X (rI (fun _ j => 0 < j) fun i j => .int (i % j)) .mod := by
  intro C its H x y dx dy d Q hK g hx hy e q
  cases dx with
  | int i =>
    cases dy with
    | int j =>
      cases item_int hx; cases item_int hy
      have e : (if decide (0 < j) then Res.ok (D.int (i % j)) else .bad) = .ok d := e
      split at e
      · rename_i c
        cases e
        exact ⟨i, j, rfl, rfl, of_decide_eq_true c, q _ _ (g.int _)⟩
      · cases e
    | _ => cases e
  | _ => cases e
theorem pow_ok {X : Cx} : R2ok X (rI CPow fun i j => .int (i ^ j.toNat)) .pow := by
  intro C its H x y dx dy d Q hK g hx hy e q
  cases dx with
  | int i =>
    cases dy with
    | int j =>
      cases item_int hx; cases item_int hy
      have e : (if decide (0 ≤ j) && decide (j ≤ 1000000) && Nat.blt i.natAbs.log2 64 then Res.ok (D.int (i ^ j.toNat)) else .bad) = .ok d := e
      split at e
      · rename_i c
        cases e
        simp only [Bool.and_eq_true, decide_eq_true_eq] at c
        refine ⟨i, j, rfl, rfl, ⟨c.1.1, c.1.2, ?_⟩, q _ _ (g.int _)⟩
        by_cases h : i.natAbs = 0
        · rw [h]; decide
        · exact (Nat.log2_lt h).mp (Nat.blt_eq.mp c.2)
      · cases e
    | _ => cases e
  | _ => cases e
theorem xor_nat (a b : Nat) : Builtin.bitXor (a : Int) (b : Int) = ((a ^^^ b : Nat) : Int) := by
  have land : ∀ a b : Nat, Builtin.bitAnd (a : Int) (b : Int) = ((a &&& b : Nat) : Int) := fun a b => by
    simp [Builtin.bitAnd, Spec.bitAnd]
  rw [show Builtin.bitXor (a : Int) (b : Int) = _ from bitXor_and _ _, land]
  have key : ∀ (n a b : Nat), a < 2 ^ n → a + b = (a ^^^ b) + 2 * (a &&& b) := by
    intro n
    induction n with
    | zero =>
      intro a b h
      have : a = 0 := by omega
      subst this; simp
    | succ n ih =>
      intro a b h
      have h1 := ih (a / 2) (b / 2) (by omega)
      have e1 : (a ^^^ b) / 2 = (a / 2) ^^^ (b / 2) := Nat.xor_div_two
      have e2 : (a &&& b) / 2 = (a / 2) &&& (b / 2) := Nat.and_div_two
      have e3 : (a ^^^ b) % 2 = (a + b) % 2 := by
        rw [show (a ^^^ b) % 2 = _ from Nat.xor_mod_two_pow (n := 1)]
        rcases Nat.mod_two_eq_zero_or_one a with q | q <;> rcases Nat.mod_two_eq_zero_or_one b with r | r <;> (simp only [Nat.pow_one, q, r]; first | omega | (show _ = _; simp; omega))
      have e4 : (a &&& b) % 2 = (a % 2) * (b % 2) := by
        rw [show (a &&& b) % 2 = _ from Nat.and_mod_two_pow (n := 1)]
        rcases Nat.mod_two_eq_zero_or_one a with q | q <;> rcases Nat.mod_two_eq_zero_or_one b with r | r <;> simp [q, r]
      rcases Nat.mod_two_eq_zero_or_one a with q | q <;> rcases Nat.mod_two_eq_zero_or_one b with r | r <;> (rw [q, r] at e4; omega)
  have := key a a b Nat.lt_two_pow_self
  omega
theorem xor_ok {X : Cx} : R2ok X (rI0 fun i j => .int (Builtin.bitXor i j)) .xor := by
  intro C its H x y dx dy d Q hK g hx hy e q
  cases dx with
  | int i =>
    cases dy with
    | int j =>
      cases item_int hx; cases item_int hy
      cases i with
      | ofNat a =>
        cases j with
        | ofNat b =>
          cases e
          refine ⟨_, _, rfl, rfl, ?_⟩
          have := xor_nat a b
          show Q (V.int (Builtin.bitXor (a : Int) (b : Int))) H
          rw [this]
          exact q _ _ (g.int _)
        | negSucc _ => cases e
      | negSucc _ => cases e
    | _ => cases e
  | _ => cases e
end QE
namespace QE
open PySem L2 PySem.Spec PyProof.Rows

mutual
def toPy : D → PyData
  | .non => .none
  | .bl b => .bool b
  | .int i => .int i
  | .str s => .str ⟨s.toArray⟩
  | .tup xs => .tuple (toPys xs)
  | .lst _ xs => .list (toPys xs)
  | .fn _ | .exc _ _ | .dic _ _ _ => .none
def toPys : List D → List PyData
  | [] => []
  | x :: r => toPy x :: toPys r
end
theorem str_beq (a b : List Nat) : ((⟨a.toArray⟩ : Str) == ⟨b.toArray⟩) = (a == b) := by
  by_cases h : a = b
  · subst h; simp
  · have : ¬ ((⟨a.toArray⟩ : Str) = ⟨b.toArray⟩) := fun e => h (by
      have e1 := congrArg Str.cps e
      simpa using e1)
    rw [beq_eq_false_iff_ne.mpr this, beq_eq_false_iff_ne.mpr h]
mutual
theorem deq_py : ∀ (n : Nat) (x y : D), eqOk n x = true → eqOk n y = true → deq x y = PyData.eqv (toPy x) (toPy y)
  | n, .non, y, hx, hy => by cases y <;> first | rfl | (simp [deq, toPy, PyData.eqv]; done) | (cases n <;> simp [eqOk] at hy)
  | n, .bl a, y, hx, hy => by cases y <;> first | rfl | (simp [deq, toPy, PyData.eqv]; done) | (cases n <;> simp [eqOk] at hy)
  | n, .int a, y, hx, hy => by cases y <;> first | rfl | (simp [deq, toPy, PyData.eqv]; done) | (cases n <;> simp [eqOk] at hy)
  | n, .str a, y, hx, hy => by
    cases y <;> first
      | rfl
      | (simp [deq, toPy, PyData.eqv]; done)
      | (simp only [deq, toPy, PyData.eqv]; rw [str_beq])
      | (cases n <;> simp [eqOk] at hy)
  | 0, .tup xs, y, hx, hy => by simp [eqOk] at hx
  | 0, .lst _ xs, y, hx, hy => by simp [eqOk] at hx
  | n + 1, .tup xs, y, hx, hy => by
    cases y <;> first
      | (simp [deq, toPy, PyData.eqv]; done)
      | (simp only [deq, toPy, PyData.eqv]; exact deqs_py n xs _ (by simpa [eqOk] using hx) (by simpa [eqOk] using hy))
      | (simp [eqOk] at hy)
  | n + 1, .lst _ xs, y, hx, hy => by
    cases y <;> first
      | (simp [deq, toPy, PyData.eqv]; done)
      | (simp only [deq, toPy, PyData.eqv]; exact deqs_py n xs _ (by simpa [eqOk] using hx) (by simpa [eqOk] using hy))
      | (simp [eqOk] at hy)
  | n, .fn _, y, hx, hy => by cases n <;> simp [eqOk] at hx
  | n, .exc _ _, y, hx, hy => by cases n <;> simp [eqOk] at hx
  | n, .dic _ _ _, y, hx, hy => by cases n <;> simp [eqOk] at hx
theorem deqs_py : ∀ (n : Nat) (x y : List D), eqOks n x = true → eqOks n y = true → deqs x y = PyData.eqvAll (toPys x) (toPys y)
  | n, [], y, hx, hy => by cases y <;> simp [deqs, toPys, PyData.eqvAll]
  | n, x :: xs, y, hx, hy => by
    cases y with
    | nil => simp [deqs, toPys, PyData.eqvAll]
    | cons y ys =>
      have h1 : eqOk n x = true ∧ eqOks n xs = true := by simpa [eqOks] using hx
      have h2 : eqOk n y = true ∧ eqOks n ys = true := by simpa [eqOks] using hy
      simp only [deqs, toPys, PyData.eqvAll]
      rw [deq_py n x y h1.1 h2.1, deqs_py n xs ys h1.2 h2.2]
end
theorem okN_ok : ∀ {s : List Nat}, okN s = true → PyData.strOk ⟨s.toArray⟩ = true := by
  intro s h
  unfold PyData.strOk
  have : ∀ c ∈ s, c < 1114112 := by
    induction s with
    | nil => intro c hc; cases hc
    | cons a r ih =>
      have h2 : Nat.blt a 1114112 = true ∧ okN r = true := by simpa [okN] using h
      intro c hc
      rcases List.mem_cons.mp hc with rfl | hc
      · exact Nat.blt_eq.mp h2.1
      · exact ih h2.2 c hc
  simpa using this
mutual
theorem shape_py : ∀ (n : Nat) (x : D), eqOk n x = true → (toPy x).canLay0 = true ∧ (toPy x).depth ≤ n
  | n, .non, h => by simp [toPy, PyData.canLay0, PyData.depth]
  | n, .bl _, h => by simp [toPy, PyData.canLay0, PyData.depth]
  | n, .int _, h => by simp [toPy, PyData.canLay0, PyData.depth]
  | n, .str s, h => by
    have h : okN s = true := by cases n <;> simpa [eqOk] using h
    simp [toPy, PyData.canLay0, PyData.depth, okN_ok h]
  | 0, .tup xs, h => by simp [eqOk] at h
  | 0, .lst _ xs, h => by simp [eqOk] at h
  | n + 1, .tup xs, h => by
    have := shapes_py n xs (by simpa [eqOk] using h)
    simp [toPy, PyData.canLay0, PyData.depth, this]
  | n + 1, .lst _ xs, h => by
    have := shapes_py n xs (by simpa [eqOk] using h)
    simp [toPy, PyData.canLay0, PyData.depth, this]
  | n, .fn _, h => by cases n <;> simp [eqOk] at h
  | n, .exc _ _, h => by cases n <;> simp [eqOk] at h
  | n, .dic _ _ _, h => by cases n <;> simp [eqOk] at h
theorem shapes_py : ∀ (n : Nat) (x : List D), eqOks n x = true → PyData.canLayAll0 (toPys x) = true ∧ PyData.depthAll (toPys x) ≤ n
  | n, [], h => by simp [toPys, PyData.canLayAll0, PyData.depthAll]
  | n, x :: xs, h => by
    have h1 : eqOk n x = true ∧ eqOks n xs = true := by simpa [eqOks] using h
    have a := shape_py n x h1.1
    have b := shapes_py n xs h1.2
    simp [toPys, PyData.canLayAll0, PyData.depthAll, a, b]
    omega
end
theorem shaped_py {n : Nat} {x : D} (h : eqOk n x = true) (hn : n ≤ 64) : SeqAt.shaped (toPy x) = true := by
  have := shape_py n x h
  unfold SeqAt.shaped
  rw [this.1, Bool.true_and, decide_eq_true_eq]
  omega
section
variable {C : RC} {O : List Addr} {H : Hp}
mutual
theorem Rep.dp : ∀ {n : Nat} {v : V} {d : D}, Rep C O H v d → eqOk n d = true → Dp C.K H v (toPy d)
  | _, _, _, .non, _ => .non
  | _, _, _, .bl b, _ => .bl b
  | _, _, _, .int b, _ => .int b
  | _, _, _, .str b, _ => .str _
  | n, _, _, .fn _, h => by cases n <;> simp [eqOk] at h
  | n, _, _, .exc _, h => by cases n <;> simp [eqOk] at h
  | n + 1, _, _, .tup s r, h => .tup (SqT.of s) (RepL.dp (n := n) r (by simpa [eqOk] using h))
  | n + 1, _, _, .fr e _ _ r, h => .lst (.inl (.inl e)) (RepL.dp (n := n) r (by simpa [eqOk] using h))
  | n + 1, _, _, .old e _ _ r, h => .lst (.inl e) (RepL.dp (n := n) r (by simpa [eqOk] using h))
  | 0, _, _, .tup s r, h => by simp [eqOk] at h
  | 0, _, _, .fr _ _ _ _, h => by simp [eqOk] at h
  | 0, _, _, .old _ _ _ _, h => by simp [eqOk] at h
  | n, _, _, .dfr _ _ _ _, h => by cases n <;> simp [eqOk] at h
  | n, _, _, .dold _ _ _ _, h => by cases n <;> simp [eqOk] at h
theorem RepL.dp : ∀ {n : Nat} {v : List V} {d : List D}, RepL C O H v d → eqOks n d = true → DpAll C.K H v (toPys d)
  | _, _, _, .nil, _ => .nil
  | n, _, _, .cons h r, e => by
    rename_i v d vs ds
    have h1 : eqOk n d = true ∧ eqOks n ds = true := by simpa [eqOks] using e
    exact .cons (h.dp h1.1) (RepL.dp r h1.2)
end
theorem item_dp {n : Nat} {v : V} {d : D} (h : ItemOk C O H (v, d)) (e : eqOk n d = true) : Dp C.K H v (toPy d) := by
  cases d with
  | lst f xs =>
    cases n with
    | zero => simp [eqOk] at e
    | succ n =>
      obtain ⟨a, vs, rfl, r, rl⟩ := item_lst h
      exact .lst (.inl r) (rl.dp (n := n) (by simpa [eqOk] using e))
  | dic f t xs => cases n <;> simp [eqOk] at e
  | _ => exact Rep.dp h e
end
def rEqAll (K : PySem.W.Frag) : R2 := fun x y H Q => rEq x y H Q ∨ rEqD K x y H Q
def rNeAll (K : PySem.W.Frag) : R2 := fun x y H Q => rNe x y H Q ∨ rNeD K x y H Q
theorem dec_str (a b : List Nat) : decide (V.str (⟨a.toArray⟩ : Str) = V.str ⟨b.toArray⟩) = (a == b) := by
  rw [← str_beq]
  by_cases h : (⟨a.toArray⟩ : Str) = ⟨b.toArray⟩
  · rw [h]; simp
  · rw [beq_eq_false_iff_ne.mpr h]
    exact decide_eq_false fun e => h (V.str.inj e)
theorem eq_cases {x y d : D} (h : prim .eq [x, y] = .ok d) : (∃ a b, x = .str a ∧ y = .str b ∧ d = .bl (a == b)) ∨ (eqOk 50 x = true ∧ eqOk 50 y = true ∧ d = .bl (deq x y)) := by
  have gen : prim .eq [x, y] = (if eqOk 50 x && eqOk 50 y then .ok (.bl (deq x y)) else .bad) → ((∃ a b, x = .str a ∧ y = .str b ∧ d = .bl (a == b)) ∨ (eqOk 50 x = true ∧ eqOk 50 y = true ∧ d = .bl (deq x y))) := fun e => by
    rw [e] at h
    split at h
    · rename_i c
      rw [Bool.and_eq_true] at c
      cases h
      exact .inr ⟨c.1, c.2, rfl⟩
    · cases h
  cases x <;> first
    | exact gen rfl
    | (cases y <;> first
        | exact gen rfl
        | (cases h; exact .inl ⟨_, _, rfl, rfl, rfl⟩))
theorem ne_cases {x y d : D} (h : prim .ne [x, y] = .ok d) : (∃ a b, x = .str a ∧ y = .str b ∧ d = .bl (!(a == b))) ∨ (eqOk 50 x = true ∧ eqOk 50 y = true ∧ d = .bl (!deq x y)) := by
  have gen : prim .ne [x, y] = (if eqOk 50 x && eqOk 50 y then .ok (.bl (!deq x y)) else .bad) → ((∃ a b, x = .str a ∧ y = .str b ∧ d = .bl (!(a == b))) ∨ (eqOk 50 x = true ∧ eqOk 50 y = true ∧ d = .bl (!deq x y))) := fun e => by
    rw [e] at h
    split at h
    · rename_i c
      rw [Bool.and_eq_true] at c
      cases h
      exact .inr ⟨c.1, c.2, rfl⟩
    · cases h
  cases x <;> first
    | exact gen rfl
    | (cases y <;> first
        | exact gen rfl
        | (cases h; exact .inl ⟨_, _, rfl, rfl, rfl⟩))
theorem eq_ok {X : Cx} : R2ok X (rEqAll X.K) .eq := by
  intro C its H x y dx dy d Q hK g hx hy e q
  rcases eq_cases e with ⟨a, b, rfl, rfl, rfl⟩ | ⟨h1, h2, rfl⟩
  · cases item_str hx; cases item_str hy
    refine .inl ⟨rfl, ?_⟩
    rw [dec_str]
    exact q _ _ (g.bl _)
  · refine .inr ⟨toPy dx, toPy dy, hK ▸ item_dp hx h1, hK ▸ item_dp hy h2, shaped_py h1 (by decide), shaped_py h2 (by decide), ?_⟩
    rw [← deq_py 50 dx dy h1 h2]
    exact q _ _ (g.bl _)
theorem ne_ok {X : Cx} : R2ok X (rNeAll X.K) .ne := by
  intro C its H x y dx dy d Q hK g hx hy e q
  rcases ne_cases e with ⟨a, b, rfl, rfl, rfl⟩ | ⟨h1, h2, rfl⟩
  · cases item_str hx; cases item_str hy
    refine .inl ⟨rfl, ?_⟩
    rw [dec_str]
    exact q _ _ (g.bl _)
  · refine .inr ⟨toPy dx, toPy dy, hK ▸ item_dp hx h1, hK ▸ item_dp hy h2, shaped_py h1 (by decide), shaped_py h2 (by decide), ?_⟩
    rw [← deq_py 50 dx dy h1 h2]
    exact q _ _ (g.bl _)

theorem lexN_lt : ∀ (a b : List Nat), lexN a b = decide (a < b)
  | [], [] => by simp [lexN]
  | [], _ :: _ => by simp [lexN]
  | _ :: _, [] => by simp [lexN]
  | x :: xs, y :: ys => by
    unfold lexN
    by_cases h : x = y
    · subst h
      rw [if_pos (beq_self_eq_true x), lexN_lt]
      congr 1
      simp [List.cons_lt_cons_iff]
    · rw [if_neg (by simpa using h)]
      by_cases q : x < y
      · rw [Nat.blt_eq.mpr q]
        exact (decide_eq_true (by rw [List.cons_lt_cons_iff]; exact .inl q)).symm
      · have : Nat.blt x y = false := by
          cases e : Nat.blt x y with
          | true => exact absurd (Nat.blt_eq.mp e) q
          | false => rfl
        rw [this]
        exact (decide_eq_false (by rw [List.cons_lt_cons_iff]; rintro (z | z); exact q z; exact h z.1)).symm
theorem lexI_lt : ∀ (a b : List Int), lexI a b = HT.lexLt a b
  | [], [] => rfl
  | [], _ :: _ => rfl
  | _ :: _, [] => rfl
  | x :: xs, y :: ys => by
    unfold lexI HT.lexLt
    rw [lexI_lt]
theorem intsOnly_eq : ∀ (xs : List D), intsOnly xs = intsD xs
  | [] => rfl
  | x :: r => by cases x <;> simp [intsOnly, intsD, intsOnly_eq r]
def rStrLt : R2 := fun x y H Q => ∃ i j : Str, x = .str i ∧ y = .str j ∧ Q (.bl (decide (i.cps.toList < j.cps.toList))) H
def rLtAll (K : PySem.W.Frag) : R2 := fun x y H Q => rI0 (fun i j => .bl (decide (i < j))) x y H Q ∨ rStrLt x y H Q ∨ rLtT K x y H Q
theorem lt_ok {X : Cx} : R2ok X (rLtAll X.K) .lt := by
  intro C its H x y dx dy d Q hK g hx hy e q
  have e : pCmp dx dy = .ok d := e
  unfold pCmp at e
  split at e <;> rename_i b eb <;> cases e
  cases dx with
  | int i =>
    cases dy with
    | int j =>
      cases item_int hx; cases item_int hy; cases eb
      exact .inl ⟨i, j, rfl, rfl, q _ _ (g.bl _)⟩
    | _ => cases eb
  | str i =>
    cases dy with
    | str j =>
      cases item_str hx; cases item_str hy; cases eb
      refine .inr (.inl ⟨_, _, rfl, rfl, ?_⟩)
      rw [lexN_lt] at q
      exact q _ _ (g.bl _)
    | _ => cases eb
  | tup i =>
    cases dy with
    | tup j =>
      obtain ⟨l, xs, rfl, hl, rl⟩ := item_tup hx
      obtain ⟨b, zs, rfl, hb, rb⟩ := item_tup hy
      have eb : (match intsOnly i, intsOnly j with | some a, some b => some (lexI a b) | _, _ => none) = some _ := eb
      split at eb
      · rename_i ns ms e1 e2
        cases eb
        rw [intsOnly_eq] at e1 e2
        rw [rl.intsD e1] at hl
        rw [rb.intsD e2] at hb
        refine .inr (.inr ⟨l, b, ns, ms, rfl, rfl, SqT.of hl, SqT.of hb, ?_⟩)
        rw [← lexI_lt]
        exact q _ _ (g.bl _)
      · cases eb
    | _ => cases eb
  | _ => cases eb
end QE
namespace QE
open PySem L2 PySem.Spec PyProof.Rows
def rGtT (K : PySem.W.Frag) : R2 := fun x y H Q => ∃ (a b : Addr) (ns ms : List Int), x = .ref a ∧ y = .ref b ∧ SqT K H a (ns.map V.int) ∧ SqT K H b (ms.map V.int) ∧ Q (.bl (HT.lexLt ms ns)) H
theorem lexAt_gt {ns ms : List Int} : ∀ (k i : Nat), i + k = min ns.length ms.length → Ob.lexAt (fun j => decide (ns.getD j 0 = ms.getD j 0)) (fun j => decide (ms.getD j 0 < ns.getD j 0)) (decide (ms.length < ns.length)) i k = HT.lexLt (ms.drop i) (ns.drop i)
  | 0, i, h => by
    rw [Ob.lexAt_zero]
    by_cases q : ms.length < ns.length
    · rw [decide_eq_true q, List.drop_of_length_le (show ms.length ≤ i by omega)]
      have l : 0 < (ns.drop i).length := by rw [List.length_drop]; omega
      cases e : ns.drop i with
      | nil => rw [e] at l; cases l
      | cons x r => rfl
    · rw [decide_eq_false q, List.drop_of_length_le (show ns.length ≤ i by omega)]
      cases ms.drop i <;> rfl
  | k + 1, i, h => by
    have h1 : i < ns.length := by omega
    have h2 : i < ms.length := by omega
    rw [Ob.lexAt_succ, lexAt_gt k (i + 1) (by omega), List.drop_eq_getElem_cons h2, List.drop_eq_getElem_cons h1]
    have g1 : ns.getD i 0 = ns[i] := by rw [List.getD_eq_getElem?_getD, List.getElem?_eq_getElem h1]; rfl
    have g2 : ms.getD i 0 = ms[i] := by rw [List.getD_eq_getElem?_getD, List.getElem?_eq_getElem h2]; rfl
    rw [g1, g2]
    show _ = (if ms[i] = ns[i] then HT.lexLt (ms.drop (i + 1)) (ns.drop (i + 1)) else decide (ms[i] < ns[i]))
    by_cases e : ns[i] = ms[i]
    · rw [if_pos (decide_eq_true e), if_pos e.symm]
    · rw [if_neg (by rw [decide_eq_true_eq]; exact e), if_neg (fun z => e z.symm)]
theorem op_gtT {X : Cx} (hu : X.A.units < cLine) : OpR X (compareOp .Gt) (rGtT X.K) := by
  intro pins s σ H x y v u Q I rx ry h
  obtain ⟨a, b, ns, ms, rfl, rfl, ha, hb, q⟩ := h
  cases rx
  cases ry
  obtain ⟨us, r1, p1, _⟩ := I.tuple ha
  obtain ⟨vs, r2, p2, _⟩ := I.tuple hb
  have i1 : IntsAre us ns := r1.ints
  have i2 : IntsAre vs ms := r2.ints
  have l1 : us.toArray.size = ns.length := by rw [List.size_toArray]; exact i1.length
  have l2 : vs.toArray.size = ms.length := by rw [List.size_toArray]; exact i2.length
  have at1 : ∀ (j : Nat) (hj : j < us.toArray.size), ∃ t : Tok, us.toArray[j] = Value.int (ns.getD j 0) t := fun j hj => IntsAre.int_at i1 _ _ (by simp at hj; simp [hj])
  have at2 : ∀ (j : Nat) (hj : j < vs.toArray.size), ∃ t : Tok, vs.toArray[j] = Value.int (ms.getD j 0) t := fun j hj => IntsAre.int_at i2 _ _ (by simp at hj; simp [hj])
  have R := Ob.RcOp.tuples_gt (A := X.A) (s := s) (e := fun j => decide (ns.getD j 0 = ms.getD j 0)) (r := fun j => decide (ms.getD j 0 < ns.getD j 0)) p1 p2 hu (fun j h1 h2 => by
    obtain ⟨t, et⟩ := at1 j h1
    obtain ⟨t', et'⟩ := at2 j h2
    rw [et, et', show decide (ns.getD j 0 = ms.getD j 0) = (ns.getD j 0 == ms.getD j 0) by
      by_cases q : ns.getD j 0 = ms.getD j 0
      · rw [decide_eq_true q]; exact (beq_iff_eq.mpr q).symm
      · rw [decide_eq_false q]; exact (beq_eq_false_iff_ne.mpr q).symm]
    exact SeqAt.EqAt.int_int (ns.getD j 0) t (ms.getD j 0) t') (fun j h1 h2 _ => by
    obtain ⟨t, et⟩ := at1 j h1
    obtain ⟨t', et'⟩ := at2 j h2
    rw [et, et']
    exact Ob.RcOp.gt_int (ns.getD j 0) (ms.getD j 0) t t')
  rw [l1, l2] at R
  have fin := lexAt_gt (ns := ns) (ms := ms) (min ns.length ms.length) 0 (Nat.zero_add _)
  rw [List.drop_zero, List.drop_zero] at fin
  rw [← fin] at q
  have z : wpAny (model X.prog X.w) X.A (compareOp .Gt (.ref a) (.ref b)) (EP X pins σ Q) X.xe s := R X.prog X.w X.xe (EP X pins σ Q) ⟨.bl _, H, I, rfl, q⟩
  exact z
end QE
namespace QE
open PySem L2 PySem.Spec PyProof.Rows

def rStrC (f : List Nat → List Nat → Bool) : R2 := fun x y H Q => ∃ i j : Str, x = .str i ∧ y = .str j ∧ Q (.bl (f i.cps.toList j.cps.toList)) H
theorem gt_ok {X : Cx} : R2ok X (fun x y H Q => rI0 (fun i j => .bl (decide (j < i))) x y H Q ∨ (∃ i j : Str, x = .str i ∧ y = .str j ∧ Q (.bl (decide (j.cps.toList < i.cps.toList))) H) ∨ rGtT X.K x y H Q) .gt := by
  intro C its H x y dx dy d Q hK g hx hy e q
  cases dx with
  | int i =>
    cases dy with
    | int j =>
      cases item_int hx; cases item_int hy; cases e
      exact .inl ⟨i, j, rfl, rfl, q _ _ (g.bl _)⟩
    | _ => cases e
  | str i =>
    cases dy with
    | str j =>
      cases item_str hx; cases item_str hy; cases e
      refine .inr (.inl ⟨_, _, rfl, rfl, ?_⟩)
      rw [lexN_lt] at q
      exact q _ _ (g.bl _)
    | _ => cases e
  | tup xs =>
    cases dy with
    | tup ys =>
      obtain ⟨a, vs, rfl, ha, r1⟩ := item_tup hx
      obtain ⟨b, ws, rfl, hb, r2⟩ := item_tup hy
      have e : (match intsD xs, intsD ys with | some i, some j => Res.ok (D.bl (lexI j i)) | _, _ => .bad) = .ok d := e
      cases e1 : intsD xs with
      | none => rw [e1] at e; cases e
      | some is =>
        cases e2 : intsD ys with
        | none => rw [e1, e2] at e; cases e
        | some js =>
          rw [e1, e2] at e
          cases e
          have v1 := r1.intsD e1
          have v2 := r2.intsD e2
          subst v1 v2
          refine .inr (.inr ⟨a, b, is, js, rfl, rfl, .inl (.inl ha), .inl (.inl hb), ?_⟩)
          rw [lexI_lt] at q
          exact q _ _ (g.bl _)
    | _ => cases e
  | _ => cases e
theorem le_ok {X : Cx} : R2ok X (fun x y H Q => rI0 (fun i j => .bl (decide (i ≤ j))) x y H Q ∨ ∃ i j : Str, x = .str i ∧ y = .str j ∧ Q (.bl (!decide (j.cps.toList < i.cps.toList))) H) .le := by
  intro C its H x y dx dy d Q hK g hx hy e q
  cases dx with
  | int i =>
    cases dy with
    | int j =>
      cases item_int hx; cases item_int hy; cases e
      exact .inl ⟨i, j, rfl, rfl, q _ _ (g.bl _)⟩
    | _ => cases e
  | str i =>
    cases dy with
    | str j =>
      cases item_str hx; cases item_str hy; cases e
      refine .inr ⟨_, _, rfl, rfl, ?_⟩
      rw [lexN_lt] at q
      exact q _ _ (g.bl _)
    | _ => cases e
  | _ => cases e
theorem ge_ok {X : Cx} : R2ok X (fun x y H Q => rI0 (fun i j => .bl (decide (j ≤ i))) x y H Q ∨ ∃ i j : Str, x = .str i ∧ y = .str j ∧ Q (.bl (!decide (i.cps.toList < j.cps.toList))) H) .ge := by
  intro C its H x y dx dy d Q hK g hx hy e q
  cases dx with
  | int i =>
    cases dy with
    | int j =>
      cases item_int hx; cases item_int hy; cases e
      exact .inl ⟨i, j, rfl, rfl, q _ _ (g.bl _)⟩
    | _ => cases e
  | str i =>
    cases dy with
    | str j =>
      cases item_str hx; cases item_str hy; cases e
      refine .inr ⟨_, _, rfl, rfl, ?_⟩
      rw [lexN_lt] at q
      exact q _ _ (g.bl _)
    | _ => cases e
  | _ => cases e

theorem memN_mem : ∀ (c : Nat) (s : List Nat), memN c s = decide (c ∈ s)
  | c, [] => by simp [memN]
  | c, x :: r => by
    unfold memN
    rw [memN_mem c r]
    by_cases h : x = c
    · subst h; simp
    · have : Nat.beq x c = false := by
        cases e : Nat.beq x c with
        | true => exact absurd (Nat.eq_of_beq_eq_true e) h
        | false => rfl
      rw [this]
      have h' : ¬ c = x := fun e => h e.symm
      simp [h']
theorem memD_py : ∀ (n : Nat) (x : D) (ys : List D), eqOk n x = true → eqOks n ys = true → memD x ys = (toPys ys).any fun z => PyData.eqv z (toPy x)
  | n, x, [], hx, hy => by simp [memD, toPys]
  | n, x, y :: ys, hx, hy => by
    have h2 : eqOk n y = true ∧ eqOks n ys = true := by simpa [eqOks] using hy
    unfold memD
    rw [deq_py n y x h2.1 hx, memD_py n x ys hx h2.2]
    simp [toPys]
mutual
theorem eqOk_up : ∀ (n : Nat) (x : D), eqOk n x = true → eqOk (n + 1) x = true
  | n, .non, _ => by cases n <;> rfl
  | n, .bl _, _ => by cases n <;> rfl
  | n, .int _, _ => by cases n <;> rfl
  | n, .str s, h => by cases n <;> simpa [eqOk] using h
  | 0, .tup xs, h => by simp [eqOk] at h
  | 0, .lst _ xs, h => by simp [eqOk] at h
  | n + 1, .tup xs, h => by
    have := eqOks_up n xs (by simpa [eqOk] using h)
    simpa [eqOk] using this
  | n + 1, .lst _ xs, h => by
    have := eqOks_up n xs (by simpa [eqOk] using h)
    simpa [eqOk] using this
  | n, .fn _, h => by cases n <;> simp [eqOk] at h
  | n, .exc _ _, h => by cases n <;> simp [eqOk] at h
  | n, .dic _ _ _, h => by cases n <;> simp [eqOk] at h
theorem eqOks_up : ∀ (n : Nat) (x : List D), eqOks n x = true → eqOks (n + 1) x = true
  | n, [], _ => by cases n <;> rfl
  | n, x :: xs, h => by
    have h1 : eqOk n x = true ∧ eqOks n xs = true := by simpa [eqOks] using h
    simp [eqOks, eqOk_up n x h1.1, eqOks_up n xs h1.2]
end

def rInSeq (K : PySem.W.Frag) (neg : Bool) : R2 := fun x y H Q => ∃ d ds, Dp K H x d ∧ (Dp K H y (.list ds) ∨ Dp K H y (.tuple ds)) ∧ SeqAt.shaped d = true ∧ SeqAt.shaped (.list ds) = true ∧ SeqAt.shaped (.tuple ds) = true ∧ Q (.bl (if neg then !ds.any fun z => PyData.eqv z d else ds.any fun z => PyData.eqv z d)) H
theorem op_inSeq {X : Cx} (hu : X.A.units + 65 < cLine) : OpR X (compareOp .In) (rInSeq X.K false) := by
  intro pins s σ H x y v u Q I rx ry h
  obtain ⟨d, ds, hd, he, sd, se, st, q⟩ := h
  obtain ⟨as, r1⟩ := Dp.reads I d x v hd rx
  rcases he with he | he
  · obtain ⟨bs, r2⟩ := Dp.reads I (.list ds) y u he ry
    exact SeqAt.in_list_reads r2 r1 (SeqAt.canLay_of_shaped se) (SeqAt.canLay_of_shaped sd) (room_in_shaped sd hu) ⟨.bl _, H, I, rfl, q⟩
  · obtain ⟨bs, r2⟩ := Dp.reads I (.tuple ds) y u he ry
    exact SeqAt.in_tuple_reads r2 r1 (SeqAt.canLay_of_shaped st) (SeqAt.canLay_of_shaped sd) (room_in_shaped sd hu) ⟨.bl _, H, I, rfl, q⟩
theorem op_notInSeq {X : Cx} (hu : X.A.units + 65 < cLine) : OpR X (compareOp .NotIn) (rInSeq X.K true) := by
  intro pins s σ H x y v u Q I rx ry h
  obtain ⟨d, ds, hd, he, sd, se, st, q⟩ := h
  obtain ⟨as, r1⟩ := Dp.reads I d x v hd rx
  rcases he with he | he
  · obtain ⟨bs, r2⟩ := Dp.reads I (.list ds) y u he ry
    exact SeqAt.notIn_list_reads r2 r1 (SeqAt.canLay_of_shaped se) (SeqAt.canLay_of_shaped sd) (room_in_shaped sd hu) ⟨.bl _, H, I, rfl, q⟩
  · obtain ⟨bs, r2⟩ := Dp.reads I (.tuple ds) y u he ry
    exact SeqAt.notIn_tuple_reads r2 r1 (SeqAt.canLay_of_shaped st) (SeqAt.canLay_of_shaped sd) (room_in_shaped sd hu) ⟨.bl _, H, I, rfl, q⟩
def rInSign (neg : Bool) : R2 := fun x y H Q => ∃ (c : Nat) (z : Str), x = .str ⟨#[c]⟩ ∧ y = .str z ∧ Q (.bl (if neg then !decide (c ∈ z.cps.toList) else decide (c ∈ z.cps.toList))) H
theorem op_inSign {X : Cx} : OpR X (compareOp .In) (rInSign false) := op_in_sign
theorem op_notInSign {X : Cx} : OpR X (compareOp .NotIn) (rInSign true) := op_notIn_sign
def rInDict (neg : Bool) : R2 := fun y x H Q => ∃ a o, x = .ref a ∧ DGet H a y o ∧ Q (.bl (if neg then !o.isSome else o.isSome)) H

theorem allFlatKey_kDs : ∀ {xs : List D}, allFlatKey xs = true → ∃ ks, kDs xs = some ks
  | [], _ => ⟨[], rfl⟩
  | x :: r, h => by
    have h1 : keyOk x = true ∧ allFlatKey r = true := by simpa [allFlatKey] using h
    obtain ⟨ks, e⟩ := allFlatKey_kDs h1.2
    cases x <;> simp [keyOk] at h1
    · exact ⟨_, by simp [kDs, kD, e]; rfl⟩
    · exact ⟨_, by simp [kDs, kD, e]; rfl⟩
theorem keyIs0 {x : D} (h : keyIs false x = true) : ∃ k, kD x = some k := by
  cases x <;> simp [keyIs] at h
  · exact ⟨_, rfl⟩
  · exact ⟨_, rfl⟩
theorem keyIs1 {x : D} (h : keyIs true x = true) : ∃ xs k, x = .tup xs ∧ kDs xs = some k ∧ kT x = some k := by
  cases x <;> simp [keyIs] at h
  rename_i xs
  obtain ⟨ks, e⟩ := allFlatKey_kDs h
  exact ⟨xs, ks, rfl, e, e⟩
theorem kD_deq {x y : D} {k j : Key} (h : kD x = some k) (h' : kD y = some j) : deq x y = decide (k = j) := by
  cases x <;> simp [kD] at h <;> cases y <;> simp [kD] at h' <;> subst h <;> subst h'
  · rename_i a b
    simp only [deq]
    rw [key_ll]
  · simp only [deq]; rw [key_lr]
  · simp only [deq]; rw [key_rl]
  · rename_i a b
    simp only [deq]
    rw [key_rr, ← str_beq]
    by_cases e : (⟨a.toArray⟩ : Str) = ⟨b.toArray⟩
    · rw [e]; simp
    · rw [beq_eq_false_iff_ne.mpr e, decide_eq_false e]
theorem kDs_deqs : ∀ {xs ys : List D} {ks js : List Key}, kDs xs = some ks → kDs ys = some js → deqs xs ys = decide (ks = js)
  | [], [], ks, js, h, h' => by
    cases h; cases h'
    simp [deqs]
  | [], y :: ys, ks, js, h, h' => by
    cases h
    simp only [kDs, Option.bind_eq_some_iff, Option.map_eq_some_iff] at h'
    obtain ⟨k, _, r, _, rfl⟩ := h'
    simp [deqs]
  | x :: xs, [], ks, js, h, h' => by
    cases h'
    simp only [kDs, Option.bind_eq_some_iff, Option.map_eq_some_iff] at h
    obtain ⟨k, _, r, _, rfl⟩ := h
    simp [deqs]
  | x :: xs, y :: ys, ks, js, h, h' => by
    simp only [kDs, Option.bind_eq_some_iff, Option.map_eq_some_iff] at h h'
    obtain ⟨k, e1, r, e2, rfl⟩ := h
    obtain ⟨j, f1, t, f2, rfl⟩ := h'
    simp only [deqs]
    rw [kD_deq e1 f1, kDs_deqs e2 f2]
    by_cases a : k = j
    · subst a; simp
    · rw [decide_eq_false a, Bool.false_and, decide_eq_false]
      intro z; exact a (List.cons.inj z).1
theorem kT_deq {x y : D} {k j : List Key} (h : kT x = some k) (h' : kT y = some j) : deq x y = decide (k = j) := by
  cases x <;> simp [kT] at h
  cases y <;> simp [kT] at h'
  simp only [deq]
  exact kDs_deqs h h'
section
variable {C : RC} {O : List Addr} {H : Hp}
theorem find_k : ∀ {kvs : List (Key × V)} {l : List (D × V)} {es : List (D × D)} {x : D} {k : Key}, Paired (fun (p : Key × V) (q : D × V) => kD q.1 = some p.1 ∧ p.2 = q.2) kvs l → RepKv C O H l es → kD x = some k →
    match dfind x es with
    | some d => ∃ v, valV kvs k = some v ∧ Rep C O H v d
    | none => valV kvs k = none
  | _, _, _, _, _, .nil, .nil, _ => rfl
  | _, _, _, x, k, .cons (a := p) (b := (k', v)) hp hr, .cons (d := d) h r, e => by
    obtain ⟨h1, h2⟩ := hp
    simp only at h1 h2
    unfold dfind
    rw [kD_deq h1 e]
    unfold valV
    rw [List.find?_cons]
    by_cases hk : p.1 = k
    · rw [decide_eq_true hk]
      simp only [if_true]
      exact ⟨p.2, rfl, h2 ▸ h⟩
    · rw [decide_eq_false hk]
      simp only [Bool.false_eq_true, if_false]
      exact find_k hr r e
theorem find_t : ∀ {kvs : List (List Key × V)} {l : List (D × V)} {es : List (D × D)} {x : D} {k : List Key}, Paired (fun (p : List Key × V) (q : D × V) => kT q.1 = some p.1 ∧ p.2 = q.2) kvs l → RepKv C O H l es → kT x = some k →
    match dfind x es with
    | some d => ∃ v, valV kvs k = some v ∧ Rep C O H v d
    | none => valV kvs k = none
  | _, _, _, _, _, .nil, .nil, _ => rfl
  | _, _, _, x, k, .cons (a := p) (b := (k', v)) hp hr, .cons (d := d) h r, e => by
    obtain ⟨h1, h2⟩ := hp
    simp only at h1 h2
    unfold dfind
    rw [kT_deq h1 e]
    unfold valV
    rw [List.find?_cons]
    by_cases hk : p.1 = k
    · rw [decide_eq_true hk]
      simp only [if_true]
      exact ⟨p.2, rfl, h2 ▸ h⟩
    · rw [decide_eq_false hk]
      simp only [Bool.false_eq_true, if_false]
      exact find_t hr r e
end
end QE
namespace QE
open PySem L2 PySem.Spec PyProof.Rows

section
variable {C : RC} {O : List Addr} {H : Hp}
theorem dget {f : Fl} {t : Bool} {kvs : List (D × D)} {x y : V} {k : D} (hx : ItemOk C O H (x, .dic f t kvs)) (hy : ItemOk C O H (y, k)) (hk : keyIs t k = true) :
    ∃ a o, x = .ref a ∧ DGet H a y o ∧ (∀ d, dfind k kvs = some d → ∃ v, o = some v ∧ Rep C O H v d) ∧ (dfind k kvs = none → o = none) := by
  obtain ⟨a, l, rfl, h, r⟩ := item_dic hx
  cases h with
  | k hr p =>
    rename_i ws
    obtain ⟨j, e⟩ := keyIs0 hk
    have z := find_k p r e
    refine ⟨a, valV ws j, rfl, .inl ⟨ws, j, hr, ?_, rfl⟩, fun d e1 => ?_, fun e1 => ?_⟩
    · cases k <;> simp [kD] at e <;> subst e
      · exact item_int hy
      · exact item_str hy
    · rw [e1] at z; exact z
    · rw [e1] at z; exact z
  | t hr p =>
    rename_i ws
    obtain ⟨xs, j, rfl, e2, e⟩ := keyIs1 hk
    have z := find_t p r e
    obtain ⟨b, vs, rfl, hb, rb⟩ := item_tup hy
    refine ⟨a, valV ws j, rfl, .inr ⟨ws, j, b, hr, rfl, ?_, rfl⟩, fun d e1 => ?_, fun e1 => ?_⟩
    · have : vs = j.map kV := by
        have go : ∀ {vs : List V} {xs : List D} {j : List Key}, RepL C O H vs xs → kDs xs = some j → vs = j.map kV := by
          intro vs xs j q
          induction xs generalizing vs j with
          | nil => intro e; cases q; cases e; rfl
          | cons x xs ih =>
            intro e
            cases q with
            | cons h q =>
              simp only [kDs, Option.bind_eq_some_iff, Option.map_eq_some_iff] at e
              obtain ⟨k, e1, r, e2, rfl⟩ := e
              rw [ih q e2]
              cases x <;> simp [kD] at e1 <;> subst e1
              · cases h; rfl
              · cases h; rfl
        exact go rb e2
      rw [← this]; exact hb
    · rw [e1] at z; exact z
    · rw [e1] at z; exact z
end

def rInAll (X : Cx) (neg : Bool) : R2 := fun x y H Q => rInSign neg x y H Q ∨ rInSeq X.K neg x y H Q ∨ rInDict neg x y H Q
theorem in_str {x : List Nat} {s : List Nat} {d : D} (h : prim .in_ [.str x, .str s] = .ok d) : ∃ c, x = [c] ∧ d = .bl (memN c s) := by
  cases x with
  | nil => cases h
  | cons c r =>
    cases r with
    | nil => cases h; exact ⟨c, rfl, rfl⟩
    | cons _ _ => cases h
theorem notIn_str {x : List Nat} {s : List Nat} {d : D} (h : prim .notIn [.str x, .str s] = .ok d) : ∃ c, x = [c] ∧ d = .bl (!memN c s) := by
  cases x with
  | nil => cases h
  | cons c r =>
    cases r with
    | nil => cases h; exact ⟨c, rfl, rfl⟩
    | cons _ _ => cases h
theorem in_tup {x : D} {ys : List D} : prim .in_ [x, .tup ys] = if eqOk 50 x && eqOks 49 ys then .ok (.bl (memD x ys)) else .bad := by
  cases x <;> first | rfl | (rename_i s; cases s with | nil => rfl | cons c r => cases r <;> rfl)
theorem in_lst {x : D} {f : Fl} {ys : List D} : prim .in_ [x, .lst f ys] = if eqOk 50 x && eqOks 49 ys then .ok (.bl (memD x ys)) else .bad := by
  cases x <;> first | rfl | (rename_i s; cases s with | nil => rfl | cons c r => cases r <;> rfl)
theorem in_dic {x : D} {f : Fl} {t : Bool} {kvs : List (D × D)} : prim .in_ [x, .dic f t kvs] = if keyIs t x then .ok (.bl (dfind x kvs).isSome) else .bad := by
  cases x <;> first | rfl | (rename_i s; cases s with | nil => rfl | cons c r => cases r <;> rfl)
theorem notIn_tup {x : D} {ys : List D} : prim .notIn [x, .tup ys] = if eqOk 50 x && eqOks 49 ys then .ok (.bl (!memD x ys)) else .bad := by
  cases x <;> first | rfl | (rename_i s; cases s with | nil => rfl | cons c r => cases r <;> rfl)
theorem notIn_lst {x : D} {f : Fl} {ys : List D} : prim .notIn [x, .lst f ys] = if eqOk 50 x && eqOks 49 ys then .ok (.bl (!memD x ys)) else .bad := by
  cases x <;> first | rfl | (rename_i s; cases s with | nil => rfl | cons c r => cases r <;> rfl)
theorem notIn_dic {x : D} {f : Fl} {t : Bool} {kvs : List (D × D)} : prim .notIn [x, .dic f t kvs] = if keyIs t x then .ok (.bl (!(dfind x kvs).isSome)) else .bad := by
  cases x <;> first | rfl | (rename_i s; cases s with | nil => rfl | cons c r => cases r <;> rfl)
theorem in_other {x y d : D} (h : prim .in_ [x, y] = .ok d) : (∃ s, y = .str s ∧ ∃ z, x = .str z) ∨ (∃ s, y = .tup s) ∨ (∃ f s, y = .lst f s) ∨ ∃ f t s, y = .dic f t s := by
  cases y with
  | str s => cases x <;> first | cases h | exact .inl ⟨_, rfl, _, rfl⟩
  | tup s => exact .inr (.inl ⟨_, rfl⟩)
  | lst f s => exact .inr (.inr (.inl ⟨_, _, rfl⟩))
  | dic f t s => exact .inr (.inr (.inr ⟨_, _, _, rfl⟩))
  | _ => cases x <;> first | cases h | (rename_i s; cases s with | nil => cases h | cons c r => cases r <;> cases h)
theorem notIn_other {x y d : D} (h : prim .notIn [x, y] = .ok d) : (∃ s, y = .str s ∧ ∃ z, x = .str z) ∨ (∃ s, y = .tup s) ∨ (∃ f s, y = .lst f s) ∨ ∃ f t s, y = .dic f t s := by
  cases y with
  | str s => cases x <;> first | cases h | exact .inl ⟨_, rfl, _, rfl⟩
  | tup s => exact .inr (.inl ⟨_, rfl⟩)
  | lst f s => exact .inr (.inr (.inl ⟨_, _, rfl⟩))
  | dic f t s => exact .inr (.inr (.inr ⟨_, _, _, rfl⟩))
  | _ => cases x <;> first | cases h | (rename_i s; cases s with | nil => cases h | cons c r => cases r <;> cases h)
theorem eqOk_list {n : Nat} {f : Fl} {ys : List D} (h : eqOks n ys = true) : eqOk (n + 1) (.lst f ys) = true ∧ eqOk (n + 1) (.tup ys) = true := by
  constructor <;> simpa [eqOk] using h
theorem in_ok {X : Cx} (neg : Bool) : R2ok X (rInAll X neg) (if neg then .notIn else .in_) := by
  have sgn : ∀ (C : RC) (its : List (V × D)) (H : Hp) (x y : V) (c : Nat) (s : List Nat) (Q : VK), ItemOk C (roots its) H (x, .str [c]) → ItemOk C (roots its) H (y, .str s) → Q (.bl (if neg then !memN c s else memN c s)) H → rInAll X neg x y H Q := by
    intro C its H x y c s Q hx hy q
    cases item_str hx; cases item_str hy
    refine .inl ⟨c, _, rfl, rfl, ?_⟩
    rw [memN_mem] at q
    exact q
  have seq : ∀ (C : RC) (its : List (V × D)) (H : Hp) (x y : V) (dx : D) (dy : D) (ys : List D) (Q : VK), C.K = X.K → (dy = .tup ys ∨ ∃ f, dy = .lst f ys) → ItemOk C (roots its) H (x, dx) → ItemOk C (roots its) H (y, dy) → eqOk 50 dx = true → eqOks 49 ys = true →
      Q (.bl (if neg then !memD dx ys else memD dx ys)) H → rInAll X neg x y H Q := by
    intro C its H x y dx dy ys Q hK hd hx hy e1 e2 q
    have sh := eqOk_list (f := .own) e2
    refine .inr (.inl ⟨toPy dx, toPys ys, hK ▸ item_dp hx e1, ?_, shaped_py e1 (by decide), shaped_py (x := .lst .own ys) sh.1 (by decide), shaped_py (x := .tup ys) sh.2 (by decide), ?_⟩)
    · rcases hd with rfl | ⟨f, rfl⟩
      · exact .inr (hK ▸ item_dp hy (eqOk_list (f := .own) e2).2)
      · exact .inl (hK ▸ item_dp hy (eqOk_list (f := f) e2).1)
    · rw [memD_py 50 dx ys e1 (eqOks_up 49 ys e2)] at q
      exact q
  have dic : ∀ (C : RC) (its : List (V × D)) (H : Hp) (x y : V) (dx : D) (f : Fl) (t : Bool) (kvs : List (D × D)) (Q : VK), ItemOk C (roots its) H (x, dx) → ItemOk C (roots its) H (y, .dic f t kvs) → keyIs t dx = true →
      Q (.bl (if neg then !(dfind dx kvs).isSome else (dfind dx kvs).isSome)) H → rInAll X neg x y H Q := by
    intro C its H x y dx f t kvs Q hx hy e q
    obtain ⟨a, o, rfl, hg, h1, h2⟩ := dget hy hx e
    refine .inr (.inr ⟨a, o, rfl, hg, ?_⟩)
    have : o.isSome = (dfind dx kvs).isSome := by
      cases z : dfind dx kvs with
      | none => rw [h2 z]; rfl
      | some d => obtain ⟨v, e, _⟩ := h1 d z; rw [e]; rfl
    rw [this]; exact q
  intro C its H x y dx dy d Q hK g hx hy e q
  cases neg with
  | false =>
    have e : prim .in_ [dx, dy] = .ok d := e
    rcases in_other e with ⟨s, rfl, z, rfl⟩ | ⟨s, rfl⟩ | ⟨f, s, rfl⟩ | ⟨f, t, s, rfl⟩
    · obtain ⟨c, rfl, rfl⟩ := in_str e
      exact sgn C its H x y c s Q hx hy (q _ _ (g.bl _))
    · rw [in_tup] at e
      split at e
      · rename_i c
        rw [Bool.and_eq_true] at c
        cases e
        exact seq C its H x y dx _ s Q hK (.inl rfl) hx hy c.1 c.2 (q _ _ (g.bl _))
      · cases e
    · rw [in_lst] at e
      split at e
      · rename_i c
        rw [Bool.and_eq_true] at c
        cases e
        exact seq C its H x y dx _ s Q hK (.inr ⟨f, rfl⟩) hx hy c.1 c.2 (q _ _ (g.bl _))
      · cases e
    · rw [in_dic] at e
      split at e
      · rename_i c
        cases e
        exact dic C its H x y dx f t s Q hx hy c (q _ _ (g.bl _))
      · cases e
  | true =>
    have e : prim .notIn [dx, dy] = .ok d := e
    rcases notIn_other e with ⟨s, rfl, z, rfl⟩ | ⟨s, rfl⟩ | ⟨f, s, rfl⟩ | ⟨f, t, s, rfl⟩
    · obtain ⟨c, rfl, rfl⟩ := notIn_str e
      exact sgn C its H x y c s Q hx hy (q _ _ (g.bl _))
    · rw [notIn_tup] at e
      split at e
      · rename_i c
        rw [Bool.and_eq_true] at c
        cases e
        exact seq C its H x y dx _ s Q hK (.inl rfl) hx hy c.1 c.2 (q _ _ (g.bl _))
      · cases e
    · rw [notIn_lst] at e
      split at e
      · rename_i c
        rw [Bool.and_eq_true] at c
        cases e
        exact seq C its H x y dx _ s Q hK (.inr ⟨f, rfl⟩) hx hy c.1 c.2 (q _ _ (g.bl _))
      · cases e
    · rw [notIn_dic] at e
      split at e
      · rename_i c
        cases e
        exact dic C its H x y dx f t s Q hx hy c (q _ _ (g.bl _))
      · cases e

theorem ixN_eq (n : Nat) (i : Int) : QE.ixN n i = L2.ixN n i := by
  unfold L2.ixN
  cases i with
  | ofNat k =>
    have h0 : (0 : Int) ≤ Int.ofNat k := Int.natCast_nonneg k
    rw [if_pos h0]
    by_cases h : k < n
    · have h2 : (Int.ofNat k : Int) < (n : Int) := Int.ofNat_lt.mpr h
      rw [if_pos h2]
      show (if Nat.blt k n = true then some k else none) = _
      rw [Nat.blt_eq.mpr h, if_pos rfl]
      rfl
    · have h2 : ¬ (Int.ofNat k : Int) < (n : Int) := fun z => h (Int.ofNat_lt.mp z)
      rw [if_neg h2]
      have : Nat.blt k n = false := by
        cases e : Nat.blt k n with
        | true => exact absurd (Nat.blt_eq.mp e) h
        | false => rfl
      show (if Nat.blt k n = true then some k else none) = _
      simp [this]
  | negSucc k =>
    have h0 : ¬ (0 : Int) ≤ Int.negSucc k := by omega
    rw [if_neg h0]
    by_cases h : k < n
    · have h2 : -(n : Int) ≤ Int.negSucc k := by omega
      rw [if_pos h2]
      show (if Nat.blt k n = true then some (n - (k + 1)) else none) = _
      rw [Nat.blt_eq.mpr h, if_pos rfl]
      congr 1
      omega
    · have h2 : ¬ -(n : Int) ≤ Int.negSucc k := by omega
      rw [if_neg h2]
      have : Nat.blt k n = false := by
        cases e : Nat.blt k n with
        | true => exact absurd (Nat.blt_eq.mp e) h
        | false => rfl
      show (if Nat.blt k n = true then some (n - (k + 1)) else none) = _
      simp [this]
theorem nth_eq {α : Type} : ∀ (xs : List α) (n : Nat), nth xs n = xs[n]?
  | [], n => by simp [nth]
  | x :: xs, 0 => by simp [nth]
  | x :: xs, n + 1 => by simp [nth, nth_eq xs n]
theorem atI_eq {α : Type} (xs : List α) (i : Int) : QE.atI xs i = L2.atI xs i := by
  unfold QE.atI L2.atI
  rw [ixN_eq]
  congr 1
  funext j
  exact nth_eq xs j
section
variable {C : RC} {O : List Addr} {H : Hp}
theorem RepL.atI {vs : List V} {ds : List D} {i : Int} {d : D} (r : RepL C O H vs ds) (e : QE.atI ds i = some d) : ∃ v, L2.atI vs i = some v ∧ Rep C O H v d := by
  rw [← atI_eq]
  unfold QE.atI at e ⊢
  rw [r.length]
  obtain ⟨j, e1, e2⟩ := Option.bind_eq_some_iff.mp e
  obtain ⟨v, h1, h2⟩ := r.get e2
  exact ⟨v, by rw [e1]; simpa [nth_eq] using h1, h2⟩
end
def rIxAll (K : PySem.W.Frag) : R2 := fun x y H Q => rIxL K x y H Q ∨ rIxT K x y H Q ∨ rIxS x y H Q ∨ ∃ a v, x = .ref a ∧ DGet H a y (some v) ∧ Q v H
theorem str_len (l : List Nat) : (⟨l.toArray⟩ : Str).length = l.length := by simp [Str.length]
theorem of_ok {α : Type} {o : Option α} {d : α} (h : Res.of o = .ok d) : o = some d := by
  cases o with
  | none => cases h
  | some x => cases h; rfl
theorem ix_ok {X : Cx} : R2ok X (rIxAll X.K) .ix := by
  intro C its H x y dx dy d Q hK g hx hy e q
  cases dx with
  | str s =>
    cases dy with
    | int i =>
      cases item_str hx; cases item_int hy
      have e : (if Nat.ble s.length LIM then (match QE.atI s i with | some c => Res.ok (D.str [c]) | none => .bad) else .bad) = .ok d := e
      split at e
      · rename_i hz
        split at e
        · rename_i c ec
          cases e
          rw [atI_eq] at ec
          exact .inr (.inr (.inl ⟨_, i, c, rfl, rfl, by rw [str_len, sizeLine_LIM]; exact Nat.le_of_ble_eq_true hz, by simpa using ec, q _ _ (g.str [c])⟩))
        · cases e
      · cases e
    | _ => cases e
  | lst f xs =>
    cases dy with
    | int i =>
      cases item_int hy
      obtain ⟨a, vs, rfl, ha, r⟩ := item_lst hx
      obtain ⟨v, e1, rv⟩ := r.atI (of_ok (show Res.of (QE.atI xs i) = .ok d from e))
      exact .inl ⟨a, vs, i, v, rfl, rfl, .inl ha, e1, q _ _ (g.add rv)⟩
    | _ => cases e
  | tup xs =>
    cases dy with
    | int i =>
      cases item_int hy
      obtain ⟨a, vs, rfl, ha, r⟩ := item_tup hx
      obtain ⟨v, e1, rv⟩ := r.atI (of_ok (show Res.of (QE.atI xs i) = .ok d from e))
      exact .inr (.inl ⟨a, vs, i, v, rfl, rfl, SqT.of ha, e1, q _ _ (g.add rv)⟩)
    | _ => cases e
  | dic f t kvs =>
    have e : (if keyIs t dy then Res.of (dfind dy kvs) else .bad) = .ok d := e
    split at e
    · rename_i hk
      obtain ⟨a, o, rfl, hg, h1, _⟩ := dget hx hy hk
      obtain ⟨v, rfl, rv⟩ := h1 d (of_ok e)
      exact .inr (.inr (.inr ⟨a, v, rfl, hg, q _ _ (g.add rv)⟩))
    · cases e
  | _ => cases e
end QE
namespace QE
open PySem L2 PySem.Spec PyProof.Rows
section
variable {prog : Program} {w : World} {A : Around} {E : Value → Shared → Prop} {s : Shared}
theorem rev_adjust (n : Nat) : Builtin.Slice.sliceAdjust none none (-1) (n : Int) = ((n : Int) - 1, -1) := rfl
theorem rev_places (n : Nat) : Builtin.Slice.slicePlaces ((n : Int) - 1) (-1) (-1) = n := by
  unfold Builtin.Slice.slicePlaces
  rw [if_neg (by omega)]
  by_cases h : n = 0
  · subst h; rfl
  · rw [if_pos (by omega), show (-(-1 : Int)) = 1 by omega, Int.ediv_one]; omega
theorem rev_applied {sl : Addr} {vl vu vs : Value} {n : Nat} {Q : Int × Int × Nat → Shared → Prop} (hs : s.heap.IsSliceOf sl vl vu vs) (pl : IsPart vl none) (pu : IsPart vu none) (ps : IsPart vs (some (-1))) (h : Q ((n : Int) - 1, -1, n) s) : wpAny (model prog w) A (Builtin.Slice.sliceApplied (.ref sl) (pure (n : Int))) Q E s := by
  obtain ⟨ob, e1, _, e2⟩ := id hs
  unfold Builtin.Slice.sliceApplied Builtin.Slice.sliceFields
  refine wpAny_bind (wpAny_bind (wpAny_field e1 e2 (x := vl) rfl (wpAny_bind (wpAny_field e1 e2 (x := vu) rfl (wpAny_bind (wpAny_field e1 e2 (x := vs) rfl (wpAny_pure ?_)))))))
  refine wpAny_bind (HT.slicePart_ ps ?_)
  show wpAny _ _ (if ((-1 : Int) == 0) = true then _ else _) _ _ s
  rw [if_neg (by decide)]
  refine wpAny_bind (HT.slicePart_ pl (wpAny_bind (HT.slicePart_ pu (wpAny_bind (wpAny_pure ?_)))))
  show wpAny _ _ (match Builtin.Slice.sliceAdjust none none (-1) (n : Int) with | (lo, hi) => pure (lo, (-1 : Int), Builtin.Slice.slicePlaces lo hi (-1))) _ _ s
  rw [rev_adjust]
  show wpAny _ _ (pure ((n : Int) - 1, (-1 : Int), Builtin.Slice.slicePlaces ((n : Int) - 1) (-1) (-1))) _ _ s
  rw [rev_places]
  exact wpAny_pure h
theorem fmap_some {α β : Type} {f : α → Option β} {g : α → β} : ∀ {l : List α}, (∀ x ∈ l, f x = some (g x)) → l.filterMap f = l.map g
  | [], _ => rfl
  | x :: l, h => by rw [List.filterMap_cons, h x List.mem_cons_self, List.map_cons, fmap_some fun y hy => h y (List.mem_cons_of_mem _ hy)]
theorem rev_items (xs : Array Value) : ((List.range xs.size).filterMap fun (m : Nat) => xs[(((xs.size : Int) - 1) + (m : Int) * (-1)).toNat]?).toArray = xs.toList.reverse.toArray := by
  refine congrArg List.toArray ?_
  refine List.ext_getElem? fun i => ?_
  have e : (List.range xs.size).filterMap (fun (m : Nat) => xs[(((xs.size : Int) - 1) + (m : Int) * (-1)).toNat]?) = (List.range xs.size).map fun (m : Nat) => xs.toList.reverse.getD m .none := by
    refine fmap_some fun m hm => ?_
    have hm := List.mem_range.mp hm
    have ix : (((xs.size : Int) - 1) + (m : Int) * (-1)).toNat = xs.size - 1 - m := by omega
    rw [ix, List.getD_eq_getElem?_getD, List.getElem?_reverse (by simpa using hm)]
    have : xs.toList.length = xs.size := by simp
    rw [this, ← Array.getElem?_toList, List.getElem?_eq_getElem (by simp; omega)]
    rfl
  rw [e]
  by_cases h : i < xs.size
  · rw [List.getElem?_map, List.getElem?_range h, Option.map_some, List.getD_eq_getElem?_getD, List.getElem?_eq_getElem (by simpa using h)]
    rfl
  · rw [List.getElem?_eq_none (by simp; omega), List.getElem?_eq_none (by simp; omega)]
theorem getItem_tuple_rev {t sl : Addr} {items : Array Value} {vl vu vs : Value} {Q : Value → Shared → Prop} (ht : IsTup s.heap t items) (hs : s.heap.IsSliceOf sl vl vu vs) (pl : IsPart vl none) (pu : IsPart vu none) (ps : IsPart vs (some (-1)))
    (h : Q (.ref s.heap.objs.size) { s with heap := s.heap.push { cls := .type "tuple", data := .seq items.toList.reverse.toArray } }) (hz : items.size ≤ sizeLine) : wpAny (model prog w) A (getItem (.ref t) (.ref sl)) Q E s := by
  have fits : sizeOk (.seq items.toList.reverse.toArray) := by
    show items.toList.reverse.toArray.size ≤ sizeLine
    rw [List.size_toArray, List.length_reverse, Array.length_toList]; exact hz
  obtain ⟨ob, e1, e2, e3⟩ := id hs
  have ty : s.TypeIs (.ref sl) "slice" := ⟨ob, e1, e2⟩
  unfold getItem
  try with_reducible refine wpAny_holding ?_
  first | refine wpAny_bind (wpAny_pure ?_) | skip
  refine wpAny_bind (wpAny_sequenceKey ht.typeIs (by decide) ?_)
  refine wpAny_bind (wpAny_callSpecial?_slot (name := Str.ofString "__getitem__") ht.typeIs slot_tuple_getitem (wpAny_call_entry slot_tuple_getitem ht.typeIs entry_tuple_getitem ?_ (args_tuple_getitem (.ref t) _)))
  show wpAny _ _ (Builtin.Tuple.tupleItemsOf (.ref t) >>= _) _ _ s
  refine wpAny_bind (tupleItemsOf_ ht ?_)
  refine wpAny_bind (wpAny_typeOf ty ?_)
  rw [if_pos (by decide)]
  refine wpAny_bind (rev_applied hs pl pu ps ?_)
  have no : ¬ (((((items.size : Int) - 1) == 0 && (-1 : Int) == 1 && items.size == items.size) = true)) := by
    intro q
    rw [Bool.and_eq_true, Bool.and_eq_true] at q
    exact absurd q.1.2 (by decide)
  show wpAny _ _ (if (((items.size : Int) - 1) == 0 && (-1 : Int) == 1 && items.size == items.size) = true then _ else _) _ _ s
  rw [if_neg no, rev_items]
  first
    | exact wpAny_bind (m := Builtin.Tuple.tupleExact _) (wpAny_newObj_type (wpAny_pure ⟨_, rfl, wpAny_pure h⟩) fits)
    | exact wpAny_bind (m := Builtin.Tuple.tupleExact _) (wpAny_newObj_type (wpAny_bind (wpAny_pure (wpAny_pure ⟨_, rfl, wpAny_pure h⟩))) fits)
    | exact wpAny_bind (wpAny_bind (m := Builtin.Tuple.tupleExact _) (wpAny_newObj_type (wpAny_pure (wpAny_pure ⟨_, rfl, wpAny_pure h⟩)) fits))
    | exact wpAny_bind (wpAny_bind (m := Builtin.Tuple.tupleExact _) (wpAny_newObj_type (wpAny_pure ⟨_, rfl, wpAny_pure h⟩) fits))
end
def revS (z : Str) : Str := ⟨z.cps.toList.reverse.toArray⟩
def tRevA (K : PySem.W.Frag) (te : TE) : TE := fun σ H Q => te σ H fun x H1 => (∃ a xs, x = .ref a ∧ SqL K H1 a xs ∧ ∀ p, H1 p = none → Q (.ref p) (upd H1 p (.lst xs.reverse))) ∨ (∃ z, x = .str z ∧ z.length ≤ sizeLine ∧ Q (.str (revS z)) H1) ∨ ∃ a xs, x = .ref a ∧ SqT K H1 a xs ∧ ∀ p, H1 p = none → Q (.ref p) (upd H1 p (.tup xs.reverse))
theorem rev_pick (z : Str) : ((Builtin.Str.strSliceIndices none none (-1) z.length).filterMap (z.cps[·]?)).toArray = z.cps.toList.reverse.toArray := by
  have e : Builtin.Str.strSliceIndices none none (-1) z.length = sliceRange ((z.length : Int) - 1) (-1) (-1) := rfl
  have k : (List.range z.length).filterMap (z.cps[·]?) = z.cps.toList := PySem.W.krv_all z.cps
  rw [e, PySem.W.krv_sliceRange, PySem.W.krv_range, List.filterMap_reverse, k]
theorem pe_revA {X : Cx} {e : Expr} {te : TE} {k : Nat} {p1 p2 p3 pos : Pos} (he : L2.PE X e te) : L2.PE X (.Subscript e (.Slice none none (some (.UnaryOp .USub (.Constant (.int 1) k p1) p2)) p3) pos) (tRevA X.K te) := by
  refine ⟨fun pins s σ H Q I h => ?_⟩
  refine Subscript_ (thn (he.run pins s σ H _ I h) fun v s1 ⟨x, H1, I1, r1, q1⟩ => ?_)
  have hst : L2.PO X (some (.UnaryOp .USub (.Constant (.int 1) k p1) p2)) (tPart (tUn (rU fun i => .int (-i)) (tC (.int 1)))) := po_some (pe_un un_neg pe_int)
  refine wpAny_Slice (thn (po_none.run pins s1 σ H1 (fun o H2 => o = none ∧ H2 = H1) I1 ⟨rfl, rfl⟩) fun vl s2 ⟨l, H2, I2, pl, el, e2⟩ => ?_)
  subst el e2
  refine thn (po_none.run pins s2 σ H2 (fun o H3 => o = none ∧ H3 = H2) I2 ⟨rfl, rfl⟩) fun vu s3 ⟨u, H3, I3, pu, eu, e3⟩ => ?_
  subst eu e3
  refine thn (hst.run pins s3 σ H3 (fun o H4 => o = some (-1) ∧ H4 = H3) I3 ⟨1, rfl, -1, rfl, rfl, rfl⟩) fun vs s4 ⟨o, H4, I4, ps, eo, e4⟩ => ?_
  subst eo e4
  have I5 : Inv X pins σ H4 { s4 with heap := s4.heap.push { cls := .type "slice", data := .fields #[vl, vu, vs] } } := I4.kept (t' := s4.toks) fun b ob q => Heap.get?_push_of_some _ q
  rcases q1 with ⟨a, xs, ex, hx, q⟩ | ⟨z, ex, hz, q⟩ | ⟨a, xs, ex, hx, q⟩
  · subst ex
    cases r1
    obtain ⟨its, r, ht, hz⟩ := I5.list hx
    have hlen := r.length
    show wpAny (model X.prog X.w) X.A (subscriptTail e (.Slice none none (some (.UnaryOp .USub (.Constant (.int 1) k p1) p2)) p3) (.ref a) (.ref s4.heap.objs.size)) (EP X pins σ Q) X.xe { s4 with heap := s4.heap.push { cls := .type "slice", data := .fields #[vl, vu, vs] } }
    refine tail_any (ops := [.ref a, .ref s4.heap.objs.size]) ht.isList.typeIs (PySem.slot_list_getitem.lookup) ?_ (by with_unfolding_all rfl)
    refine wpAny_getItem_list_slice ht.isList (Heap.IsSliceOf.new _ vl vu vs) pl pu ps (by decide) ?_ (by rw [List.size_toArray]; omega)
    rw [PySem.W.krv_pick]
    refine ⟨.ref _, _, I5.laid (t' := s4.toks) (o := .lst xs.reverse) (fun b ob q => Heap.get?_push_of_some _ q) (Nat.le_refl _) ?_, rfl, q _ (I5.hok.fresh (Nat.le_refl _))⟩
    exact ⟨by rw [List.length_reverse]; exact hz, _, 0, r.reverse, Heap.get?_push_size _ rfl⟩
  · subst ex
    obtain ⟨t, rfl⟩ := r1
    obtain ⟨l', rfl, el⟩ := IsPart.raw pl
    obtain ⟨u', rfl, eu⟩ := IsPart.raw pu
    obtain ⟨o', rfl, eo⟩ := IsPart.raw ps
    have l0 : l' = none := by cases l' with | none => rfl | some p => cases el
    have u0 : u' = none := by cases u' with | none => rfl | some p => cases eu
    obtain ⟨tk, rfl⟩ : ∃ tk, o' = some ((-1 : Int), tk) := by
      cases o' with
      | none => cases eo
      | some p =>
        obtain ⟨i, tk⟩ := p
        have : i = -1 := Option.some.inj eo
        exact ⟨tk, by rw [this]⟩
    subst l0 u0
    show wpAny (model X.prog X.w) X.A (subscriptTail e (.Slice none none (some (.UnaryOp .USub (.Constant (.int 1) k p1) p2)) p3) (.str z t) (.ref s4.heap.objs.size)) (EP X pins σ Q) X.xe { s4 with heap := s4.heap.push { cls := .type "slice", data := .fields #[_, _, _] } }
    refine tail_any (ops := [.str z t, .ref s4.heap.objs.size]) (typeIs_str _ _ _) F.slot_str_getitem.lookup ?_ (by with_unfolding_all rfl)
    refine wpAny_getItem_str_slice (l := none) (u := none) (st := some ((-1 : Int), tk)) ⟨_, Heap.get?_push_size _ rfl, rfl, rfl⟩ rfl ?_
    show Made.post (Made.str ⟨((Builtin.Str.strSliceIndices none none (-1) z.length).filterMap (z.cps[·]?)).toArray⟩) (EP X pins σ Q) _
    rw [rev_pick]
    exact ⟨by show (z.cps.toList.reverse.toArray).size ≤ _; rw [List.size_toArray, List.length_reverse, Array.length_toList]; exact hz, .str _, H4, I5.tok _, ⟨_, rfl⟩, q⟩
  · subst ex
    cases r1
    obtain ⟨its, r, ht, hz⟩ := I5.tuple hx
    have hlen := r.length
    show wpAny (model X.prog X.w) X.A (subscriptTail e (.Slice none none (some (.UnaryOp .USub (.Constant (.int 1) k p1) p2)) p3) (.ref a) (.ref s4.heap.objs.size)) (EP X pins σ Q) X.xe { s4 with heap := s4.heap.push { cls := .type "slice", data := .fields #[vl, vu, vs] } }
    refine tail_any (ops := [.ref a, .ref s4.heap.objs.size]) ht.typeIs (slot_tuple_getitem.lookup) ?_ (by with_unfolding_all rfl)
    refine getItem_tuple_rev ht (Heap.IsSliceOf.new _ vl vu vs) pl pu ps ?_ (by rw [List.size_toArray]; omega)
    refine ⟨.ref _, _, I5.laid (t' := s4.toks) (o := .tup xs.reverse) (fun b ob q => Heap.get?_push_of_some _ q) (Nat.le_refl _) ?_, rfl, q _ (I5.hok.fresh (Nat.le_refl _))⟩
    exact ⟨by rw [List.length_reverse]; exact hz, its.reverse, r.reverse, ⟨_, Heap.get?_push_size _ rfl, rfl, _, rfl⟩⟩
theorem tuple_mul1W (l : Addr) (items : Array Value) (n : Nat) (dd : Option Addr) (sl : Array (Option Value)) (u : Tok) :
    Meets (Builtin.«tuple.__mul__» ⟨[.ref l, .int 1 u], []⟩) (fun _ R s => s.heap.get? l = some { cls := .type "tuple", dict := dd, data := .seq items n, slots := sl } ∧
      R (.ok (.ret (Value.ref l))) s) :=
  .of_wp fun prog w A R s h => by
    obtain ⟨hp, g, d, tk, os⟩ := s
    obtain ⟨hl, h⟩ := h
    have f1 := AutoSeq1.idx_int
    wp_walk using wpAny_loadPart' hl
    exact ⟨_, rfl, h⟩
def rRepT1 (K : PySem.W.Frag) : R2 := fun x y H Q => ∃ l xs, x = .ref l ∧ y = .int 1 ∧ SqT K H l xs ∧ Q (.ref l) H
theorem op_repT1 {X : Cx} : OpR X (binaryOp .Mult) (rRepT1 X.K) := by
  intro pins s σ H x y v u Q I rx ry h
  obtain ⟨l, xs, rfl, rfl, hT, q⟩ := h
  cases rx
  obtain ⟨t, rfl⟩ := ry
  obtain ⟨its, r, ⟨⟨cls, dd, data, sl⟩, ho, hc, n, hd⟩, hs⟩ := I.tuple hT
  simp only at hc hd
  subst hc hd
  exact wpAny_binaryOp_repeat_ref (T := "tuple") (U := "int") (by decide) ⟨_, ho, rfl⟩ (fun s' => typeIs_int s' 1 t) noFill_tuple_mul F.fills_int_mul F.slot_int_rmul repeat_tuple F.slot_int_index.lookup
    (call_meets F.slot_int_rmul (typeIs_int s 1 t) F.entry_int_rmul (F.args_int_rmul_2 _ _) (int_rmul_tuple 1 t l its.toArray n dd sl)
      ⟨ho, rfl, ⟨_, ho, rfl⟩, call_meets F.slot_tuple_mul ⟨_, ho, rfl⟩ F.entry_tuple_mul (F.args_tuple_mul_2 _ _) (tuple_mul1W l its.toArray n dd sl t) ⟨ho, ⟨.ref l, H, I, rfl, q⟩⟩⟩)
end QE
namespace QE
open PySem L2 PySem.Spec PyProof.Rows

def rRepR : R2 := fun x y H Q => ∃ l k xs, x = .ref l ∧ y = .int k ∧ Rd H l (.lst xs) ∧ -(2 ^ 63) ≤ k ∧ k < 2 ^ 63 ∧ xs.length * k.toNat ≤ sizeLine ∧
  ∀ p, H p = none → Q (.ref p) (upd H p (.lst (List.replicate k.toNat xs).flatten))
theorem op_repR {X : Cx} : OpR X (binaryOp .Mult) rRepR := by
  intro pins s σ H x y v u Q I rx ry h
  obtain ⟨l, k, xs, rfl, rfl, hH, h1, h2, hz, q⟩ := h
  cases rx
  obtain ⟨t, rfl⟩ := ry
  obtain ⟨its, n, r, hl, e⟩ := lstR I hH
  have hlen : its.toArray.size * k.toNat ≤ sizeLine := by rw [List.size_toArray, ← hl]; exact hz
  have hcap : ¬ its.toArray.size * k.toNat > (2 ^ 63 - 1) / 8 := by
    have : (sizeLine : Nat) ≤ (2 ^ 63 - 1) / 8 := by decide
    omega
  have hfit : ¬ (!Builtin.List.listFitsIndex k) = true := by
    rw [fitsIndex_both h1 h2]
    exact Bool.false_ne_true
  have hlong : ¬ Builtin.List.listTooLong (its.toArray.size * k.toNat) = true := by
    rw [notLongL hlen]
    exact Bool.false_ne_true
  have hnew : List.foldl (fun x1 x2 => x1 ++ x2) #[] (List.replicate (if its.toArray.isEmpty = true then 0 else k.toNat) its.toArray) = (List.replicate k.toNat its).flatten.toArray := by
    have f0 : ∀ m : Nat, List.foldl (fun x1 x2 => x1 ++ x2) #[] (List.replicate m its.toArray) = (List.replicate m its).flatten.toArray := fun m => by
      have := foldl_rep its m []
      rw [List.nil_append] at this
      exact this
    rw [f0]
    cases its with
    | nil => simp
    | cons a r' => rw [if_neg (by simp)]
  refine wpAny_binaryOp_repeat_ref (T := "list") (U := "int") (by decide) ⟨_, e, rfl⟩ (fun s' => typeIs_int s' k t) noFill_list_mul F.fills_int_mul F.slot_int_rmul repeat_list F.slot_int_index.lookup
    (call_meets F.slot_int_rmul (typeIs_int s k t) F.entry_int_rmul (F.args_int_rmul_2 _ _) (int___rmul___int_list k t l its.toArray n)
      ⟨e, rfl, ⟨_, e, rfl⟩, call_meets F.slot_list_mul ⟨_, e, rfl⟩ F.entry_list_mul (F.args_list_mul_2 _ _) (AutoListH.list___mul___list_int_3 l its.toArray n k t hfit hcap hlong) ⟨e, ?_⟩⟩)
  rw [hnew]
  exact ⟨.ref _, _, I.lnew (t' := s.toks) (r.rep k.toNat) (by rw [PyProof.Rows.lm_len_rep_flat, Nat.mul_comm]; exact hz), rfl, q _ I.fresh⟩

def rMulS : R2 := fun x y H Q => ∃ z k, x = .str z ∧ y = .int k ∧ MulOk z k ∧ Q (.str (Txt.mul z k)) H
theorem op_mulS {X : Cx} : OpR X (binaryOp .Mult) rMulS := by
  intro pins s σ H x y v u Q I rx ry h
  obtain ⟨z, k, rfl, rfl, ok, q⟩ := h
  obtain ⟨t, rfl⟩ := rx
  obtain ⟨t', rfl⟩ := ry
  exact SB.mul ok fun t' k => ⟨.str _, H, I.tok _, ⟨_, rfl⟩, q⟩
theorem rep_flat {α : Type} (xs : List α) : ∀ n, QE.rep xs n = (List.replicate n xs).flatten
  | 0 => rfl
  | n + 1 => by rw [List.replicate_succ, List.flatten_cons, ← rep_flat xs n]; rfl
theorem foldl_repG {α : Type} (xs : List α) : ∀ (m : Nat) (acc : Array α), List.foldl (fun x1 x2 => x1 ++ x2) acc (List.replicate m xs.toArray) = acc ++ (List.replicate m xs).flatten.toArray
  | 0, acc => by simp
  | m + 1, acc => by
    rw [List.replicate_succ, List.foldl_cons, foldl_repG xs m, List.replicate_succ, List.flatten_cons]
    simp
theorem mul_text (a : List Nat) (k : Int) : Txt.mul ⟨a.toArray⟩ k = ⟨(QE.rep a k.toNat).toArray⟩ := by
  unfold Txt.mul
  by_cases h : k < 1
  · rw [if_pos h]
    have : k.toNat = 0 := by omega
    rw [this]; rfl
  · rw [if_neg h]
    have f0 : ∀ m : Nat, List.foldl (fun x1 x2 => x1 ++ x2) #[] (List.replicate m a.toArray) = (List.replicate m a).flatten.toArray := fun m => by
      have := foldl_repG a m #[]
      simpa using this
    split
    · rename_i c
      rw [Bool.or_eq_true] at c
      rcases c with c | c
      · have : k = 1 := by simpa using c
        subst this
        simp [QE.rep]
      · have : a = [] := by simpa [Str.length] using c
        subst this
        rw [rep_flat]
        simp
    · rw [f0, rep_flat]
theorem mul_textOk (a : List Nat) (k : Int) (h1 : a.length * k.toNat ≤ sizeLine) (h2 : k < 16777216) (h3 : -16777216 < k) (h4 : a.length ≤ sizeLine) : MulOk ⟨a.toArray⟩ k := by
  refine ⟨?_, fun h _ => ?_, fun _ _ => ?_⟩
  · rw [decide_eq_false (by omega), decide_eq_false (by omega)]; rfl
  · rw [str_len]
    intro z
    have h5 : (a.length : Int) * k ≤ 16777216 := by
      have : ((a.length * k.toNat : Nat) : Int) ≤ 16777216 := by
        have := sizeLine_eq
        omega
      rw [Int.natCast_mul] at this
      have e : ((k.toNat : Nat) : Int) = k := by omega
      rw [e] at this
      exact this
    have h6 : (a.length : Int) ≤ (2 ^ 63 - 1) / k := by
      apply (Int.le_ediv_iff_mul_le (by omega)).mpr
      omega
    omega
  · rw [str_len]
    unfold Builtin.Str.tooLong
    simp only [decide_eq_false_iff_not]
    omega
def rMulAll (K : PySem.W.Frag) : R2 := fun x y H Q => rI CMulW (fun i j => .int (i * j)) x y H Q ∨ rMulS x y H Q ∨ rRepR x y H Q ∨ rRepT K x y H Q ∨ rRepT1 K x y H Q
theorem op_mulAll {X : Cx} : OpR X (binaryOp .Mult) (rMulAll X.K) := op_mulW.or (op_mulS.or (op_repR.or (op_repT.or op_repT1)))
theorem mul_ok {X : Cx} : R2ok X (rMulAll X.K) .mul := by
  intro C its H x y dx dy d Q hK g hx hy e q
  cases dy with
  | int j =>
    cases item_int hy
    cases dx with
    | int i =>
      cases item_int hx
      have e : (if mulOk i j then Res.ok (D.int (i * j)) else .bad) = .ok d := e
      split at e
      · rename_i c
        cases e
        exact .inl ⟨i, j, rfl, rfl, Nat.blt_eq.mp c, q _ _ (g.int _)⟩
      · cases e
    | str a =>
      cases item_str hx
      have e : (if Nat.ble (a.length * j.toNat) LIM && Nat.ble a.length LIM && decide (j < 16777216) && decide (-16777216 < j) then Res.ok (D.str (QE.rep a j.toNat)) else .bad) = .ok d := e
      split at e
      · rename_i c
        cases e
        simp only [Bool.and_eq_true, decide_eq_true_eq] at c
        refine .inr (.inl ⟨_, j, rfl, rfl, mul_textOk a j (by rw [sizeLine_LIM]; exact Nat.le_of_ble_eq_true c.1.1.1) c.1.2 c.2 (by rw [sizeLine_LIM]; exact Nat.le_of_ble_eq_true c.1.1.2), ?_⟩)
        rw [mul_text]
        exact q _ _ (g.str _)
      · cases e
    | lst f a =>
      obtain ⟨l, xs, rfl, hl, rl⟩ := item_lst hx
      have e : (if Nat.ble (a.length * j.toNat) LIM && decide (j < 16777216) && decide (-16777216 < j) then Res.ok (D.lst .own (QE.rep a j.toNat)) else .bad) = .ok d := e
      split at e
      · rename_i c
        cases e
        simp only [Bool.and_eq_true, decide_eq_true_eq] at c
        exact .inr (.inr (.inl ⟨l, j, xs, rfl, rfl, hl, by omega, by omega, by rw [rl.length, sizeLine_LIM]; exact Nat.le_of_ble_eq_true c.1.1, fun p hp => q _ _ (g.newL (rl.rep _) hp)⟩))
      · cases e
    | tup a =>
      obtain ⟨l, xs, rfl, hl, rl⟩ := item_tup hx
      have e : (if Nat.blt 0 a.length && decide (1 ≤ j) && decide (j ≤ 1000) && Nat.ble a.length 1000 then Res.ok (D.tup (QE.rep a j.toNat)) else .bad) = .ok d := e
      split at e
      · rename_i c
        cases e
        simp only [Bool.and_eq_true, decide_eq_true_eq] at c
        have c0 := Nat.blt_eq.mp c.1.1.1
        have c3 := Nat.le_of_ble_eq_true c.2
        by_cases j1 : j = 1
        · subst j1
          have e1 : QE.rep a (1 : Int).toNat = a := List.append_nil a
          refine .inr (.inr (.inr (.inr ⟨l, xs, rfl, rfl, SqT.of hl, ?_⟩)))
          rw [e1] at q
          exact q _ _ (g.add (.tup hl rl))
        · refine .inr (.inr (.inr (.inl ⟨l, j, xs, rfl, rfl, SqT.of hl, fun z => ?_, by have := c.1.1.2; omega, c.1.2, by rw [rl.length]; exact c3, fun p hp => q _ _ (g.newT (rl.rep _) hp)⟩)))
          rw [← rl.length, z] at c0
          exact absurd c0 (by decide)
      · cases e
    | _ => cases e
  | _ => cases dx <;> cases e

def R1ok (X : Cx) (r : V → Hp → VK → Prop) (p : Pr) : Prop := ∀ (C : RC) (its : List (V × D)) (H : Hp) (x : V) (dx d : D) (Q : VK), C.K = X.K → Good C its H →
  ItemOk C (roots its) H (x, dx) → prim p [dx] = .ok d → (∀ v H', Good C ((v, d) :: its) H' → Q v H') → r x H Q
theorem neg_ok {X : Cx} : R1ok X (rU fun i => .int (-i)) .neg := by
  intro C its H x dx d Q hK g hx e q
  cases dx with
  | int i => cases item_int hx; cases e; exact ⟨i, rfl, q _ _ (g.int _)⟩
  | _ => cases e
theorem isN_ok {C : RC} {its : List (V × D)} {H : Hp} {x : V} {dx d : D} {pos : Bool} (hx : ItemOk C (roots its) H (x, dx)) (e : prim (.isC .non pos) [dx] = .ok d) : d = .bl (decide (x = .non) == pos) := by
  cases dx with
  | non => cases item_non hx; cases e; simp
  | int i => cases item_int hx; cases e; simp
  | bl i => cases item_bl hx; cases e; simp
  | str i => cases item_str hx; cases e; simp
  | lst f xs => obtain ⟨a, _, rfl, _⟩ := item_lst hx; cases e; simp
  | tup xs => obtain ⟨a, _, rfl, _⟩ := item_tup hx; cases e; simp
  | dic f t xs => obtain ⟨a, _, rfl, _⟩ := item_dic hx; cases e; simp
  | fn f => obtain ⟨a, rfl, _⟩ := item_fn hx; cases e; simp
  | exc c z =>
    cases (show Rep C (roots its) H x _ from hx) with
    | exc h => cases e; simp
def rIsBl (b pos : Bool) : V → Hp → VK → Prop := fun x H Q => ∃ a, x = .bl a ∧ Q (.bl ((a == b) == pos)) H
theorem isB_ok {X : Cx} (b pos : Bool) : R1ok X (rIsBl b pos) (.isC (.bl b) pos) := by
  intro C its H x dx d Q hK g hx e q
  cases dx with
  | bl i => cases item_bl hx; cases e; exact ⟨i, rfl, q _ _ (g.bl _)⟩
  | _ => cases e

theorem sIx_eq (n d : Nat) (o : Option Int) : QE.sIx n d o = HT.sIx n d o := by
  cases o with
  | none => rfl
  | some i =>
    cases i with
    | ofNat k =>
      show (if Nat.blt n k then n else k) = if (Int.ofNat k : Int) < 0 then (Int.ofNat k + n).toNat else min (Int.ofNat k).toNat n
      rw [if_neg (show ¬ (Int.ofNat k : Int) < 0 from fun z => absurd (Int.natCast_nonneg k) (by exact Int.not_le.mpr z))]
      by_cases h : n < k
      · rw [if_pos (Nat.blt_eq.mpr h)]
        show n = min k n
        omega
      · have : ¬ Nat.blt n k = true := fun z => h (Nat.blt_eq.mp z)
        rw [if_neg this]
        show k = min k n
        omega
    | negSucc k =>
      show n - (k + 1) = if (Int.negSucc k : Int) < 0 then (Int.negSucc k + n).toNat else min (Int.negSucc k).toNat n
      rw [if_pos (show (Int.negSucc k : Int) < 0 by omega)]
      omega
theorem cut_eq (xs : List V) (lo hi : Option Int) : QE.cut xs lo hi = cutV xs lo hi := by
  unfold QE.cut cutV
  simp only [sIx_eq]
theorem cutS_eq (l : List Nat) (lo hi : Option Int) : cutS ⟨l.toArray⟩ lo hi = ⟨(QE.cut l lo hi).toArray⟩ := by
  unfold QE.cut cutS
  simp only [sIx_eq, str_len]
section
variable {C : RC} {O : List Addr} {H : Hp}
theorem RepL.cut {vs : List V} {ds : List D} (lo hi : Option Int) (h : RepL C O H vs ds) : RepL C O H (cutV vs lo hi) (QE.cut ds lo hi) := by
  rw [← cut_eq]
  unfold QE.cut
  rw [h.length]
  exact (h.drop _).take _
end
def rSlAll (K : PySem.W.Frag) : V → Option Int → Option Int → Hp → VK → Prop := fun x lo hi H Q => rSlS x lo hi H Q ∨ rSlL K x lo hi H Q ∨ rSlA K x lo hi H Q
theorem sl_all {X : Cx} : SlR X (rSlAll X.K) := sl_str.or (sl_list.or sl_tupA)
theorem slice_ok {X : Cx} {C : RC} {its : List (V × D)} {H : Hp} {x : V} {dx d : D} {lo hi : Option Int} {Q : VK} (hK : C.K = X.K) (g : Good C its H)
    (hx : ItemOk C (roots its) H (x, dx)) (e : sliceD dx lo hi = .ok d) (q : ∀ v H', Good C ((v, d) :: its) H' → Q v H') : rSlAll X.K x lo hi H Q := by
  cases dx with
  | str s =>
    cases item_str hx
    unfold sliceD at e
    simp only at e
    split at e
    · rename_i c
      cases e
      refine .inl ⟨_, rfl, by rw [str_len, sizeLine_LIM]; exact Nat.le_of_ble_eq_true c, ?_⟩
      rw [cutS_eq]
      exact q _ _ (g.str _)
    · cases e
  | lst f xs =>
    obtain ⟨l, vs, rfl, hl, rl⟩ := item_lst hx
    cases e
    exact .inr (.inl ⟨l, vs, rfl, .inl hl, fun p hp => q _ _ (g.newL (rl.cut lo hi) hp)⟩)
  | tup xs =>
    obtain ⟨l, vs, rfl, hl, rl⟩ := item_tup hx
    cases e
    refine .inr (.inr ⟨l, vs, rfl, SqT.of hl, fun z => ?_, fun _ p hp => q _ _ (g.newT (rl.cut lo hi) hp)⟩)
    have : QE.cut xs lo hi = xs := by
      unfold QE.cut
      simp only [sIx_eq, ← rl.length, z.1, z.2]
      rw [List.drop_zero, Nat.sub_zero, rl.length]
      exact List.take_length
    rw [this] at q
    exact q _ _ (g.add (.tup hl rl))
  | _ => cases e
end QE
namespace QE
open PySem L2 PySem.Spec PyProof.Rows

def CRok (X : Cx) (r : List V → Hp → VK → Prop) (p : Pr) (n : Nat) : Prop := ∀ (C : RC) (its : List (V × D)) (H : Hp) (xs : List V) (ds : List D) (d : D) (Q : VK), C.K = X.K → Good C its H →
  xs.length = n → Paired (fun x d => ItemOk C (roots its) H (x, d)) xs ds → prim p ds = .ok d → (∀ v H', Good C ((v, d) :: its) H' → Q v H') → r xs H Q
theorem one {F : V → D → Prop} {xs : List V} {ds : List D} (h : Paired F xs ds) (n : xs.length = 1) : ∃ x d, xs = [x] ∧ ds = [d] ∧ F x d := by
  cases h with
  | nil => cases n
  | cons a b =>
    cases b with
    | nil => exact ⟨_, _, rfl, rfl, a⟩
    | cons _ _ => simp at n
theorem two {F : V → D → Prop} {xs : List V} {ds : List D} (h : Paired F xs ds) (n : xs.length = 2) : ∃ x y d e, xs = [x, y] ∧ ds = [d, e] ∧ F x d ∧ F y e := by
  cases h with
  | nil => cases n
  | cons a b =>
    obtain ⟨x, d, rfl, rfl, c⟩ := one b (by simpa using n)
    exact ⟨_, _, _, _, rfl, rfl, a, c⟩
theorem three {F : V → D → Prop} {xs : List V} {ds : List D} (h : Paired F xs ds) (n : xs.length = 3) : ∃ x y z d e f, xs = [x, y, z] ∧ ds = [d, e, f] ∧ F x d ∧ F y e ∧ F z f := by
  cases h with
  | nil => cases n
  | cons a b =>
    obtain ⟨x, y, d, e, rfl, rfl, c, c'⟩ := two b (by simpa using n)
    exact ⟨_, _, _, _, _, _, rfl, rfl, a, c, c'⟩

def rLenAll (K : PySem.W.Frag) : List V → Hp → VK → Prop := fun xs H Q => (∃ z, xs = [.str z] ∧ z.length ≤ sizeLine ∧ Q (.int z.length) H) ∨ ∃ p ys, xs = [.ref p] ∧ (SqL K H p ys ∨ SqT K H p ys) ∧ Q (.int ys.length) H
theorem call_lenAll {X : Cx} : CallR X (.builtin "len") (rLenAll X.K) := CallR.or call_len_str call_len_seq
theorem len_ok {X : Cx} : CRok X (rLenAll X.K) .len 1 := by
  intro C its H xs ds d Q hK g n hp e q
  obtain ⟨x, dx, rfl, rfl, hx⟩ := one hp n
  cases dx with
  | str s =>
    cases item_str hx
    have e : (if Nat.ble s.length LIM then Res.ok (D.int s.length) else .bad) = .ok d := e
    split at e
    · rename_i c
      cases e
      refine .inl ⟨_, rfl, by rw [str_len, sizeLine_LIM]; exact Nat.le_of_ble_eq_true c, ?_⟩
      rw [str_len]; exact q _ _ (g.int _)
    · cases e
  | lst f s =>
    obtain ⟨a, vs, rfl, ha, r⟩ := item_lst hx
    cases e
    refine .inr ⟨a, vs, rfl, .inl (.inl ha), ?_⟩
    rw [r.length]; exact q _ _ (g.int _)
  | tup s =>
    obtain ⟨a, vs, rfl, ha, r⟩ := item_tup hx
    cases e
    refine .inr ⟨a, vs, rfl, .inr (SqT.of ha), ?_⟩
    rw [r.length]; exact q _ _ (g.int _)
  | _ => cases e
theorem abs_ok {X : Cx} : CRok X (fun xs H Q => ∃ i, xs = [.int i] ∧ Q (.int (if i < 0 then -i else i)) H) .abs 1 := by
  intro C its H xs ds d Q hK g n hp e q
  obtain ⟨x, dx, rfl, rfl, hx⟩ := one hp n
  cases dx with
  | int i => cases item_int hx; cases e; exact ⟨i, rfl, q _ _ (g.int _)⟩
  | _ => cases e
theorem max2_ok {X : Cx} : CRok X (fun xs H Q => ∃ i j, xs = [.int i, .int j] ∧ Q (.int (if j > i then j else i)) H) .max2 2 := by
  intro C its H xs ds d Q hK g n hp e q
  obtain ⟨x, y, dx, dy, rfl, rfl, hx, hy⟩ := two hp n
  cases dx with
  | int i =>
    cases dy with
    | int j => cases item_int hx; cases item_int hy; cases e; exact ⟨i, j, rfl, q _ _ (g.int _)⟩
    | _ => cases e
  | _ => cases e
theorem min2_ok {X : Cx} : CRok X (fun xs H Q => ∃ i j, xs = [.int i, .int j] ∧ Q (.int (if j < i then j else i)) H) .min2 2 := by
  intro C its H xs ds d Q hK g n hp e q
  obtain ⟨x, y, dx, dy, rfl, rfl, hx, hy⟩ := two hp n
  cases dx with
  | int i =>
    cases dy with
    | int j => cases item_int hx; cases item_int hy; cases e; exact ⟨i, j, rfl, q _ _ (g.int _)⟩
    | _ => cases e
  | _ => cases e
theorem int1_ok {X : Cx} : CRok X (fun xs H Q => (∃ i, xs = [.int i] ∧ Q (.int i) H) ∨ ∃ k, xs = [.bl k] ∧ Q (.int (if k then 1 else 0)) H) .int1 1 := by
  intro C its H xs ds d Q hK g n hp e q
  obtain ⟨x, dx, rfl, rfl, hx⟩ := one hp n
  cases dx with
  | int i => cases item_int hx; cases e; exact .inl ⟨i, rfl, q _ _ (g.int _)⟩
  | _ => cases e

theorem sumI_eq : ∀ (ns : List Int), sumI ns = ns.sum
  | [] => rfl
  | x :: r => by rw [List.sum_cons, ← sumI_eq r]; rfl
def rSumAll (K : PySem.W.Frag) : List V → Hp → VK → Prop := fun vs H Q => ∃ (a : Addr) (ns : List Int), vs = [V.ref a] ∧ (SqL K H a (ns.map V.int) ∨ SqT K H a (ns.map V.int)) ∧ Q (.int ns.sum) H
theorem call_sumAll {X : Cx} (hc : X.calm = true) : CallR X (.builtin "sum") (rSumAll X.K) := by
  intro pins s σ H vs us Q I r h
  obtain ⟨a, ns, rfl, hs | hs, q⟩ := h
  · exact cr_sum hc pins s σ H _ us Q I r ⟨a, ns, rfl, hs, q⟩
  · obtain ⟨its, rv, hl, _⟩ := I.tuple hs
    rw [Vals.ref1 r]
    have hi : IntsAre its ns := rv.ints
    obtain ⟨xs, hx⟩ := hi.allInts.items
    have hn : numsOf its.toArray.toList = ns := by rw [show its.toArray.toList = its from rfl, hi.numsOf]
    have ht : s.heap.IsTuple a its.toArray := hl
    rw [hx] at ht hn
    rw [nums_intItems] at hn
    refine PySem.W.ktm_sumG (I.ok.hd hc) ht fun h' tk t' hk => ⟨.int _, H, I.kept hk, ⟨_, rfl⟩, ?_⟩
    rw [preSum_eq, List.take_of_length_le (by simp), hn]
    exact q
theorem sum_ok {X : Cx} : CRok X (rSumAll X.K) .sumL 1 := by
  intro C its H xs ds d Q hK g n hp e q
  obtain ⟨x, dx, rfl, rfl, hx⟩ := one hp n
  cases dx with
  | lst f s =>
    obtain ⟨a, vs, rfl, ha, r⟩ := item_lst hx
    have e : (match intsD s with | some r => Res.ok (D.int (sumI r)) | _ => .bad) = .ok d := e
    split at e
    · rename_i ns en
      cases e
      rw [r.intsD en] at ha
      refine ⟨a, ns, rfl, .inl (.inl ha), ?_⟩
      rw [← sumI_eq]; exact q _ _ (g.int _)
    · cases e
  | tup s =>
    obtain ⟨a, vs, rfl, ha, r⟩ := item_tup hx
    have e : (match intsD s with | some r => Res.ok (D.int (sumI r)) | _ => .bad) = .ok d := e
    split at e
    · rename_i ns en
      cases e
      rw [r.intsD en] at ha
      refine ⟨a, ns, rfl, .inr (SqT.of ha), ?_⟩
      rw [← sumI_eq]; exact q _ _ (g.int _)
    · cases e
  | _ => cases e
theorem any_ok {X : Cx} : CRok X (rAny X.K) .anyL 1 := by
  intro C its H xs ds d Q hK g n hp e q
  obtain ⟨x, dx, rfl, rfl, hx⟩ := one hp n
  cases dx with
  | lst f s =>
    obtain ⟨a, vs, rfl, ha, r⟩ := item_lst hx
    have e : (match boolsD s with | some r => Res.ok (D.bl (r.any id)) | _ => .bad) = .ok d := e
    split at e
    · rename_i ns en
      cases e
      rw [r.boolsD en] at ha
      exact ⟨a, ns, rfl, .inl ha, q _ _ (g.bl _)⟩
    · cases e
  | _ => cases e
theorem all_ok {X : Cx} : CRok X (rAll X.K) .allL 1 := by
  intro C its H xs ds d Q hK g n hp e q
  obtain ⟨x, dx, rfl, rfl, hx⟩ := one hp n
  cases dx with
  | lst f s =>
    obtain ⟨a, vs, rfl, ha, r⟩ := item_lst hx
    have e : (match boolsD s with | some r => Res.ok (D.bl (r.all id)) | _ => .bad) = .ok d := e
    split at e
    · rename_i ns en
      cases e
      rw [r.boolsD en] at ha
      exact ⟨a, ns, rfl, .inl ha, q _ _ (g.bl _)⟩
    · cases e
  | _ => cases e
theorem maxI_spec : ∀ (r : List Int) (m k : Int), k ∈ m :: r → (∀ y ∈ m :: r, y ≤ k) → maxI m r = k
  | [], m, k, h1, h2 => by simp at h1; exact h1.symm
  | x :: r, m, k, h1, h2 => by
    show maxI (if m < x then x else m) r = k
    apply maxI_spec r
    · by_cases h : m < x
      · rw [if_pos h]
        rcases List.mem_cons.mp h1 with rfl | h1
        · have := h2 x (by simp); omega
        · exact h1
      · rw [if_neg h]
        rcases List.mem_cons.mp h1 with rfl | h1
        · simp
        · rcases List.mem_cons.mp h1 with rfl | h1
          · have := h2 m (by simp)
            have : m = k := by omega
            simp [this]
          · simp [h1]
    · intro y hy
      rcases List.mem_cons.mp hy with rfl | hy
      · by_cases h : m < x
        · rw [if_pos h]; exact h2 x (by simp)
        · rw [if_neg h]; exact h2 m (by simp)
      · exact h2 y (by simp [hy])
theorem minI_spec : ∀ (r : List Int) (m k : Int), k ∈ m :: r → (∀ y ∈ m :: r, k ≤ y) → minI m r = k
  | [], m, k, h1, h2 => by simp at h1; exact h1.symm
  | x :: r, m, k, h1, h2 => by
    show minI (if x < m then x else m) r = k
    apply minI_spec r
    · by_cases h : x < m
      · rw [if_pos h]
        rcases List.mem_cons.mp h1 with rfl | h1
        · have := h2 x (by simp); omega
        · exact h1
      · rw [if_neg h]
        rcases List.mem_cons.mp h1 with rfl | h1
        · simp
        · rcases List.mem_cons.mp h1 with rfl | h1
          · have := h2 m (by simp)
            have : m = k := by omega
            simp [this]
          · simp [h1]
    · intro y hy
      rcases List.mem_cons.mp hy with rfl | hy
      · by_cases h : x < m
        · rw [if_pos h]; exact h2 x (by simp)
        · rw [if_neg h]; exact h2 m (by simp)
      · exact h2 y (by simp [hy])
theorem ints_holdA (h : Heap) : ∀ {us : List Value} {ns : List Int}, IntsAre us ns → PySem.ReadsAll h us (ns.map PyData.int) []
  | _, _, .nil => .nil
  | _, _, .cons n t r => .cons (.int n t) (ints_holdA h r)
theorem ints_hold (h : Heap) {us : List Value} {ns : List Int} (r : IntsAre us ns) : PySem.W.HoldAll h us ns := ⟨[], ints_holdA h r⟩
theorem int_held {h : Heap} {v : Value} {i : Int} (r : PySem.W.Holds h v i) : ∃ t, v = .int i t := by
  obtain ⟨as, r⟩ := r
  cases r with
  | int _ t => exact ⟨t, rfl⟩
def rMaxAll (K : PySem.W.Frag) : List V → Hp → VK → Prop := fun vs H Q => ∃ (a : Addr) (ns : List Int), vs = [V.ref a] ∧ (SqL K H a (ns.map V.int) ∨ SqT K H a (ns.map V.int)) ∧ 0 < ns.length ∧ ∀ m, m ∈ ns → (∀ y, y ∈ ns → y ≤ m) → Q (.int m) H
theorem maxOf_spec : ∀ (r : List Int) (m : Int), PySem.W.maxOf m r = maxI m r
  | [], _ => rfl
  | x :: r, m => by
    show PySem.W.maxOf (if PySem.W.DatumOrd.lt m x = true then x else m) r = maxI (if m < x then x else m) r
    rw [maxOf_spec r]
    by_cases h : m < x
    · rw [if_pos h, if_pos (show PySem.W.DatumOrd.lt m x = true from decide_eq_true h)]
    · rw [if_neg h, if_neg (show ¬ PySem.W.DatumOrd.lt m x = true from fun e => h (of_decide_eq_true e))]
theorem maxI_mem : ∀ (r : List Int) (m : Int), maxI m r ∈ m :: r
  | [], m => by simp [maxI]
  | x :: r, m => by
    show maxI (if m < x then x else m) r ∈ m :: x :: r
    have := maxI_mem r (if m < x then x else m)
    rcases List.mem_cons.mp this with h | h
    · rw [h]; split <;> simp
    · simp [h]
theorem maxI_le : ∀ (r : List Int) (m y : Int), y ∈ m :: r → y ≤ maxI m r
  | [], m, y, h => by
    rcases List.mem_cons.mp h with rfl | h
    · exact Int.le_refl _
    · cases h
  | x :: r, m, y, h => by
    have h0 := maxI_le r (if m < x then x else m)
    rcases List.mem_cons.mp h with rfl | h
    · refine Int.le_trans ?_ (h0 _ List.mem_cons_self)
      split <;> omega
    · rcases List.mem_cons.mp h with rfl | h
      · refine Int.le_trans ?_ (h0 _ List.mem_cons_self)
        split <;> omega
      · exact h0 y (List.mem_cons_of_mem _ h)
theorem call_maxAll {X : Cx} (hc : X.calm = true) (hu : X.A.units + 200 < cLine) : CallR X (.builtin "max") (rMaxAll X.K) := by
  intro pins s σ H vs us Q I r h
  obtain ⟨a, ns, rfl, hs | hs, hne, q⟩ := h
  · exact cr_max hc pins s σ H _ us Q I r ⟨a, ns, rfl, hs, hne, q⟩
  · obtain ⟨its, rv, hl, _⟩ := I.tuple hs
    rw [Vals.ref1 r]
    cases ns with
    | nil => exact absurd hne (by simp)
    | cons x xs =>
    refine PySem.W.max_tuple_datum (I.ok.hd hc) hl (x := x) (xs := xs) ?_ (by show X.A.units + 1 + 0 < cLine; omega) fun i v h' tk hv hh hk => ?_
    · exact ints_hold s.heap rv.ints
    · obtain ⟨t, rfl⟩ := int_held hh
      refine ⟨.int _, H, I.kept hk, ⟨_, rfl⟩, ?_⟩
      rw [maxOf_spec]
      exact q _ (maxI_mem xs x) fun y hy => maxI_le xs x y hy
theorem maxL_ok {X : Cx} : CRok X (rMaxAll X.K) .maxL 1 := by
  intro C its H xs ds d Q hK g n hp e q
  obtain ⟨x, dx, rfl, rfl, hx⟩ := one hp n
  cases dx with
  | lst f s =>
    obtain ⟨a, vs, rfl, ha, r⟩ := item_lst hx
    have e : (match intsD s with | some (x :: r) => Res.ok (D.int (maxI x r)) | _ => .bad) = .ok d := e
    split at e
    · rename_i y ys en
      cases e
      rw [r.intsD en] at ha
      refine ⟨a, y :: ys, rfl, .inl (.inl ha), by simp, fun m h1 h2 => ?_⟩
      rw [← maxI_spec ys y m h1 h2]
      exact q _ _ (g.int _)
    · cases e
  | tup s =>
    obtain ⟨a, vs, rfl, ha, r⟩ := item_tup hx
    have e : (match intsD s with | some (x :: r) => Res.ok (D.int (maxI x r)) | _ => .bad) = .ok d := e
    split at e
    · rename_i y ys en
      cases e
      rw [r.intsD en] at ha
      refine ⟨a, y :: ys, rfl, .inr (SqT.of ha), by simp, fun m h1 h2 => ?_⟩
      rw [← maxI_spec ys y m h1 h2]
      exact q _ _ (g.int _)
    · cases e
  | _ => cases e
def rMinAll (K : PySem.W.Frag) : List V → Hp → VK → Prop := fun vs H Q => ∃ (a : Addr) (ns : List Int), vs = [V.ref a] ∧ (SqL K H a (ns.map V.int) ∨ SqT K H a (ns.map V.int)) ∧ 0 < ns.length ∧ ∀ m, m ∈ ns → (∀ y, y ∈ ns → m ≤ y) → Q (.int m) H
theorem minOf_spec : ∀ (r : List Int) (m : Int), PySem.W.minOf m r = minI m r
  | [], _ => rfl
  | x :: r, m => by
    show PySem.W.minOf (if PySem.W.DatumOrd.lt x m = true then x else m) r = minI (if x < m then x else m) r
    rw [minOf_spec r]
    by_cases h : x < m
    · rw [if_pos h, if_pos (show PySem.W.DatumOrd.lt x m = true from decide_eq_true h)]
    · rw [if_neg h, if_neg (show ¬ PySem.W.DatumOrd.lt x m = true from fun e => h (of_decide_eq_true e))]
theorem minI_mem : ∀ (r : List Int) (m : Int), minI m r ∈ m :: r
  | [], m => by simp [minI]
  | x :: r, m => by
    show minI (if x < m then x else m) r ∈ m :: x :: r
    have := minI_mem r (if x < m then x else m)
    rcases List.mem_cons.mp this with h | h
    · rw [h]; split <;> simp
    · simp [h]
theorem minI_le : ∀ (r : List Int) (m y : Int), y ∈ m :: r → minI m r ≤ y
  | [], m, y, h => by
    rcases List.mem_cons.mp h with rfl | h
    · exact Int.le_refl _
    · cases h
  | x :: r, m, y, h => by
    have h0 := minI_le r (if x < m then x else m)
    rcases List.mem_cons.mp h with rfl | h
    · refine Int.le_trans (h0 _ List.mem_cons_self) ?_
      split <;> omega
    · rcases List.mem_cons.mp h with rfl | h
      · refine Int.le_trans (h0 _ List.mem_cons_self) ?_
        split <;> omega
      · exact h0 y (List.mem_cons_of_mem _ h)
theorem call_minAll {X : Cx} (hc : X.calm = true) (hu : X.A.units + 200 < cLine) : CallR X (.builtin "min") (rMinAll X.K) := by
  intro pins s σ H vs us Q I r h
  obtain ⟨a, ns, rfl, hs | hs, hne, q⟩ := h
  · exact cr_min hc pins s σ H _ us Q I r ⟨a, ns, rfl, hs, hne, q⟩
  · obtain ⟨its, rv, hl, _⟩ := I.tuple hs
    rw [Vals.ref1 r]
    cases ns with
    | nil => exact absurd hne (by simp)
    | cons x xs =>
    refine PySem.W.min_tuple_datum (I.ok.hd hc) hl (x := x) (xs := xs) ?_ (by show X.A.units + 1 + 0 < cLine; omega) fun i v h' tk hv hh hk => ?_
    · exact ints_hold s.heap rv.ints
    · obtain ⟨t, rfl⟩ := int_held hh
      refine ⟨.int _, H, I.kept hk, ⟨_, rfl⟩, ?_⟩
      rw [minOf_spec]
      exact q _ (minI_mem xs x) fun y hy => minI_le xs x y hy
theorem minL_ok {X : Cx} : CRok X (rMinAll X.K) .minL 1 := by
  intro C its H xs ds d Q hK g n hp e q
  obtain ⟨x, dx, rfl, rfl, hx⟩ := one hp n
  cases dx with
  | lst f s =>
    obtain ⟨a, vs, rfl, ha, r⟩ := item_lst hx
    have e : (match intsD s with | some (x :: r) => Res.ok (D.int (minI x r)) | _ => .bad) = .ok d := e
    split at e
    · rename_i y ys en
      cases e
      rw [r.intsD en] at ha
      refine ⟨a, y :: ys, rfl, .inl (.inl ha), by simp, fun m h1 h2 => ?_⟩
      rw [← minI_spec ys y m h1 h2]
      exact q _ _ (g.int _)
    · cases e
  | tup s =>
    obtain ⟨a, vs, rfl, ha, r⟩ := item_tup hx
    have e : (match intsD s with | some (x :: r) => Res.ok (D.int (minI x r)) | _ => .bad) = .ok d := e
    split at e
    · rename_i y ys en
      cases e
      rw [r.intsD en] at ha
      refine ⟨a, y :: ys, rfl, .inr (SqT.of ha), by simp, fun m h1 h2 => ?_⟩
      rw [← minI_spec ys y m h1 h2]
      exact q _ _ (g.int _)
    · cases e
  | _ => cases e
def rTupOf (K : PySem.W.Frag) : List V → Hp → VK → Prop := fun xs H Q => ∃ p ys, xs = [.ref p] ∧ ((SqL K H p ys ∧ ∀ l, H l = none → Q (.ref l) (upd H l (.tup ys))) ∨ (SqT K H p ys ∧ Q (.ref p) H))
theorem tuple_ok {X : Cx} : CRok X (rTupOf X.K) .tuple 1 := by
  intro C its H xs ds d Q hK g n hp e q
  obtain ⟨x, dx, rfl, rfl, hx⟩ := one hp n
  cases dx with
  | lst f s =>
    obtain ⟨a, vs, rfl, ha, r⟩ := item_lst hx
    cases e
    exact ⟨a, vs, rfl, .inl ⟨.inl ha, fun p hp => q _ _ (g.newT r hp)⟩⟩
  | tup s =>
    obtain ⟨a, vs, rfl, ha, r⟩ := item_tup hx
    cases e
    exact ⟨a, vs, rfl, .inr ⟨SqT.of ha, q _ _ (g.add (.tup ha r))⟩⟩
  | _ => cases e
def rListOf (K : PySem.W.Frag) : List V → Hp → VK → Prop := fun xs H Q => ∃ p ys, xs = [.ref p] ∧ (SqL K H p ys ∨ SqT K H p ys) ∧ ∀ l, H l = none → Q (.ref l) (upd H l (.lst ys))
theorem list_ok {X : Cx} : CRok X (rListOf X.K) .list 1 := by
  intro C its H xs ds d Q hK g n hp e q
  obtain ⟨x, dx, rfl, rfl, hx⟩ := one hp n
  cases dx with
  | lst f s =>
    obtain ⟨a, vs, rfl, ha, r⟩ := item_lst hx
    cases e
    exact ⟨a, vs, rfl, .inl (.inl ha), fun p hp => q _ _ (g.newL r hp)⟩
  | tup s =>
    obtain ⟨a, vs, rfl, ha, r⟩ := item_tup hx
    cases e
    exact ⟨a, vs, rfl, .inr (SqT.of ha), fun p hp => q _ _ (g.newL r hp)⟩
  | _ => cases e
theorem insI_perm (x : Int) : ∀ (l : List Int), (insI x l).Perm (x :: l)
  | [] => List.Perm.refl _
  | y :: r => by
    unfold insI
    split
    · exact List.Perm.refl _
    · exact ((insI_perm x r).cons y).trans (List.Perm.swap _ _ _)
theorem sortI_perm : ∀ (l : List Int), (sortI l).Perm l
  | [] => List.Perm.refl _
  | x :: r => (insI_perm x (sortI r)).trans ((sortI_perm r).cons x)
theorem insI_sorted (x : Int) : ∀ (l : List Int), l.Pairwise (· ≤ ·) → (insI x l).Pairwise (· ≤ ·)
  | [], _ => by simp [insI]
  | y :: r, h => by
    unfold insI
    have h1 := List.pairwise_cons.mp h
    split
    · rename_i c
      refine List.pairwise_cons.mpr ⟨fun z hz => ?_, h⟩
      rcases List.mem_cons.mp hz with rfl | hz
      · omega
      · have := h1.1 z hz; omega
    · rename_i c
      refine List.pairwise_cons.mpr ⟨fun z hz => ?_, insI_sorted x r h1.2⟩
      rcases List.mem_cons.mp ((insI_perm x r).mem_iff.mp hz) with rfl | hz
      · omega
      · exact h1.1 z hz
theorem sortI_sorted : ∀ (l : List Int), (sortI l).Pairwise (· ≤ ·)
  | [] => List.Pairwise.nil
  | x :: r => insI_sorted x _ (sortI_sorted r)
theorem sorted_one : ∀ {a b : List Int}, a.Perm b → a.Pairwise (· ≤ ·) → b.Pairwise (· ≤ ·) → a = b := by
  intro a b h ha hb
  exact List.Perm.eq_of_pairwise (fun x y _ _ h1 h2 => Int.le_antisymm h1 h2) ha hb h
theorem sortedI_ok {X : Cx} : ∀ (C : RC) (its : List (V × D)) (H : Hp) (a : Addr) (vs : List V) (ds : List D) (ns : List Int) (Q : VK), C.K = X.K → Good C its H → Rd H a (.lst vs) → RepL C (roots its) H vs ds → intsD ds = some ns →
    (∀ v H', Good C ((v, .lst .own ((sortI ns).map .int)) :: its) H' → Q v H') → rSortedI X.K [.ref a] H Q := by
  intro C its H a vs ds ns Q hK g ha r e q
  rw [r.intsD e] at ha
  refine ⟨a, ns, rfl, .inl ha, fun ns' p h1 h2 hp => ?_⟩
  have : ns' = sortI ns := sorted_one (h1.trans (sortI_perm ns).symm) h2 (sortI_sorted ns)
  rw [this]
  exact q _ _ (g.newL (.ofInts _) hp)
end QE
namespace QE
open PySem L2 PySem.Spec PyProof.Rows

structure EOk (Φ : Calls) (Mu : Muts) (K : PySem.W.Frag) (fnA : FA) (EX : EC) (Wx : WX) (X : Cx) (e : Expr) (ie : IE) : Prop where
  v : PE X e (TV Φ Mu K fnA EX Wx ie)
  o : PE X e (TO Φ Mu K fnA EX Wx ie)

section
variable {Φ : Calls} {Mu : Muts} {K : PySem.W.Frag} {fnA : FA} {EX : EC} {Wx : WX} {X : Cx} {e a b c : Expr} {ia ib ic ie : IE} {pos : Pos} {i : Nat} {x : Str}

theorem evO_of (h : varOf ie = none) (ρ : Env) : evO Φ Mu ie ρ = (ev Φ Mu ie ρ).bind fun r => .ok (.val r.1, r.2) := by
  unfold evO opOf
  rw [h]
theorem evO_var (i : Nat) (ρ : Env) : evO Φ Mu (.var i) ρ = match getS ρ i with | some _ => .ok (Opd.slot i, ρ) | none => .bad := rfl
theorem TO_of (h : varOf ie = none) {σ : L2.St} {H : Hp} {Q : VK} (q : TO Φ Mu K fnA EX Wx ie σ H Q) : TV Φ Mu K fnA EX Wx ie σ H Q := by
  obtain ⟨C, F, ρ, hC, st, p⟩ := q
  rw [evO_of h] at p
  refine ⟨C, F, ρ, hC, st, ?_⟩
  refine post_mono (post_bind p) (fun r k => ?_) fun _ _ z => z
  exact fun v H' s => k v H' trivial s
theorem EOk.of (h : PE X e (TV Φ Mu K fnA EX Wx ie)) (ho : varOf ie = none) : EOk Φ Mu K fnA EX Wx X e ie := ⟨h, weakE h fun _ _ _ q => TO_of ho q⟩
theorem pt_of (h : PE X e (TV Φ Mu K fnA EX Wx ie)) (he : ∀ whole, isTrue e X.env whole = (do let v ← whole; standAt e.pos; holding [v] (truthy v))) : PT X e (TB Φ Mu K fnA EX Wx ie) := by
  refine weakT (pt_val h he) fun σ H Q q => ?_
  obtain ⟨C, F, ρ, hC, st, p⟩ := q
  refine ⟨C, F, ρ, hC, st, post_mono p (fun r k => ?_) fun _ _ z => z⟩
  obtain ⟨d, ρ'⟩ := r
  obtain ⟨b, hb, k⟩ := k
  simp only at hb
  subst hb
  intro v H' s
  cases item_bl s.good.head
  exact ⟨b, rfl, k H' ⟨s.ok, s.good.tail⟩⟩

theorem e_var (hN : X.N[i]? = some x) (hv : Vis X.env.scope x) (hd : (x == ("__debug__" : Str)) = false) (hcd : (x == ("__classdict__" : Str)) = false) : EOk Φ Mu K fnA EX Wx X (.Name x pos) (.var i) := by
  constructor
  · refine weakE (pe_var hN hv hd hcd) fun σ H Q q => ?_
    obtain ⟨C, F, ρ, hC, st, p⟩ := q
    have p : post (match getS ρ i with | some d => if isM d then .bad else .ok (share d, setS ρ i (some (share d))) | none => .bad) _ _ := p
    cases e : getS ρ i with
    | none => rw [e] at p; exact p.elim
    | some d =>
      rw [e] at p
      simp only at p
      split at p
      · exact p.elim
      · rename_i hm
        obtain ⟨v, hv, g, _⟩ := st.at e
        have g2 := g.share2 (by simpa using hm)
        refine ⟨v, hv, p v H ?_⟩
        exact StOk.back (F := (v, share d) :: F) st.ok hv g2
  · refine weakE (pe_var hN hv hd hcd) fun σ H Q q => ?_
    obtain ⟨C, F, ρ, hC, st, p⟩ := q
    rw [evO_var] at p
    cases e : getS ρ i with
    | none => rw [e] at p; exact p.elim
    | some d =>
      rw [e] at p
      obtain ⟨v, hv, g, _⟩ := st.at e
      exact ⟨v, hv, p v H hv st⟩
theorem lit_tv {v : V} {d : D} {te : TE} (hr : ∀ C O H, CtxOk K fnA C → Rep C O H v d) (h : ∀ σ H Q, Q v H → te σ H Q) : ∀ σ H Q, TV Φ Mu K fnA EX Wx (.lit d) σ H Q → te σ H Q := by
  intro σ H Q q
  obtain ⟨C, F, ρ, hC, st, p⟩ := q
  have p : ∀ v H', StOk C ((v, d) :: F) σ ρ H' → Q v H' := p
  exact h σ H Q (p v H ⟨st.ok, st.good.add (hr _ _ _ hC)⟩)
theorem e_lit {d : D} {v : V} (h : PE X e (tC v)) (hr : ∀ C O H, CtxOk K fnA C → Rep C O H v d) : EOk Φ Mu K fnA EX Wx X e (.lit d) := EOk.of (weakE h (lit_tv hr fun _ _ _ q => q)) rfl
theorem e_int {n : Int} {j : Nat} : EOk Φ Mu K fnA EX Wx X (.Constant (.int n) j pos) (.lit (.int n)) := e_lit pe_int fun _ _ _ _ => .int n
theorem e_bool {n : Bool} {j : Nat} : EOk Φ Mu K fnA EX Wx X (.Constant (.bool n) j pos) (.lit (.bl n)) := e_lit pe_bl fun _ _ _ _ => .bl n
theorem e_none {j : Nat} : EOk Φ Mu K fnA EX Wx X (.Constant .none j pos) (.lit .non) := e_lit pe_non fun _ _ _ _ => .non
theorem e_str {z : Str} {j : Nat} : EOk Φ Mu K fnA EX Wx X (.Constant (.str z) j pos) (.lit (.str (strL z))) := e_lit pe_str fun C O H _ => by
  have := Rep.str (C := C) (O := O) (H := H) (strL z)
  have e : (⟨(strL z).toArray⟩ : Str) = z := by cases z; simp [strL]
  rw [e] at this; exact this
theorem e_glob {v : V} {u : Value} {d : D} (hg : Gl X x) (hm : X.mg x = some u) (r : RelV v u) (hd : (x == ("__debug__" : Str)) = false) (hr : ∀ C O H, CtxOk K fnA C → Rep C O H v d) : EOk Φ Mu K fnA EX Wx X (.Name x pos) (.lit d) := e_lit (pe_glob hg hm r hd) hr

theorem evOs_cons (e : IE) (es : List IE) (ρ : Env) : evOs Φ Mu (e :: es) ρ = (evO Φ Mu e ρ).bind fun r => (evOs Φ Mu es r.2).bind fun s => .ok (r.1 :: s.1, s.2) := rfl
theorem post_cons {e : IE} {es : List IE} {ρ : Env} {k : List Opd × Env → Prop} {er : Nat → D → Prop} (h : post (evOs Φ Mu (e :: es) ρ) k er) : post (evO Φ Mu e ρ) (fun r => post (evOs Φ Mu es r.2) (fun s => k (r.1 :: s.1, s.2)) er) er := by
  rw [evOs_cons] at h
  exact post_mono (post_bind h) (fun r q => post_bind q) fun _ _ z => z
theorem post_nil {ρ : Env} {k : List Opd × Env → Prop} {er : Nat → D → Prop} (h : post (evOs Φ Mu [] ρ) k er) : k ([], ρ) := h
theorem pa_os_nil : PA X [] (TOs Φ Mu K fnA EX Wx []) := weakA pa_nil fun σ H Q q => by
  obtain ⟨C, F, ρ, hC, st, p⟩ := q
  exact post_nil p [] H trivial st
theorem star_free {es : List Expr} {env : PySem.Env} (h : ∀ z p, e ≠ .Starred z p) : starEach (e :: es) env = (false, eval e env) :: starEach es env := by
  cases e <;> first | rfl | exact absurd rfl (h _ _)
theorem pa_os_cons {es : List Expr} {ies : List IE} (h : EOk Φ Mu K fnA EX Wx X e ie) (hr : PA X es (TOs Φ Mu K fnA EX Wx ies)) (hs : ∀ z p, e ≠ .Starred z p) : PA X (e :: es) (TOs Φ Mu K fnA EX Wx (ie :: ies)) := by
  refine weakA (pa_cons h.o hr (star_free hs)) fun σ H Q q => ?_
  obtain ⟨C, F, ρ, hC, st, p⟩ := q
  refine ⟨C, F, ρ, hC, st, post_mono (post_cons p) (fun r k => ?_) fun _ _ z => z⟩
  intro v H1 ha st1
  refine ⟨C, opI v r.1 ++ F, r.2, hC, st1, post_mono k (fun s k2 => ?_) fun _ _ z => z⟩
  intro vs H2 hvs st2
  refine k2 (v :: vs) H2 ⟨ha, hvs⟩ ?_
  show StOk C (opIs vs s.1 ++ opI v r.1 ++ F) σ s.2 H2
  rw [List.append_assoc]
  exact st2

theorem gets_items {C : RC} {σ : L2.St} {ρ : Env} {H : Hp} {G : List (V × D)} (st : StOk C G σ ρ H) : ∀ {vs : List V} {os : List Opd} {ds : List D}, opAts σ vs os → gets ρ os = some ds → (∀ x ∈ opIs vs os, x ∈ G) → Paired (fun x d => ItemOk C (roots (G ++ sl σ ρ)) H (x, d)) vs ds
  | [], [], ds, _, e, _ => by cases e; exact .nil
  | [], _ :: _, _, h, _, _ => h.elim
  | _ :: _, [], _, h, _, _ => h.elim
  | v :: vs, o :: os, ds, h, e, hG => by
    obtain ⟨h1, h2⟩ := h
    have e : ((o.get ρ).bind fun d => (gets ρ os).map (d :: ·)) = some ds := e
    obtain ⟨d, e1, e2⟩ := Option.bind_eq_some_iff.mp e
    obtain ⟨r, e3, rfl⟩ := Option.map_eq_some_iff.mp e2
    refine .cons (st.good.ok _ (opI_mem o e1 h1 st.ok fun x hx => hG x ?_)) (gets_items st h2 e3 fun x hx => hG x ?_)
    · show x ∈ opIs vs os ++ opI v o
      exact List.mem_append_right _ hx
    · show x ∈ opIs vs os ++ opI v o
      exact List.mem_append_left _ hx
theorem opAts_len {σ : L2.St} : ∀ {vs : List V} {os : List Opd}, opAts σ vs os → vs.length = os.length
  | [], [], _ => rfl
  | [], _ :: _, h => h.elim
  | _ :: _, [], h => h.elim
  | _ :: _, _ :: _, h => congrArg (· + 1) (opAts_len h.2)
theorem gets_len {ρ : Env} : ∀ {os : List Opd} {ds : List D}, gets ρ os = some ds → ds.length = os.length
  | [], ds, e => by cases e; rfl
  | o :: os, ds, e => by
    have e : ((o.get ρ).bind fun d => (gets ρ os).map (d :: ·)) = some ds := e
    obtain ⟨d, e1, e2⟩ := Option.bind_eq_some_iff.mp e
    obtain ⟨r, e3, rfl⟩ := Option.map_eq_some_iff.mp e2
    exact congrArg (· + 1) (gets_len e3)
theorem pr_end {C : RC} {F : List (V × D)} {σ : L2.St} {ρ : Env} {H : Hp} {vs : List V} {os : List Opd} {p : Pr} {Q : VK} {er : Nat → D → Prop} (hE : er = ErrP EX Wx C σ)
    (h : post (match gets ρ os with | some ds => (noErr (prim p ds)).bind fun d => .ok (d, ρ) | none => .bad) (fun r => ∀ v H', StOk C ((v, r.1) :: F) σ r.2 H' → Q v H') er) (ha : opAts σ vs os) (st : StOk C (opIs vs os ++ F) σ ρ H) : ∃ ds d, prim p ds = .ok d ∧ Paired (fun x d => ItemOk C (roots (opIs vs os ++ F ++ sl σ ρ)) H (x, d)) vs ds ∧ ∀ v H', Good C ((v, d) :: (opIs vs os ++ F ++ sl σ ρ)) H' → Q v H' := by
  cases e : gets ρ os with
  | none => rw [e] at h; exact h.elim
  | some ds =>
    rw [e] at h
    simp only at h
    cases e2 : prim p ds with
    | ok d =>
      rw [e2] at h
      refine ⟨ds, d, e2, gets_items st ha e fun x hx => List.mem_append_left _ hx, fun v H' g => h v H' ⟨st.ok, g.sub ?_⟩⟩
      show ((v, d) :: (F ++ sl σ ρ)).Sublist _
      refine List.Sublist.cons_cons _ ?_
      rw [List.append_assoc]
      exact List.sublist_append_right _ _
    | err c x => rw [e2] at h; exact h.elim
    | bad => rw [e2] at h; exact h.elim
end
end QE
namespace QE
open PySem L2 PySem.Spec PyProof.Rows
section
variable {Φ : Calls} {Mu : Muts} {K : PySem.W.Frag} {fnA : FA} {EX : EC} {Wx : WX} {X : Cx} {e a b c : Expr} {ia ib ic ie : IE} {pos : Pos} {i : Nat} {x : Str}

theorem ev_pr {p : Pr} {args : List IE} {ρ : Env} {k : D × Env → Prop} {er : Nat → D → Prop} (h : post (ev Φ Mu (.pr p args) ρ) k er) :
    post (evOs Φ Mu args ρ) (fun r => post (match gets r.2 r.1 with | some ds => (noErr (prim p ds)).bind fun d => .ok (d, r.2) | none => .bad) k er) er := post_bind (show post ((evOs Φ Mu args ρ).bind fun r => match gets r.2 r.1 with | some ds => (noErr (prim p ds)).bind fun d => .ok (d, r.2) | none => .bad) k er from h)
theorem pr2 {p : Pr} {r : R2} (hr : R2ok X r p) (hK : K = X.K) (ha : EOk Φ Mu K fnA EX Wx X a ia) (hb : EOk Φ Mu K fnA EX Wx X b ib) : ∀ σ H Q, TV Φ Mu K fnA EX Wx (.pr p [ia, ib]) σ H Q → tOp r (TO Φ Mu K fnA EX Wx ia) (TO Φ Mu K fnA EX Wx ib) σ H Q := by
  intro σ H Q q
  obtain ⟨C, F, ρ, hC, st, p0⟩ := q
  refine ⟨C, F, ρ, hC, st, post_mono (post_cons (ev_pr p0)) (fun r1 k1 => ?_) fun _ _ z => z⟩
  intro v1 H1 a1 st1
  refine ⟨C, opI v1 r1.1 ++ F, r1.2, hC, st1, post_mono (post_cons k1) (fun r2 k2 => ?_) fun _ _ z => z⟩
  intro v2 H2 a2 st2
  obtain ⟨ds, d, e1, hp, fin⟩ := pr_end (vs := [v1, v2]) (os := [r1.1, r2.1]) rfl k2 ⟨a1, a2, trivial⟩ (by
    show StOk C (([] ++ opI v2 r2.1) ++ opI v1 r1.1 ++ F) σ r2.2 H2
    rw [List.nil_append, List.append_assoc]
    exact st2)
  obtain ⟨y1, y2, d1, d2, ey, rfl, h1, h2⟩ := two hp rfl
  cases ey
  exact hr C _ H2 _ _ d1 d2 d Q (hC.K.trans hK) (by
    have : StOk C (([] ++ opI v2 r2.1) ++ opI v1 r1.1 ++ F) σ r2.2 H2 := by
      rw [List.nil_append, List.append_assoc]
      exact st2
    exact this.good) h1 h2 e1 fin
theorem pr1 {p : Pr} {r : V → Hp → VK → Prop} (hr : R1ok X r p) (hK : K = X.K) (ha : EOk Φ Mu K fnA EX Wx X a ia) : ∀ σ H Q, TV Φ Mu K fnA EX Wx (.pr p [ia]) σ H Q → tUn r (TO Φ Mu K fnA EX Wx ia) σ H Q := by
  intro σ H Q q
  obtain ⟨C, F, ρ, hC, st, p0⟩ := q
  refine ⟨C, F, ρ, hC, st, post_mono (post_cons (ev_pr p0)) (fun r1 k1 => ?_) fun _ _ z => z⟩
  intro v1 H1 a1 st1
  obtain ⟨ds, d, e1, hp, fin⟩ := pr_end (vs := [v1]) (os := [r1.1]) rfl (post_nil k1) ⟨a1, trivial⟩ (by simpa [opIs] using st1)
  obtain ⟨y1, d1, ey, rfl, h1⟩ := one hp rfl
  cases ey
  exact hr C _ H1 _ d1 d Q (hC.K.trans hK) (by simpa [opIs] using st1.good) h1 e1 fin
theorem prn {p : Pr} {n : Nat} {r : List V → Hp → VK → Prop} {ies : List IE} (hn : ies.length = n) (hr : CRok X r p n) (hK : K = X.K) : ∀ σ H Q, TV Φ Mu K fnA EX Wx (.pr p ies) σ H Q → tCB r (TOs Φ Mu K fnA EX Wx ies) σ H Q := by
  intro σ H Q q
  obtain ⟨C, F, ρ, hC, st, p0⟩ := q
  have hlen : ∀ (es : List IE) (ρ : Env) (r : List Opd × Env), evOs Φ Mu es ρ = .ok r → r.1.length = es.length := by
    intro es
    induction es with
    | nil => intro ρ r h; cases h; rfl
    | cons e es ih =>
      intro ρ r h
      rw [evOs_cons] at h
      cases h1 : evO Φ Mu e ρ with
      | ok o =>
        rw [h1] at h
        have h : ((evOs Φ Mu es o.2).bind fun s => Res.ok (o.1 :: s.1, s.2)) = .ok r := h
        cases h2 : evOs Φ Mu es o.2 with
        | ok s => rw [h2] at h; cases h; exact congrArg (· + 1) (ih _ _ h2)
        | err c x => rw [h2] at h; cases h
        | bad => rw [h2] at h; cases h
      | err c x => rw [h1] at h; cases h
      | bad => rw [h1] at h; cases h
  refine ⟨C, F, ρ, hC, st, ?_⟩
  have p1 := ev_pr p0
  cases h0 : evOs Φ Mu ies ρ with
  | err c x => rw [h0] at p1; exact p1
  | bad => rw [h0] at p1; exact p1
  | ok s =>
    rw [h0] at p1
    intro vs H1 ha st1
    obtain ⟨ds, d, e1, hp, fin⟩ := pr_end rfl (show post _ _ _ from p1) ha st1
    exact hr C _ H1 vs ds d Q (hC.K.trans hK) st1.good (by rw [opAts_len ha, hlen _ _ _ h0, hn]) hp e1 fin

theorem e_bin {op : Operator} {p : Pr} {r : R2} (ho : OpR X (binaryOp op) r) (hr : R2ok X r p) (hK : K = X.K) (ha : EOk Φ Mu K fnA EX Wx X a ia) (hb : EOk Φ Mu K fnA EX Wx X b ib) : EOk Φ Mu K fnA EX Wx X (.BinOp a op b pos) (.pr p [ia, ib]) :=
  EOk.of (weakE (pe_op ho ha.o hb.o) (pr2 hr hK ha hb)) rfl
theorem e_neg (hK : K = X.K) (ha : EOk Φ Mu K fnA EX Wx X a ia) : EOk Φ Mu K fnA EX Wx X (.UnaryOp .USub a pos) (.pr .neg [ia]) := EOk.of (weakE (pe_un un_neg ha.o) (pr1 neg_ok hK ha)) rfl
theorem e_cmp {op : CmpOp} {p : Pr} {r : R2} (ho : OpR X (compareOp op) r) (hr : R2ok X r p) (hK : K = X.K) (ha : EOk Φ Mu K fnA EX Wx X a ia) (hb : EOk Φ Mu K fnA EX Wx X b ib) (hm : behindInMarks op b = false) : EOk Φ Mu K fnA EX Wx X (.Compare a [op] [b] pos) (.pr p [ia, ib]) :=
  EOk.of (weakE (pe_cmpR ho ha.o hb.o hm) (pr2 hr hK ha hb)) rfl
theorem tb_of_tv {t : TE} (h : ∀ σ H Q, TV Φ Mu K fnA EX Wx ie σ H Q → t σ H Q) : ∀ σ H Q, TB Φ Mu K fnA EX Wx ie σ H Q → tTest t σ H Q := by
  intro σ H Q q
  refine h σ H _ ?_
  obtain ⟨C, F, ρ, hC, st, p⟩ := q
  refine ⟨C, F, ρ, hC, st, post_mono p (fun r k => ?_) fun _ _ z => z⟩
  obtain ⟨d, ρ'⟩ := r
  obtain ⟨b, hb, k⟩ := k
  simp only at hb
  subst hb
  intro v H' s
  cases item_bl s.good.head
  exact ⟨b, rfl, k H' ⟨s.ok, s.good.tail⟩⟩
theorem t_cmp {op : CmpOp} {p : Pr} {r : R2} (ho : OpR X (compareOp op) r) (hr : R2ok X r p) (hK : K = X.K) (ha : EOk Φ Mu K fnA EX Wx X a ia) (hb : EOk Φ Mu K fnA EX Wx X b ib) (hm : behindInMarks op b = false) : PT X (.Compare a [op] [b] pos) (TB Φ Mu K fnA EX Wx (.pr p [ia, ib])) :=
  weakT (pt_cmpR ho ha.o hb.o hm) (tb_of_tv (pr2 hr hK ha hb))
theorem isN_tv (pos' : Bool) (ha : EOk Φ Mu K fnA EX Wx X a ia) : ∀ σ H Q, TV Φ Mu K fnA EX Wx (.pr (.isC .non pos') [ia]) σ H Q → (if pos' then tIsN (TO Φ Mu K fnA EX Wx ia) else tNotN (TO Φ Mu K fnA EX Wx ia)) σ H Q := by
  intro σ H Q q
  obtain ⟨C, F, ρ, hC, st, p0⟩ := q
  have go : TO Φ Mu K fnA EX Wx ia σ H fun v1 H1 => Q (.bl (decide (v1 = .non) == pos')) H1 := by
    refine ⟨C, F, ρ, hC, st, post_mono (post_cons (ev_pr p0)) (fun r1 k1 => ?_) fun _ _ z => z⟩
    intro v1 H1 a1 st1
    obtain ⟨ds, d, e1, hp, fin⟩ := pr_end (vs := [v1]) (os := [r1.1]) rfl (post_nil k1) ⟨a1, trivial⟩ (by simpa [opIs] using st1)
    obtain ⟨y1, d1, ey, rfl, h1⟩ := one hp rfl
    cases ey
    have := isN_ok h1 e1
    subst this
    exact fin _ _ (Good.bl (by simpa [opIs] using st1.good) _)
  cases pos' with
  | true =>
    have e : (fun (v1 : V) (H1 : Hp) => Q (.bl (decide (v1 = .non) == true)) H1) = fun v1 H1 => Q (.bl (decide (v1 = .non))) H1 := by
      funext v1 H1
      cases decide (v1 = .non) <;> rfl
    rw [e] at go
    exact go
  | false =>
    have e : (fun (v1 : V) (H1 : Hp) => Q (.bl (decide (v1 = .non) == false)) H1) = fun v1 H1 => Q (.bl (!decide (v1 = .non))) H1 := by
      funext v1 H1
      cases decide (v1 = .non) <;> rfl
    rw [e] at go
    exact go
theorem e_isN {j p2} (ha : EOk Φ Mu K fnA EX Wx X a ia) : EOk Φ Mu K fnA EX Wx X (.Compare a [.Is] [.Constant .none j p2] pos) (.pr (.isC .non true) [ia]) := EOk.of (weakE (pe_cmp (pc_isN ha.o)) (isN_tv true ha)) rfl
theorem e_notN {j p2} (ha : EOk Φ Mu K fnA EX Wx X a ia) : EOk Φ Mu K fnA EX Wx X (.Compare a [.IsNot] [.Constant .none j p2] pos) (.pr (.isC .non false) [ia]) := EOk.of (weakE (pe_cmp (pc_notN ha.o)) (isN_tv false ha)) rfl
theorem tb_of {t : TE} (h : ∀ σ H Q, TV Φ Mu K fnA EX Wx ie σ H Q → t σ H Q) : ∀ σ H Q, TB Φ Mu K fnA EX Wx ie σ H Q → tB t σ H Q := by
  intro σ H Q q
  refine h σ H _ ?_
  obtain ⟨C, F, ρ, hC, st, p⟩ := q
  refine ⟨C, F, ρ, hC, st, post_mono p (fun r k => ?_) fun _ _ z => z⟩
  obtain ⟨d, ρ'⟩ := r
  obtain ⟨b, hb, k⟩ := k
  simp only at hb
  subst hb
  intro v H' s
  cases item_bl s.good.head
  exact ⟨b, rfl, k H' ⟨s.ok, s.good.tail⟩⟩
theorem t_isN {j p2} (ha : EOk Φ Mu K fnA EX Wx X a ia) : PT X (.Compare a [.Is] [.Constant .none j p2] pos) (TB Φ Mu K fnA EX Wx (.pr (.isC .non true) [ia])) := weakT (pt_cmp (pc_isN ha.o)) (tb_of (isN_tv true ha))
theorem t_notN {j p2} (ha : EOk Φ Mu K fnA EX Wx X a ia) : PT X (.Compare a [.IsNot] [.Constant .none j p2] pos) (TB Φ Mu K fnA EX Wx (.pr (.isC .non false) [ia])) := weakT (pt_cmp (pc_notN ha.o)) (tb_of (isN_tv false ha))
def rIsBc (pos : Bool) : R2 := fun x y H Q => ∃ a b : Bool, x = .bl a ∧ y = .bl b ∧ Q (.bl ((decide (a = b)) == pos)) H
theorem op_isBc : OpR X (compareOp .Is) (rIsBc true) := fun pins s σ H x y v u Q I rx ry ⟨a, b, e1, e2, q⟩ => op_isBl pins s σ H x y v u Q I rx ry ⟨a, b, e1, e2, by
  have : (decide (a = b) == true) = decide (a = b) := by cases decide (a = b) <;> rfl
  rw [this] at q; exact q⟩
theorem op_isntBc : OpR X (compareOp .IsNot) (rIsBc false) := fun pins s σ H x y v u Q I rx ry ⟨a, b, e1, e2, q⟩ => op_notBl pins s σ H x y v u Q I rx ry ⟨a, b, e1, e2, by
  have : (decide (a = b) == false) = !decide (a = b) := by cases decide (a = b) <;> rfl
  rw [this] at q; exact q⟩
theorem isB_tv (n pos' : Bool) (hK : K = X.K) (ha : EOk Φ Mu K fnA EX Wx X a ia) : ∀ σ H Q, TV Φ Mu K fnA EX Wx (.pr (.isC (.bl n) pos') [ia]) σ H Q → tOp (rIsBc pos') (TO Φ Mu K fnA EX Wx ia) (tC (.bl n)) σ H Q := by
  intro σ H Q q
  have := pr1 (isB_ok (X := X) n pos') hK ha σ H Q q
  obtain ⟨C, F, ρ, hC, st, p⟩ := this
  refine ⟨C, F, ρ, hC, st, post_mono p (fun r k => ?_) fun _ _ z => z⟩
  intro v H' h1 h2
  obtain ⟨z, rfl, q⟩ := k v H' h1 h2
  refine ⟨z, n, rfl, rfl, ?_⟩
  have : (z == n) = decide (z = n) := by cases z <;> cases n <;> rfl
  rw [this] at q; exact q
theorem e_isB {n : Bool} {j p2} (hK : K = X.K) (ha : EOk Φ Mu K fnA EX Wx X a ia) : EOk Φ Mu K fnA EX Wx X (.Compare a [.Is] [.Constant (.bool n) j p2] pos) (.pr (.isC (.bl n) true) [ia]) := EOk.of (weakE (pe_cmpR op_isBc ha.o pe_bl (nobehind _ (by decide) (by decide))) (isB_tv n true hK ha)) rfl
theorem e_notB {n : Bool} {j p2} (hK : K = X.K) (ha : EOk Φ Mu K fnA EX Wx X a ia) : EOk Φ Mu K fnA EX Wx X (.Compare a [.IsNot] [.Constant (.bool n) j p2] pos) (.pr (.isC (.bl n) false) [ia]) := EOk.of (weakE (pe_cmpR op_isntBc ha.o pe_bl (nobehind _ (by decide) (by decide))) (isB_tv n false hK ha)) rfl
theorem t_isB {n : Bool} {j p2} (hK : K = X.K) (ha : EOk Φ Mu K fnA EX Wx X a ia) : PT X (.Compare a [.Is] [.Constant (.bool n) j p2] pos) (TB Φ Mu K fnA EX Wx (.pr (.isC (.bl n) true) [ia])) := weakT (pt_cmpR op_isBc ha.o pe_bl (nobehind _ (by decide) (by decide))) (tb_of_tv (isB_tv n true hK ha))
theorem t_notB {n : Bool} {j p2} (hK : K = X.K) (ha : EOk Φ Mu K fnA EX Wx X a ia) : PT X (.Compare a [.IsNot] [.Constant (.bool n) j p2] pos) (TB Φ Mu K fnA EX Wx (.pr (.isC (.bl n) false) [ia])) := weakT (pt_cmpR op_isntBc ha.o pe_bl (nobehind _ (by decide) (by decide))) (tb_of_tv (isB_tv n false hK ha))

theorem post_and {r : Res (D × Env)} {f : D × Env → Res (D × Env)} {k : D × Env → Prop} {er : Nat → D → Prop} (h : post (r.bind f) k er) : post r (fun s => post (f s) k er) er := post_bind h
theorem e_not (ha : EOk Φ Mu K fnA EX Wx X a ia) : EOk Φ Mu K fnA EX Wx X (.UnaryOp .Not a pos) (.not ia) := by
  refine EOk.of (weakE (pe_not ha.v) fun σ H Q q => ?_) rfl
  obtain ⟨C, F, ρ, hC, st, p⟩ := q
  refine ⟨C, F, ρ, hC, st, post_mono (post_bind (show post ((ev Φ Mu ia ρ).bind _) _ _ from p)) (fun r k => ?_) fun _ _ z => z⟩
  obtain ⟨d, ρ1⟩ := r
  intro v H' s
  cases d with
  | bl b =>
    cases item_bl s.good.head
    have k : ∀ v H', StOk C ((v, .bl (!b)) :: F) σ ρ1 H' → Q v H' := k
    exact ⟨b, rfl, k _ _ ⟨s.ok, s.good.tail.bl _⟩⟩
  | _ => exact k.elim
theorem t_not (ha : PT X a (TB Φ Mu K fnA EX Wx ia)) : PT X (.UnaryOp .Not a pos) (TB Φ Mu K fnA EX Wx (.not ia)) := by
  refine weakT (pt_not ha) fun σ H Q q => ?_
  obtain ⟨C, F, ρ, hC, st, p⟩ := q
  refine ⟨C, F, ρ, hC, st, post_mono (post_bind (show post ((ev Φ Mu ia ρ).bind _) _ _ from p)) (fun r k => ?_) fun _ _ z => z⟩
  obtain ⟨d, ρ1⟩ := r
  cases d with
  | bl b =>
    have k : ∃ b', D.bl (!b) = .bl b' ∧ ∀ H', StOk C F σ ρ1 H' → Q b' H' := k
    obtain ⟨b', e, k⟩ := k
    cases e
    exact ⟨b, rfl, fun H' s => k H' s⟩
  | _ => exact k.elim
theorem e_ite (hc : PT X c (TB Φ Mu K fnA EX Wx ic)) (ha : EOk Φ Mu K fnA EX Wx X a ia) (hb : EOk Φ Mu K fnA EX Wx X b ib) : EOk Φ Mu K fnA EX Wx X (.IfExp c a b pos) (.ite ic ia ib) := by
  refine EOk.of (weakE (pe_ifExp hc ha.v hb.v) fun σ H Q q => ?_) rfl
  obtain ⟨C, F, ρ, hC, st, p⟩ := q
  refine ⟨C, F, ρ, hC, st, post_mono (post_bind (show post ((ev Φ Mu ic ρ).bind _) _ _ from p)) (fun r k => ?_) fun _ _ z => z⟩
  obtain ⟨d, ρ1⟩ := r
  cases d with
  | bl b =>
    refine ⟨b, rfl, fun H' s => ?_⟩
    cases b with
    | true => exact ⟨C, F, ρ1, hC, s, k⟩
    | false => exact ⟨C, F, ρ1, hC, s, k⟩
  | _ => exact k.elim
theorem e_and {rest : List Expr} (ha : EOk Φ Mu K fnA EX Wx X a ia) (hb : EOk Φ Mu K fnA EX Wx X (.BoolOp .And (b :: rest) pos) ib) : EOk Φ Mu K fnA EX Wx X (.BoolOp .And (a :: b :: rest) pos) (.and ia ib) := by
  refine EOk.of (weakE (pe_and ha.v hb.v) fun σ H Q q => ?_) rfl
  obtain ⟨C, F, ρ, hC, st, p⟩ := q
  refine ⟨C, F, ρ, hC, st, post_mono (post_bind (show post ((ev Φ Mu ia ρ).bind _) _ _ from p)) (fun r k => ?_) fun _ _ z => z⟩
  obtain ⟨d, ρ1⟩ := r
  intro v H' s
  cases d with
  | bl t =>
    cases item_bl s.good.head
    refine ⟨t, rfl, ?_⟩
    cases t with
    | true => exact ⟨C, F, ρ1, hC, ⟨s.ok, s.good.tail⟩, k⟩
    | false =>
      have k : ∀ v H', StOk C ((v, .bl false) :: F) σ ρ1 H' → Q v H' := k
      exact k _ _ s
  | _ => exact k.elim
theorem e_or {rest : List Expr} (ha : EOk Φ Mu K fnA EX Wx X a ia) (hb : EOk Φ Mu K fnA EX Wx X (.BoolOp .Or (b :: rest) pos) ib) : EOk Φ Mu K fnA EX Wx X (.BoolOp .Or (a :: b :: rest) pos) (.or ia ib) := by
  refine EOk.of (weakE (pe_or ha.v hb.v) fun σ H Q q => ?_) rfl
  obtain ⟨C, F, ρ, hC, st, p⟩ := q
  refine ⟨C, F, ρ, hC, st, post_mono (post_bind (show post ((ev Φ Mu ia ρ).bind _) _ _ from p)) (fun r k => ?_) fun _ _ z => z⟩
  obtain ⟨d, ρ1⟩ := r
  intro v H' s
  cases d with
  | bl t =>
    cases item_bl s.good.head
    refine ⟨t, rfl, ?_⟩
    cases t with
    | false => exact ⟨C, F, ρ1, hC, ⟨s.ok, s.good.tail⟩, k⟩
    | true =>
      have k : ∀ v H', StOk C ((v, .bl true) :: F) σ ρ1 H' → Q v H' := k
      exact k _ _ s
  | _ => exact k.elim
theorem e_one {op : BoolOp} (ha : EOk Φ Mu K fnA EX Wx X a ia) : EOk Φ Mu K fnA EX Wx X (.BoolOp op [a] pos) ia := ⟨pe_one ha.v, pe_one ha.o⟩
theorem w_and {rest : List Expr} (ha : PT X a (TB Φ Mu K fnA EX Wx ia)) (hb : PW X (.BoolOp .And (b :: rest) pos) (TB Φ Mu K fnA EX Wx ib)) : PW X (.BoolOp .And (a :: b :: rest) pos) (TB Φ Mu K fnA EX Wx (.and ia ib)) := by
  refine weakW (pw_and ha hb) fun σ H Q q => ?_
  obtain ⟨C, F, ρ, hC, st, p⟩ := q
  refine ⟨C, F, ρ, hC, st, post_mono (post_bind (show post ((ev Φ Mu ia ρ).bind _) _ _ from p)) (fun r k => ?_) fun _ _ z => z⟩
  obtain ⟨d, ρ1⟩ := r
  cases d with
  | bl t =>
    refine ⟨t, rfl, fun H' s => ?_⟩
    cases t with
    | true => exact ⟨C, F, ρ1, hC, s, k⟩
    | false =>
      have k : ∃ b', D.bl false = .bl b' ∧ ∀ H', StOk C F σ ρ1 H' → Q b' H' := k
      obtain ⟨b', e, k⟩ := k
      cases e
      exact k H' s
  | _ => exact k.elim
theorem w_or {rest : List Expr} (ha : PT X a (TB Φ Mu K fnA EX Wx ia)) (hb : PW X (.BoolOp .Or (b :: rest) pos) (TB Φ Mu K fnA EX Wx ib)) : PW X (.BoolOp .Or (a :: b :: rest) pos) (TB Φ Mu K fnA EX Wx (.or ia ib)) := by
  refine weakW (pw_or ha hb) fun σ H Q q => ?_
  obtain ⟨C, F, ρ, hC, st, p⟩ := q
  refine ⟨C, F, ρ, hC, st, post_mono (post_bind (show post ((ev Φ Mu ia ρ).bind _) _ _ from p)) (fun r k => ?_) fun _ _ z => z⟩
  obtain ⟨d, ρ1⟩ := r
  cases d with
  | bl t =>
    refine ⟨t, rfl, fun H' s => ?_⟩
    cases t with
    | false => exact ⟨C, F, ρ1, hC, s, k⟩
    | true =>
      have k : ∃ b', D.bl true = .bl b' ∧ ∀ H', StOk C F σ ρ1 H' → Q b' H' := k
      obtain ⟨b', e, k⟩ := k
      cases e
      exact k H' s
  | _ => exact k.elim
end
end QE
namespace QE
open PySem L2 PySem.Spec PyProof.Rows
section
variable {Φ : Calls} {Mu : Muts} {K : PySem.W.Frag} {fnA : FA} {EX : EC} {Wx : WX} {X : Cx} {e a b c : Expr} {ia ib ic ie : IE} {pos : Pos} {i : Nat} {x : Str}

theorem shareR_ok {d d' : D} (h : shareR d = .ok d') : isM d = false ∧ d' = share d := by
  unfold shareR at h
  split at h
  · cases h
  · rename_i c
    cases h
    exact ⟨by simpa using c, rfl⟩
theorem post_share {d : D} {β : Type} {f : D → Res β} {k : β → Prop} {er : Nat → D → Prop} (h : post ((shareR d).bind f) k er) : isM d = false ∧ post (f (share d)) k er := by
  unfold shareR at h
  split at h
  · exact h.elim
  · rename_i c
    exact ⟨by simpa using c, h⟩
theorem pa_vs_nil : PA X [] (TVs Φ Mu K fnA EX Wx []) := weakA pa_nil fun σ H Q q => by
  obtain ⟨C, F, ρ, hC, st, p⟩ := q
  have p : ∀ vs H', vs.length = 0 → StOk C (vs.zip [] ++ F) σ ρ H' → Q vs H' := p
  exact p [] H rfl st
theorem pa_vs_cons {es : List Expr} {ies : List IE} (h : EOk Φ Mu K fnA EX Wx X e ie) (hr : PA X es (TVs Φ Mu K fnA EX Wx ies)) (hs : ∀ z p, e ≠ .Starred z p) : PA X (e :: es) (TVs Φ Mu K fnA EX Wx (ie :: ies)) := by
  refine weakA (pa_cons h.v hr (star_free hs)) fun σ H Q q => ?_
  obtain ⟨C, F, ρ, hC, st, p⟩ := q
  have p : post ((ev Φ Mu ie ρ).bind fun r => (shareR r.1).bind fun d' => (evs Φ Mu ies r.2).bind fun s => .ok (d' :: s.1, s.2)) _ _ := p
  refine ⟨C, F, ρ, hC, st, post_mono (post_bind p) (fun r k => ?_) fun _ _ z => z⟩
  intro v H1 st1
  obtain ⟨hm, k⟩ := post_share k
  have st2 : StOk C ((v, share r.1) :: F) σ r.2 H1 := ⟨st1.ok, st1.good.share1 hm⟩
  refine ⟨C, _, r.2, hC, st2, post_mono (post_bind k) (fun s k2 => ?_) fun _ _ z => z⟩
  intro vs H2 hl st3
  refine k2 (v :: vs) H2 (by simp [hl]) (st3.permF ?_)
  show (vs.zip s.1 ++ (v, share r.1) :: F).Perm ((v, share r.1) :: (vs.zip s.1 ++ F))
  exact List.perm_middle
theorem repL_of {C : RC} {σ : L2.St} {ρ : Env} {H : Hp} : ∀ {vs : List V} {ds : List D} {G : List (V × D)}, Good C G H → (∀ d ∈ ds, NotOwn d) → vs.length = ds.length → (∀ x ∈ vs.zip ds, x ∈ G) → RepL C (roots G) H vs ds
  | [], [], G, g, _, _, _ => .nil
  | [], _ :: _, _, _, _, h, _ => by cases h
  | _ :: _, [], _, _, _, h, _ => by cases h
  | v :: vs, d :: ds, G, g, hn, hl, hG => by
    refine .cons ?_ (repL_of (σ := σ) (ρ := ρ) g (fun d hd => hn d (List.mem_cons_of_mem _ hd)) (by simpa using hl) fun x hx => hG x (by simp [hx]))
    have := g.ok _ (hG (v, d) (by simp))
    rwa [item_not (hn d List.mem_cons_self)] at this
theorem evs_not : ∀ {es : List IE} {ρ : Env} {r : List D × Env}, evs Φ Mu es ρ = .ok r → ∀ d ∈ r.1, NotOwn d
  | [], ρ, r, h => by cases h; intro d hd; cases hd
  | e :: es, ρ, r, h => by
    have h : ((ev Φ Mu e ρ).bind fun r => (shareR r.1).bind fun d' => (evs Φ Mu es r.2).bind fun s => Res.ok (d' :: s.1, s.2)) = .ok r := h
    cases h1 : ev Φ Mu e ρ with
    | err c x => rw [h1] at h; cases h
    | bad => rw [h1] at h; cases h
    | ok o =>
      rw [h1] at h
      have h : ((shareR o.1).bind fun d' => (evs Φ Mu es o.2).bind fun s => Res.ok (d' :: s.1, s.2)) = .ok r := h
      cases h2 : shareR o.1 with
      | err c x => rw [h2] at h; cases h
      | bad => rw [h2] at h; cases h
      | ok d' =>
        rw [h2] at h
        have h : ((evs Φ Mu es o.2).bind fun s => Res.ok (d' :: s.1, s.2)) = .ok r := h
        cases h3 : evs Φ Mu es o.2 with
        | err c x => rw [h3] at h; cases h
        | bad => rw [h3] at h; cases h
        | ok s =>
          rw [h3] at h
          cases h
          intro d hd
          rcases List.mem_cons.mp hd with rfl | hd
          · obtain ⟨hm, rfl⟩ := shareR_ok h2
            exact share_not hm
          · exact evs_not h3 d hd
theorem disp_end {es : List IE} {C : RC} {F : List (V × D)} {σ : L2.St} {ρ : Env} {H : Hp} {k : List D × Env → Prop} {er : Nat → D → Prop} (p : post (evs Φ Mu es ρ) k er) : post (evs Φ Mu es ρ) (fun r => k r ∧ ∀ d ∈ r.1, NotOwn d) er := by
  cases h : evs Φ Mu es ρ with
  | ok r => rw [h] at p; exact ⟨p, evs_not h⟩
  | err c x => rw [h] at p; exact p
  | bad => rw [h] at p; exact p
theorem zip_drop {vs : List V} {ds : List D} {F S : List (V × D)} {x : V × D} : (x :: (F ++ S)).Sublist (x :: (vs.zip ds ++ F ++ S)) := by
  refine List.Sublist.cons_cons _ ?_
  rw [List.append_assoc]
  exact List.sublist_append_right _ _
theorem e_tup {es : List Expr} {ies : List IE} {k : Nat} (h : PA X es (TVs Φ Mu K fnA EX Wx ies)) : EOk Φ Mu K fnA EX Wx X (.Tuple es k pos) (.tup ies) := by
  refine EOk.of (weakE (pe_tup h) fun σ H Q q => ?_) rfl
  obtain ⟨C, F, ρ, hC, st, p⟩ := q
  have p : post ((evs Φ Mu ies ρ).bind fun r => (limT r.1).bind fun d => .ok (d, r.2)) _ _ := p
  refine ⟨C, F, ρ, hC, st, post_mono (disp_end (C := C) (F := F) (σ := σ) (H := H) (post_bind p)) (fun r k => ?_) fun _ _ z => z⟩
  obtain ⟨k, hn⟩ := k
  intro vs H1 hl st1
  unfold limT at k
  split at k
  · rename_i c
    refine ⟨by rw [hl, sizeLine_LIM]; exact Nat.le_of_ble_eq_true c, fun p hp => ?_⟩
    have g := st1.good
    have := g.newT (repL_of (σ := σ) (ρ := ρ) g hn hl fun x hx => List.mem_append_left _ (List.mem_append_left _ hx)) hp
    have k : ∀ v H', StOk C ((v, .tup r.1) :: F) σ r.2 H' → Q v H' := k
    exact k _ _ ⟨st1.ok, this.sub zip_drop⟩
  · exact k.elim
theorem e_lst {es : List Expr} {ies : List IE} (h : PA X es (TVs Φ Mu K fnA EX Wx ies)) : EOk Φ Mu K fnA EX Wx X (.List es pos) (.lst ies) := by
  refine EOk.of (weakE (pe_lst h) fun σ H Q q => ?_) rfl
  obtain ⟨C, F, ρ, hC, st, p⟩ := q
  have p : post ((evs Φ Mu ies ρ).bind fun r => (limL r.1).bind fun d => .ok (d, r.2)) _ _ := p
  refine ⟨C, F, ρ, hC, st, post_mono (disp_end (C := C) (F := F) (σ := σ) (H := H) (post_bind p)) (fun r k => ?_) fun _ _ z => z⟩
  obtain ⟨k, hn⟩ := k
  intro vs H1 hl st1
  unfold limL at k
  split at k
  · rename_i c
    refine ⟨by rw [hl, sizeLine_LIM]; exact Nat.le_of_ble_eq_true c, fun p hp => ?_⟩
    have g := st1.good
    have := g.newL (repL_of (σ := σ) (ρ := ρ) g hn hl fun x hx => List.mem_append_left _ (List.mem_append_left _ hx)) hp
    have k : ∀ v H', StOk C ((v, .lst .own r.1) :: F) σ r.2 H' → Q v H' := k
    exact k _ _ ⟨st1.ok, this.sub zip_drop⟩
  · exact k.elim

theorem plainIx {b : Expr} (h : ∀ lo hi p, b ≠ .Slice lo hi none p) : PlainIx b := by
  intro o i
  cases b <;> first
    | rfl
    | (rename_i lo hi st p
       cases st with
       | none => exact absurd rfl (h _ _ _)
       | some s => rfl)
theorem ix_dict (hu : X.A.units + 1 < cLine) : IxR X (fun x y H Q => ∃ a v, x = .ref a ∧ DGet H a y (some v) ∧ Q v H) := by
  intro value slice pins s σ H x y v u Q I rx ry h hs
  obtain ⟨a, w, rfl, g, q⟩ := h
  obtain rfl : v = Value.ref a := rx
  have hT := dict_typeIs I g
  unfold subscriptTail
  refine wpAny_bind ?_
  rw [getitemInPython_of_ne hT.not_modules]
  refine wpAny_bind (wpAny_specialOf hT PySem.F.slot_dict_getitem.lookup ?_)
  have fin : wpAny (model X.prog X.w) X.A (subscripted slice false (.ref a) u) (fun r s₃ => wpAny (model X.prog X.w) X.A (letTemporaryGo value (.ref a) r >>= fun _ => pure r) (EP X pins σ Q) X.xe s₃) X.xe s := by
    rw [hs]
    exact wpAny_operating (wpAny_mono (d_getItem hu I g ry (Q := fun w' s' => Inv X pins σ H s' ∧ RelV w w') fun w' s3 I3 rw' => ⟨I3, rw'⟩) (fun r s₃ ⟨I3, rw'⟩ => wpAny_bind (wpAny_letTemporaryGo (wpAny_pure ⟨w, H, I3, rw', q⟩))) fun _ _ x => x)
  first
    | exact wpAny_pure (wpAny_bind fin)
    | exact wpAny_pure fin
    | (refine wpAny_pure ?_; exact wpAny_bind fin)
theorem ix_all (hu : X.A.units + 1 < cLine) : IxR X (rIxAll X.K) := ix_list.or (ix_tup.or (ix_str.or (ix_dict hu)))
theorem e_ix (hu : X.A.units + 1 < cLine) (hK : K = X.K) (ha : EOk Φ Mu K fnA EX Wx X a ia) (hb : EOk Φ Mu K fnA EX Wx X b ib) (h : ∀ lo hi p, b ≠ .Slice lo hi none p) : EOk Φ Mu K fnA EX Wx X (.Subscript a b pos) (.pr .ix [ia, ib]) :=
  EOk.of (weakE (pe_ix (ix_all hu) ha.o hb.o (plainIx h)) (pr2 ix_ok hK ha hb)) rfl

theorem e_sl00 {p2 : Pos} (hK : K = X.K) (ha : EOk Φ Mu K fnA EX Wx X a ia) : EOk Φ Mu K fnA EX Wx X (.Subscript a (.Slice none none none p2) pos) (.pr (.sl false false) [ia]) := by
  refine EOk.of (weakE (pe_slice sl_all ha.o po_none po_none) fun σ H Q q => ?_) rfl
  obtain ⟨C, F, ρ, hC, st, p0⟩ := q
  refine ⟨C, F, ρ, hC, st, post_mono (post_cons (ev_pr p0)) (fun r1 k1 => ?_) fun _ _ z => z⟩
  intro v1 H1 a1 st1
  obtain ⟨ds, d, e1, hp, fin⟩ := pr_end (vs := [v1]) (os := [r1.1]) rfl (post_nil k1) ⟨a1, trivial⟩ (by simpa [opIs] using st1)
  obtain ⟨y1, d1, ey, rfl, h1⟩ := one hp rfl
  cases ey
  exact slice_ok (hC.K.trans hK) (by simpa [opIs] using st1.good) h1 e1 fin
theorem e_rev {kd : Nat} {p1 p2 p3 : Pos} (hK : K = X.K) (ha : EOk Φ Mu K fnA EX Wx X a ia) : EOk Φ Mu K fnA EX Wx X (.Subscript a (.Slice none none (some (.UnaryOp .USub (.Constant (.int 1) kd p1) p2)) p3) pos) (.pr .rev [ia]) := by
  refine EOk.of (weakE (pe_revA ha.o) fun σ H Q q => ?_) rfl
  obtain ⟨C, F, ρ, hC, st, p0⟩ := q
  refine ⟨C, F, ρ, hC, st, post_mono (post_cons (ev_pr p0)) (fun r1 k1 => ?_) fun _ _ z => z⟩
  intro v1 H1 a1 st1
  obtain ⟨ds, d, e1, hp, fin⟩ := pr_end (vs := [v1]) (os := [r1.1]) rfl (post_nil k1) ⟨a1, trivial⟩ (by simpa [opIs] using st1)
  obtain ⟨y1, d1, ey, rfl, h1⟩ := one hp rfl
  cases ey
  have g : Good C (opI v1 r1.1 ++ F ++ sl σ r1.2) H1 := by simpa [opIs] using st1.good
  cases d1 with
  | lst f xs =>
    obtain ⟨l, vs, rfl, hl, rl⟩ := item_lst h1
    cases e1
    refine .inl ⟨l, vs, rfl, .inl hl, fun p hp => fin _ _ ?_⟩
    simpa [opIs] using g.newL rl.rev hp
  | str xs =>
    cases item_str h1
    have e1 : (if Nat.ble xs.reverse.length LIM then Res.ok (D.str xs.reverse) else .bad) = .ok d := e1
    split at e1
    · rename_i c
      cases e1
      have hz : (⟨xs.toArray⟩ : Str).length ≤ sizeLine := by
        show xs.toArray.size ≤ _
        rw [List.size_toArray, sizeLine_LIM, ← List.length_reverse]
        exact Nat.le_of_ble_eq_true c
      refine .inr (.inl ⟨_, rfl, hz, ?_⟩)
      refine fin _ _ ?_
      have := g.str (xs.reverse)
      simpa [opIs, revS] using this
    · cases e1
  | tup xs =>
    obtain ⟨l, vs, rfl, hl, rl⟩ := item_tup h1
    cases e1
    refine .inr (.inr ⟨l, vs, rfl, .inl (.inl hl), fun p hp => fin _ _ ?_⟩)
    simpa [opIs] using g.newT rl.rev hp
  | _ => cases e1
theorem sl1_arg {lo : Bool} {x y d : D} (h : prim (if lo then .sl true false else .sl false true) [x, y] = .ok d) : ∃ i, y = .int i ∧ sliceD x (if lo then some i else none) (if lo then none else some i) = .ok d := by
  cases lo <;> (cases y <;> first | exact ⟨_, rfl, h⟩ | cases h)
theorem sl1_tv (lo : Bool) (hK : K = X.K) (ha : EOk Φ Mu K fnA EX Wx X a ia) (hb : EOk Φ Mu K fnA EX Wx X b ib) : ∀ σ H Q, TV Φ Mu K fnA EX Wx (.pr (if lo then .sl true false else .sl false true) [ia, ib]) σ H Q →
    (if lo then tSl (rSlAll X.K) (TO Φ Mu K fnA EX Wx ia) (tPart (TO Φ Mu K fnA EX Wx ib)) tNoPart else tSl (rSlAll X.K) (TO Φ Mu K fnA EX Wx ia) tNoPart (tPart (TO Φ Mu K fnA EX Wx ib))) σ H Q := by
  intro σ H Q q
  obtain ⟨C, F, ρ, hC, st, p0⟩ := q
  have go : TO Φ Mu K fnA EX Wx ia σ H fun v1 H1 => TO Φ Mu K fnA EX Wx ib σ H1 fun v2 H2 => ∃ i, v2 = .int i ∧ rSlAll X.K v1 (if lo then some i else none) (if lo then none else some i) H2 Q := by
    refine ⟨C, F, ρ, hC, st, post_mono (post_cons (ev_pr p0)) (fun r1 k1 => ?_) fun _ _ z => z⟩
    intro v1 H1 a1 st1
    refine ⟨C, opI v1 r1.1 ++ F, r1.2, hC, st1, post_mono (post_cons k1) (fun r2 k2 => ?_) fun _ _ z => z⟩
    intro v2 H2 a2 st2
    have st3 : StOk C (opIs [v1, v2] [r1.1, r2.1] ++ F) σ r2.2 H2 := by
      show StOk C (([] ++ opI v2 r2.1) ++ opI v1 r1.1 ++ F) σ r2.2 H2
      rw [List.nil_append, List.append_assoc]
      exact st2
    obtain ⟨ds, d, e1, hp, fin⟩ := pr_end (vs := [v1, v2]) (os := [r1.1, r2.1]) rfl k2 ⟨a1, a2, trivial⟩ st3
    obtain ⟨y1, y2, d1, d2, ey, rfl, h1, h2⟩ := two hp rfl
    cases ey
    obtain ⟨i, rfl, e2⟩ := sl1_arg e1
    exact ⟨i, item_int h2, slice_ok (hC.K.trans hK) st3.good h1 e2 fin⟩
  cases lo with
  | true => exact go
  | false => exact go
theorem e_sl10 {p2 : Pos} (hK : K = X.K) (ha : EOk Φ Mu K fnA EX Wx X a ia) (hb : EOk Φ Mu K fnA EX Wx X b ib) : EOk Φ Mu K fnA EX Wx X (.Subscript a (.Slice (some b) none none p2) pos) (.pr (.sl true false) [ia, ib]) :=
  EOk.of (weakE (pe_slice sl_all ha.o (po_some hb.o) po_none) (sl1_tv true hK ha hb)) rfl
theorem e_sl01 {p2 : Pos} (hK : K = X.K) (ha : EOk Φ Mu K fnA EX Wx X a ia) (hb : EOk Φ Mu K fnA EX Wx X b ib) : EOk Φ Mu K fnA EX Wx X (.Subscript a (.Slice none (some b) none p2) pos) (.pr (.sl false true) [ia, ib]) :=
  EOk.of (weakE (pe_slice sl_all ha.o po_none (po_some hb.o)) (sl1_tv false hK ha hb)) rfl
theorem e_sl11 {p2 : Pos} (hK : K = X.K) (ha : EOk Φ Mu K fnA EX Wx X a ia) (hb : EOk Φ Mu K fnA EX Wx X b ib) (hc : EOk Φ Mu K fnA EX Wx X c ic) : EOk Φ Mu K fnA EX Wx X (.Subscript a (.Slice (some b) (some c) none p2) pos) (.slc ia ib ic) := by
  refine EOk.of (weakE (pe_slice sl_all ha.o (po_some hb.v) (po_some hc.v)) fun σ H Q q => ?_) rfl
  obtain ⟨C, F, ρ, hC, st, p0⟩ := q
  refine ⟨C, F, ρ, hC, st, post_mono (post_bind (show post ((evO Φ Mu ia ρ).bind _) _ _ from p0)) (fun r1 k1 => ?_) fun _ _ z => z⟩
  intro v1 H1 a1 st1
  refine ⟨C, opI v1 r1.1 ++ F, r1.2, hC, st1, post_mono (post_bind (show post ((ev Φ Mu ib r1.2).bind _) _ _ from k1)) (fun r2 k2 => ?_) fun _ _ z => z⟩
  intro v2 H2 st2
  obtain ⟨d2, ρ2⟩ := r2
  cases d2 with
  | int i =>
    cases item_int st2.good.head
    refine ⟨i, rfl, ?_⟩
    refine ⟨C, opI v1 r1.1 ++ F, ρ2, hC, ⟨st2.ok, st2.good.tail⟩, post_mono (post_bind (show post ((ev Φ Mu ic ρ2).bind _) _ _ from k2)) (fun r3 k3 => ?_) fun _ _ z => z⟩
    intro v3 H3 st3
    obtain ⟨d3, ρ3⟩ := r3
    cases d3 with
    | int j =>
      cases item_int st3.good.head
      refine ⟨j, rfl, ?_⟩
      have st4 : StOk C (opI v1 r1.1 ++ F) σ ρ3 H3 := ⟨st3.ok, st3.good.tail⟩
      have k3 : post (match r1.1.get ρ3 with | some x => (noErr (sliceD x (some i) (some j))).bind fun d => .ok (d, ρ3) | none => .bad) _ _ := k3
      cases e : r1.1.get ρ3 with
      | none => rw [e] at k3; exact k3.elim
      | some x =>
        rw [e] at k3
        simp only at k3
        cases e2 : sliceD x (some i) (some j) with
        | ok d =>
          rw [e2] at k3
          have k3 : ∀ v H', StOk C ((v, d) :: F) σ ρ3 H' → Q v H' := k3
          have hx := opI_mem r1.1 e a1 st4.ok (F := opI v1 r1.1 ++ F) fun x hx => List.mem_append_left _ hx
          refine slice_ok (hC.K.trans hK) st4.good (st4.good.ok _ hx) e2 fun v H' g => k3 v H' ⟨st4.ok, g.sub ?_⟩
          refine List.Sublist.cons_cons _ ?_
          rw [List.append_assoc]
          exact List.sublist_append_right _ _
        | err c x => rw [e2] at k3; exact k3.elim
        | bad => rw [e2] at k3; exact k3.elim
    | _ => exact k3.elim
  | _ => exact k2.elim
theorem e_blt {id : String} {p : Pr} {r : List V → Hp → VK → Prop} {es : List Expr} {ies : List IE} {n : Nat} {pf : Pos} (hc : CallR X (.builtin id) r) (hr : CRok X r p n) (hn : ies.length = n) (hK : K = X.K) (hg : Gl X x) (hm : X.mg x = none) (hv : bootBuiltins x = some (.builtin id))
    (ha : PA X (e :: es) (TOs Φ Mu K fnA EX Wx ies)) (h1 : x ≠ "__name__") (h2 : (x == ("__debug__" : Str)) = false) (h3 : starEach (e :: es) X.env = (false, eval e X.env) :: starEach es X.env) (h4 : (backTo pos (starEach es X.env)).any (·.1) = false) :
    EOk Φ Mu K fnA EX Wx X (.Call (.Name x pf) (e :: es) [] pos) (.pr p ies) := EOk.of (weakE (pe_callB hc hg hm hv ha h1 h2 h3 h4) (prn hn hr hK)) rfl
theorem e_bty {T : String} {p : Pr} {r : List V → Hp → VK → Prop} {es : List Expr} {ies : List IE} {n : Nat} {pf : Pos} (hc : CallR X (.type T) r) (hr : CRok X r p n) (hn : ies.length = n) (hK : K = X.K) (hg : Gl X x) (hm : X.mg x = none) (hv : bootBuiltins x = some (.type T))
    (ha : PA X (e :: es) (TOs Φ Mu K fnA EX Wx ies)) (h1 : x ≠ "__name__") (h2 : (x == ("__debug__" : Str)) = false) (h3 : starEach (e :: es) X.env = (false, eval e X.env) :: starEach es X.env) (h4 : (backTo pos (starEach es X.env)).any (·.1) = false) :
    EOk Φ Mu K fnA EX Wx X (.Call (.Name x pf) (e :: es) [] pos) (.pr p ies) := EOk.of (weakE (pe_callTy hc hg hm hv ha h1 h2 h3 h4) (prn hn hr hK)) rfl
end
end QE
namespace QE
open PySem L2 PySem.Spec PyProof.Rows

def TyH (X : Cx) (T : String) (x : V) (H : Hp) : Prop := ∀ (pins : List (Addr × Obj)) (s : Shared) (σ : L2.St) (v : Value), Inv X pins σ H s → RelV x v → s.TypeIs v T ∧ ∀ a, v = .ref a → ∃ ob, s.heap.get? a = some ob ∧ ob.dict = none
def tBMA (X : Cx) (name : Str) (to : TE) (t : TA) : TE := fun σ H Q => to σ H fun x H1 => ∃ (T id : String) (r : L2.St → V → List V → Hp → VK → Prop), PlainAttrs T ∧ Slot T name id ∧ typeOf (.builtin id) = pure (.type "method_descriptor") ∧ MtS X id r ∧ TyH X T x H1 ∧ t σ H1 fun xs H2 => r σ x xs H2 Q
theorem pe_bmA {X : Cx} {o e : Expr} {es : List Expr} {name : Str} {apos cpos : Pos} {to : TE} {t : TA} (ho : PE X o to) (ha : PA X (e :: es) t)
    (hbase : attributeBase o name X.env (eval o X.env) = eval o X.env)
    (hfew : ((backTo cpos (starEach (e :: es) X.env)).all (fun x => !x.1) && (backToKw cpos (keywordEach [] X.env)).all (fun x => x.1.isSome)
      && decide ((e :: es).length + ([] : List Keyword).length + (if ([] : List Keyword).isEmpty then 0 else 1) < 30)) = true)
    (hline : (apos.endLine == cpos.line) = true) (hs : starEach (e :: es) X.env = (false, eval e X.env) :: starEach es X.env) (hplain : (backTo cpos (starEach es X.env)).any (·.1) = false) :
    PE X (.Call (.Attribute o name apos) (e :: es) [] cpos) (tBMA X name to t) := by
  refine ⟨fun pins s σ H Q I h => ?_⟩
  refine wpAny_Call_method_late hbase hfew hline rfl (thn (ho.run pins s σ H _ I h) fun v s1 ⟨x, H1, I1, r1, T, id, r, pa, slot, hty, hm, ty, q1⟩ => ?_)
  obtain ⟨h1, h2⟩ := ty pins s1 σ v I1 r1
  refine ⟨T, id, pa, slot, hty, h1, h2, ?_⟩
  have hA := ha.run cpos pins s1 σ H1 _ I1 q1
  rw [hs] at hA ⊢
  refine Calls.callWith_builtin (by show (false || (backTo cpos (starEach es X.env)).any (·.1)) = false; rw [hplain] <;> rfl) (Calls.evalArgs_plain ?_)
  exact thn hA fun us s2 ⟨vs, H2, I2, r2, q2⟩ => hm pins s2 σ H2 x vs v us Q I2 r1 r2 q2

section
variable {X : Cx} {C : RC} {O : List Addr} {H : Hp}
theorem ty_str {z : Str} : TyH X "str" (.str z) H := fun pins s σ v I r => tyV_is I r rfl
theorem ty_lst {a : Addr} {xs : List V} (h : Rd H a (.lst xs)) : TyH X "list" (.ref a) H := fun pins s σ v I r => tyV_is I r (.inl ⟨rfl, xs, .inl h⟩)
theorem ty_dic {a : Addr} (h : IsD H a) : TyH X "dict" (.ref a) H := fun pins s σ v I r => by
  cases r
  obtain ⟨h1, h2, _⟩ := isD_at I h
  exact ⟨h1, h2⟩
theorem isD_of {a : Addr} {t : Bool} {l : List (D × V)} (h : DH H a t l) : IsD H a := by
  cases h with
  | k r _ => exact .inl ⟨_, r⟩
  | t r _ => exact .inr ⟨_, r⟩
end

theorem sub1 (l : List Nat) (c i : Nat) : Builtin.Str.subAt ⟨l.toArray⟩ ⟨#[c]⟩ i = decide (l[i]? = some c) := by
  unfold Builtin.Str.subAt
  have e1 : (⟨#[c]⟩ : Str).length = 1 := rfl
  rw [e1]
  have e2 : l.toArray.extract i (i + 1) = (match l[i]? with | some x => #[x] | none => #[]) := by
    apply Array.toList_inj.mp
    simp only [Array.toList_extract, List.extract_eq_take_drop]
    cases h : l[i]? with
    | none =>
      have := List.getElem?_eq_none_iff.mp h
      simp [List.drop_eq_nil_iff.mpr this]
    | some x =>
      obtain ⟨hi, e⟩ := List.getElem?_eq_some_iff.mp h
      rw [show i + 1 - i = 1 by omega, List.drop_eq_getElem_cons hi, e]
      simp
  show (l.toArray.extract i (i + 1) == #[c]) = _
  rw [e2]
  cases l[i]? with
  | none => simp
  | some x => by_cases h : x = c <;> simp [h]
theorem occ1 (l : List Nat) (c : Nat) (limit : Nat) : ∀ (n : Nat) (i : Nat) (acc : Array Nat) (free : Nat), i + n = l.length + 1 → free ≤ i → acc.size + n ≤ limit →
    (forIn (m := Id) (List.range' i n) (acc, free) (StrLaws.occBody ⟨l.toArray⟩ ⟨#[c]⟩ l.length limit)).run.fst.toList = acc.toList ++ ((List.range' i n).filter fun j => decide (l[j]? = some c))
  | 0, i, acc, free, _, _, _ => by
    show acc.toList = _
    simp
  | n + 1, i, acc, free, h, hf, hl => by
    rw [List.range'_succ, List.forIn_cons]
    have hlen : (⟨#[c]⟩ : Str).length = 1 := rfl
    by_cases hc : l[i]? = some c
    · obtain ⟨hi, _⟩ := List.getElem?_eq_some_iff.mp hc
      have : StrLaws.occBody ⟨l.toArray⟩ ⟨#[c]⟩ l.length limit i (acc, free) = pure (ForInStep.yield (acc.push i, i + 1)) := by
        unfold StrLaws.occBody
        have hcond : (((acc, free).fst.size < limit ∧ (acc, free).snd ≤ i) ∧ i + (⟨#[c]⟩ : Str).length ≤ l.length) ∧ Builtin.Str.subAt ⟨l.toArray⟩ ⟨#[c]⟩ i = true :=
          And.intro (And.intro (And.intro (show acc.size < limit by omega) hf) (by rw [hlen]; omega)) (by rw [sub1]; exact decide_eq_true hc)
        rw [if_pos hcond]
        rfl
      rw [this]
      refine (occ1 l c limit n (i + 1) (acc.push i) (i + 1) (by omega) (Nat.le_refl _) (by simp; omega)).trans ?_
      rw [List.filter_cons, if_pos (by simpa using hc)]
      simp
    · have : StrLaws.occBody ⟨l.toArray⟩ ⟨#[c]⟩ l.length limit i (acc, free) = pure (ForInStep.yield (acc, free)) := by
        unfold StrLaws.occBody
        rw [if_neg]
        rintro ⟨_, z⟩
        rw [sub1] at z
        exact hc (of_decide_eq_true z)
      rw [this]
      refine (occ1 l c limit n (i + 1) acc free (by omega) (by omega) (by omega)).trans ?_
      rw [List.filter_cons, if_neg (by simpa using hc)]
theorem filt_count (c : Nat) : ∀ (l p : List Nat), ((List.range' p.length (l.length + 1)).filter fun j => decide ((p ++ l)[j]? = some c)).length = cntN c l
  | [], p => by simp [cntN]
  | x :: r, p => by
    rw [List.length_cons, List.range'_succ, List.filter_cons]
    have ih := filt_count c r (p ++ [x])
    rw [List.length_append, List.length_singleton, List.append_assoc, List.singleton_append] at ih
    have e : (p ++ x :: r)[p.length]? = some x := by simp
    unfold cntN
    by_cases h : x = c
    · subst h
      rw [if_pos (by simp), List.length_cons, ih, if_pos (Nat.beq_refl x)]
    · rw [if_neg (by simp [h]), ih]
      have : ¬ Nat.beq x c = true := fun z => h (Nat.eq_of_beq_eq_true z)
      rw [if_neg this]
theorem count1 (l : List Nat) (c : Nat) : Txt.count ⟨l.toArray⟩ ⟨#[c]⟩ = (cntN c l : Nat) := by
  unfold Txt.count
  rw [str_len, StrLaws.occ_eq, Nat.sub_zero]
  have := occ1 l c (l.length + 1) (l.length + 1) 0 #[] 0 (by omega) (Nat.le_refl _) (by simp)
  rw [this]
  have h2 := filt_count c l []
  simp only [List.nil_append, List.length_nil] at h2
  rw [show (#[] : Array Nat).toList = [] from rfl, List.nil_append, h2]
theorem idxN_some (c : Nat) : ∀ (l : List Nat) (n k : Nat), idxN c n l = some k → ∃ j, k = n + j ∧ l[j]? = some c ∧ ∀ m, m < j → l[m]? ≠ some c
  | [], n, k, h => by cases h
  | x :: r, n, k, h => by
    unfold idxN at h
    split at h
    · rename_i e
      cases h
      exact ⟨0, rfl, by rw [Nat.eq_of_beq_eq_true e]; rfl, fun m hm => absurd hm (Nat.not_lt_zero m)⟩
    · rename_i e
      obtain ⟨j, rfl, h1, h2⟩ := idxN_some c r (n + 1) k h
      refine ⟨j + 1, by omega, by simpa using h1, fun m hm => ?_⟩
      cases m with
      | zero =>
        intro z
        simp at z
        exact e (by rw [z]; exact Nat.beq_refl c)
      | succ m => simpa using h2 m (by omega)
theorem index1 (l : List Nat) (c k : Nat) (h : idxN c 0 l = some k) : Txt.index0 ⟨l.toArray⟩ ⟨#[c]⟩ = some k := by
  obtain ⟨j, e, h1, h2⟩ := idxN_some c l 0 k h
  have e : k = j := by omega
  subst e
  obtain ⟨hi, _⟩ := List.getElem?_eq_some_iff.mp h1
  unfold Txt.index0
  rw [StrLaws.occ_eq, Nat.sub_zero, str_len]
  have hlen : (⟨#[c]⟩ : Str).length = 1 := rfl
  have stop : ∀ (n i : Nat) (acc : Array Nat) (free : Nat), acc.size = 1 → (forIn (m := Id) (List.range' i n) (acc, free) (StrLaws.occBody ⟨l.toArray⟩ ⟨#[c]⟩ l.length 1)).run.fst = acc := by
    intro n
    induction n with
    | zero => intro i acc free _; rfl
    | succ n ih =>
      intro i acc free ha
      rw [List.range'_succ, List.forIn_cons]
      have : StrLaws.occBody ⟨l.toArray⟩ ⟨#[c]⟩ l.length 1 i (acc, free) = pure (ForInStep.yield (acc, free)) := by
        unfold StrLaws.occBody
        rw [if_neg]
        rintro ⟨⟨⟨z, _⟩, _⟩, _⟩
        have z : acc.size < 1 := z
        omega
      rw [this]
      exact ih (i + 1) acc free ha
  have go : ∀ (n i free : Nat), free ≤ i → i ≤ k → i + n = l.length + 1 → (forIn (m := Id) (List.range' i n) ((#[] : Array Nat), free) (StrLaws.occBody ⟨l.toArray⟩ ⟨#[c]⟩ l.length 1)).run.fst = #[k] := by
    intro n
    induction n with
    | zero => intro i free _ h3 h4; omega
    | succ n ih =>
      intro i free hf hik hn
      rw [List.range'_succ, List.forIn_cons]
      by_cases he : i = k
      · subst he
        have : StrLaws.occBody ⟨l.toArray⟩ ⟨#[c]⟩ l.length 1 i ((#[] : Array Nat), free) = pure (ForInStep.yield (#[i], i + 1)) := by
          unfold StrLaws.occBody
          have hcond : ((((#[] : Array Nat), free).fst.size < 1 ∧ ((#[] : Array Nat), free).snd ≤ i) ∧ i + (⟨#[c]⟩ : Str).length ≤ l.length) ∧ Builtin.Str.subAt ⟨l.toArray⟩ ⟨#[c]⟩ i = true :=
            And.intro (And.intro (And.intro (show (#[] : Array Nat).size < 1 by simp) hf) (by rw [hlen]; omega)) (by rw [sub1]; exact decide_eq_true h1)
          rw [if_pos hcond]
          rfl
        rw [this]
        exact stop n (i + 1) #[i] (i + 1) rfl
      · have : StrLaws.occBody ⟨l.toArray⟩ ⟨#[c]⟩ l.length 1 i ((#[] : Array Nat), free) = pure (ForInStep.yield ((#[] : Array Nat), free)) := by
          unfold StrLaws.occBody
          rw [if_neg]
          rintro ⟨_, z⟩
          rw [sub1] at z
          exact h2 i (by omega) (of_decide_eq_true z)
        rw [this]
        exact ih (i + 1) free (by omega) (by omega) (by omega)
  rw [go (l.length + 1) 0 0 (Nat.le_refl _) (Nat.zero_le _) (by omega)]
  rfl

section
variable {X : Cx}
def rCntStr : V → List V → Hp → VK → Prop := fun x xs H Q => ∃ a b, x = .str a ∧ xs = [.str b] ∧ Q (.int (Txt.count a b)) H
theorem m_count : MtS X "str.count" (fun _ x xs H Q => rCntStr x xs H Q) := mt_count.toS
def rIdxStr : L2.St → V → List V → Hp → VK → Prop := rIndexX (fun _ _ _ _ => False)
theorem m_index (hc : X.calm = true) : MtS X "str.index" rIdxStr := mt_indexX hc takes0
def rCntL (K : PySem.W.Frag) : V → List V → Hp → VK → Prop := fun x xs H Q => ∃ (p : Addr) (y : V) (d : PyData) (ds : List PyData), x = .ref p ∧ xs = [y] ∧ Dp K H y d ∧ Dp K H (.ref p) (.list ds) ∧ SeqAt.shaped d = true ∧ SeqAt.shaped (.list ds) = true ∧
  Q (.int ((ds.countP fun z => PyData.eqv z d : Nat) : Int)) H
theorem m_lcount (hu : X.A.units + 65 < cLine) : MtS X "list.count" (fun _ x xs H Q => rCntL X.K x xs H Q) := by
  intro pins s σ H x xs v us Q I rx rxs h
  obtain ⟨p, y, d, ds, rfl, rfl, hd, hl, sd, sl, q⟩ := h
  cases rx
  obtain ⟨u, rfl, ru⟩ := rxs.one
  obtain ⟨as, r1⟩ := Dp.reads I d y u hd ru
  obtain ⟨bs, r2⟩ := Dp.reads I (.list ds) (.ref p) (.ref p) hl rfl
  have hp := SeqAt.canLay_of_shaped sl
  have hxs : PyData.plainAll ds = true := by
    have := PyData.plain_of_canLay0 _ hp
    simpa [PyData.plain] using this
  have hd' : d.plain = true := PyData.plain_of_canLay0 _ (SeqAt.canLay_of_shaped sd)
  have hroom : X.A.units + 1 + min (PyData.depthAll ds) d.depth < cLine := by
    have : d.depth ≤ 64 := by
      unfold SeqAt.shaped at sd
      rw [Bool.and_eq_true, decide_eq_true_eq] at sd
      exact sd.2
    omega
  cases r2 with
  | list h1 h2 h3 h4 =>
    exact PySem.SeqAt.count_list_data ⟨_, h1, h2, _, h3⟩ h4 r1 hxs hd' hroom ⟨.int _, H, I.tok _, ⟨_, rfl⟩, q⟩
def rGet2 : V → List V → Hp → VK → Prop := fun x xs H Q => ∃ a y z o, x = .ref a ∧ xs = [y, z] ∧ DGet H a y o ∧ Q (o.getD z) H
theorem m_get2 (hu : X.A.units + 1 < cLine) : MtS X "dict.get" (fun _ x xs H Q => rGet2 x xs H Q) := by
  intro pins s σ H x xs v us Q I rx rxs h
  obtain ⟨a, y, z, o, rfl, rfl, g, q⟩ := h
  cases rx
  cases rxs with
  | cons ry rt =>
    cases rt with
    | cons rz rt =>
      cases rt
      exact d_get2 hu I g ry rz fun w' s4 I4 rw' => ⟨_, H, I4, rw', q⟩
def rGet1 : V → List V → Hp → VK → Prop := fun x xs H Q => ∃ a y o, x = .ref a ∧ xs = [y] ∧ DGet H a y o ∧ Q (o.getD .non) H
theorem m_get1 (hu : X.A.units + 1 < cLine) : MtS X "dict.get" (fun _ x xs H Q => rGet1 x xs H Q) := by
  intro pins s σ H x xs v us Q I rx rxs h
  obtain ⟨a, y, o, rfl, rfl, g, q⟩ := h
  cases rx
  cases rxs with
  | cons ry rt =>
    cases rt
    exact d_get1 hu I g ry fun w' s4 I4 rw' => ⟨_, H, I4, rw', q⟩
def rJoin (K : PySem.W.Frag) : V → List V → Hp → VK → Prop := fun x xs H Q => ∃ a p, ∃ ys : List Str, x = .str a ∧ xs = [.ref p] ∧ (SqL K H p (ys.map V.str) ∨ SqT K H p (ys.map V.str)) ∧ (ys.map (·.length)).sum + ys.length * a.length ≤ 16777216 ∧ Q (.str (Txt.join a ys)) H
theorem m_join : MtS X "str.join" (fun _ x xs H Q => rJoin X.K x xs H Q) := mt_join.toS
end
theorem join_text (sep : List Nat) : ∀ (ys : List (List Nat)), Txt.join ⟨sep.toArray⟩ (ys.map fun l => (⟨l.toArray⟩ : Str)) = ⟨(joinS sep ys).toArray⟩ := by
  intro ys
  show Builtin.Str.glued _ _ = _
  unfold Builtin.Str.glued
  cases ys with
  | nil => rfl
  | cons y r =>
    have go : ∀ (r : List (List Nat)) (acc : List Nat), List.foldl (fun (acc : Array Nat) (p : Str) => acc ++ (⟨sep.toArray⟩ : Str).cps ++ p.cps) acc.toArray (r.map fun l => (⟨l.toArray⟩ : Str)) = (acc ++ (r.map fun l => sep ++ l).flatten).toArray := by
      intro r
      induction r with
      | nil => intro acc; simp
      | cons z r ih =>
        intro acc
        rw [List.map_cons, List.foldl_cons]
        have := ih (acc ++ sep ++ z)
        simp only [List.append_toArray] at this ⊢
        rw [this]
        simp
    have e : joinS sep (y :: r) = y ++ (r.map fun l => sep ++ l).flatten := by
      clear go
      induction r generalizing y with
      | nil => simp [joinS]
      | cons z r ih =>
        show y ++ sep ++ joinS sep (z :: r) = _
        rw [ih]
        simp
    rw [e]
    have := go r y
    simp only [List.map_cons, List.headD_cons, List.drop_one, List.tail_cons]
    rw [this]
theorem sumLen_eq : ∀ (ys : List (List Nat)), ((ys.map fun l => (⟨l.toArray⟩ : Str)).map (·.length)).sum = sumLen ys
  | [] => rfl
  | y :: r => by
    rw [List.map_cons, List.map_cons, List.sum_cons, sumLen_eq r, str_len]
    rfl
theorem cntD_py (n : Nat) (x : D) : ∀ (ys : List D), eqOk n x = true → eqOks n ys = true → cntD x ys = (toPys ys).countP fun z => PyData.eqv z (toPy x)
  | [], _, _ => rfl
  | y :: ys, hx, hy => by
    have h2 : eqOk n y = true ∧ eqOks n ys = true := by simpa [eqOks] using hy
    unfold cntD
    rw [deq_py n y x h2.1 hx, cntD_py n x ys hx h2.2]
    simp only [toPys, List.countP_cons]
    split <;> simp_all
theorem idxD_some (x : D) : ∀ (l : List D) (n k : Nat), idxD x n l = some k → ∃ j y, k = n + j ∧ nth l j = some y ∧ deq y x = true ∧ ∀ m z, m < j → nth l m = some z → deq z x = false
  | [], n, k, h => by cases h
  | y :: r, n, k, h => by
    unfold idxD at h
    split at h
    · rename_i e
      cases h
      exact ⟨0, y, rfl, rfl, e, fun m z hm => absurd hm (Nat.not_lt_zero m)⟩
    · rename_i e
      obtain ⟨j, z, rfl, h1, h2, h3⟩ := idxD_some x r (n + 1) k h
      refine ⟨j + 1, z, by omega, h1, h2, fun m w hm hw => ?_⟩
      cases m with
      | zero => cases hw; simpa using e
      | succ m => exact h3 m w (by omega) hw
theorem eqOks_nth {n : Nat} : ∀ {l : List D} {j : Nat} {y : D}, eqOks n l = true → nth l j = some y → eqOk n y = true
  | [], j, y, _, h => by cases j <;> cases h
  | x :: r, 0, y, h, e => by
    cases e
    have h2 : eqOk n x = true ∧ eqOks n r = true := by simpa [eqOks] using h
    exact h2.1
  | x :: r, j + 1, y, h, e => by
    have h2 : eqOk n x = true ∧ eqOks n r = true := by simpa [eqOks] using h
    exact eqOks_nth h2.2 e
theorem toPys_nth : ∀ (l : List D) (j : Nat), (toPys l)[j]? = (nth l j).map toPy
  | [], j => by simp [toPys, nth]
  | x :: r, 0 => by simp [toPys, nth]
  | x :: r, j + 1 => by simp [toPys, nth, toPys_nth r j]
end QE
namespace QE
open PySem L2 PySem.Spec PyProof.Rows

structure MRow (X : Cx) (name : Str) (p : Pr) (k n : Nat) where
  T : String
  id : String
  r : L2.St → V → List V → Hp → VK → Prop
  pa : PlainAttrs T
  slot : Slot T name id
  hty : typeOf (.builtin id) = pure (.type "method_descriptor")
  hm : MtS X id r
  ty : ∀ {C : RC} {its : List (V × D)} {H : Hp} {x : V} {d : D}, Good C its H → ItemOk C (roots its) H (x, d) → kindN d = k → TyH X T x H
  rule : ∀ {C : RC} {its : List (V × D)} {H : Hp} {σ : L2.St} {x : V} {xs : List V} {dx d : D} {ds : List D} {Q : VK}, C.K = X.K → Good C its H → ItemOk C (roots its) H (x, dx) → kindN dx = k → xs.length = n →
    Paired (fun x d => ItemOk C (roots its) H (x, d)) xs ds → prim p (dx :: ds) = .ok d → (∀ v H', Good C ((v, d) :: its) H' → Q v H') → r σ x xs H Q

section
variable {X : Cx} {C : RC} {O : List Addr} {H : Hp}
theorem kind1 {d : D} (h : kindN d = 1) : ∃ s, d = .str s := by cases d <;> first | exact ⟨_, rfl⟩ | cases h
theorem kind2 {d : D} (h : kindN d = 2) : ∃ f s, d = .lst f s := by cases d <;> first | exact ⟨_, _, rfl⟩ | cases h
theorem kind3 {d : D} (h : kindN d = 3) : ∃ s, d = .tup s := by cases d <;> first | exact ⟨_, rfl⟩ | cases h
theorem kind4 {d : D} (h : kindN d = 4) : ∃ f t s, d = .dic f t s := by cases d <;> first | exact ⟨_, _, _, rfl⟩ | cases h
theorem ty1 {x : V} {d : D} (hx : ItemOk C O H (x, d)) (h : kindN d = 1) : TyH X "str" x H := by
  obtain ⟨s, rfl⟩ := kind1 h
  cases item_str hx
  exact ty_str
theorem ty2 {x : V} {d : D} (hx : ItemOk C O H (x, d)) (h : kindN d = 2) : TyH X "list" x H := by
  obtain ⟨f, s, rfl⟩ := kind2 h
  obtain ⟨a, vs, rfl, r, _⟩ := item_lst hx
  exact fun pins s σ v I rv => tyV_is I rv (.inl ⟨rfl, vs, .inl r⟩)
theorem ty4 {x : V} {d : D} (hx : ItemOk C O H (x, d)) (h : kindN d = 4) : TyH X "dict" x H := by
  obtain ⟨f, t, s, rfl⟩ := kind4 h
  obtain ⟨a, l, rfl, r, _⟩ := item_dic hx
  exact ty_dic (isD_of r)
theorem count_str {s : List Nat} {x d : D} (h : prim .count [.str s, x] = .ok d) : ∃ c, x = .str [c] ∧ d = .int (cntN c s) := by
  cases x with
  | str z =>
    match z, h with
    | [c], h => cases h; exact ⟨c, rfl, rfl⟩
    | [], h => cases h
    | _ :: _ :: _, h => cases h
  | _ => cases h
theorem index_str {s : List Nat} {x d : D} (h : prim .index [.str s, x] = .ok d) : ∃ c k, x = .str [c] ∧ idxN c 0 s = some k ∧ d = .int k := by
  cases x with
  | str z =>
    match z, h with
    | [c], h =>
      have h : (match idxN c 0 s with | some i => Res.ok (D.int i) | none => .bad) = .ok d := h
      cases e : idxN c 0 s with
      | none => rw [e] at h; cases h
      | some k => rw [e] at h; cases h; exact ⟨c, k, rfl, e, rfl⟩
    | [], h => cases h
    | _ :: _ :: _, h => cases h
  | _ => cases h
end
variable {X : Cx}
theorem join_arg {s : List Nat} {y d : D} (h : prim .join [.str s, y] = .ok d) : ∃ f z, y = .lst f z := by
  cases y <;> first | (cases h; done) | exact ⟨_, _, rfl⟩
def row_count1 : MRow X "count" .count 1 1 where
  T := "str"
  id := "str.count"
  r := fun _ x xs H Q => rCntStr x xs H Q
  pa := F.plainAttrs_str
  slot := F.slot_str_count
  hty := F.type_str_count
  hm := m_count
  ty := fun _ h k => ty1 h k
  rule := by
    intro C its H σ x xs dx d ds Q hK g hx hk hn hp e fin
    obtain ⟨s, rfl⟩ := kind1 hk
    obtain ⟨v, y, rfl, rfl, hv⟩ := one hp hn
    obtain ⟨c, rfl, rfl⟩ := count_str e
    cases item_str hx
    cases item_str hv
    refine ⟨_, _, rfl, rfl, ?_⟩
    rw [show (⟨[c].toArray⟩ : Str) = ⟨#[c]⟩ from rfl, count1]
    exact fin _ _ (Good.int g _)
def row_index1 (hc : X.calm = true) : MRow X "index" .index 1 1 where
  T := "str"
  id := "str.index"
  r := rIdxStr
  pa := F.plainAttrs_str
  slot := F.slot_str_index
  hty := F.type_str_index
  hm := m_index hc
  ty := fun _ h k => ty1 h k
  rule := by
    intro C its H σ x xs dx d ds Q hK g hx hk hn hp e fin
    obtain ⟨s, rfl⟩ := kind1 hk
    obtain ⟨v, y, rfl, rfl, hv⟩ := one hp hn
    obtain ⟨c, k, rfl, e1, rfl⟩ := index_str e
    cases item_str hx
    cases item_str hv
    have h0 := index1 s c k e1
    refine ⟨_, _, rfl, rfl, fun j hj => ?_, fun hn => ?_⟩
    · have hj : Txt.index0 ⟨s.toArray⟩ ⟨#[c]⟩ = some j := hj
      rw [h0] at hj; cases hj
      exact fin _ _ (Good.int g _)
    · have hn : Txt.index0 ⟨s.toArray⟩ ⟨#[c]⟩ = none := hn
      rw [h0] at hn; cases hn
def row_join : MRow X "join" .join 1 1 where
  T := "str"
  id := "str.join"
  r := fun _ x xs H Q => rJoin X.K x xs H Q
  pa := F.plainAttrs_str
  slot := F.slot_str_join
  hty := F.type_str_join
  hm := m_join
  ty := fun _ h k => ty1 h k
  rule := by
    intro C its H σ x xs dx d ds Q hK g hx hk hn hp e fin
    obtain ⟨sep, rfl⟩ := kind1 hk
    obtain ⟨v, y, rfl, rfl, hv⟩ := one hp hn
    obtain ⟨f, ys, rfl⟩ := join_arg e
    cases item_str hx
    obtain ⟨a, vs, rfl, rd, rl⟩ := item_lst hv
    have e : (match strsD ys with | some r => if Nat.ble (sumLen r + r.length * sep.length) LIM then Res.ok (D.str (joinS sep r)) else .bad | none => .bad) = .ok d := e
    cases e1 : strsD ys with
    | none => rw [e1] at e; cases e
    | some r =>
      rw [e1] at e
      simp only at e
      split at e
      · rename_i hb
        cases e
        have hvs := rl.strsD e1
        refine ⟨_, a, r.map fun l => (⟨l.toArray⟩ : Str), rfl, rfl, .inl ?_, ?_, ?_⟩
        · rw [← hK]
          exact .inl (by rw [← hvs]; exact rd)
        · rw [sumLen_eq, List.length_map, str_len]
          exact Nat.le_of_ble_eq_true hb
        · rw [join_text]
          exact fin _ _ (Good.str g _)
      · cases e
theorem notOwn_of {d : D} (h : notOwnB d = true) : NotOwn d := by
  cases d with
  | lst f _ => cases f <;> first | (cases h; done) | trivial
  | dic f _ _ => cases f <;> first | (cases h; done) | trivial
  | _ => trivial
def row_get1 (hu : X.A.units + 1 < cLine) : MRow X "get" .get1 4 1 where
  T := "dict"
  id := "dict.get"
  r := fun _ x xs H Q => rGet1 x xs H Q
  pa := F.plainAttrs_dict
  slot := F.slot_dict_get
  hty := F.type_dict_get
  hm := m_get1 hu
  ty := fun _ h k => ty4 h k
  rule := by
    intro C its H σ x xs dx d ds Q hK g hx hk hn hp e fin
    obtain ⟨f, t, kvs, rfl⟩ := kind4 hk
    obtain ⟨v, y, rfl, rfl, hv⟩ := one hp hn
    have e : (if keyIs t y then Res.ok ((dfind y kvs).getD .non) else .bad) = .ok d := e
    split at e
    · rename_i hk2
      cases e
      obtain ⟨a, o, rfl, hd, h1, h2⟩ := dget hx hv hk2
      refine ⟨a, v, o, rfl, rfl, hd, ?_⟩
      cases e2 : dfind y kvs with
      | none =>
        rw [e2] at fin
        rw [h2 e2]
        exact fin _ _ (g.add .non)
      | some z =>
        rw [e2] at fin
        obtain ⟨w, rfl, rw'⟩ := h1 z e2
        exact fin _ _ (g.add rw')
    · cases e
def row_get2 (hu : X.A.units + 1 < cLine) : MRow X "get" .get2 4 2 where
  T := "dict"
  id := "dict.get"
  r := fun _ x xs H Q => rGet2 x xs H Q
  pa := F.plainAttrs_dict
  slot := F.slot_dict_get
  hty := F.type_dict_get
  hm := m_get2 hu
  ty := fun _ h k => ty4 h k
  rule := by
    intro C its H σ x xs dx d ds Q hK g hx hk hn hp e fin
    obtain ⟨f, t, kvs, rfl⟩ := kind4 hk
    obtain ⟨v, w, y, z, rfl, rfl, hv, hw⟩ := two hp hn
    have e : (if keyIs t y && notOwnB z then Res.ok ((dfind y kvs).getD z) else .bad) = .ok d := e
    split at e
    · rename_i hk2
      rw [Bool.and_eq_true] at hk2
      cases e
      obtain ⟨a, o, rfl, hd, h1, h2⟩ := dget hx hv hk2.1
      refine ⟨a, v, w, o, rfl, rfl, hd, ?_⟩
      cases e2 : dfind y kvs with
      | none =>
        rw [e2] at fin
        rw [h2 e2]
        rw [item_not (notOwn_of hk2.2)] at hw
        exact fin _ _ (g.add hw)
      | some z =>
        rw [e2] at fin
        obtain ⟨w, rfl, rw'⟩ := h1 z e2
        exact fin _ _ (g.add rw')
    · cases e
def rCntT (K : PySem.W.Frag) : V → List V → Hp → VK → Prop := fun x xs H Q => ∃ (p : Addr) (y : V) (d : PyData) (ds : List PyData), x = .ref p ∧ xs = [y] ∧ Dp K H y d ∧ Dp K H (.ref p) (.tuple ds) ∧ SeqAt.shaped d = true ∧ SeqAt.shaped (.tuple ds) = true ∧
  Q (.int ((ds.countP fun z => PyData.eqv z d : Nat) : Int)) H
def row_lcount (hu : X.A.units + 65 < cLine) : MRow X "count" .count 2 1 where
  T := "list"
  id := "list.count"
  r := fun _ x xs H Q => rCntL X.K x xs H Q
  pa := F.plainAttrs_list
  slot := F.slot_list_count
  hty := F.type_list_count
  hm := m_lcount hu
  ty := fun _ h k => ty2 h k
  rule := by
    intro C its H σ x xs dx d ds Q hK g hx hk hn hp e fin
    obtain ⟨f, ys, rfl⟩ := kind2 hk
    obtain ⟨v, y, rfl, rfl, hv⟩ := one hp hn
    have e : (if eqOk 50 y && eqOks 49 ys then Res.ok (.int (cntD y ys)) else .bad) = .ok d := e
    split at e
    · rename_i h2
      rw [Bool.and_eq_true] at h2
      cases e
      have sh := eqOk_list (f := f) h2.2
      cases item_lst hx with | intro a h3 => cases h3 with | intro vs h3 =>
      obtain ⟨rfl, _, _⟩ := h3
      refine ⟨a, v, toPy y, toPys ys, rfl, rfl, hK ▸ item_dp hv h2.1, hK ▸ item_dp hx sh.1, shaped_py h2.1 (by decide), shaped_py (x := .lst f ys) sh.1 (by decide), ?_⟩
      rw [← cntD_py 50 y ys h2.1 (eqOks_up 49 ys h2.2)]
      exact fin _ _ (Good.int g _)
    · cases e
def row_lindex {X : Cx} (hu : X.A.units + 65 < cLine) : MRow X "index" .index 2 1 where
  T := "list"
  id := "list.index"
  r := fun _ x xs H Q => rIndexD X.K x xs H Q
  pa := F.plainAttrs_list
  slot := F.slot_list_index
  hty := F.type_list_index
  hm := (mt_indexD hu).toS
  ty := fun _ h k => ty2 h k
  rule := by
    intro C its H σ x xs dx d ds Q hK g hx hk hn hp e fin
    obtain ⟨f, ys, rfl⟩ := kind2 hk
    obtain ⟨v, y, rfl, rfl, hv⟩ := one hp hn
    have e : (if eqOk 50 y && eqOks 49 ys then (match idxD y 0 ys with | some i => Res.ok (D.int i) | none => .bad) else .bad) = .ok d := e
    split at e
    · rename_i h2
      rw [Bool.and_eq_true] at h2
      cases e1 : idxD y 0 ys with
      | none => rw [e1] at e; cases e
      | some k =>
        rw [e1] at e
        cases e
        have sh := eqOk_list (f := f) h2.2
        have hy := eqOks_up 49 ys h2.2
        obtain ⟨j, z, e2, h3, h4, h5⟩ := idxD_some y ys 0 k e1
        have e2 : k = j := by omega
        subst e2
        obtain ⟨a, vs, rfl, _, _⟩ := item_lst hx
        refine ⟨a, v, toPy y, toPys ys, k, toPy z, rfl, rfl, hK ▸ item_dp hx sh.1, hK ▸ item_dp hv h2.1, shaped_py (x := .lst f ys) sh.1 (by decide), shaped_py h2.1 (by decide), by rw [toPys_nth, h3]; rfl, ?_, fun m z' hm hz => ?_, fin _ _ (Good.int g _)⟩
        · rw [← deq_py 50 z y (eqOks_nth hy h3) h2.1]; exact h4
        · rw [toPys_nth] at hz
          cases e3 : nth ys m with
          | none => rw [e3] at hz; cases hz
          | some w =>
            rw [e3] at hz
            cases hz
            rw [← deq_py 50 w y (eqOks_nth hy e3) h2.1]; exact h5 m w hm e3
    · cases e
def row_lindexL {X : Cx} (hu : X.A.units + 65 < cLine) : MRow X "index" .indexL 2 1 where
  T := "list"
  id := "list.index"
  r := fun _ x xs H Q => rIndexD X.K x xs H Q
  pa := F.plainAttrs_list
  slot := F.slot_list_index
  hty := F.type_list_index
  hm := (mt_indexD hu).toS
  ty := fun _ h k => ty2 h k
  rule := by
    intro C its H σ x xs dx d ds Q hK g hx hk hn hp e fin
    obtain ⟨f, ys, rfl⟩ := kind2 hk
    obtain ⟨v, y, rfl, rfl, hv⟩ := one hp hn
    have e : (if eqOk 50 y && eqOks 49 ys then (match idxD y 0 ys with | some i => Res.ok (D.int i) | none => .bad) else .bad) = .ok d := e
    split at e
    · rename_i h2
      rw [Bool.and_eq_true] at h2
      cases e1 : idxD y 0 ys with
      | none => rw [e1] at e; cases e
      | some k =>
        rw [e1] at e
        cases e
        have sh := eqOk_list (f := f) h2.2
        have hy := eqOks_up 49 ys h2.2
        obtain ⟨j, z, e2, h3, h4, h5⟩ := idxD_some y ys 0 k e1
        have e2 : k = j := by omega
        subst e2
        obtain ⟨a, vs, rfl, _, _⟩ := item_lst hx
        refine ⟨a, v, toPy y, toPys ys, k, toPy z, rfl, rfl, hK ▸ item_dp hx sh.1, hK ▸ item_dp hv h2.1, shaped_py (x := .lst f ys) sh.1 (by decide), shaped_py h2.1 (by decide), by rw [toPys_nth, h3]; rfl, ?_, fun m z' hm hz => ?_, fin _ _ (Good.int g _)⟩
        · rw [← deq_py 50 z y (eqOks_nth hy h3) h2.1]; exact h4
        · rw [toPys_nth] at hz
          cases e3 : nth ys m with
          | none => rw [e3] at hz; cases hz
          | some w =>
            rw [e3] at hz
            cases hz
            rw [← deq_py 50 w y (eqOks_nth hy e3) h2.1]; exact h5 m w hm e3
    · cases e
end QE
namespace QE
open PySem L2 PySem.Spec PyProof.Rows
section
variable {Φ : Calls} {Mu : Muts} {K : PySem.W.Frag} {fnA : FA} {EX : EC} {Wx : WX} {X : Cx} {e a b c : Expr} {ia ib ic ie : IE} {pos : Pos} {i : Nat} {x : Str}

def notStar : Expr → Bool
  | .Starred .. => false
  | _ => true
theorem notStar_ne (h : notStar e = true) : ∀ z p, e ≠ .Starred z p := by
  intro z p q
  subst q
  cases h
def plainEs : List Expr → Bool
  | [] => true
  | e :: es => notStar e && plainEs es
theorem plain_cons {es : List Expr} (h : plainEs (e :: es) = true) : notStar e = true ∧ plainEs es = true := by
  simpa [plainEs] using h
theorem plain_star {es : List Expr} (h : plainEs (e :: es) = true) (env : PySem.Env) : starEach (e :: es) env = (false, eval e env) :: starEach es env := star_free (notStar_ne (plain_cons h).1)
theorem backTo_fst (p : Pos) : ∀ (l : List (Bool × Sem Value)), (backTo p l).map (·.1) = l.map (·.1)
  | [] => rfl
  | [_] => rfl
  | (s, a) :: x :: r => by
    show s :: ((backTo p (x :: r)).map (·.1)) = s :: ((x :: r).map (·.1))
    rw [backTo_fst p (x :: r)]
theorem star_all : ∀ {es : List Expr} (env : PySem.Env), plainEs es = true → (starEach es env).map (·.1) = es.map fun _ => false
  | [], _, _ => rfl
  | e :: es, env, h => by
    rw [plain_star h]
    show false :: (starEach es env).map (·.1) = _
    rw [star_all env (plain_cons h).2]
    rfl
theorem star_any {es : List Expr} (h : plainEs es = true) (env : PySem.Env) (p : Pos) : (backTo p (starEach es env)).any (·.1) = false := by
  have e1 : (backTo p (starEach es env)).any (·.1) = ((backTo p (starEach es env)).map (·.1)).any id := by
    rw [List.any_map]; rfl
  rw [e1, backTo_fst, star_all env h, List.any_map]
  simp
theorem star_few {es : List Expr} (h : plainEs es = true) (hl : es.length < 25) (env : PySem.Env) (p : Pos) : ((backTo p (starEach es env)).all (fun x => !x.1) && (backToKw p (keywordEach [] env)).all (fun x => x.1.isSome)
      && decide (es.length + ([] : List Keyword).length + (if ([] : List Keyword).isEmpty then 0 else 1) < 30)) = true := by
  have e1 : (backTo p (starEach es env)).all (fun x => !x.1) = ((backTo p (starEach es env)).map (·.1)).all (fun b => !b) := by
    rw [List.all_map]; rfl
  rw [e1, backTo_fst, star_all env h, List.all_map]
  have e2 : decide (es.length + ([] : List Keyword).length + (if ([] : List Keyword).isEmpty then 0 else 1) < 30) = true := by
    apply decide_eq_true
    show es.length + 0 + 0 < 30
    omega
  rw [e2]
  simp [backToKw, keywordEach]
def notSuper : Expr → Bool
  | .Call (.Name _ _) [] [] _ => false
  | _ => true
theorem base_of {o : Expr} (h : notSuper o = true) (name : Str) (env : PySem.Env) (w : Sem Value) : attributeBase o name env w = w := by
  unfold attributeBase
  split
  · cases h
  · rfl

theorem evOs_len : ∀ (es : List IE) (ρ : Env) (r : List Opd × Env), evOs Φ Mu es ρ = .ok r → r.1.length = es.length
  | [], ρ, r, h => by cases h; rfl
  | e :: es, ρ, r, h => by
    rw [evOs_cons] at h
    cases h1 : evO Φ Mu e ρ with
    | ok o =>
      rw [h1] at h
      have h : ((evOs Φ Mu es o.2).bind fun s => Res.ok (o.1 :: s.1, s.2)) = .ok r := h
      cases h2 : evOs Φ Mu es o.2 with
      | ok s => rw [h2] at h; cases h; exact congrArg (· + 1) (evOs_len _ _ _ h2)
      | err c x => rw [h2] at h; cases h
      | bad => rw [h2] at h; cases h
    | err c x => rw [h1] at h; cases h
    | bad => rw [h1] at h; cases h
theorem post_len {es : List IE} {ρ : Env} {k : List Opd × Env → Prop} {er : Nat → D → Prop} (h : post (evOs Φ Mu es ρ) k er) : post (evOs Φ Mu es ρ) (fun r => r.1.length = es.length ∧ k r) er := by
  cases e : evOs Φ Mu es ρ with
  | ok r => rw [e] at h; exact ⟨evOs_len _ _ _ e, h⟩
  | err c x => rw [e] at h; exact h
  | bad => rw [e] at h; exact h
theorem e_meth {o : Expr} {es : List Expr} {name : Str} {apos cpos : Pos} {p : Pr} {n : Nat} {io : IE} {ies : List IE} (hr : ∀ k, methOk p k = true → Nonempty (MRow X name p k n)) (hn : ies.length = n) (hK : K = X.K)
    (ho : EOk Φ Mu K fnA EX Wx X o io) (ha : PA X (e :: es) (TOs Φ Mu K fnA EX Wx ies)) (hb : notSuper o = true) (hp : plainEs (e :: es) = true) (hl : (e :: es).length < 25) (hline : (apos.endLine == cpos.line) = true) :
    EOk Φ Mu K fnA EX Wx X (.Call (.Attribute o name apos) (e :: es) [] cpos) (.meth p io ies) := by
  refine EOk.of (weakE (pe_bmA ho.o ha (base_of hb _ _ _) (star_few hp hl _ _) hline (plain_star hp _) (star_any (plain_cons hp).2 _ _)) fun σ H Q q => ?_) rfl
  obtain ⟨C, F, ρ, hC, st, p0⟩ := q
  refine ⟨C, F, ρ, hC, st, post_mono (post_bind (show post ((evO Φ Mu io ρ).bind _) _ _ from p0)) (fun r1 k1 => ?_) fun _ _ z => z⟩
  intro v1 H1 a1 st1
  obtain ⟨oo, ρ1⟩ := r1
  simp only at k1 a1 st1
  cases e1 : oo.get ρ1 with
  | none => rw [e1] at k1; exact k1.elim
  | some d1 =>
    rw [e1] at k1
    simp only at k1
    split at k1
    · rename_i hm
      obtain ⟨R⟩ := hr _ hm
      have hx1 := opI_mem oo e1 a1 st1.ok (F := opI v1 oo ++ F) fun x hx => List.mem_append_left _ hx
      refine ⟨R.T, R.id, R.r, R.pa, R.slot, R.hty, R.hm, R.ty st1.good (st1.good.ok _ hx1) rfl, ?_⟩
      refine ⟨C, opI v1 oo ++ F, ρ1, hC, st1, post_mono (post_len (post_bind k1)) (fun r2 k2 => ?_) fun _ _ z => z⟩
      obtain ⟨hlen, k2⟩ := k2
      obtain ⟨os, ρ2⟩ := r2
      intro vs H2 a2 st2
      simp only at k2 a2 st2 hlen
      cases e2 : oo.get ρ2 with
      | none => rw [e2] at k2; exact k2.elim
      | some d2 =>
        rw [e2] at k2
        simp only at k2
        split at k2
        · rename_i hk
          cases e3 : gets ρ2 os with
          | none => rw [e3] at k2; exact k2.elim
          | some ds =>
            rw [e3] at k2
            simp only at k2
            cases e4 : prim p (d2 :: ds) with
            | err c x => rw [e4] at k2; exact k2.elim
            | bad => rw [e4] at k2; exact k2.elim
            | ok d =>
              rw [e4] at k2
              have k2 : ∀ v H', StOk C ((v, d) :: F) σ ρ2 H' → Q v H' := k2
              have hx2 := opI_mem oo e2 a1 st2.ok (F := opIs vs os ++ (opI v1 oo ++ F)) fun x hx => List.mem_append_right _ (List.mem_append_left _ hx)
              refine R.rule (hC.K.trans hK) st2.good (st2.good.ok _ hx2) (Nat.eq_of_beq_eq_true hk) ?_ (gets_items st2 a2 e3 fun x hx => List.mem_append_left _ hx) e4 fun v H' g => k2 v H' ⟨st2.ok, g.sub ?_⟩
              · rw [opAts_len a2, hlen, hn]
              · refine List.Sublist.cons_cons _ ?_
                refine List.Sublist.append_right ?_ _
                exact (List.sublist_append_right _ _).trans (List.sublist_append_right _ _)
        · exact k2.elim
    · exact k1.elim
theorem rows_count (hu : X.A.units + 65 < cLine) : ∀ k, methOk .count k = true → Nonempty (MRow X "count" .count k 1)
  | 1, _ => ⟨row_count1⟩
  | 2, _ => ⟨row_lcount hu⟩
  | 0, h => by cases h
  | _ + 3, h => by cases h
theorem rows_index (hc : X.calm = true) (hu : X.A.units + 65 < cLine) : ∀ k, methOk .index k = true → Nonempty (MRow X "index" .index k 1)
  | 1, _ => ⟨row_index1 hc⟩
  | 2, _ => ⟨row_lindex hu⟩
  | 0, h => by cases h
  | _ + 3, h => by cases h
theorem rows_indexL (hu : X.A.units + 65 < cLine) : ∀ k, methOk .indexL k = true → Nonempty (MRow X "index" .indexL k 1)
  | 2, _ => ⟨row_lindexL hu⟩
  | 0, h => by cases h
  | 1, h => by cases h
  | _ + 3, h => by cases h
theorem rows_join : ∀ k, methOk .join k = true → Nonempty (MRow X "join" .join k 1)
  | 1, _ => ⟨row_join⟩
  | 0, h => by cases h
  | _ + 2, h => by cases h
theorem rows_get1 (hu : X.A.units + 1 < cLine) : ∀ k, methOk .get1 k = true → Nonempty (MRow X "get" .get1 k 1)
  | 4, _ => ⟨row_get1 hu⟩
  | 0, h | 1, h | 2, h | 3, h => by cases h
  | _ + 5, h => by cases h
theorem rows_get2 (hu : X.A.units + 1 < cLine) : ∀ k, methOk .get2 k = true → Nonempty (MRow X "get" .get2 k 2)
  | 4, _ => ⟨row_get2 hu⟩
  | 0, h | 1, h | 2, h | 3, h => by cases h
  | _ + 5, h => by cases h

theorem chain_tv {p q : Pr} {r r' : R2} (hr : R2ok X r p) (hr' : R2ok X r' q) (hK : K = X.K) : ∀ σ H Q, TV Φ Mu K fnA EX Wx (.chain p q ia ib ic) σ H Q → tChain r r' (TV Φ Mu K fnA EX Wx ia) (TV Φ Mu K fnA EX Wx ib) (TV Φ Mu K fnA EX Wx ic) σ H Q := by
  intro σ H Q z
  obtain ⟨C, F, ρ, hC, st, p0⟩ := z
  refine ⟨C, F, ρ, hC, st, post_mono (post_bind (show post ((ev Φ Mu ia ρ).bind _) _ _ from p0)) (fun r1 k1 => ?_) fun _ _ z => z⟩
  obtain ⟨x1, ρ1⟩ := r1
  intro v1 H1 st1
  refine ⟨C, (v1, x1) :: F, ρ1, hC, st1, post_mono (post_bind (show post ((ev Φ Mu ib ρ1).bind _) _ _ from k1)) (fun r2 k2 => ?_) fun _ _ z => z⟩
  obtain ⟨x2, ρ2⟩ := r2
  intro v2 H2 st2
  simp only at k2
  cases e1 : prim p [x1, x2] with
  | err c x => rw [e1] at k2; exact k2.elim
  | bad => rw [e1] at k2; exact k2.elim
  | ok d =>
    rw [e1] at k2
    have i2 : ItemOk C (roots ((v2, x2) :: (v1, x1) :: F ++ sl σ ρ2)) H2 (v2, x2) := st2.good.ok _ List.mem_cons_self
    have i1 : ItemOk C (roots ((v2, x2) :: (v1, x1) :: F ++ sl σ ρ2)) H2 (v1, x1) := st2.good.ok _ (List.mem_cons_of_mem _ List.mem_cons_self)
    refine hr C _ H2 _ _ x1 x2 d _ (hC.K.trans hK) st2.good i1 i2 e1 fun z H3 g3 => ?_
    cases d with
    | bl k =>
      cases item_bl g3.head
      refine ⟨k, rfl, ?_⟩
      cases k with
      | false =>
        rw [if_neg (by decide)]
        have k2 : ∀ v H', StOk C ((v, .bl false) :: F) σ ρ2 H' → Q v H' := k2
        refine k2 _ _ ⟨st2.ok, g3.sub ?_⟩
        exact List.Sublist.cons_cons _ ((List.sublist_cons_self _ _).trans (List.sublist_cons_self _ _))
      | true =>
        rw [if_pos rfl]
        have st3 : StOk C ((v2, x2) :: (v1, x1) :: F) σ ρ2 H3 := ⟨st2.ok, g3.tail⟩
        refine ⟨C, _, ρ2, hC, st3, post_mono (post_bind (show post ((ev Φ Mu ic ρ2).bind _) _ _ from k2)) (fun r3 k3 => ?_) fun _ _ z => z⟩
        obtain ⟨x3, ρ3⟩ := r3
        intro v3 H4 st4
        simp only at k3
        cases e2 : prim q [x2, x3] with
        | err c x => rw [e2] at k3; exact k3.elim
        | bad => rw [e2] at k3; exact k3.elim
        | ok d =>
          rw [e2] at k3
          have k3 : ∀ v H', StOk C ((v, d) :: F) σ ρ3 H' → Q v H' := k3
          refine hr' C _ H4 _ _ x2 x3 d Q (hC.K.trans hK) st4.good (st4.good.ok _ (List.mem_cons_of_mem _ List.mem_cons_self)) (st4.good.ok _ List.mem_cons_self) e2 fun v H' g => k3 v H' ⟨st4.ok, g.sub ?_⟩
          exact List.Sublist.cons_cons _ (((List.sublist_cons_self _ _).trans (List.sublist_cons_self _ _)).trans (List.sublist_cons_self _ _))
    | _ => exact k2.elim
theorem e_chain {op op' : CmpOp} {p q : Pr} {r r' : R2} (ho : OpR X (compareOp op) r) (ho' : OpR X (compareOp op') r') (hr : R2ok X r p) (hr' : R2ok X r' q) (hK : K = X.K) (ha : EOk Φ Mu K fnA EX Wx X a ia) (hb : EOk Φ Mu K fnA EX Wx X b ib) (hc : EOk Φ Mu K fnA EX Wx X c ic) (hm : lastMarks [op, op'] [b, c] = false) :
    EOk Φ Mu K fnA EX Wx X (.Compare a [op, op'] [b, c] pos) (.chain p q ia ib ic) := EOk.of (weakE (pe_chain ho ho' ha.v hb.v hc.v hm) (chain_tv hr hr' hK)) rfl
theorem t_chain {op op' : CmpOp} {p q : Pr} {r r' : R2} (ho : OpR X (compareOp op) r) (ho' : OpR X (compareOp op') r') (hr : R2ok X r p) (hr' : R2ok X r' q) (hK : K = X.K) (ha : EOk Φ Mu K fnA EX Wx X a ia) (hb : EOk Φ Mu K fnA EX Wx X b ib) (hc : EOk Φ Mu K fnA EX Wx X c ic) (hm : lastMarks [op, op'] [b, c] = false) :
    PT X (.Compare a [op, op'] [b, c] pos) (TB Φ Mu K fnA EX Wx (.chain p q ia ib ic)) := weakT (pt_chain ho ho' ha.v hb.v hc.v hm) (tb_of_tv (chain_tv hr hr' hK))

def clN : Cl → Option String
  | .int => some "int"
  | .bool => some "bool"
  | .str => some "str"
  | .tuple => some "tuple"
  | .list => some "list"
  | .dict => some "dict"
  | .cls _ => none
def tyN : D → Option String
  | .non => some "NoneType"
  | .bl _ => some "bool"
  | .int _ => some "int"
  | .str _ => some "str"
  | .tup _ => some "tuple"
  | .lst _ _ => some "list"
  | .dic _ false _ => some "dict"
  | _ => none
theorem item_ty {C : RC} {O : List Addr} {H : Hp} {v : V} {d : D} (h : ItemOk C O H (v, d)) (ho : isiOk d = true) : ∃ n, tyN d = some n ∧ TyX C.K H v (.type n) := by
  cases d with
  | non => cases item_non h; exact ⟨_, rfl, .base .non⟩
  | bl b => cases item_bl h; exact ⟨_, rfl, .base (.bl _)⟩
  | int b => cases item_int h; exact ⟨_, rfl, .base (.int _)⟩
  | str b => cases item_str h; exact ⟨_, rfl, .base (.str _)⟩
  | tup xs => obtain ⟨a, vs, rfl, e, _⟩ := item_tup h; exact ⟨_, rfl, .base (.tup e)⟩
  | lst f xs =>
    obtain ⟨a, vs, rfl, e, _⟩ := item_lst h
    rcases e with e | ⟨o, e⟩
    · exact ⟨_, rfl, .base (.lst e)⟩
    · exact ⟨_, rfl, .base (.frz e)⟩
  | dic f t kvs =>
    cases t with
    | true => cases ho
    | false =>
      obtain ⟨a, l, rfl, e, _⟩ := item_dic h
      cases e with
      | k r _ =>
        rcases r with e | ⟨o, e⟩
        · exact ⟨_, rfl, .base (.dK e)⟩
        · exact ⟨_, rfl, .fDict e⟩
  | fn _ => cases ho
  | exc _ _ => cases ho
theorem kit_at : ∀ (c : Cl) (cn : String), clN c = some cn → ∀ (d : D) (n : String), tyN d = some n → kitB n cn = some (isCl c d) := by
  intro c cn hc d n hd
  have all : ∀ n ∈ ["NoneType", "bool", "int", "str", "tuple", "list", "dict"], ∀ c ∈ [Cl.int, .bool, .str, .tuple, .list, .dict], ∀ cn, clN c = some cn → kitB n cn = some (match n, c with
    | "int", .int => true | "bool", .int => true | "bool", .bool => true | "str", .str => true | "tuple", .tuple => true | "list", .list => true | "dict", .dict => true | _, _ => false) := by
    intro n hn c hcm cn e
    simp only [List.mem_cons, List.not_mem_nil, or_false] at hn hcm
    rcases hn with rfl | rfl | rfl | rfl | rfl | rfl | rfl <;> rcases hcm with rfl | rfl | rfl | rfl | rfl | rfl <;> (cases e; decide +kernel)
  have hcm : c ∈ [Cl.int, .bool, .str, .tuple, .list, .dict] := by
    cases c <;> first | (cases hc; done) | simp
  cases d with
  | dic f t kvs =>
    cases t with
    | true => cases hd
    | false => cases hd; rw [all _ (by simp) c hcm cn hc]; cases c <;> first | (cases hc; done) | rfl
  | fn _ => cases hd
  | exc _ _ => cases hd
  | _ => cases hd; rw [all _ (by simp) c hcm cn hc]; cases c <;> first | (cases hc; done) | rfl

theorem kit_any : ∀ (cs : List Cl) (us : List String) (d : D) (n : String) (K : PySem.W.Frag), Paired (fun c u => clN c = some u) cs us → tyN d = some n → PySem.W.kitAny K (.type n) (us.map Value.type) = some (cs.any fun c => isCl c d)
  | [], _, d, n, K, .nil, hd => kitAny_nil
  | c :: cs, u :: us, d, n, K, .cons h r, hd => by
    have e1 := kit_ty (K := K) (kit_at c u h d n hd)
    have e2 := kit_any cs us d n K r hd
    show PySem.W.kitAny K (.type n) (Value.type u :: us.map Value.type) = _
    refine kitAny_cons e1 (fun hb => ?_) fun hb => ?_
    · rw [List.any_cons, hb, Bool.false_or]; exact e2
    · rw [List.any_cons, hb, Bool.true_or]
structure ClsOk (X : Cx) (e : Expr) (n : String) : Prop where
  pe : PE X e (tC (.ty n))
  ns : notStar e = true
theorem cls_of {z : Str} {n : String} {p : Pos} (hg : Gl X z) (hm : X.mg z = none) (hv : bootBuiltins z = some (.type n)) (h1 : z ≠ "__name__") (h2 : (z == ("__debug__" : Str)) = false) : ClsOk X (.Name z p) n := ⟨pe_bltn hg hm hv rfl h1 h2, rfl⟩
theorem pa_cls : ∀ {es : List Expr} {us : List String}, Paired (ClsOk X) es us → PA X es (fun _ H Q => Q (us.map V.ty) H)
  | _, _, .nil => weakA pa_nil fun σ H Q q => q
  | e :: es, u :: us, .cons h r => weakA (pa_cons h.pe (pa_cls r) (star_free (notStar_ne h.ns))) fun σ H Q q => q
theorem isi_name {pf : Pos} {tb : TE} {r : List V → Hp → VK → Prop} (hc : CallR X (.builtin "isinstance") r) (hg : Gl X "isinstance") (hm : X.mg "isinstance" = none) (ha : EOk Φ Mu K fnA EX Wx X a ia) (hb : PE X b tb) (hs : notStar a = true) (hs2 : notStar b = true)
    {ts : List Cl} (w : ∀ (C : RC) (its : List (V × D)) σ H v d Q, C.K = X.K → Good C its H → ItemOk C (roots its) H (v, d) → isiOk d = true → (∀ H', Good C its H' → Q (.bl (ts.any fun t => isCl t d)) H') → tb σ H fun y H1 => r [v, y] H1 Q) (hK : K = X.K) :
    EOk Φ Mu K fnA EX Wx X (.Call (.Name "isinstance" pf) [a, b] [] pos) (.isi ts ia) := by
  have hp : plainEs [a, b] = true := by simp [plainEs, hs, hs2]
  refine EOk.of (weakE (pe_callB hc hg hm (by decide +kernel) (pa_cons ha.o (pa_cons hb pa_nil (plain_star (plain_cons hp).2 _)) (plain_star hp _)) (by decide) (by decide) (plain_star hp _) (star_any (plain_cons hp).2 _ _)) fun σ H Q q => ?_) rfl
  obtain ⟨C, F, ρ, hC, st, p0⟩ := q
  refine ⟨C, F, ρ, hC, st, post_mono (post_bind (show post ((evO Φ Mu ia ρ).bind _) _ _ from p0)) (fun r1 k1 => ?_) fun _ _ z => z⟩
  obtain ⟨oo, ρ1⟩ := r1
  intro v1 H1 a1 st1
  simp only at k1 a1 st1
  cases e1 : oo.get ρ1 with
  | none => rw [e1] at k1; exact k1.elim
  | some d1 =>
    rw [e1] at k1
    simp only at k1
    split at k1
    · rename_i ho
      have hx1 := opI_mem oo e1 a1 st1.ok (F := opI v1 oo ++ F) fun x hx => List.mem_append_left _ hx
      have k1 : ∀ v H', StOk C ((v, .bl (ts.any fun t => isCl t d1)) :: F) σ ρ1 H' → Q v H' := k1
      refine w C _ σ H1 v1 d1 _ (hC.K.trans hK) st1.good (st1.good.ok _ hx1) ho fun H' g => k1 _ H' ⟨st1.ok, ?_⟩
      have g2 := g.bl (ts.any fun t => isCl t d1)
      refine Good.sub ?_ g2
      refine List.Sublist.cons_cons _ ?_
      rw [List.append_assoc]
      exact List.sublist_append_right _ _
    · exact k1.elim
theorem e_isi1 {pf : Pos} {t : Cl} {n : String} (hg : Gl X "isinstance") (hm : X.mg "isinstance" = none) (ha : EOk Φ Mu K fnA EX Wx X a ia) (hs : notStar a = true) (hb : ClsOk X b n) (ht : clN t = some n) (hK : K = X.K) : EOk Φ Mu K fnA EX Wx X (.Call (.Name "isinstance" pf) [a, b] [] pos) (.isi [t] ia) := by
  refine isi_name call_isi hg hm ha hb.pe hs hb.ns (fun C its σ H v d Q hK g hi ho q => ?_) hK
  obtain ⟨m, e1, e2⟩ := item_ty hi ho
  refine ⟨v, .ty n, _, _, _, rfl, .ty n, hK ▸ e2, kit_ty (kit_at t n ht d m e1), ?_⟩
  have := q H g
  simpa using this
theorem cls_vs : ∀ (us : List String), Paired ClsV (us.map V.ty) (us.map Value.type)
  | [] => .nil
  | u :: us => .cons (.ty u) (cls_vs us)
theorem e_isiT {pf pt : Pos} {kt : Nat} {ts : List Cl} {es : List Expr} {us : List String} (hg : Gl X "isinstance") (hm : X.mg "isinstance" = none) (ha : EOk Φ Mu K fnA EX Wx X a ia) (hs : notStar a = true) (hb : Paired (ClsOk X) es us) (ht : Paired (fun c u => clN c = some u) ts us) (hl : us.length < 100) (hK : K = X.K) :
    EOk Φ Mu K fnA EX Wx X (.Call (.Name "isinstance" pf) [a, .Tuple es kt pt] [] pos) (.isi ts ia) := by
  refine isi_name call_isiT hg hm ha (pe_tup (pa_cls hb)) hs rfl (fun C its σ H v d Q hK g hi ho q => ?_) hK
  obtain ⟨m, e1, e2⟩ := item_ty hi ho
  refine ⟨by rw [List.length_map]; show us.length ≤ 16777216; omega, fun p hp => ?_⟩
  have g2 := g.step0 (KeepS.new (o := .tup (us.map V.ty)) hp)
  have hi2 : ItemOk C (roots its) (upd H p (.tup (us.map V.ty))) (v, d) := hi.keep (Keep.new hp) (fun _ z => nomatch z) (fun b hb => .inl hb) g.ext.exs (fun _ _ z => nomatch z)
  obtain ⟨m2, e3, e4⟩ := item_ty hi2 ho
  rw [e1] at e3; cases e3
  refine ⟨v, p, us.map V.ty, _, us.map Value.type, _, rfl, by simp [upd], ?_, hK ▸ e4, kit_any ts us d m _ ht e1, q _ g2⟩
  exact cls_vs us
end
end QE
namespace QE
open PySem L2 PySem.Spec PyProof.Rows

structure GiveC (C C' : RC) (O O1 : List Addr) (H : Hp) : Prop where
  fnA : C'.fnA = C.fnA
  old : ∀ a, H a ≠ none → a ∉ O → (C.Old a ∨ C.H0 a = none) → a ∉ O1 ∧ C'.Old a
section
variable {C C' : RC} {O O1 O2 O' : List Addr} {H H' : Hp}
theorem rd_ne {a : Addr} {o : HO} (h : Rd H a o) : H a ≠ none := by
  rcases h with h | ⟨_, h⟩ <;> (rw [h]; exact fun z => nomatch z)
theorem dh_ne {a : Addr} {t : Bool} {l : List (D × V)} (h : DH H a t l) : H a ≠ none := by
  cases h with
  | k r _ => exact rd_ne r
  | t r _ => exact rd_ne r
theorem Rep.flat (h : flat d = true) (r : Rep C O H v d) : Rep C' O1 H' v d := by
  cases r with
  | non => exact .non
  | bl b => exact .bl b
  | int i => exact .int i
  | str l => exact .str l
  | _ => cases h
theorem RepKv.flat : ∀ {l : List (D × V)} {kvs : List (D × D)}, RepKv C O H l kvs → flatVals kvs = true → RepKv C' O1 H' l kvs
  | _, _, .nil, _ => .nil
  | _, _, .cons h r, k => by
    have k : (QE.flat _ && flatVals _) = true := k
    rw [Bool.and_eq_true] at k
    exact .cons (Rep.flat k.1 h) (RepKv.flat r k.2)
mutual
theorem Rep.give (g : GiveC C C' O O1 H) : ∀ {v : V} {d : D}, Rep C O H v d → okArg d = true → Rep C' O1 H v (asOld d)
  | _, _, .non, _ => .non
  | _, _, .bl b, _ => .bl b
  | _, _, .int i, _ => .int i
  | _, _, .str l, _ => .str l
  | _, _, .fn h, _ => .fn (g.fnA ▸ h)
  | _, _, .exc h, _ => .exc (by unfold RC.exA; rw [g.fnA]; exact h)
  | _, _, .tup h r, k => .tup h (RepL.give g r k)
  | _, _, .fr h n f r, k =>
    have z := g.old _ (by rw [h]; exact fun z => nomatch z) n (.inr f)
    .old (.inl h) z.1 (.inl z.2) (RepL.give g r k)
  | _, _, .old h n f r, k =>
    have z := g.old _ (rd_ne h) n f
    .old h z.1 (.inl z.2) (RepL.give g r k)
  | _, _, .dfr h n f r, k =>
    have z := g.old _ (dh_ne h) n (.inr f)
    .dold h z.1 (.inl z.2) (RepKv.flat r k)
  | _, _, .dold h n f r, k =>
    have z := g.old _ (dh_ne h) n f
    .dold h z.1 (.inl z.2) (RepKv.flat r k)
theorem RepL.give (g : GiveC C C' O O1 H) : ∀ {vs : List V} {ds : List D}, RepL C O H vs ds → okArgs ds = true → RepL C' O1 H vs (asOlds ds)
  | _, _, .nil, _ => .nil
  | _, _, .cons h r, k => by
    have k : (okArg _ && okArgs _) = true := k
    rw [Bool.and_eq_true] at k
    exact .cons (Rep.give g h k.1) (RepL.give g r k.2)
end
theorem RepKv.give (g : GiveC C C' O O1 H) : ∀ {l : List (D × V)} {kvs : List (D × D)}, RepKv C O H l kvs → okArgKv kvs = true → RepKv C' O1 H l (asOldKv kvs)
  | _, _, .nil, _ => .nil
  | _, _, .cons h r, k => by
    have k : (okArg _ && okArgKv _) = true := k
    rw [Bool.and_eq_true] at k
    exact .cons (Rep.give g h k.1) (RepKv.give g r k.2)
theorem asOld_not (d : D) : NotOwn (asOld d) := by cases d <;> trivial
theorem item_give (g : GiveC C C' O O1 H) {v : V} {d : D} (hown : ∀ a, H a ≠ none → a ∈ root (v, d) → a ∉ O1 ∧ C'.Old a) (h : ItemOk C O H (v, d)) (k : okArg d = true) : Rep C' O1 H v (asOld d) := by
  cases d with
  | lst f ds =>
    cases f with
    | own =>
      obtain ⟨a, vs, rfl, e, _, r⟩ := h
      have z := hown a (by rw [e]; exact fun z => nomatch z) List.mem_cons_self
      exact .old (.inl e) z.1 (.inl z.2) (RepL.give g r k)
    | ownM =>
      obtain ⟨a, vs, rfl, e, _, r⟩ := h
      have z := hown a (by rw [e]; exact fun z => nomatch z) List.mem_cons_self
      exact .old (.inl e) z.1 (.inl z.2) (RepL.give g r k)
    | fr => exact Rep.give g h k
    | old => exact Rep.give g h k
  | dic f t kvs =>
    cases f with
    | own =>
      obtain ⟨a, l, rfl, e, _, _, r⟩ := h
      have z := hown a (dh_ne e) List.mem_cons_self
      exact .dold e z.1 (.inl z.2) (RepKv.flat r k)
    | ownM =>
      obtain ⟨a, l, rfl, e, _, _, r⟩ := h
      have z := hown a (dh_ne e) List.mem_cons_self
      exact .dold e z.1 (.inl z.2) (RepKv.flat r k)
    | fr => exact Rep.give g h k
    | old => exact Rep.give g h k
  | _ => exact Rep.give g h k
theorem item_giveM (g : GiveC C C' O O1 H) {v : V} {d d' : D} (e : giveM d = some d') (h : ItemOk C O H (v, d)) : ∃ a, root (v, d) = [a] ∧ root (v, d') = [a] ∧ (C'.M = some a → ItemOk C' O1 H (v, d')) := by
  cases d with
  | lst f ds =>
    cases f with
    | own =>
      obtain ⟨a, vs, rfl, e1, _, r⟩ := h
      have e : (if okArgs ds then some (D.lst .ownM (asOlds ds)) else none) = some d' := e
      split at e
      · rename_i k; cases e; exact ⟨a, rfl, rfl, fun m => ⟨a, vs, rfl, e1, m, RepL.give g r k⟩⟩
      · cases e
    | ownM =>
      obtain ⟨a, vs, rfl, e1, _, r⟩ := h
      have e : (if okArgs ds then some (D.lst .ownM (asOlds ds)) else none) = some d' := e
      split at e
      · rename_i k; cases e; exact ⟨a, rfl, rfl, fun m => ⟨a, vs, rfl, e1, m, RepL.give g r k⟩⟩
      · cases e
    | fr => cases e
    | old => cases e
  | dic f t kvs =>
    cases f with
    | own =>
      obtain ⟨a, l, rfl, e1, mu, _, r⟩ := h
      have e : (if okArgKv kvs then some (D.dic .ownM t (asOldKv kvs)) else none) = some d' := e
      split at e
      · rename_i k; cases e; exact ⟨a, rfl, rfl, fun m => ⟨a, l, rfl, e1, mu, m, RepKv.give g r k⟩⟩
      · cases e
    | ownM =>
      obtain ⟨a, l, rfl, e1, mu, _, r⟩ := h
      have e : (if okArgKv kvs then some (D.dic .ownM t (asOldKv kvs)) else none) = some d' := e
      split at e
      · rename_i k; cases e; exact ⟨a, rfl, rfl, fun m => ⟨a, l, rfl, e1, mu, m, RepKv.give g r k⟩⟩
      · cases e
    | fr => cases e
    | old => cases e
  | _ => cases e

structure TakeC (C C' : RC) (O' O2 : List Addr) (B : Prop) : Prop where
  fnA : C'.fnA = C.fnA
  new : ∀ a, a ∉ O' → C'.H0 a = none → a ∉ O2 ∧ C.H0 a = none
  old : B → ∀ a, a ∉ O' → C'.Old a → a ∉ O2 ∧ (C.Old a ∨ C.H0 a = none)
theorem TakeC.old' {B : Prop} (g : TakeC C C' O' O2 B) (b : B) {a : Addr} (n : a ∉ O') (h : C'.Old a ∨ C'.H0 a = none) : a ∉ O2 ∧ (C.Old a ∨ C.H0 a = none) := by
  rcases h with h | h
  · exact g.old b a n h
  · exact ⟨(g.new a n h).1, .inr (g.new a n h).2⟩
theorem noOld_lst {f : Fl} {xs : List D} (h : noOld (.lst f xs) = true) : f ≠ .old ∧ noOlds xs = true := by
  have h : (f != .old && f != .ownM && noOlds xs) = true := h
  rw [Bool.and_eq_true, Bool.and_eq_true, bne_iff_ne] at h
  exact ⟨h.1.1, h.2⟩
theorem noOld_dic {f : Fl} {t : Bool} {xs : List (D × D)} (h : noOld (.dic f t xs) = true) : f ≠ .old ∧ flatVals xs = true := by
  have h : (f != .old && f != .ownM && flatVals xs) = true := h
  rw [Bool.and_eq_true, Bool.and_eq_true, bne_iff_ne] at h
  exact ⟨h.1.1, h.2⟩
mutual
theorem Rep.takeB {B : Prop} (g : TakeC C C' O' O2 B) : ∀ {v : V} {d : D}, Rep C' O' H v d → (B ∨ noOld d = true) → Rep C O2 H v d
  | _, _, .non, _ => .non
  | _, _, .bl b, _ => .bl b
  | _, _, .int i, _ => .int i
  | _, _, .str l, _ => .str l
  | _, _, .fn h, _ => .fn (g.fnA ▸ h)
  | _, _, .exc h, _ => .exc (by have h := h; unfold RC.exA at h; rw [g.fnA] at h; exact h)
  | _, _, .tup h r, k => .tup h (RepL.takeB g r k)
  | _, _, .fr h n f r, k => .fr h (g.new _ n f).1 (g.new _ n f).2 (RepL.takeB g r (k.imp id fun z => (noOld_lst z).2))
  | _, _, .old h n f r, k => by
    rcases k with b | k
    · exact .old h (g.old' b n f).1 (g.old' b n f).2 (RepL.takeB g r (.inl b))
    · exact absurd rfl (noOld_lst k).1
  | _, _, .dfr h n f r, k => .dfr h (g.new _ n f).1 (g.new _ n f).2 (RepKv.takeB g r (k.imp id fun z => (noOld_dic z).2))
  | _, _, .dold h n f r, k => by
    rcases k with b | k
    · exact .dold h (g.old' b n f).1 (g.old' b n f).2 (RepKv.takeB g r (.inl b))
    · exact absurd rfl (noOld_dic k).1
theorem RepL.takeB {B : Prop} (g : TakeC C C' O' O2 B) : ∀ {vs : List V} {ds : List D}, RepL C' O' H vs ds → (B ∨ noOlds ds = true) → RepL C O2 H vs ds
  | _, _, .nil, _ => .nil
  | _, _, .cons h r, k => .cons (Rep.takeB g h (k.imp id fun z => by
      have z : (noOld _ && noOlds _) = true := z
      rw [Bool.and_eq_true] at z; exact z.1)) (RepL.takeB g r (k.imp id fun z => by
      have z : (noOld _ && noOlds _) = true := z
      rw [Bool.and_eq_true] at z; exact z.2))
theorem RepKv.takeB {B : Prop} (g : TakeC C C' O' O2 B) : ∀ {l : List (D × V)} {kvs : List (D × D)}, RepKv C' O' H l kvs → (B ∨ flatVals kvs = true) → RepKv C O2 H l kvs
  | _, _, .nil, _ => .nil
  | _, _, .cons h r, k => .cons (by
      rcases k with b | k
      · exact Rep.takeB g h (.inl b)
      · have k : (QE.flat _ && flatVals _) = true := k
        rw [Bool.and_eq_true] at k
        exact Rep.flat k.1 h) (RepKv.takeB g r (k.imp id fun z => by
      have z : (QE.flat _ && flatVals _) = true := z
      rw [Bool.and_eq_true] at z; exact z.2))
end
theorem RepKv.takeN {B : Prop} (g : TakeC C C' O' O2 B) : ∀ {l : List (D × V)} {kvs : List (D × D)}, RepKv C' O' H l kvs → (B ∨ noOldKv kvs = true) → RepKv C O2 H l kvs
  | _, _, .nil, _ => .nil
  | _, _, .cons h r, k => .cons (Rep.takeB g h (k.imp id fun z => by
      have z : (noOld _ && noOldKv _) = true := z
      rw [Bool.and_eq_true] at z; exact z.1)) (RepKv.takeN g r (k.imp id fun z => by
      have z : (noOld _ && noOldKv _) = true := z
      rw [Bool.and_eq_true] at z; exact z.2))
theorem item_take {B : Prop} (g : TakeC C C' O' O2 B) {v : V} {d : D} (hr : ∀ a, root (v, d) = [a] → C'.H0 a = none → C.H0 a = none) (hM : notM d = true) (h : ItemOk C' O' H (v, d)) (k : B ∨ noOld d = true) : ItemOk C O2 H (v, d) := by
  cases d with
  | lst f ds =>
    cases f with
    | own =>
      obtain ⟨a, vs, rfl, e, n, r⟩ := h
      exact ⟨a, vs, rfl, e, hr a rfl n, RepL.takeB g r (k.imp id fun z => (noOld_lst z).2)⟩
    | ownM => cases hM
    | fr => exact Rep.takeB g h k
    | old => exact Rep.takeB g h k
  | dic f t kvs =>
    cases f with
    | own =>
      obtain ⟨a, l, rfl, e, mu, n, r⟩ := h
      exact ⟨a, l, rfl, e, mu, hr a rfl n, RepKv.takeB g r (k.imp id fun z => (noOld_dic z).2)⟩
    | ownM => cases hM
    | fr => exact Rep.takeB g h k
    | old => exact Rep.takeB g h k
  | _ => exact Rep.takeB g h k
end
end QE
namespace QE
open PySem L2 PySem.Spec PyProof.Rows

inductive AtM (R RM : V → Opd → Prop) : Nat → List V → List Opd → Prop
  | here {v : V} {o : Opd} {vs : List V} {os : List Opd} : RM v o → Paired R vs os → AtM R RM 0 (v :: vs) (o :: os)
  | there {n : Nat} {v : V} {o : Opd} {vs : List V} {os : List Opd} : R v o → AtM R RM n vs os → AtM R RM (n + 1) (v :: vs) (o :: os)
theorem Paired.weak {α β : Type} {F F' : α → β → Prop} (w : ∀ a b, F a b → F' a b) : ∀ {l : List α} {r : List β}, Paired F l r → Paired F' l r
  | _, _, .nil => .nil
  | _, _, .cons h t => .cons (w _ _ h) (Paired.weak w t)
theorem AtM.weak {R RM R' RM' : V → Opd → Prop} (w : ∀ v o, R v o → R' v o) (w2 : ∀ v o, RM v o → RM' v o) : ∀ {n : Nat} {vs : List V} {os : List Opd}, AtM R RM n vs os → AtM R' RM' n vs os
  | _, _, _, .here h r => .here (w2 _ _ h) (Paired.weak w r)
  | _, _, _, .there h r => .there (w _ _ h) (AtM.weak w w2 r)
section
variable {C C' : RC} {O O1 : List Addr} {H H' : Hp} {σ : L2.St} {ρ : Env} {F : List (V × D)}
theorem hand_cons {m : Option Nat} {o : Opd} {os : List Opd} {ds : List D} (e : handOver ρ m (o :: os) = some ds) : ∃ d d' r, o.get ρ = some d ∧ (if mHere m then giveM d else give d) = some d' ∧ handOver ρ (mNext m) os = some r ∧ ds = d' :: r := by
  have e : ((o.get ρ).bind fun d => (if mHere m then giveM d else give d).bind fun d' => (handOver ρ (mNext m) os).map (d' :: ·)) = some ds := e
  obtain ⟨d, e1, e⟩ := Option.bind_eq_some_iff.mp e
  obtain ⟨d', e2, e⟩ := Option.bind_eq_some_iff.mp e
  obtain ⟨r, e3, e4⟩ := Option.map_eq_some_iff.mp e
  exact ⟨d, d', r, e1, e2, e3, e4.symm⟩
theorem give_some {d d' : D} (e : give d = some d') : okArg d = true ∧ d' = asOld d := by
  unfold give at e
  split at e
  · rename_i k; cases e; exact ⟨k, rfl⟩
  · cases e
theorem hands0 : ∀ {vs : List V} {os : List Opd} {ds : List D}, Paired (fun v o => ∀ d, o.get ρ = some d → okArg d = true → Rep C' O1 H v (asOld d)) vs os → handOver ρ none os = some ds →
    vs.length = ds.length ∧ ∀ it ∈ vs.zip ds, Rep C' O1 H it.1 it.2 ∧ NotOwn it.2
  | _, _, ds, .nil, e => by cases e; exact ⟨rfl, fun it h => by simp at h⟩
  | v :: vs, o :: os, ds, .cons h r, e => by
    obtain ⟨d, d', ds, e1, e2, e3, rfl⟩ := hand_cons e
    obtain ⟨k, rfl⟩ := give_some e2
    obtain ⟨l, ih⟩ := hands0 r e3
    refine ⟨congrArg (· + 1) l, fun it hit => ?_⟩
    rw [List.zip_cons_cons] at hit
    rcases List.mem_cons.mp hit with rfl | hit
    · exact ⟨h d e1 k, asOld_not d⟩
    · exact ih it hit
theorem roots_none : ∀ {l : List (V × D)}, (∀ it ∈ l, NotOwn it.2) → roots l = []
  | [], _ => rfl
  | (v, d) :: r, h => by
    rw [roots_cons, roots_none fun it hit => h it (List.mem_cons_of_mem _ hit), root_not (h _ List.mem_cons_self)]
    rfl
theorem handsM {a : Addr} : ∀ {n : Nat} {vs : List V} {os : List Opd} {ds : List D}, AtM (fun v o => ∀ d, o.get ρ = some d → okArg d = true → Rep C' [a] H v (asOld d)) (fun v o => ∀ d d', o.get ρ = some d → giveM d = some d' → ItemOk C' [a] H (v, d') ∧ root (v, d') = [a]) n vs os →
    handOver ρ (some n) os = some ds → vs.length = ds.length ∧ roots (vs.zip ds) = [a] ∧ ∀ it ∈ vs.zip ds, ItemOk C' [a] H it
  | _, _, _, ds, .here h r, e => by
    obtain ⟨d, d', ds, e1, e2, e3, rfl⟩ := hand_cons e
    obtain ⟨h1, h2⟩ := h d d' e1 e2
    obtain ⟨l, ih⟩ := hands0 r e3
    refine ⟨congrArg (· + 1) l, ?_, fun it hit => ?_⟩
    · rw [List.zip_cons_cons, roots_cons, roots_none fun it hit => (ih it hit).2, h2]; rfl
    · rw [List.zip_cons_cons] at hit
      rcases List.mem_cons.mp hit with rfl | hit
      · exact h1
      · obtain ⟨q1, q2⟩ := ih it hit
        obtain ⟨v, d⟩ := it
        rw [item_not q2]; exact q1
  | _, _, _, ds, .there h r, e => by
    obtain ⟨d, d', ds, e1, e2, e3, rfl⟩ := hand_cons e
    obtain ⟨k, rfl⟩ := give_some e2
    obtain ⟨l, ih1, ih2⟩ := handsM r e3
    refine ⟨congrArg (· + 1) l, ?_, fun it hit => ?_⟩
    · rw [List.zip_cons_cons, roots_cons, root_not (asOld_not d), ih1]; rfl
    · rw [List.zip_cons_cons] at hit
      rcases List.mem_cons.mp hit with rfl | hit
      · rw [item_not (asOld_not d)]; exact h d e1 k
      · exact ih2 it hit

theorem ops_none {B : Prop} : ∀ {vs : List V} {os : List Opd} {G : List (V × D)}, opAts σ vs os → SlOk σ ρ → (∀ x ∈ opIs vs os, x ∈ G) → (B → lends ρ none os = false) →
    Paired (fun v o => ∀ d, o.get ρ = some d → (v, d) ∈ G ++ sl σ ρ ∧ (B → ownD d = false)) vs os
  | [], [], _, _, _, _, _ => .nil
  | [], _ :: _, _, h, _, _, _ => h.elim
  | _ :: _, [], _, h, _, _, _ => h.elim
  | v :: vs, o :: os, G, h, s, hG, hl => by
    refine .cons (fun d e => ⟨opI_mem o e h.1 s fun x hx => hG x (List.mem_append_right _ hx), fun b => ?_⟩) (ops_none h.2 s (fun x hx => hG x (List.mem_append_left _ hx)) fun b => ?_)
    · have := hl b
      have : ((!mHere none && (match o.get ρ with | some d => ownD d | none => false)) || lends ρ none os) = false := this
      rw [Bool.or_eq_false_iff, e] at this
      exact this.1
    · have := hl b
      have : ((!mHere none && (match o.get ρ with | some d => ownD d | none => false)) || lends ρ none os) = false := this
      rw [Bool.or_eq_false_iff] at this
      exact this.2
theorem lends_cons {m : Option Nat} {o : Opd} {os : List Opd} {d : D} (h : lends ρ m (o :: os) = false) (hm : mHere m = false) (e : o.get ρ = some d) : ownD d = false ∧ lends ρ (mNext m) os = false := by
  have h : ((!mHere m && (match o.get ρ with | some d => ownD d | none => false)) || lends ρ (mNext m) os) = false := h
  rw [Bool.or_eq_false_iff, hm, e] at h
  exact h
theorem lends_next {m : Option Nat} {o : Opd} {os : List Opd} (h : lends ρ m (o :: os) = false) : lends ρ (mNext m) os = false := by
  have h : ((!mHere m && (match o.get ρ with | some d => ownD d | none => false)) || lends ρ (mNext m) os) = false := h
  rw [Bool.or_eq_false_iff] at h
  exact h.2
theorem getS_off : ∀ {ρ : Env} {i j : Nat}, j ≠ i → getS (setS ρ i none) j = getS ρ j
  | [], _, _, _ => rfl
  | _ :: _, 0, 0, h => absurd rfl h
  | _ :: _, 0, _ + 1, _ => rfl
  | _ :: _, _ + 1, 0, _ => rfl
  | _ :: r, i + 1, j + 1, h => getS_off (ρ := r) (i := i) (j := j) fun z => h (congrArg (· + 1) z)
theorem not_slot {i : Nat} {o : Opd} {d : D} (h : notSlot i o = true) (e : o.get ρ = some d) : o.get (setS ρ i none) = some d := by
  cases o with
  | val d' => exact e
  | slot j =>
    have h : (!Nat.beq j i) = true := h
    have hj : j ≠ i := by
      intro z; subst z
      rw [Nat.beq_refl] at h; cases h
    show getS (setS ρ i none) j = some d
    rw [getS_off hj]; exact e
theorem ops_all {B : Prop} {i : Nat} : ∀ {vs : List V} {os : List Opd} {G : List (V × D)}, opAts σ vs os → SlOk σ (setS ρ i none) → (∀ x ∈ opIs vs os, x ∈ G) → (B → lends ρ none os = false) → allNot i os = true →
    Paired (fun v o => ∀ d, o.get ρ = some d → (v, d) ∈ G ++ sl σ (setS ρ i none) ∧ (B → ownD d = false)) vs os
  | [], [], _, _, _, _, _, _ => .nil
  | [], _ :: _, _, h, _, _, _, _ => h.elim
  | _ :: _, [], _, h, _, _, _, _ => h.elim
  | v :: vs, o :: os, G, h, s, hG, hl, hn => by
    have hn : (notSlot i o && allNot i os) = true := hn
    rw [Bool.and_eq_true] at hn
    refine .cons (fun d e => ⟨opI_mem o (not_slot hn.1 e) h.1 s fun x hx => hG x (List.mem_append_right _ hx), fun b => ?_⟩) (ops_all h.2 s (fun x hx => hG x (List.mem_append_left _ hx)) (fun b => lends_next (hl b)) hn.2)
    exact (lends_cons (hl b) rfl e).1
theorem ops_slot {B : Prop} {i : Nat} {d0 : D} {v0 : V} (hv0 : σ[i]? = some (some v0)) (hd0 : getS ρ i = some d0) : ∀ {n : Nat} {vs : List V} {os : List Opd} {G : List (V × D)}, opAts σ vs os → SlOk σ (setS ρ i none) → (∀ x ∈ opIs vs os, x ∈ G) → (B → lends ρ (some n) os = false) → nth os n = some (.slot i) → othersNot i n os = true →
    AtM (fun v o => ∀ d, o.get ρ = some d → (v, d) ∈ G ++ sl σ (setS ρ i none) ∧ (B → ownD d = false)) (fun v o => v = v0 ∧ o.get ρ = some d0) n vs os
  | n, [], [], _, _, _, _, _, e, _ => by cases n <;> cases e
  | _, [], _ :: _, _, h, _, _, _, _, _ => h.elim
  | _, _ :: _, [], _, h, _, _, _, _, _ => h.elim
  | 0, v :: vs, o :: os, G, h, s, hG, hl, e, hn => by
    cases e
    refine .here ⟨?_, hd0⟩ (ops_all h.2 s (fun x hx => hG x (List.mem_append_left _ hx)) (fun b => lends_next (hl b)) hn)
    have h1 : σ[i]? = some (some v) := h.1
    rw [hv0] at h1; cases h1; rfl
  | n + 1, v :: vs, o :: os, G, h, s, hG, hl, e, hn => by
    have hn : (notSlot i o && othersNot i n os) = true := hn
    rw [Bool.and_eq_true] at hn
    refine .there (fun d e => ⟨opI_mem o (not_slot hn.1 e) h.1 s fun x hx => hG x (List.mem_append_right _ hx), fun b => ?_⟩) (ops_slot hv0 hd0 h.2 s (fun x hx => hG x (List.mem_append_left _ hx)) (fun b => lends_next (hl b)) e hn.2)
    exact (lends_cons (hl b) rfl e).1
theorem ops_val {B : Prop} {d0 : D} : ∀ {n : Nat} {vs : List V} {os : List Opd}, opAts σ vs os → SlOk σ ρ → (B → lends ρ (some n) os = false) → nth os n = some (.val d0) →
    ∃ v0 r, (opIs vs os).Perm ((v0, d0) :: r) ∧ ∀ G : List (V × D), (∀ x ∈ r, x ∈ G) → AtM (fun v o => ∀ d, o.get ρ = some d → (v, d) ∈ G ++ sl σ ρ ∧ (B → ownD d = false)) (fun v o => v = v0 ∧ o.get ρ = some d0) n vs os
  | n, [], [], _, _, _, e => by cases n <;> cases e
  | _, [], _ :: _, h, _, _, _ => h.elim
  | _, _ :: _, [], h, _, _, _ => h.elim
  | 0, v :: vs, o :: os, h, s, hl, e => by
    cases e
    refine ⟨v, opIs vs os, ?_, fun G hG => .here ⟨rfl, rfl⟩ (ops_none h.2 s hG fun b => lends_next (hl b))⟩
    show (opIs vs os ++ [(v, d0)]).Perm _
    exact List.perm_append_singleton _ _
  | n + 1, v :: vs, o :: os, h, s, hl, e => by
    obtain ⟨v0, r, p, ih⟩ := ops_val h.2 s (fun b => lends_next (hl b)) e
    refine ⟨v0, r ++ opI v o, ?_, fun G hG => .there (fun d e => ⟨opI_mem o e h.1 s fun x hx => hG x (List.mem_append_right _ hx), fun b => (lends_cons (hl b) rfl e).1⟩) (ih G fun x hx => hG x (List.mem_append_left _ hx))⟩
    show (opIs vs os ++ opI v o).Perm _
    exact p.append_right _
end
end QE
namespace QE
open PySem L2 PySem.Spec PyProof.Rows
section
variable {C C' : RC} {O O1 X : List Addr} {H H' : Hp} {σ : L2.St} {ρ ρ' : Env} {F its0 its new : List (V × D)}
theorem Good.ret (g : Good C (its0 ++ its) H) (k : Keep X H H') (hX : ∀ b ∈ X, b ∈ roots its0) (nd : (roots new).Nodup) (hO : ∀ b ∈ roots new, b ∉ roots its ∧ (b ∈ roots its0 ∨ H b = none)) (hi : ∀ it ∈ new, ItemOk C (roots new ++ roots its) H' it) (ext : Ext C H') : Good C (new ++ its) H' := by
  have n0 := g.nd
  rw [roots_app] at n0
  obtain ⟨_, n2, n3⟩ := List.nodup_append.mp n0
  refine ⟨?_, fun it hit => ?_, ext⟩
  · rw [roots_app]
    exact List.nodup_append.mpr ⟨nd, n2, fun a ha b hb z => (hO a ha).1 (z ▸ hb)⟩
  · rw [roots_app]
    rcases List.mem_append.mp hit with hit | hit
    · exact hi it hit
    · obtain ⟨v, d⟩ := it
      refine (g.ok _ (List.mem_append_right _ hit)).keep k (fun b hb => ?_) (fun b hb => ?_) g.ext.exs fun a ha hx => ?_
      · rw [roots_app]; exact List.mem_append_left _ (hX b hb)
      · rw [roots_app]
        rcases List.mem_append.mp hb with hb | hb
        · rcases (hO b hb).2 with z | z
          · exact .inl (List.mem_append_left _ z)
          · exact .inr z
        · exact .inl (List.mem_append_right _ hb)
      · exact n3 a (hX a hx) a (List.mem_flatMap.mpr ⟨_, hit, ha⟩) rfl

def calleeC (C : RC) (H : Hp) (O : List Addr) (B : Prop) (m : Option Addr) : RC :=
  { K := C.K, fnA := C.fnA, H0 := H, Old := fun b => H b ≠ none ∧ m ≠ some b ∧ (B → b ∉ O ∧ (C.Old b ∨ C.H0 b = none)), M := m }
theorem callee_ext {B : Prop} {m : Option Addr} (e : Ext C H) (hm : ∀ b, m = some b → H b ≠ none) : Ext (calleeC C H O B m) H :=
  ⟨fun b o e _ _ => e, fun b e => e, fun b h => ⟨h.1, h.2.1⟩, hm, e.exs, e.tabs⟩
theorem callee_back {B : Prop} {m : Option Addr} (e : Ext C H) (hm : ∀ b, m = some b → C.H0 b = none ∨ C.M = some b) (e' : Ext (calleeC C H O B m) H') : Ext C H' := by
  refine ⟨fun b o h n nt => ?_, fun b h => e'.there b (e.there b h), e.old, e.muta, e.exs, e'.tabs⟩
  refine e'.keep b o (e.keep b o h n nt) (fun z => ?_) nt
  rcases hm b z with z | z
  · rw [h] at z; cases z
  · exact n z
theorem callee_give {B : Prop} {m : Option Addr} (hm : ∀ b, m = some b → b ∈ O) : GiveC C (calleeC C H O B m) O (m.toList) H := by
  refine ⟨rfl, fun a h n c => ⟨fun z => ?_, h, fun z => n (hm a z), fun _ => ⟨n, c⟩⟩⟩
  cases m with
  | none => cases z
  | some b => cases List.mem_singleton.mp z; exact n (hm a rfl)
theorem callee_item {B : Prop} {m : Option Addr} {v : V} {d : D} (hm : ∀ b, m = some b → b ∈ O) (h : ItemOk C O H (v, d)) (hr : ∀ a ∈ root (v, d), m ≠ some a) (hB : B → ownD d = false) (k : okArg d = true) : Rep (calleeC C H O B m) m.toList H v (asOld d) := by
  refine item_give (callee_give hm) (fun a ha hx => ⟨fun z => ?_, ha, hr a hx, fun b => ?_⟩) h k
  · cases m with
    | none => cases z
    | some b => cases List.mem_singleton.mp z; exact hr _ hx rfl
  · have := hB b
    have e : root (v, d) = [] := root_not (by
      cases d with
      | lst f xs => cases f <;> first | (cases this; done) | trivial
      | dic f t xs => cases f <;> first | (cases this; done) | trivial
      | _ => trivial)
    rw [e] at hx; cases hx
theorem callee_none {B : Prop} {vs : List V} {os : List Opd} {ds : List D} (st : StOk C (opIs vs os ++ F) σ ρ H) (ha : opAts σ vs os) (e : handOver ρ none os = some ds) (hl : B → lends ρ none os = false) :
    vs.length = ds.length ∧ Good (calleeC C H (roots (opIs vs os ++ F ++ sl σ ρ)) B none) (vs.zip ds) H := by
  have p := ops_none (G := opIs vs os ++ F) ha st.ok (fun x hx => List.mem_append_left _ hx) hl
  obtain ⟨l, h⟩ := hands0 (C' := calleeC C H (roots (opIs vs os ++ F ++ sl σ ρ)) B none) (O1 := []) (H := H) (Paired.weak (fun v o h d e k => callee_item (m := none) (fun b z => nomatch z) (st.good.ok _ (h d e).1) (fun a _ z => nomatch z) (h d e).2 k) p) e
  refine ⟨l, ?_, fun it hit => ?_, callee_ext st.good.ext fun b z => nomatch z⟩
  · rw [roots_none fun it hit => (h it hit).2]; exact List.nodup_nil
  · rw [roots_none fun it hit => (h it hit).2]
    obtain ⟨v, d⟩ := it
    rw [item_not (h _ hit).2]; exact (h _ hit).1
theorem hand_at : ∀ {n : Nat} {os : List Opd} {ds : List D} {o : Opd}, handOver ρ (some n) os = some ds → nth os n = some o → ∃ d d', o.get ρ = some d ∧ giveM d = some d'
  | n, [], _, _, _, h => by cases n <;> cases h
  | 0, o :: os, _, _, e, h => by
    cases h
    obtain ⟨d, d', r, e1, e2, e3, rfl⟩ := hand_cons e
    exact ⟨d, d', e1, e2⟩
  | n + 1, o :: os, _, _, e, h => by
    obtain ⟨d, d', r, e1, e2, e3, rfl⟩ := hand_cons e
    exact hand_at e3 h
theorem callee_M {B : Prop} {n : Nat} {v0 : V} {d0 : D} {a : Addr} {G Gj : List (V × D)} {vs : List V} {os : List Opd} {ds : List D} (g : Good C ((v0, d0) :: Gj) H) (hr : root (v0, d0) = [a]) (hp : G.Perm ((v0, d0) :: Gj))
    (p : AtM (fun v o => ∀ d, o.get ρ = some d → (v, d) ∈ Gj ∧ (B → ownD d = false)) (fun v o => v = v0 ∧ o.get ρ = some d0) n vs os) (e : handOver ρ (some n) os = some ds) :
    vs.length = ds.length ∧ Good (calleeC C H (roots G) B (some a)) (vs.zip ds) H := by
  have hmem : ∀ b, b ∈ roots G ↔ b ∈ roots ((v0, d0) :: Gj) := fun b => (roots_perm hp).mem_iff
  have ga : Good C G H := g.perm hp.symm
  have haG : a ∈ roots ((v0, d0) :: Gj) := by rw [roots_cons, hr]; exact List.mem_cons_self
  have hm : ∀ b, some a = some b → b ∈ roots G := fun b z => by cases z; exact (hmem _).mpr haG
  have hn : a ∉ roots Gj := by
    have := g.nd
    rw [roots_cons, hr] at this
    exact (List.nodup_cons.mp this).1
  obtain ⟨l, h1, h2⟩ := handsM (a := a) (C' := calleeC C H (roots G) B (some a)) (H := H) (AtM.weak
    (fun v o h d e k => callee_item (m := some a) hm (ga.ok _ (hp.mem_iff.mpr (List.mem_cons_of_mem _ (h d e).1))) (fun b hb z => by
      cases z; exact hn (List.mem_flatMap.mpr ⟨_, (h d e).1, hb⟩)) (h d e).2 k)
    (fun v o h d d' e1 e2 => by
      obtain ⟨rfl, h⟩ := h
      rw [h] at e1; cases e1
      obtain ⟨b, r1, r2, k⟩ := item_giveM (callee_give (B := B) hm) e2 (ga.ok _ (hp.mem_iff.mpr List.mem_cons_self))
      rw [hr] at r1; cases r1
      exact ⟨k rfl, r2⟩) p) e
  refine ⟨l, ?_, fun it hit => ?_, callee_ext ga.ext fun b z => ?_⟩
  · rw [h1]; exact List.nodup_cons.mpr ⟨(fun z => nomatch z), List.nodup_nil⟩
  · rw [h1]; exact h2 it hit
  · obtain ⟨⟨o, e, _⟩, _⟩ := ga.root_some (hm b z)
    rw [e]; exact fun z => nomatch z
end
end QE
namespace QE
open PySem L2 PySem.Spec PyProof.Rows
def outIts : Option Nat → List V → List D → List (V × D)
  | some j, vs, [d] => match nth vs j with
    | some v => [(v, d)]
    | none => []
  | _, _, _ => []
section
variable {C C' : RC} {O O' O1 X : List Addr} {H H' : Hp} {σ : L2.St} {ρ ρ' : Env} {F its0 its new : List (V × D)} {B : Prop} {m : Option Addr} {v v0 : V} {d d0 : D} {a : Addr}
theorem callee_take (g : Good C (its0 ++ its) H) (hO : ∀ b ∈ roots its, b ∈ O) (hn : ∀ b ∈ roots new, b ∈ O') : TakeC C (calleeC C H O B m) O' (roots new ++ roots its) B := by
  have hs : ∀ b ∈ roots its, H b ≠ none := fun b hb => by
    obtain ⟨⟨o, e, _⟩, _⟩ := g.root_some (show b ∈ roots (its0 ++ its) by rw [roots_app]; exact List.mem_append_right _ hb)
    rw [e]; exact fun z => nomatch z
  refine ⟨rfl, fun a n h => ⟨fun z => ?_, g.H0none h⟩, fun b a n h => ⟨fun z => ?_, (h.2.2 b).2⟩⟩
  · rcases List.mem_append.mp z with z | z
    · exact n (hn a z)
    · exact hs a z h
  · rcases List.mem_append.mp z with z | z
    · exact n (hn a z)
    · exact (h.2.2 b).1 (hO a z)
theorem notM_root (hM : notM d = true) (h : ItemOk C' O H (v, d)) : ∀ b ∈ root (v, d), C'.H0 b = none := by
  intro b hb
  cases d with
  | lst f xs =>
    cases f with
    | own => obtain ⟨a, vs, rfl, e, n, r⟩ := h; cases List.mem_singleton.mp hb; exact n
    | ownM => cases hM
    | fr => exact absurd hb (by cases v <;> simp [root])
    | old => exact absurd hb (by cases v <;> simp [root])
  | dic f t xs =>
    cases f with
    | own => obtain ⟨a, vs, rfl, e, mu, n, r⟩ := h; cases List.mem_singleton.mp hb; exact n
    | ownM => cases hM
    | fr => exact absurd hb (by cases v <;> simp [root])
    | old => exact absurd hb (by cases v <;> simp [root])
  | _ => exact absurd hb (by cases v <;> simp [root])
theorem callee_keep (hm : ∀ b, m = some b → ∀ o, H b = some o → Mut (some o)) (e : Ext (calleeC C H O B m) H') : Keep m.toList H H' := by
  refine ⟨fun b o h n nt => e.keep b o h (fun z => n ?_) nt, fun b hb o h => ?_⟩
  · have z : m = some b := z
    rw [z]; exact List.mem_singleton.mpr rfl
  · cases m with
    | none => cases hb
    | some c => cases List.mem_singleton.mp hb; exact hm b rfl o h
theorem mut_of (g : Good C its H) (h : a ∈ roots its) : ∀ b, some a = some b → ∀ o, H b = some o → Mut (some o) := fun b z o e => by
  cases z
  obtain ⟨⟨o', e', mu⟩, _⟩ := g.root_some h
  rw [e] at e'; cases e'; exact mu
theorem ret_one (g : Good C (its0 ++ its) H) (hO : ∀ b ∈ roots its, b ∈ O) (hm : ∀ b, m = some b → b ∈ roots its0) (g' : Good (calleeC C H O B m) [(v, d)] H') (hM : notM d = true) (hb : B ∨ noOld d = true) : Good C ((v, d) :: its) H' := by
  have hin : ∀ b, m = some b → b ∈ roots (its0 ++ its) := fun b z => by rw [roots_app]; exact List.mem_append_left _ (hm b z)
  have hs : ∀ b ∈ roots its, H b ≠ none := fun b hb => by
    obtain ⟨⟨o, e, _⟩, _⟩ := g.root_some (show b ∈ roots (its0 ++ its) by rw [roots_app]; exact List.mem_append_right _ hb)
    rw [e]; exact fun z => nomatch z
  have k := callee_keep (fun b z => by subst z; exact mut_of g (hin b rfl) b rfl) g'.ext
  have e1 : roots [(v, d)] = root (v, d) := by rw [roots_cons, roots_nil, List.append_nil]
  have hf := notM_root hM g'.head
  refine Good.ret (new := [(v, d)]) g k (fun b hb => ?_) g'.nd (fun b hb => ?_) (fun it hit => ?_) (callee_back g.ext (fun b z => (g.root_some (hin b z)).2) g'.ext)
  · cases m with
    | none => cases hb
    | some c => cases List.mem_singleton.mp hb; exact hm b rfl
  · rw [e1] at hb
    exact ⟨fun z => hs b z (hf b hb), .inr (hf b hb)⟩
  · cases List.mem_singleton.mp hit
    exact item_take (callee_take g hO fun b hb => hb) (fun b _ z => g.H0none z) hM g'.head hb
theorem ret_none {vs : List V} {os : List Opd} (st : StOk C (opIs vs os ++ F) σ ρ H) (g' : Good (calleeC C H (roots (opIs vs os ++ F ++ sl σ ρ)) B none) [(v, d)] H') (hM : notM d = true) (hb : B ∨ noOld d = true) : StOk C ((v, d) :: F) σ ρ H' := by
  refine ⟨st.ok, ?_⟩
  have g := st.good
  rw [List.append_assoc] at g
  refine ret_one (m := none) g (fun b hb => ?_) (fun b z => nomatch z) g' hM hb
  rw [List.append_assoc, roots_app]
  exact List.mem_append_right _ hb
theorem ret_two {dM dN : D} (g : Good C (its0 ++ its) H) (hO : ∀ b ∈ roots its, b ∈ O) (ha : a ∈ roots its0) (g' : Good (calleeC C H O B (some a)) [(v, d), (v0, dM)] H') (hM : notM d = true) (hb : B ∨ noOld d = true)
    (hr1 : root (v0, dM) = [a]) (hr2 : root (v0, dN) = [a]) (hi : ItemOk C (roots [(v, d), (v0, dN)] ++ roots its) H' (v0, dN)) : Good C ([(v, d), (v0, dN)] ++ its) H' := by
  have hin : a ∈ roots (its0 ++ its) := by rw [roots_app]; exact List.mem_append_left _ ha
  have n0 := g.nd
  rw [roots_app] at n0
  obtain ⟨_, n2, n3⟩ := List.nodup_append.mp n0
  have hs : ∀ b ∈ roots its, H b ≠ none := fun b hb => by
    obtain ⟨⟨o, e, _⟩, _⟩ := g.root_some (show b ∈ roots (its0 ++ its) by rw [roots_app]; exact List.mem_append_right _ hb)
    rw [e]; exact fun z => nomatch z
  have e1 : roots [(v, d), (v0, dM)] = root (v, d) ++ [a] := by rw [roots_cons, roots_cons, roots_nil, hr1, List.append_nil]
  have e2 : roots [(v, d), (v0, dN)] = root (v, d) ++ [a] := by rw [roots_cons, roots_cons, roots_nil, hr2, List.append_nil]
  have hf := notM_root hM g'.head
  refine Good.ret g (callee_keep (mut_of g hin) g'.ext) (fun b hb => ?_) ?_ (fun b hb => ?_) (fun it hit => ?_) (callee_back g.ext (fun b z => by cases z; exact (g.root_some hin).2) g'.ext)
  · cases List.mem_singleton.mp hb; exact ha
  · rw [e2, ← e1]; exact g'.nd
  · rw [e2] at hb
    rcases List.mem_append.mp hb with hb | hb
    · exact ⟨fun z => hs b z (hf b hb), .inr (hf b hb)⟩
    · cases List.mem_singleton.mp hb
      exact ⟨fun z => n3 _ ha _ z rfl, .inl ha⟩
  · rcases List.mem_cons.mp hit with rfl | hit
    · exact item_take (callee_take g hO fun b hb => by rw [e2] at hb; rw [e1]; exact hb) (fun b _ z => g.H0none z) hM g'.head hb
    · cases List.mem_singleton.mp hit
      exact hi
end
end QE
namespace QE
open PySem L2 PySem.Spec PyProof.Rows
section
variable {C : RC} {H H' : Hp} {σ : L2.St} {F G : List (V × D)}
theorem share_os : ∀ {m : Option Nat} {vs : List V} {os : List Opd} {G : List (V × D)}, valsOk m os = true → Good C (opIs vs os ++ G) H → Good C (opIs vs (shareOs m os) ++ G) H
  | m, [], os, G, _, g => by
    have e : opIs [] (shareOs m os) = opIs [] os := by cases os <;> first | rfl | (rename_i o _; cases o <;> rfl)
    rw [e]; exact g
  | m, v :: vs, [], G, _, g => g
  | m, v :: vs, .slot i :: os, G, h, g => by
    have g : Good C ((opIs vs os ++ []) ++ G) H := g
    rw [List.append_nil] at g
    have := share_os (m := mNext m) h g
    show Good C ((opIs vs (shareOs (mNext m) os) ++ []) ++ G) H
    rw [List.append_nil]; exact this
  | m, v :: vs, .val d :: os, G, h, g => by
    have h : ((mHere m || !isM d) && valsOk (mNext m) os) = true := h
    rw [Bool.and_eq_true] at h
    have g : Good C ((opIs vs os ++ [(v, d)]) ++ G) H := g
    rw [List.append_assoc] at g
    have g1 := share_os (m := mNext m) h.2 g
    show Good C ((opIs vs (shareOs (mNext m) os) ++ [(v, if mHere m then d else share d)]) ++ G) H
    rw [List.append_assoc]
    cases e : mHere m with
    | true => exact g1
    | false =>
      rw [e] at h
      have hm : isM d = false := by simpa using h.1
      exact ((g1.perm List.perm_middle).share1 hm).perm List.perm_middle.symm
theorem share_ats {σ : L2.St} : ∀ {m : Option Nat} {vs : List V} {os : List Opd}, opAts σ vs os → opAts σ vs (shareOs m os)
  | _, [], [], _ => trivial
  | _, [], _ :: _, h => h.elim
  | _, _ :: _, [], h => h.elim
  | m, v :: vs, .slot i :: os, h => ⟨h.1, share_ats h.2⟩
  | m, v :: vs, .val d :: os, h => ⟨trivial, share_ats h.2⟩
def ShEq (ρ ρb : Env) : Prop := ∀ i, getS ρb i = getS ρ i ∨ ∃ d, getS ρ i = some d ∧ getS ρb i = some (share d)
theorem ShEq.refl (ρ : Env) : ShEq ρ ρ := fun _ => .inl rfl
theorem share_share (d : D) : share (share d) = share d := by
  cases d with
  | lst f xs => cases f <;> rfl
  | dic f t xs => cases f <;> rfl
  | _ => rfl
theorem ShEq.trans {ρ ρ1 ρ2 : Env} (a : ShEq ρ ρ1) (b : ShEq ρ1 ρ2) : ShEq ρ ρ2 := fun i => by
  rcases a i with h | ⟨d, h1, h2⟩ <;> rcases b i with k | ⟨e, k1, k2⟩
  · exact .inl (k.trans h)
  · exact .inr ⟨e, h ▸ k1, k2⟩
  · exact .inr ⟨d, h1, k.trans h2⟩
  · rw [h2] at k1; cases k1
    exact .inr ⟨d, h1, by rw [k2, share_share]⟩
theorem getS_set_other {x : Option D} : ∀ {ρ : Env} {i j : Nat}, j ≠ i → getS (setS ρ i x) j = getS ρ j
  | [], _, _, _ => rfl
  | _ :: _, 0, 0, h => absurd rfl h
  | _ :: _, 0, _ + 1, _ => rfl
  | _ :: _, _ + 1, 0, _ => rfl
  | _ :: r, i + 1, j + 1, h => getS_set_other (ρ := r) (i := i) (j := j) fun z => h (congrArg (· + 1) z)
theorem shEq_set {ρ : Env} {i : Nat} {d : D} (e : getS ρ i = some d) : ShEq ρ (setS ρ i (some (share d))) := fun j => by
  by_cases h : j = i
  · subst h; exact .inr ⟨d, e, getS_set_same (getS_lt e)⟩
  · exact .inl (getS_set_other h)
theorem lent_ok : ∀ {m : Option Nat} {os : List Opd} {ρ ρb : Env}, shareLent m os ρ = some ρb → StOk C F σ ρ H → StOk C F σ ρb H ∧ ShEq ρ ρb
  | _, [], ρ, ρb, e, s => by cases e; exact ⟨s, .refl _⟩
  | m, o :: os, ρ, ρb, e, s => by
    cases o with
    | val d =>
      have e : (if mHere m then shareLent (mNext m) os ρ else shareLent (mNext m) os ρ) = some ρb := e
      rw [ite_self] at e
      exact lent_ok e s
    | slot i =>
      have e : (if mHere m then shareLent (mNext m) os ρ else (match getS ρ i with
        | some d => if isM d then none else shareLent (mNext m) os (setS ρ i (some (share d)))
        | none => none)) = some ρb := e
      split at e
      · exact lent_ok e s
      · cases e1 : getS ρ i with
        | none => rw [e1] at e; cases e
        | some d =>
          rw [e1] at e
          simp only at e
          split at e
          · cases e
          · rename_i hm
            obtain ⟨v, hv, g, _⟩ := s.at e1
            have s2 : StOk C F σ (setS ρ i (some (share d))) H := StOk.back s.ok hv (g.share1 (by simpa using hm))
            obtain ⟨a, b⟩ := lent_ok e s2
            exact ⟨a, (shEq_set e1).trans b⟩
theorem lent_all {i : Nat} : ∀ {os : List Opd} {ρ ρb : Env}, shareLent none os ρ = some ρb → allNot i os = true → getS ρb i = getS ρ i
  | [], ρ, ρb, e, _ => by cases e; rfl
  | o :: os, ρ, ρb, e, h => by
    have h : (notSlot i o && allNot i os) = true := h
    rw [Bool.and_eq_true] at h
    cases o with
    | val d => exact lent_all (show shareLent none os ρ = some ρb from e) h.2
    | slot j =>
      have e : (match getS ρ j with
        | some d => if isM d then none else shareLent none os (setS ρ j (some (share d)))
        | none => none) = some ρb := e
      cases e1 : getS ρ j with
      | none => rw [e1] at e; cases e
      | some d =>
        rw [e1] at e
        simp only at e
        split at e
        · cases e
        · have hj : (!Nat.beq j i) = true := h.1
          have hj : i ≠ j := by
            intro z; subst z
            rw [Nat.beq_refl] at hj; cases hj
          rw [lent_all e h.2, getS_set_other hj]
theorem lent_keep {i : Nat} : ∀ {n : Nat} {os : List Opd} {ρ ρb : Env}, shareLent (some n) os ρ = some ρb → othersNot i n os = true → getS ρb i = getS ρ i
  | n, [], ρ, ρb, e, _ => by cases e; rfl
  | 0, o :: os, ρ, ρb, e, h => lent_all (show shareLent none os ρ = some ρb from e) h
  | n + 1, o :: os, ρ, ρb, e, h => by
    have h : (notSlot i o && othersNot i n os) = true := h
    rw [Bool.and_eq_true] at h
    cases o with
    | val d => exact lent_keep (show shareLent (some n) os ρ = some ρb from e) h.2
    | slot j =>
      have e : (match getS ρ j with
        | some d => if isM d then none else shareLent (some n) os (setS ρ j (some (share d)))
        | none => none) = some ρb := e
      cases e1 : getS ρ j with
      | none => rw [e1] at e; cases e
      | some d =>
        rw [e1] at e
        simp only at e
        split at e
        · cases e
        · have hj : (!Nat.beq j i) = true := h.1
          have hj : i ≠ j := by
            intro z; subst z
            rw [Nat.beq_refl] at hj; cases hj
          rw [lent_keep e h.2, getS_set_other hj]
theorem asOld_share (d : D) : give (share d) = give d := by
  cases d with
  | lst f xs => cases f <;> rfl
  | dic f t xs => cases f <;> rfl
  | _ => rfl
theorem give_get {ρ ρb : Env} (s : ShEq ρ ρb) {o : Opd} {d : D} (e : o.get ρ = some d) : ∃ d', o.get ρb = some d' ∧ give d' = give d := by
  cases o with
  | val x => cases e; exact ⟨_, rfl, rfl⟩
  | slot i =>
    have e : getS ρ i = some d := e
    rcases s i with h | ⟨d', h1, h2⟩
    · exact ⟨d, h.trans e, rfl⟩
    · rw [e] at h1; cases h1
      exact ⟨_, h2, asOld_share _⟩
theorem hand_mk {ρ : Env} {m : Option Nat} {o : Opd} {os : List Opd} {d d' : D} {r : List D} (e1 : o.get ρ = some d) (e2 : (if mHere m then giveM d else give d) = some d') (e3 : handOver ρ (mNext m) os = some r) : handOver ρ m (o :: os) = some (d' :: r) := by
  show ((o.get ρ).bind fun d => (if mHere m then giveM d else give d).bind fun d' => (handOver ρ (mNext m) os).map (d' :: ·)) = _
  rw [e1]
  show ((if mHere m then giveM d else give d).bind fun d' => (handOver ρ (mNext m) os).map (d' :: ·)) = _
  rw [e2]
  show (handOver ρ (mNext m) os).map (d' :: ·) = _
  rw [e3]; rfl
theorem hand_sh0 {ρ ρb : Env} (s : ShEq ρ ρb) : ∀ {os : List Opd} {ds : List D}, handOver ρ none os = some ds → handOver ρb none os = some ds
  | [], ds, e => e
  | o :: os, ds, e => by
    obtain ⟨d, d', r, e1, e2, e3, rfl⟩ := hand_cons e
    obtain ⟨x, k1, k2⟩ := give_get s e1
    exact hand_mk k1 (show give x = some d' from k2.trans e2) (hand_sh0 s e3)
theorem hand_sh {ρ ρb : Env} (s : ShEq ρ ρb) : ∀ {n : Nat} {os : List Opd} {ds : List D}, (∀ i, nth os n = some (.slot i) → getS ρb i = getS ρ i) → handOver ρ (some n) os = some ds → handOver ρb (some n) os = some ds
  | n, [], ds, _, e => e
  | 0, o :: os, ds, h, e => by
    obtain ⟨d, d', r, e1, e2, e3, rfl⟩ := hand_cons e
    refine hand_mk (d := d) ?_ e2 (hand_sh0 s e3)
    cases o with
    | val x => exact e1
    | slot i => exact (h i rfl).trans e1
  | n + 1, o :: os, ds, h, e => by
    obtain ⟨d, d', r, e1, e2, e3, rfl⟩ := hand_cons e
    obtain ⟨x, k1, k2⟩ := give_get s e1
    exact hand_mk k1 (show give x = some d' from k2.trans e2) (hand_sh s h e3)
theorem hand_lent {m : Option Nat} {os : List Opd} {ρ ρb : Env} {ds : List D} (e : shareLent m os ρ = some ρb) (s : ShEq ρ ρb) (hs : soleM m os = true) (h : handOver ρ m os = some ds) : handOver ρb m os = some ds := by
  cases m with
  | none => exact hand_sh0 s h
  | some n =>
    refine hand_sh s (fun i hi => ?_) h
    have hs : (match nth os n with | some (.slot i) => othersNot i n os | some (.val _) => true | none => false) = true := hs
    rw [hi] at hs
    exact lent_keep e hs
end
end QE
namespace QE
open PySem L2 PySem.Spec PyProof.Rows

def SpOf (Φ : Calls) (Mu : Muts) (K : PySem.W.Frag) (fnA : FA) (EX : EC) (f n : Nat) : Sp := fun vs H Q E => vs.length = n ∧ ∃ C' ds, CtxOk K fnA C' ∧ C'.H0 = H ∧ vs.length = ds.length ∧ Good C' (vs.zip ds) H ∧
  post (Φ f ds) (fun r => ∀ v H', Good C' ((v, r.1) :: outIts (Mu f) vs r.2) H' → Q v H') (fun c x => ∀ cls dd H', Ext C' H' → EX.exc c x cls dd H' → E cls dd H')
section
variable {C : RC} {H H' : Hp} {σ : L2.St} {ρ ρ' : Env} {F G : List (V × D)} {B : Prop} {v v0 : V} {d d0 : D} {a : Addr}
theorem atM_nth {R : V → Opd → Prop} {P : V → Opd → Prop} (hP : ∀ v o, P v o → v = v0) : ∀ {n : Nat} {vs : List V} {os : List Opd}, AtM R P n vs os → nth vs n = some v0
  | _, _, _, .here h r => by rw [← hP _ _ h]; rfl
  | _, _, _, .there h r => by
    have := atM_nth hP r
    exact this
theorem noOut_cons {x : D} (h : noOldOuts [x] = true) : (∃ f xs, x = .lst f xs ∧ noOlds xs = true) ∨ ∃ f t xs, x = .dic f t xs ∧ noOldKv xs = true := by
  cases x with
  | lst f xs =>
    have h : (noOlds xs && true) = true := h
    rw [Bool.and_true] at h
    exact .inl ⟨f, xs, rfl, h⟩
  | dic f t xs =>
    have h : (noOldKv xs && true) = true := h
    rw [Bool.and_true] at h
    exact .inr ⟨f, t, xs, rfl, h⟩
  | _ => cases h
theorem tb_slot {n i : Nat} {os : List Opd} {outs : List D} (hn : nth os n = some (.slot i)) (h : takeBack (some n) os outs ρ = some ρ') :
    (∃ ys f xs, outs = [.lst .ownM ys] ∧ getS ρ i = some (.lst f xs) ∧ ρ' = setS ρ i (some (.lst f ys))) ∨ ∃ t ys f t0 xs, outs = [.dic .ownM t ys] ∧ getS ρ i = some (.dic f t0 xs) ∧ ρ' = setS ρ i (some (.dic f t ys)) := by
  unfold takeBack at h
  simp only [hn] at h
  split at h
  · split at h
    · cases h; exact .inl ⟨_, _, _, rfl, by assumption, rfl⟩
    · cases h
  · split at h
    · cases h; exact .inr ⟨_, _, _, _, _, rfl, by assumption, rfl⟩
    · cases h
  · cases h
theorem tb_val {n : Nat} {os : List Opd} {outs : List D} {dv : D} (hn : nth os n = some (.val dv)) (h : takeBack (some n) os outs ρ = some ρ') : ρ' = ρ := by
  unfold takeBack at h
  simp only [hn] at h
  cases h; rfl
theorem call_core {m : Option Nat} {vs : List V} {os : List Opd} {ds : List D} (st : StOk C (opIs vs os ++ F) σ ρ H) (ha : opAts σ vs os) (hs : soleM m os = true) (e : handOver ρ m os = some ds) (hl : B → lends ρ m os = false) :
    ∃ C' : RC, C'.K = C.K ∧ C'.fnA = C.fnA ∧ C'.H0 = H ∧ vs.length = ds.length ∧ Good C' (vs.zip ds) H ∧ (∀ H', Ext C' H' → Ext C H') ∧
      ∀ v d outs H' ρ', notM d = true → (B ∨ (noOld d = true ∧ noOldOuts outs = true)) → takeBack m os outs ρ = some ρ' → Good C' ((v, d) :: outIts m vs outs) H' → StOk C ((v, d) :: F) σ ρ' H' := by
  cases m with
  | none =>
    obtain ⟨l, g⟩ := callee_none (B := B) st ha e hl
    refine ⟨calleeC C H (roots (opIs vs os ++ F ++ sl σ ρ)) B none, rfl, rfl, rfl, l, g, fun H' e' => callee_back st.good.ext (fun b z => by cases z) e', fun v d outs H' ρ' hM hb ht g' => ?_⟩
    cases ht
    exact ret_none st g' hM (hb.imp id fun z => z.1)
  | some n =>
    have hs : (match nth os n with | some (.slot i) => othersNot i n os | some (.val _) => true | none => false) = true := hs
    cases hn : nth os n with
    | none => rw [hn] at hs; cases hs
    | some o =>
      obtain ⟨d0, d', e1, e2⟩ := hand_at e hn
      cases o with
      | slot i =>
        rw [hn] at hs
        have e1 : getS ρ i = some d0 := e1
        obtain ⟨v0, hv0, g0, p0⟩ := st.at e1
        have aM := ops_slot (B := B) hv0 e1 (G := opIs vs os ++ F) ha (st.ok.off i).1 (fun x hx => List.mem_append_left _ hx) hl hn hs
        obtain ⟨a, r1, r2, _⟩ := item_giveM (callee_give (C := C) (H := H) (B := True) (m := none) (O := roots ((v0, d0) :: (opIs vs os ++ F ++ sl σ (setS ρ i none)))) fun b z => by cases z) e2 g0.head
        obtain ⟨l, g⟩ := callee_M (B := B) g0 r1 p0 aM e
        have hv := atM_nth (fun v o z => z.1) aM
        have haG : a ∈ roots ((v0, d0) :: (opIs vs os ++ F ++ sl σ (setS ρ i none))) := by rw [roots_cons, r1]; exact List.mem_cons_self
        refine ⟨calleeC C H (roots (opIs vs os ++ F ++ sl σ ρ)) B (some a), rfl, rfl, rfl, l, g, fun H' e' => callee_back st.good.ext (fun b z => by cases z; exact (g0.root_some haG).2) e', fun v d outs H' ρ' hM hb ht g' => ?_⟩
        have fin : ∀ dM dN : D, Good (calleeC C H (roots (opIs vs os ++ F ++ sl σ ρ)) B (some a)) [(v, d), (v0, dM)] H' → root (v0, dM) = [a] → root (v0, dN) = [a] →
            (TakeC C (calleeC C H (roots (opIs vs os ++ F ++ sl σ ρ)) B (some a)) (roots [(v, d), (v0, dM)]) (roots [(v, d), (v0, dN)] ++ roots (F ++ sl σ (setS ρ i none))) B → ItemOk C (roots [(v, d), (v0, dN)] ++ roots (F ++ sl σ (setS ρ i none))) H' (v0, dN)) → StOk C ((v, d) :: F) σ (setS ρ i (some dN)) H' := by
          intro dM dN g' k1 k2 hi
          have g3 : Good C (((v0, d0) :: opIs vs os) ++ (F ++ sl σ (setS ρ i none))) H := by
            have := g0
            rw [List.append_assoc] at this
            exact this
          have hO : ∀ b ∈ roots (F ++ sl σ (setS ρ i none)), b ∈ roots (opIs vs os ++ F ++ sl σ ρ) := fun b hb => by
            refine (roots_perm p0).mem_iff.mpr ?_
            rw [roots_cons, List.append_assoc, roots_app]
            exact List.mem_append_right _ (List.mem_append_right _ hb)
          have e3 : roots [(v, d), (v0, dM)] = roots [(v, d), (v0, dN)] := by
            rw [roots_cons, roots_cons, roots_nil, k1, roots_cons, roots_cons, roots_nil, k2]
          have tk := callee_take (B := B) (m := some a) (O' := roots [(v, d), (v0, dM)]) (new := [(v, d), (v0, dN)]) g3 hO (fun b hb => by rw [e3]; exact hb)
          have g4 := ret_two (dM := dM) (dN := dN) g3 hO (by rw [roots_cons, r1]; exact List.mem_cons_self) g' hM (hb.imp id fun z => z.1) k1 k2 (hi tk)
          refine StOk.back st.ok hv0 (g4.perm ?_)
          show ((v, d) :: (v0, dN) :: (F ++ sl σ (setS ρ i none))).Perm ((v0, dN) :: (v, d) :: (F ++ sl σ (setS ρ i none)))
          exact List.Perm.swap _ _ _
        rcases tb_slot hn ht with ⟨ys, f, xs, rfl, e4, rfl⟩ | ⟨t, ys, f, t0, xs, rfl, e4, rfl⟩
        · rw [e1] at e4
          cases e4
          have g' : Good _ ((v, d) :: (match nth vs n with | some v => [(v, D.lst .ownM ys)] | none => [])) H' := g'
          rw [hv] at g'
          obtain ⟨a', vs', rfl, h1, h2, h3⟩ := g'.ok (v0, .lst .ownM ys) (List.mem_cons_of_mem _ List.mem_cons_self)
          have h2 : some a = some a' := h2
          cases h2
          have hb2 : B ∨ noOlds ys = true := hb.imp id fun z => by
            rcases noOut_cons z.2 with ⟨f', xs', q, k⟩ | ⟨f', t', xs', q, k⟩
            · cases q; exact k
            · cases q
          refine fin _ _ g' rfl (by cases f <;> first | rfl | cases r1) fun tk => ?_
          cases f with
          | own =>
            obtain ⟨_, _, q, _, n0, _⟩ := g0.head
            cases q
            exact ⟨_, vs', rfl, h1, n0, RepL.takeB tk h3 hb2⟩
          | ownM =>
            obtain ⟨_, _, q, _, n0, _⟩ := g0.head
            cases q
            exact ⟨_, vs', rfl, h1, n0, RepL.takeB tk h3 hb2⟩
          | fr => cases r1
          | old => cases r1
        · rw [e1] at e4
          cases e4
          have g' : Good _ ((v, d) :: (match nth vs n with | some v => [(v, D.dic .ownM t ys)] | none => [])) H' := g'
          rw [hv] at g'
          obtain ⟨a', l', rfl, h1, mu, h2, h3⟩ := g'.ok (v0, .dic .ownM t ys) (List.mem_cons_of_mem _ List.mem_cons_self)
          have h2 : some a = some a' := h2
          cases h2
          have hb2 : B ∨ noOldKv ys = true := hb.imp id fun z => by
            rcases noOut_cons z.2 with ⟨f', xs', q, k⟩ | ⟨f', t', xs', q, k⟩
            · cases q
            · cases q; exact k
          refine fin _ _ g' rfl (by cases f <;> first | rfl | cases r1) fun tk => ?_
          cases f with
          | own =>
            obtain ⟨_, _, q, _, _, n0, _⟩ := g0.head
            cases q
            exact ⟨_, l', rfl, h1, mu, n0, RepKv.takeN tk h3 hb2⟩
          | ownM =>
            obtain ⟨_, _, q, _, _, n0, _⟩ := g0.head
            cases q
            exact ⟨_, l', rfl, h1, mu, n0, RepKv.takeN tk h3 hb2⟩
          | fr => cases r1
          | old => cases r1
      | val dv =>
        cases e1
        obtain ⟨v0, r, p0, hat⟩ := ops_val (B := B) ha st.ok hl hn
        have aM := hat (r ++ F) fun x hx => List.mem_append_left _ hx
        have p1 : (opIs vs os ++ F ++ sl σ ρ).Perm ((v0, d0) :: (r ++ F ++ sl σ ρ)) := by
          have := (p0.append_right F).append_right (sl σ ρ)
          exact this
        have g0 := st.good.perm p1
        obtain ⟨a, r1, r2, _⟩ := item_giveM (callee_give (C := C) (H := H) (B := True) (m := none) (O := roots ((v0, d0) :: (r ++ F ++ sl σ ρ))) fun b z => by cases z) e2 g0.head
        obtain ⟨l, g⟩ := callee_M (B := B) g0 r1 p1 aM e
        have haG : a ∈ roots (opIs vs os) := (roots_perm p0).mem_iff.mpr (by rw [roots_cons, r1]; exact List.mem_cons_self)
        have haA : a ∈ roots (opIs vs os ++ F ++ sl σ ρ) := by rw [List.append_assoc, roots_app]; exact List.mem_append_left _ haG
        refine ⟨calleeC C H (roots (opIs vs os ++ F ++ sl σ ρ)) B (some a), rfl, rfl, rfl, l, g, fun H' e' => callee_back st.good.ext (fun b z => by cases z; exact (st.good.root_some haA).2) e', fun v d outs H' ρ' hM hb ht g' => ?_⟩
        cases tb_val hn ht
        refine ⟨st.ok, ?_⟩
        have gs := st.good
        rw [List.append_assoc] at gs
        refine ret_one (m := some a) gs (fun b hb => ?_) (fun b z => by cases z; exact haG) (g'.sub (its' := [(v, d)]) ?_) hM (hb.imp id fun z => z.1)
        · rw [List.append_assoc, roots_app]; exact List.mem_append_right _ hb
        · exact List.Sublist.cons_cons _ (List.nil_sublist _)

variable {Φ : Calls} {Mu : Muts} {K : PySem.W.Frag} {fnA : FA} {EX : EC} {Wx : WX}
theorem call_sp {f n : Nat} {vs : List V} {os0 : List Opd} {Q : VK} (hC : CtxOk K fnA C) (st0 : StOk C (opIs vs os0 ++ F) σ ρ H) (ha0 : opAts σ vs os0) (hlen : ∀ ds, Φ f ds ≠ .bad → ds.length = n)
    (p : post (doCall Φ Mu f os0 ρ) (fun r => ∀ v H', StOk C ((v, r.1) :: F) σ r.2 H' → Q v H') (ErrP EX Wx C σ)) : SpOf Φ Mu K fnA EX f n vs H Q (WE Wx σ) := by
  unfold doCall at p
  simp only at p
  split at p
  · rename_i hv
    rw [Bool.and_eq_true] at hv
    have st : StOk C (opIs vs (shareOs (Mu f) os0) ++ F) σ ρ H := by
      refine ⟨st0.ok, ?_⟩
      have g := st0.good
      rw [List.append_assoc] at g ⊢
      exact share_os hv.1 g
    have ha := share_ats (m := Mu f) ha0
    revert p st ha
    generalize hos : shareOs (Mu f) os0 = os at hv
    intro p st ha
    cases e : handOver ρ (Mu f) os with
    | none => rw [e] at p; exact p.elim
    | some ds =>
      rw [e] at p
      simp only at p
      cases eΦ : Φ f ds with
      | bad => rw [eΦ] at p; exact p.elim
      | err c x =>
        rw [eΦ] at p
        have p : ErrP EX Wx C σ c x := p
        obtain ⟨C', h1, h2, h3, l, g, hx, _⟩ := call_core (B := False) st ha hv.2 e (fun z => z.elim)
        refine ⟨l.trans (hlen ds (by rw [eΦ]; exact fun z => nomatch z)), C', ds, ⟨h1.trans hC.K, h2.trans hC.fnA⟩, h3, l, g, ?_⟩
        rw [eΦ]
        exact fun cls dd H' e' k => p cls dd H' (hx H' e') k
      | ok r =>
        obtain ⟨d, outs⟩ := r
        rw [eΦ] at p
        simp only at p
        have hl := hlen ds (by rw [eΦ]; exact fun z => nomatch z)
        split at p
        · exact p.elim
        · rename_i hM
          have hM : notM d = true := by simpa using hM
          split at p
          · rename_i hno
            rw [Bool.and_eq_true] at hno
            cases et : takeBack (Mu f) os outs ρ with
            | none => rw [et] at p; exact p.elim
            | some ρ' =>
              rw [et] at p
              have p : ∀ v H', StOk C ((v, d) :: F) σ ρ' H' → Q v H' := p
              obtain ⟨C', h1, h2, h3, l, g, _, hr⟩ := call_core (B := False) st ha hv.2 e (fun z => z.elim)
              refine ⟨l.trans hl, C', ds, ⟨h1.trans hC.K, h2.trans hC.fnA⟩, h3, l, g, ?_⟩
              rw [eΦ]
              exact fun v H' g' => p v H' (hr v d outs H' ρ' hM (.inr hno) et g')
          · cases eb : shareLent (Mu f) os ρ with
            | none => rw [eb] at p; exact p.elim
            | some ρb =>
              rw [eb] at p
              simp only at p
              split at p
              · exact p.elim
              · rename_i hlb
                obtain ⟨stb, sh⟩ := lent_ok eb st
                have e2 := hand_lent eb sh hv.2 e
                cases et : takeBack (Mu f) os outs ρb with
                | none => rw [et] at p; exact p.elim
                | some ρ' =>
                  rw [et] at p
                  have p : ∀ v H', StOk C ((v, d) :: F) σ ρ' H' → Q v H' := p
                  obtain ⟨C', h1, h2, h3, l, g, _, hr⟩ := call_core (B := True) stb ha hv.2 e2 (fun _ => by simpa using hlb)
                  refine ⟨l.trans hl, C', ds, ⟨h1.trans hC.K, h2.trans hC.fnA⟩, h3, l, g, ?_⟩
                  rw [eΦ]
                  exact fun v H' g' => p v H' (hr v d outs H' ρ' hM (.inl trivial) et g')
  · exact p.elim
structure FnAtK (k : Nat) (Φ : Calls) (Mu : Muts) (fnA : FA) (EX : EC) (X : Cx) (x : Str) (f : Nat) : Prop where
  ex : ∃ (fa : Addr) (fd : FuncData) (ps : List Str), FnOk X.prog X.w X.K X.mg X.base (L2.CX X.prog X.w) k fa fd ps (SpOf Φ Mu X.K fnA EX f ps.length) ∧ Room (k + 2) X.A ∧ X.mg x = some (.ref fa) ∧ PySem.W.keepIn X.K (.ref fa) = true ∧ Binds X.K fd ps [] ∧
    fnA f fa ∧ ∀ ds, Φ f ds ≠ .bad → ds.length = ps.length
def FnAt (Φ : Calls) (Mu : Muts) (fnA : FA) (EX : EC) (X : Cx) (x : Str) (f : Nat) : Prop := ∃ k, FnAtK k Φ Mu fnA EX X x f
theorem e_call {X : Cx} {e : Expr} {es : List Expr} {x : Str} {f : Nat} {pf pos : Pos} {ies : List IE} (hF : FnAt Φ Mu fnA EX X x f) (tk : Takes X Wx) (hK : K = X.K) (hg : Gl X x) (hd : (x == ("__debug__" : Str)) = false) (ha : PA X (e :: es) (TOs Φ Mu K fnA EX Wx ies)) (hp : plainEs (e :: es) = true) :
    EOk Φ Mu K fnA EX Wx X (.Call (.Name x pf) (e :: es) [] pos) (.call f ies) := by
  obtain ⟨k, hF⟩ := hF
  obtain ⟨fa, fd, ps, F, hr, hm, hk, hb, hfa, hlen⟩ := hF.ex
  refine EOk.of (weakE (pe_callS F (hr.mono (by omega)) hg hm hk hb (fun σ => passAt tk σ) ha hd (plain_star hp _) (star_any (plain_cons hp).2 _ _)) fun σ H Q q => ?_) rfl
  obtain ⟨C, F, ρ, hC, st, p0⟩ := q
  refine ⟨C, F, ρ, hC, st, post_mono (post_bind (show post ((evOs Φ Mu ies ρ).bind _) _ _ from p0)) (fun r1 k1 => ?_) fun _ _ z => z⟩
  intro vs H1 a1 st1
  have := call_sp hC st1 a1 hlen k1
  rw [hK] at this
  exact this
end
end QE
namespace QE
open PySem L2 PySem.Spec PyProof.Rows
section
variable {C : RC} {H H' : Hp} {σ σ' : L2.St} {ρ ρ' : Env} {F F' : List (V × D)} {own : List Nat}
theorem SlOk.agree (s : SlOk σ ρ) : ∀ {σ' : L2.St}, σ'.length = σ.length → (∀ i d, getS ρ i = some d → σ'[i]? = σ[i]?) → SlOk σ' ρ ∧ sl σ' ρ = sl σ ρ := by
  induction s with
  | nil =>
    intro σ' h _
    cases σ' with
    | nil => exact ⟨.nil, rfl⟩
    | cons _ _ => cases h
  | @skip x σ ρ s ih =>
    intro σ' h k
    cases σ' with
    | nil => cases h
    | cons y σ' =>
      obtain ⟨a, b⟩ := ih (σ' := σ') (by simpa using h) fun i d e => by simpa using k (i + 1) d e
      exact ⟨.skip a, by rw [sl_none, sl_none]; exact b⟩
  | @keep v d σ ρ s ih =>
    intro σ' h k
    cases σ' with
    | nil => cases h
    | cons y σ' =>
      obtain ⟨a, b⟩ := ih (σ' := σ') (by simpa using h) fun i d e => by simpa using k (i + 1) d e
      have := k 0 d rfl
      simp at this
      subst this
      exact ⟨.keep a, by show _ :: _ = _ :: _; rw [b]⟩
theorem StOk.agree (s : StOk C F σ ρ H) (h : σ'.length = σ.length) (k : ∀ i d, getS ρ i = some d → σ'[i]? = σ[i]?) : StOk C F σ' ρ H := by
  obtain ⟨a, b⟩ := s.ok.agree h k
  exact ⟨a, by rw [b]; exact s.good⟩
theorem wipe_len : ∀ (own : List Nat) (ρ : Env), (wipe ρ own).length = ρ.length
  | [], _ => rfl
  | i :: r, ρ => by show (setS (wipe ρ r) i none).length = _; rw [setS_len, wipe_len r]
theorem getS_setNone : ∀ {ρ : Env} {i j : Nat} {d : D}, getS (setS ρ i none) j = some d → j ≠ i ∧ getS ρ j = some d
  | [], _, _, _, h => by cases h
  | _ :: _, 0, 0, _, h => by cases h
  | _ :: _, 0, j + 1, _, h => ⟨fun z => (nomatch z), h⟩
  | _ :: _, i + 1, 0, _, h => ⟨fun z => (nomatch z), h⟩
  | _ :: r, i + 1, j + 1, d, h => by
    obtain ⟨a, b⟩ := getS_setNone (ρ := r) (i := i) (j := j) h
    exact ⟨fun z => a (Nat.succ.inj z), b⟩
theorem wipe_get : ∀ {own : List Nat} {ρ : Env} {j : Nat} {d : D}, getS (wipe ρ own) j = some d → j ∉ own ∧ getS ρ j = some d
  | [], _, _, _, h => ⟨fun z => (nomatch z), h⟩
  | i :: r, ρ, j, d, h => by
    obtain ⟨a, b⟩ := getS_setNone (show getS (setS (wipe ρ r) i none) j = some d from h)
    obtain ⟨c, e⟩ := wipe_get b
    exact ⟨fun z => (List.mem_cons.mp z).elim a c, e⟩
theorem wipe_at : ∀ {own : List Nat} {σ : L2.St} {j : Nat}, j ∉ own → (L2.wipe σ own)[j]? = σ[j]?
  | [], _, _, _ => rfl
  | i :: r, σ, j, h => by
    rw [List.mem_cons, not_or] at h
    show ((L2.wipe σ r).set i none)[j]? = _
    rw [List.getElem?_set_ne (fun z => h.1 z.symm), wipe_at h.2]
theorem StOk.wipe : ∀ {own : List Nat} {ρ : Env}, StOk C F σ ρ H → StOk C F σ (QE.wipe ρ own) H
  | [], _, s => s
  | i :: r, ρ, s => (StOk.wipe (own := r) s).off i
theorem StOk.wipeIn (s : StOk C F σ (QE.wipe ρ own) H) : StOk C F (L2.wipe σ own) (QE.wipe ρ own) H := s.agree (wipe_length _ _) fun i d e => wipe_at (wipe_get e).1
theorem StOk.wipeOut (s : StOk C F (L2.wipe σ own) (QE.wipe ρ own) H) : StOk C F σ (QE.wipe ρ own) H := s.agree (wipe_length _ _).symm fun i d e => (wipe_at (wipe_get e).1).symm
theorem wipe_other {i : Nat} : ∀ {own : List Nat} {ρ : Env}, i ∉ own → getS (QE.wipe ρ own) i = getS ρ i
  | [], _, _ => rfl
  | j :: r, ρ, h => by
    rw [List.mem_cons, not_or] at h
    show getS (setS (QE.wipe ρ r) j none) i = _
    rw [getS_set_other h.1, wipe_other h.2]
theorem restore_len : ∀ (own : List Nat) (ρ0 ρ : Env), (restore ρ0 ρ own).length = ρ.length
  | [], _, _ => rfl
  | i :: r, ρ0, ρ => by show (setS (restore ρ0 ρ r) i _).length = _; rw [setS_len, restore_len r]
theorem cut_own : ∀ {own : List Nat} {ρ : Env}, own.Nodup → StOk C F σ ρ H → ∃ cut : List (V × D), StOk C (cut ++ F) σ (QE.wipe ρ own) H ∧ ∀ F' ρ' H', ρ'.length = ρ.length → StOk C (cut ++ F') σ ρ' H' → StOk C F' σ (restore ρ ρ' own) H'
  | [], ρ, _, s => ⟨[], s, fun F' ρ' H' _ h => h⟩
  | i :: r, ρ, hn, s => by
    obtain ⟨hi, hn⟩ := List.nodup_cons.mp hn
    obtain ⟨cut, s1, back⟩ := cut_own hn s
    cases e : getS ρ i with
    | none =>
      refine ⟨cut, s1.off i, fun F' ρ' H' hl h => ?_⟩
      show StOk C F' σ (setS (restore ρ ρ' r) i (getS ρ i)) H'
      rw [e]
      exact (back F' ρ' H' hl h).off i
    | some d =>
      have e1 : getS (QE.wipe ρ r) i = some d := by rw [wipe_other hi]; exact e
      obtain ⟨v, hv, g, _⟩ := s1.at e1
      refine ⟨(v, d) :: cut, ⟨(s1.ok.off i).1, g⟩, fun F' ρ' H' hl h => ?_⟩
      show StOk C F' σ (setS (restore ρ ρ' r) i (getS ρ i)) H'
      rw [e]
      have h2 : StOk C (cut ++ (v, d) :: F') σ ρ' H' := h.permF List.perm_middle.symm
      have h3 := back _ ρ' H' hl h2
      refine StOk.back h3.ok hv ?_
      exact h3.good.sub (((h3.ok.off i).2.append_left F').cons_cons _)
end
end QE
namespace QE
open PySem L2 PySem.Spec PyProof.Rows

structure ItRep (C : RC) (J : L2.It) (its : List (V × D)) (xs : List D) : Prop where
  go : ∀ i H G, Good C (its ++ G) H → i < xs.length → J.go i H
  stop : ∀ i H G, Good C (its ++ G) H → xs.length = i → J.stop i H
  yld : ∀ i H x H' G d, Good C (its ++ G) H → nth xs i = some d → J.yld i H x H' → NotOwn d ∧ Good C ((x, d) :: (its ++ G)) H'
section
variable {C : RC} {O : List Addr} {H : Hp} {K : PySem.W.Frag} {X : Cx} {v w : V} {f : Fl} {ds es : List D}
theorem nth_lt {α : Type} : ∀ {xs : List α} {i : Nat} {d : α}, nth xs i = some d → i < xs.length
  | [], i, d, h => by cases i <;> cases h
  | _ :: _, 0, _, _ => Nat.succ_pos _
  | _ :: r, i + 1, d, h => Nat.succ_lt_succ (nth_lt (xs := r) h)
theorem nth_of_lt {α : Type} : ∀ {xs : List α} {i : Nat}, i < xs.length → ∃ d, nth xs i = some d
  | [], i, h => absurd h (Nat.not_lt_zero i)
  | x :: _, 0, _ => ⟨x, rfl⟩
  | _ :: r, i + 1, h => nth_of_lt (xs := r) (Nat.lt_of_succ_lt_succ h)
theorem getElem_of_lt {xs : List V} {i : Nat} (h : i < xs.length) : ∃ x, xs[i]? = some x := ⟨xs[i], List.getElem?_eq_getElem h⟩
theorem it_list (hK : C.K = K) {a : Addr} : ItRep C (Itl K a) [(.ref a, .lst f ds)] ds := by
  have at_ : ∀ {H : Hp} {G : List (V × D)}, Good C ([(V.ref a, D.lst f ds)] ++ G) H → ∃ vs, SqL K H a vs ∧ RepL C (roots ([(V.ref a, D.lst f ds)] ++ G)) H vs ds := by
    intro H G g
    obtain ⟨a', vs, e, r, rl⟩ := item_lst (g.ok _ List.mem_cons_self)
    cases e
    exact ⟨vs, .inl r, rl⟩
  refine ⟨fun i H G g h => ?_, fun i H G g h => ?_, fun i H x H' G d g e y => ?_⟩
  · obtain ⟨vs, q, rl⟩ := at_ g
    obtain ⟨x, hx⟩ := getElem_of_lt (xs := vs) (i := i) (by rw [rl.length]; exact h)
    exact ⟨vs, x, q, hx⟩
  · obtain ⟨vs, q, rl⟩ := at_ g
    exact ⟨vs, q, by rw [rl.length]; exact Nat.le_of_eq h⟩
  · obtain ⟨vs, q, rl⟩ := at_ g
    obtain ⟨rfl, h⟩ := y
    obtain ⟨v, hv, rv⟩ := rl.get e
    have := h vs q
    rw [hv] at this; cases this
    exact ⟨rv.notOwn, g.add rv⟩
theorem it_tup (hK : C.K = K) {a : Addr} : ItRep C (Itt K a) [(.ref a, .tup ds)] ds := by
  have at_ : ∀ {H : Hp} {G : List (V × D)}, Good C ([(V.ref a, D.tup ds)] ++ G) H → ∃ vs, SqT K H a vs ∧ RepL C (roots ([(V.ref a, D.tup ds)] ++ G)) H vs ds := by
    intro H G g
    obtain ⟨a', vs, e, r, rl⟩ := item_tup (g.ok _ List.mem_cons_self)
    cases e
    exact ⟨vs, .inl (.inl r), rl⟩
  refine ⟨fun i H G g h => ?_, fun i H G g h => ?_, fun i H x H' G d g e y => ?_⟩
  · obtain ⟨vs, q, rl⟩ := at_ g
    obtain ⟨x, hx⟩ := getElem_of_lt (xs := vs) (i := i) (by rw [rl.length]; exact h)
    exact ⟨vs, x, q, hx⟩
  · obtain ⟨vs, q, rl⟩ := at_ g
    exact ⟨vs, q, by rw [rl.length]; exact Nat.le_of_eq h⟩
  · obtain ⟨vs, q, rl⟩ := at_ g
    obtain ⟨rfl, h⟩ := y
    obtain ⟨v, hv, rv⟩ := rl.get e
    have := h vs q
    rw [hv] at this; cases this
    exact ⟨rv.notOwn, g.add rv⟩
theorem signs_nth : ∀ (s : List Nat) (i : Nat), nth (signs s) i = (s[i]?).map fun c => D.str [c]
  | [], i => by cases i <;> rfl
  | c :: r, 0 => rfl
  | c :: r, i + 1 => by simpa [signs, nth] using signs_nth r i
theorem signs_len : ∀ (s : List Nat), (signs s).length = s.length
  | [] => rfl
  | c :: r => by simp [signs, signs_len r]
theorem it_str {s : List Nat} {its : List (V × D)} : ItRep C (Its ⟨s.toArray⟩) its (signs s) := by
  refine ⟨fun i H G g h => ?_, fun i H G g h => ?_, fun i H x H' G d g e y => ?_⟩
  · rw [signs_len] at h; exact h
  · rw [signs_len] at h; exact Nat.le_of_eq h
  · obtain ⟨rfl, c, h, rfl⟩ := y
    rw [signs_nth] at e
    have h : s[i]? = some c := by simpa using h
    rw [h] at e; cases e
    exact ⟨trivial, g.add (.str [c])⟩
theorem rangeL_len : ∀ (n : Nat) (lo : Int), (rangeL lo n).length = n
  | 0, _ => rfl
  | n + 1, lo => by show (rangeL (lo + 1) n).length + 1 = _; rw [rangeL_len n]
theorem rangeL_nth : ∀ (n i : Nat) (lo : Int), i < n → nth (rangeL lo n) i = some (.int (lo + i))
  | 0, i, _, h => absurd h (Nat.not_lt_zero i)
  | n + 1, 0, lo, _ => by show some (D.int lo) = _; simp
  | n + 1, i + 1, lo, h => by
    show nth (rangeL (lo + 1) n) i = _
    rw [rangeL_nth n i (lo + 1) (Nat.lt_of_succ_lt_succ h)]
    congr 2
    omega
theorem rangeC_len : ∀ (n : Nat) (lo c : Int), (rangeC lo c n).length = n
  | 0, _, _ => rfl
  | n + 1, lo, c => by show (rangeC (lo + c) c n).length + 1 = _; rw [rangeC_len n]
theorem rangeC_nth : ∀ (n i : Nat) (lo c : Int), i < n → nth (rangeC lo c n) i = some (.int (lo + i * c))
  | 0, i, _, _, h => absurd h (Nat.not_lt_zero i)
  | n + 1, 0, lo, c, _ => by show some (D.int lo) = _; simp
  | n + 1, i + 1, lo, c, h => by
    show nth (rangeC (lo + c) c n) i = _
    rw [rangeC_nth n i (lo + c) c (Nat.lt_of_succ_lt_succ h)]
    congr 2
    have e : ((i + 1 : Nat) : Int) = (i : Int) + 1 := by omega
    rw [e, Int.add_mul]
    omega
theorem it_range {lo : Int} {n : Nat} {its : List (V × D)} : ItRep C (Itr lo n) its (rangeL lo n) := by
  refine ⟨fun i H G g h => ?_, fun i H G g h => ?_, fun i H x H' G d g e y => ?_⟩
  · rw [rangeL_len] at h; exact h
  · rw [rangeL_len] at h; exact Nat.le_of_eq h
  · obtain ⟨rfl, rfl⟩ := y
    have hl := nth_lt e
    rw [rangeL_len] at hl
    rw [rangeL_nth n i lo hl] at e; cases e
    exact ⟨trivial, g.add (.int _)⟩
theorem it_rangeC {lo c : Int} {n : Nat} {its : List (V × D)} : ItRep C (Itc lo c n) its (rangeC lo c n) := by
  refine ⟨fun i H G g h => ?_, fun i H G g h => ?_, fun i H x H' G d g e y => ?_⟩
  · rw [rangeC_len] at h; exact h
  · rw [rangeC_len] at h; exact Nat.le_of_eq h
  · obtain ⟨rfl, rfl⟩ := y
    have hl := nth_lt e
    rw [rangeC_len] at hl
    rw [rangeC_nth n i lo c hl] at e; cases e
    exact ⟨trivial, g.add (.int _)⟩
theorem zip_len : ∀ (a b : List D), (zipD a b).length = min a.length b.length
  | [], _ => by simp [zipD]
  | _ :: _, [] => by simp [zipD]
  | _ :: a, _ :: b => by simp [zipD, zip_len a b]
theorem zip_nth : ∀ {a b : List D} {i : Nat} {x y : D}, nth a i = some x → nth b i = some y → nth (zipD a b) i = some (.tup [x, y])
  | [], _, i, _, _, h, _ => by cases i <;> cases h
  | _ :: _, [], i, _, _, _, h => by cases i <;> cases h
  | _ :: _, _ :: _, 0, _, _, h, k => by cases h; cases k; rfl
  | _ :: a, _ :: b, i + 1, _, _, h, k => zip_nth (a := a) (b := b) h k
theorem Good.pair {G : List (V × D)} {x y : V} {d e : D} {T : Addr} (g : Good C G H) (r1 : Rep C (roots G) H x d) (r2 : Rep C (roots G) H y e) (h : H T = none) : Good C ((.ref T, .tup [d, e]) :: G) (upd H T (.tup [x, y])) := g.newT (.cons r1 (.cons r2 .nil)) h
theorem it_zip (hK : C.K = K) {a b : Addr} {f' : Fl} : ItRep C (Itz K a b) [(.ref a, .lst f ds), (.ref b, .lst f' es)] (zipD ds es) := by
  have at_ : ∀ {H : Hp} {G : List (V × D)}, Good C ([(V.ref a, D.lst f ds), (V.ref b, D.lst f' es)] ++ G) H → ∃ vs ws, SqL K H a vs ∧ SqL K H b ws ∧ RepL C (roots ([(V.ref a, D.lst f ds), (V.ref b, D.lst f' es)] ++ G)) H vs ds ∧ RepL C (roots ([(V.ref a, D.lst f ds), (V.ref b, D.lst f' es)] ++ G)) H ws es := by
    intro H G g
    obtain ⟨a', vs, e, r, rl⟩ := item_lst (g.ok _ List.mem_cons_self)
    cases e
    obtain ⟨b', ws, e, r2, rl2⟩ := item_lst (g.ok _ (List.mem_cons_of_mem _ List.mem_cons_self))
    cases e
    exact ⟨vs, ws, .inl r, .inl r2, rl, rl2⟩
  refine ⟨fun i H G g h => ?_, fun i H G g h => ?_, fun i H x H' G d g e y => ?_⟩
  · obtain ⟨vs, ws, q, q2, rl, rl2⟩ := at_ g
    rw [zip_len] at h
    obtain ⟨x, hx⟩ := getElem_of_lt (xs := vs) (i := i) (by rw [rl.length]; omega)
    obtain ⟨y, hy⟩ := getElem_of_lt (xs := ws) (i := i) (by rw [rl2.length]; omega)
    exact ⟨vs, ws, x, y, q, q2, hx, hy⟩
  · obtain ⟨vs, ws, q, q2, rl, rl2⟩ := at_ g
    rw [zip_len] at h
    exact ⟨vs, ws, q, q2, by rw [rl.length, rl2.length]; omega⟩
  · obtain ⟨vs, ws, q, q2, rl, rl2⟩ := at_ g
    obtain ⟨T, x1, y1, rfl, hT, rfl, h1, h2⟩ := y
    have hl := nth_lt e
    rw [zip_len] at hl
    obtain ⟨d1, e1⟩ := nth_of_lt (xs := ds) (i := i) (by omega)
    obtain ⟨d2, e2⟩ := nth_of_lt (xs := es) (i := i) (by omega)
    rw [zip_nth e1 e2] at e
    cases e
    obtain ⟨v1, hv1, r1⟩ := rl.get e1
    obtain ⟨v2, hv2, r2⟩ := rl2.get e2
    have z1 := h1 vs q
    have z2 := h2 ws q2
    rw [hv1] at z1; cases z1
    rw [hv2] at z2; cases z2
    exact ⟨trivial, g.pair r1 r2 hT⟩
theorem it_zipT (hK : C.K = K) {a b : Addr} : ItRep C (RZ.ItzT K a b) [(.ref a, .tup ds), (.ref b, .tup es)] (zipD ds es) := by
  have at_ : ∀ {H : Hp} {G : List (V × D)}, Good C ([(V.ref a, D.tup ds), (V.ref b, D.tup es)] ++ G) H → ∃ vs ws, SqT K H a vs ∧ SqT K H b ws ∧ RepL C (roots ([(V.ref a, D.tup ds), (V.ref b, D.tup es)] ++ G)) H vs ds ∧ RepL C (roots ([(V.ref a, D.tup ds), (V.ref b, D.tup es)] ++ G)) H ws es := by
    intro H G g
    obtain ⟨a', vs, e, r, rl⟩ := item_tup (g.ok _ List.mem_cons_self)
    cases e
    obtain ⟨b', ws, e, r2, rl2⟩ := item_tup (g.ok _ (List.mem_cons_of_mem _ List.mem_cons_self))
    cases e
    exact ⟨vs, ws, .inl (.inl r), .inl (.inl r2), rl, rl2⟩
  refine ⟨fun i H G g h => ?_, fun i H G g h => ?_, fun i H x H' G d g e y => ?_⟩
  · obtain ⟨vs, ws, q, q2, rl, rl2⟩ := at_ g
    rw [zip_len] at h
    obtain ⟨x, hx⟩ := getElem_of_lt (xs := vs) (i := i) (by rw [rl.length]; omega)
    obtain ⟨y, hy⟩ := getElem_of_lt (xs := ws) (i := i) (by rw [rl2.length]; omega)
    exact ⟨vs, ws, x, y, q, q2, hx, hy⟩
  · obtain ⟨vs, ws, q, q2, rl, rl2⟩ := at_ g
    rw [zip_len] at h
    exact ⟨vs, ws, q, q2, by rw [rl.length, rl2.length]; omega⟩
  · obtain ⟨vs, ws, q, q2, rl, rl2⟩ := at_ g
    obtain ⟨T, x1, y1, rfl, hT, rfl, h1, h2⟩ := y
    have hl := nth_lt e
    rw [zip_len] at hl
    obtain ⟨d1, e1⟩ := nth_of_lt (xs := ds) (i := i) (by omega)
    obtain ⟨d2, e2⟩ := nth_of_lt (xs := es) (i := i) (by omega)
    rw [zip_nth e1 e2] at e
    cases e
    obtain ⟨v1, hv1, r1⟩ := rl.get e1
    obtain ⟨v2, hv2, r2⟩ := rl2.get e2
    have z1 := h1 vs q
    have z2 := h2 ws q2
    rw [hv1] at z1; cases z1
    rw [hv2] at z2; cases z2
    exact ⟨trivial, g.pair r1 r2 hT⟩
theorem enum_len : ∀ (n : Nat) (xs : List D), (enumD n xs).length = xs.length
  | _, [] => rfl
  | n, x :: r => by show (enumD (n + 1) r).length + 1 = _; rw [enum_len (n + 1) r]; rfl
theorem enum_nth : ∀ {n : Nat} {xs : List D} {i : Nat} {d : D}, nth xs i = some d → nth (enumD n xs) i = some (.tup [.int (n + i : Nat), d])
  | _, [], i, _, h => by cases i <;> cases h
  | n, x :: r, 0, _, h => by cases h; rfl
  | n, x :: r, i + 1, d, h => by
    show nth (enumD (n + 1) r) i = _
    rw [enum_nth (n := n + 1) (xs := r) (i := i) h, show n + 1 + i = n + (i + 1) by omega]
theorem it_enum (hK : C.K = K) {a : Addr} : ItRep C (Ite K a) [(.ref a, .lst f ds)] (enumD 0 ds) := by
  have at_ : ∀ {H : Hp} {G : List (V × D)}, Good C ([(V.ref a, D.lst f ds)] ++ G) H → ∃ vs, SqL K H a vs ∧ RepL C (roots ([(V.ref a, D.lst f ds)] ++ G)) H vs ds := by
    intro H G g
    obtain ⟨a', vs, e, r, rl⟩ := item_lst (g.ok _ List.mem_cons_self)
    cases e
    exact ⟨vs, .inl r, rl⟩
  refine ⟨fun i H G g h => ?_, fun i H G g h => ?_, fun i H x H' G d g e y => ?_⟩
  · obtain ⟨vs, q, rl⟩ := at_ g
    rw [enum_len] at h
    obtain ⟨x, hx⟩ := getElem_of_lt (xs := vs) (i := i) (by rw [rl.length]; exact h)
    exact ⟨vs, x, q, hx⟩
  · obtain ⟨vs, q, rl⟩ := at_ g
    rw [enum_len] at h
    exact ⟨vs, q, by rw [rl.length]; exact Nat.le_of_eq h⟩
  · obtain ⟨vs, q, rl⟩ := at_ g
    obtain ⟨T, x1, rfl, hT, rfl, h1⟩ := y
    have hl := nth_lt e
    rw [enum_len] at hl
    obtain ⟨d1, e1⟩ := nth_of_lt (xs := ds) (i := i) hl
    rw [enum_nth e1] at e
    cases e
    obtain ⟨v1, hv1, r1⟩ := rl.get e1
    have z1 := h1 vs q
    rw [hv1] at z1; cases z1
    rw [Nat.zero_add]
    exact ⟨trivial, g.pair (.int _) r1 hT⟩
end
end QE
namespace QE
open PySem L2 PySem.Spec PyProof.Rows

theorem meets_enum1 {v : Value} {o : Obj} {H : Heap → Prop} (B : Begins v o H) :
    Meets (Builtin.«enumerate.__new__» ⟨[.type "enumerate", v], []⟩) (fun _ R s => H s.heap ∧
      R (.ok (.ret (.ref (s.heap.push o).objs.size))) { s with heap := (s.heap.push o).push { cls := .type "enumerate", data := .fields #[.none, .bool false, .ref s.heap.objs.size, rawInt 0, .none, .none] } }) :=
  .of_wp fun prog w A R s h => by
    obtain ⟨hp, g, d, tk, os⟩ := s; obtain ⟨h1, h⟩ := h
    have hsub := sub_enumerate
    have q1 : ∀ {A' : Around} {E : Value → Shared → Prop} {Q : Value → Shared → Prop}, Q (.ref hp.objs.size) ⟨hp.push o, g, d, tk, os⟩ → wpAny (model prog w) A' (pyIter v) Q E ⟨hp, g, d, tk, os⟩ :=
      fun q => B.iter prog w _ _ ⟨hp, g, d, tk, os⟩ _ h1 q
    wp_walk using q1
    refine wpAny_stack_any fun st => wpAny_pure ?_
    split
    · rename_i c _ _ _ _ _
      cases (c == Value.type "enumerate")
      · wp_walk using q1
        exact ⟨_, rfl, h⟩
      · wp_walk using q1
        exact ⟨_, rfl, h⟩
    · wp_walk using q1
      exact ⟨_, rfl, h⟩
section
variable {prog : Program} {w : World} {A : Around} {E : Value → Shared → Prop} {s : Shared}
theorem enum_begin1 {v : Value} {o : Obj} {H : Heap → Prop} {Q : Value → Shared → Prop} (B : Begins v o H) (h1 : H s.heap)
    (h : ∀ h', IsEnum h' (s.heap.objs.size + 1) s.heap.objs.size 0 .none → h'.get? s.heap.objs.size = some o → h'.objs.size = s.heap.objs.size + 2 →
      (∀ b o, s.heap.get? b = some o → h'.get? b = some o) → Q (.ref (s.heap.objs.size + 1)) { s with heap := h' }) :
    wpAny (model prog w) A (PySem.call (.type "enumerate") [v]) Q E s := by
  refine callType_new F.called_enumerate (by decide) (F.typeCall_enumerate_1 _) (F.newCall_enumerate_1 _) (fun obj => F.args_object_init_2 obj _) F.entry_enumerate_new
    (meets_enum1 B) ⟨h1, ?_⟩
  have hz : (s.heap.push o).objs.size = s.heap.objs.size + 1 := Heap.size_push ..
  show _ ∧ _
  rw [hz]
  have he : IsEnum ((s.heap.push o).push { cls := .type "enumerate", data := .fields #[.none, .bool false, .ref s.heap.objs.size, rawInt 0, .none, .none] }) (s.heap.objs.size + 1) s.heap.objs.size 0 .none := by
    have := Heap.get?_push_size (s.heap.push o) (o := { cls := .type "enumerate", data := .fields #[.none, .bool false, .ref s.heap.objs.size, rawInt 0, .none, .none] }) rfl
    rw [hz] at this; exact this
  exact ⟨⟨_, he, rfl⟩, h _ he (Heap.get?_push_of_some _ (Heap.get?_push_size _ B.free)) (by rw [Heap.size_push, hz]) fun b o x => Heap.get?_push_of_some _ (Heap.get?_push_of_some _ x)⟩
end
def IteT (K : PySem.W.Frag) (a : Addr) : L2.It :=
  ⟨fun i H => ∃ (xs : List V) (x : V), SqT K H a xs ∧ xs[i]? = some x, fun i H v H' => ∃ T x, v = .ref T ∧ H T = none ∧ H' = upd H T (.tup [.int (i : Nat), x]) ∧ ∀ xs, SqT K H a xs → xs[i]? = some x, fun i H => ∃ xs : List V, SqT K H a xs ∧ xs.length = i⟩
def IteS (x : Str) : L2.It :=
  ⟨fun i _ => i < x.cps.size, fun i H v H' => ∃ T c, v = .ref T ∧ H T = none ∧ x.cps[i]? = some c ∧ H' = upd H T (.tup [.int (i : Nat), .str ⟨#[c]⟩]), fun i _ => x.cps.size = i⟩
theorem tup_not_iter {h : Heap} {a it t : Addr} {i : Nat} {its : Array Value} (p : h.IsTuple a its) (q : h.IsTupleIter it t i) : a ≠ it := by
  intro z
  subst z
  obtain ⟨o, e, c, _⟩ := p
  obtain ⟨o', e', c', _⟩ := q
  rw [e] at e'
  cases e'
  rw [c] at c'
  exact absurd c' (by decide)
theorem tup_not_enum {h : Heap} {a e it : Addr} {i : Int} {old : Value} {its : Array Value} (p : h.IsTuple a its) (q : IsEnum h e it i old) : a ≠ e := by
  intro z
  subst z
  obtain ⟨o, e, c, _⟩ := p
  have q' : h.get? a = _ := q
  rw [e] at q'
  cases q'
  exact absurd (show Value.type "enumerate" = Value.type "tuple" from c) (by decide)
theorem turn_enumT {P : Program} {w : World} {K : PySem.W.Frag} {elts : List Expr} {kk : Nat} {tpos : Pos} (a e it : Addr) :
    Turn P w K (.Tuple elts kk tpos) (IteT K a) [e, it] e (fun i h => (∃ old, IsEnum h e it ((i : Nat) : Int) old) ∧ h.IsTupleIter it a i ∧ e ≠ it) where
  mem := by simp
  obj := fun i h st b hb => by
    obtain ⟨⟨old, he⟩, ⟨o, ho, hc, hd⟩, _⟩ := st
    have e' : b = e ∨ b = it := by simpa using hb
    rcases e' with z | z
    · rw [z]; exact ⟨_, he, fun v q => nomatch q⟩
    · rw [z]; exact ⟨o, ho, fun v q => by rw [hd] at q; cases q⟩
  keep := fun i h h' st k => let ⟨⟨old, he⟩, hi, hne⟩ := st; ⟨⟨old, k e (by simp) _ he⟩, hi.at fun o q => k it (by simp) o q, hne⟩
  item := by
    intro X hP hw hK hc i pins s σ H E I hf st hg
    subst hP hw hK
    obtain ⟨⟨old, he⟩, hit, hne⟩ := st
    obtain ⟨xs, x, hq, hx⟩ := hg
    obtain ⟨its, rv, p, hz⟩ := I.tuple hq
    obtain ⟨u, hu, ru⟩ := rv.get hx
    have hel : e < s.heap.objs.size := Heap.lt_size he
    have hil : it < s.heap.objs.size := by obtain ⟨_, q, _⟩ := hit; exact Heap.lt_size q
    have p' : s.heap.IsTuple a its.toArray := p
    have ha1 := tup_not_iter p' hit
    have ha2 := tup_not_enum p' he
    have hlt : i < its.toArray.size := by
      have := List.getElem?_eq_some_iff.mp hu
      simpa using this.1
    have D := Draws.tuple (prog := X.prog) (w := X.w) (A := X.A.in1) (I.ok.hd hc) it a ha1 its.toArray
    refine wpAny_pyNext_enum_itemD D he ⟨hit, p'⟩ hlt hne (by simp; exact ⟨hne, fun z => ha2 z.symm⟩) fun y h' tk hy ho hst hT hsz hk => ?_
    have hyu : y = u := by
      have h2 : its.toArray[i]? = some u := by simpa using hu
      rw [h2] at hy; cases hy; rfl
    subst hyu
    refine ⟨_, rfl, wpAny_letOwnedTupleGo_enum (s := { s with heap := h', toks := tk + 1 }) ho fun h'' he' sb => ?_⟩
    have hT2 : h''.get? s.heap.objs.size = some { cls := .type "tuple", data := .seq #[.int i tk, y] } := (sb.2 _ (Nat.ne_of_gt hel)).trans hT
    have new : ObjOk X.prog X.w (upd H s.heap.objs.size (.tup [.int (i : Nat), x])) h'' s.heap.objs.size (.tup [.int (i : Nat), x]) :=
      ⟨by show 2 ≤ sizeLine; decide, [.int i tk, y], .cons ⟨_, rfl⟩ (.cons ru .nil), ⟨_, hT2, rfl, _, rfl⟩⟩
    have I1 : Inv X pins σ (upd H s.heap.objs.size (.tup [.int (i : Nat), x])) { s with heap := h'', toks := tk + 1 } :=
      I.turnedNew (ch := [e, it]) (fun b ob hb q => (sb.2 b (fun z => hb (by simp [z]))).trans (hk b ob (fun z => hb (by simp [z])) (fun z => hb (by simp [z])) q)) hf (Nat.le_refl _) new
    refine ⟨.ref s.heap.objs.size, _, I1, rfl, ⟨_, x, rfl, I.hok.fresh (Nat.le_refl _), rfl, fun ys hy => by rw [I.tuple_inj hy hq]; exact hx⟩, ⟨⟨y, ?_⟩, hst.1.at fun o q => (sb.2 it (Ne.symm hne)).trans q, hne⟩, fun b hb => ?_⟩
    · have e1 : ((i + 1 : Nat) : Int) = (i : Int) + 1 := by omega
      rw [e1]; exact he'
    · have hb' : b < s.heap.objs.size := by
        have e' : b = e ∨ b = it := by simpa using hb
        rcases e' with z | z
        · rw [z]; exact hel
        · rw [z]; exact hil
      rw [upd_ne (Nat.ne_of_lt hb')]
      exact (hf b hb).1
  done := by
    intro X hP hw hK hc i pins s σ H E I hf st hg
    subst hP hw hK
    obtain ⟨⟨old, he⟩, hit, hne⟩ := st
    obtain ⟨xs, hq, hx⟩ := hg
    obtain ⟨its, rv, p, hz⟩ := I.tuple hq
    have p' : s.heap.IsTuple a its.toArray := p
    have D := Draws.tuple (prog := X.prog) (w := X.w) (A := X.A.in1) (I.ok.hd hc) it a (tup_not_iter p' hit) its.toArray
    obtain ⟨f0, f1, f2, f3, f4, f5⟩ := hf it (by simp)
    have hl := rv.length
    have hi : its.toArray.size = i := by simp; omega
    exact wpAny_pyNext_enum_endD D he (by rw [hi]; exact ⟨hit, p'⟩) fun h' eb => ⟨rfl, I.turned (t' := s.toks) (fun b o hb q => eb b o hb q) f0 f1 f3 f4 f5⟩
  self := fun A i s Q E st h => let ⟨⟨_, he⟩, _⟩ := st; wpAny_pyIter_enum he h

theorem turn_enumS {P : Program} {w : World} {K : PySem.W.Frag} {elts : List Expr} {kk : Nat} {tpos : Pos} (x : Str) (t : Tok) (e it : Addr) :
    Turn P w K (.Tuple elts kk tpos) (IteS x) [e, it] e (fun i h => (∃ old, IsEnum h e it ((i : Nat) : Int) old) ∧ h.IsStrIter it (strIterType x) x t i ∧ e ≠ it) where
  mem := by simp
  obj := fun i h st b hb => by
    obtain ⟨⟨old, he⟩, ⟨o, ho, hc, hd⟩, _⟩ := st
    have e' : b = e ∨ b = it := by simpa using hb
    rcases e' with z | z
    · rw [z]; exact ⟨_, he, fun v q => nomatch q⟩
    · rw [z]; exact ⟨o, ho, fun v q => by rw [hd] at q; cases q⟩
  keep := fun i h h' st k => let ⟨⟨old, he⟩, ⟨o, ho, r⟩, hne⟩ := st; ⟨⟨old, k e (by simp) _ he⟩, ⟨o, k it (by simp) o ho, r⟩, hne⟩
  item := by
    intro X hP hw hK hc i pins s σ H E I hf st hg
    subst hP hw hK
    obtain ⟨⟨old, he⟩, hit, hne⟩ := st
    have hlt : i < x.cps.size := hg
    have hel : e < s.heap.objs.size := Heap.lt_size he
    have hil : it < s.heap.objs.size := by obtain ⟨_, q, _⟩ := hit; exact Heap.lt_size q
    have D := Draws.text (prog := X.prog) (w := X.w) (A := X.A.in1) (I.ok.hd hc) it x t
    refine wpAny_pyNext_enum_itemD D he hit hlt hne (by simpa using hne) fun y h' tk hy ho hst hT hsz hk => ?_
    obtain ⟨c, u, hcx, rfl⟩ := hy
    refine ⟨_, rfl, wpAny_letOwnedTupleGo_enum (s := { s with heap := h', toks := tk + 1 }) ho fun h'' he' sb => ?_⟩
    have hT2 : h''.get? s.heap.objs.size = some { cls := .type "tuple", data := .seq #[.int i tk, .str ⟨#[c]⟩ u] } := (sb.2 _ (Nat.ne_of_gt hel)).trans hT
    have new : ObjOk X.prog X.w (upd H s.heap.objs.size (.tup [.int (i : Nat), .str ⟨#[c]⟩])) h'' s.heap.objs.size (.tup [.int (i : Nat), .str ⟨#[c]⟩]) :=
      ⟨by show 2 ≤ sizeLine; decide, [.int i tk, .str ⟨#[c]⟩ u], .cons ⟨_, rfl⟩ (.cons ⟨_, rfl⟩ .nil), ⟨_, hT2, rfl, _, rfl⟩⟩
    have I1 : Inv X pins σ (upd H s.heap.objs.size (.tup [.int (i : Nat), .str ⟨#[c]⟩])) { s with heap := h'', toks := tk + 1 } :=
      I.turnedNew (ch := [e, it]) (fun b ob hb q => (sb.2 b (fun z => hb (by simp [z]))).trans (hk b ob (fun z => hb (by simp [z])) (fun z => hb (by simp [z])) q)) hf (Nat.le_refl _) new
    obtain ⟨oi, eo, ro⟩ := hst
    refine ⟨.ref s.heap.objs.size, _, I1, rfl, ⟨_, c, rfl, I.hok.fresh (Nat.le_refl _), hcx, rfl⟩, ⟨⟨Value.str ⟨#[c]⟩ u, ?_⟩, ⟨oi, (sb.2 it (Ne.symm hne)).trans eo, ro⟩, hne⟩, fun b hb => ?_⟩
    · have e1 : ((i + 1 : Nat) : Int) = (i : Int) + 1 := by omega
      rw [e1]; exact he'
    · have hb' : b < s.heap.objs.size := by
        have e' : b = e ∨ b = it := by simpa using hb
        rcases e' with z | z
        · rw [z]; exact hel
        · rw [z]; exact hil
      rw [upd_ne (Nat.ne_of_lt hb')]
      exact (hf b hb).1
  done := by
    intro X hP hw hK hc i pins s σ H E I hf st hg
    subst hP hw hK
    obtain ⟨⟨old, he⟩, hit, hne⟩ := st
    have hi : x.cps.size = i := hg
    have D := Draws.text (prog := X.prog) (w := X.w) (A := X.A.in1) (I.ok.hd hc) it x t
    obtain ⟨f0, f1, f2, f3, f4, f5⟩ := hf it (by simp)
    exact wpAny_pyNext_enum_endD D he (by rw [hi]; exact hit) fun h' eb => ⟨rfl, I.turned (t' := s.toks) (fun b o hb q => eb b o hb q) f0 f1 f3 f4 f5⟩
  self := fun A i s Q E st h => let ⟨⟨_, he⟩, _⟩ := st; wpAny_pyIter_enum he h
def iEnumA (K : PySem.W.Frag) (ta : TA) : TI := fun σ H R => ta σ H fun vs H1 => (∃ a xs, vs = [.ref a] ∧ SqL K H1 a xs ∧ R (Ite K a) H1) ∨ (∃ a xs, vs = [.ref a] ∧ SqT K H1 a xs ∧ R (IteT K a) H1) ∨ ∃ x, vs = [.str x] ∧ R (IteS x) H1
theorem pi_enumA {X : Cx} {e : Expr} {ta : TA} {p pos tpos : Pos} {elts : List Expr} {kk : Nat} (hg : Gl X "enumerate") (hm : X.mg "enumerate" = none) (ha : PA X [e] ta) (hs : starEach [e] X.env = [(false, eval e X.env)]) :
    PI X (.Tuple elts kk tpos) (.Call (.Name "enumerate" p) [e] [] pos) (iEnumA X.K ta) := by
  refine ⟨fun pins s σ H R I h => ?_⟩
  refine Call_ (ld_blt I hg hm boot_enumerate (PyProof.Rows.callWith_type1 (thn (ha.run pos pins s σ H _ I h) fun us s1 ⟨vs, H1, I1, r1, q1⟩ => ?_) hs rfl))
  have fpk : ∀ b ∈ [s1.heap.objs.size + 1, s1.heap.objs.size], FpOk X pins H1 b := fun b hb => by
    have e' : b = s1.heap.objs.size + 1 ∨ b = s1.heap.objs.size := by simpa using hb
    have hle : s1.heap.objs.size ≤ b := by
      rcases e' with z | z
      · rw [z]; exact Nat.le_add_right _ _
      · rw [z]; exact Nat.le_refl _
    exact I1.fpOk hle (I1.hok.fresh hle)
  rcases q1 with ⟨a, xs, ex, hq, q⟩ | ⟨a, xs, ex, hq, q⟩ | ⟨x, ex, q⟩
  · subst ex
    cases r1 with
    | cons r rr =>
      cases rr
      cases r
      obtain ⟨its, rv, p', hz⟩ := I1.list hq
      refine call_enumerate_list p'.isList fun h' he hit hsz hk => wpAny_pyIter_enum he ?_
      exact ⟨s1.heap.objs.size + 1, [s1.heap.objs.size + 1, s1.heap.objs.size], _, _, H1, rfl, I1.kept (t' := s1.toks) hk, turn_enum a (s1.heap.objs.size + 1) s1.heap.objs.size, ⟨⟨.none, he⟩, hit, Nat.succ_ne_self _⟩, fpk, q⟩
  · subst ex
    cases r1 with
    | cons r rr =>
      cases rr
      cases r
      obtain ⟨its, rv, p', hz⟩ := I1.tuple hq
      refine enum_begin1 (begins_tuple a its.toArray) (show s1.heap.IsTuple a its.toArray from p') fun h' he hit hsz hk => wpAny_pyIter_enum he ?_
      exact ⟨s1.heap.objs.size + 1, [s1.heap.objs.size + 1, s1.heap.objs.size], _, _, H1, rfl, I1.kept (t' := s1.toks) hk, turn_enumT a (s1.heap.objs.size + 1) s1.heap.objs.size, ⟨⟨.none, he⟩, ⟨_, hit, rfl, rfl⟩, Nat.succ_ne_self _⟩, fpk, q⟩
  · subst ex
    cases r1 with
    | cons r rr =>
      cases rr
      obtain ⟨t, rfl⟩ := r
      refine call_enumerate_str fun h' he hit hsz hk => wpAny_pyIter_enum he ?_
      exact ⟨s1.heap.objs.size + 1, [s1.heap.objs.size + 1, s1.heap.objs.size], _, _, H1, rfl, I1.kept (t' := s1.toks) hk, turn_enumS x t (s1.heap.objs.size + 1) s1.heap.objs.size, ⟨⟨.none, he⟩, hit, Nat.succ_ne_self _⟩, fpk, q⟩
section
variable {C : RC} {H : Hp} {K : PySem.W.Frag} {ds : List D}
theorem it_enumT (hK : C.K = K) {a : Addr} : ItRep C (IteT K a) [(.ref a, .tup ds)] (enumD 0 ds) := by
  have at_ : ∀ {H : Hp} {G : List (V × D)}, Good C ([(V.ref a, D.tup ds)] ++ G) H → ∃ vs, SqT K H a vs ∧ RepL C (roots ([(V.ref a, D.tup ds)] ++ G)) H vs ds := by
    intro H G g
    obtain ⟨a', vs, e, r, rl⟩ := item_tup (g.ok _ List.mem_cons_self)
    cases e
    exact ⟨vs, .inl (.inl r), rl⟩
  refine ⟨fun i H G g h => ?_, fun i H G g h => ?_, fun i H x H' G d g e y => ?_⟩
  · obtain ⟨vs, q, rl⟩ := at_ g
    rw [enum_len] at h
    obtain ⟨x, hx⟩ := getElem_of_lt (xs := vs) (i := i) (by rw [rl.length]; exact h)
    exact ⟨vs, x, q, hx⟩
  · obtain ⟨vs, q, rl⟩ := at_ g
    rw [enum_len] at h
    exact ⟨vs, q, by rw [rl.length]; exact h⟩
  · obtain ⟨vs, q, rl⟩ := at_ g
    obtain ⟨T, x1, rfl, hT, rfl, h1⟩ := y
    have hl := nth_lt e
    rw [enum_len] at hl
    obtain ⟨d1, e1⟩ := nth_of_lt (xs := ds) (i := i) hl
    rw [enum_nth e1] at e
    cases e
    obtain ⟨v1, hv1, r1⟩ := rl.get e1
    have z1 := h1 vs q
    rw [hv1] at z1; cases z1
    rw [Nat.zero_add]
    exact ⟨trivial, g.pair (.int _) r1 hT⟩
theorem it_enumS {s : List Nat} {its : List (V × D)} : ItRep C (IteS ⟨s.toArray⟩) its (enumD 0 (signs s)) := by
  refine ⟨fun i H G g h => ?_, fun i H G g h => ?_, fun i H x H' G d g e y => ?_⟩
  · rw [enum_len, signs_len] at h; exact h
  · rw [enum_len, signs_len] at h; exact h
  · obtain ⟨T, c, rfl, hT, h, rfl⟩ := y
    have h : s[i]? = some c := by simpa using h
    have e1 : nth (signs s) i = some (.str [c]) := by rw [signs_nth, h]; rfl
    rw [enum_nth e1] at e
    cases e
    rw [Nat.zero_add]
    exact ⟨trivial, g.pair (.int _) (.str [c]) hT⟩
end
end QE
namespace QE
open PySem L2 PySem.Spec PyProof.Rows
section
variable (Φ : Calls) (Mu : Muts) (K : PySem.W.Frag) (fnA : FA) (EX : EC) (Wx : WX)
def TIt (it : It) (src : List IE) : TI := fun σ H R => ∃ C F ρ, CtxOk K fnA C ∧ StOk C F σ ρ H ∧ post (evs Φ Mu src ρ) (fun r => ∃ xs, iterOf it r.1 = some xs ∧ ∀ its J H', StOk C (its ++ F) σ r.2 H' → ItRep C J its xs → R J H') (ErrP EX Wx C σ)
end
section
variable {Φ : Calls} {Mu : Muts} {K : PySem.W.Frag} {fnA : FA} {EX : EC} {Wx : WX} {X : Cx} {tg e e2 : Expr} {ie ie2 : IE} {pos : Pos}
theorem weakI {iter : Expr} {t t' : TI} (h : PI X tg iter t) (w : ∀ σ H R, t' σ H R → t σ H R) : PI X tg iter t' := ⟨fun pins s σ H R I q => h.run pins s σ H R I (w _ _ _ q)⟩
theorem orI {iter : Expr} {t t' : TI} (h : PI X tg iter t) (h' : PI X tg iter t') : PI X tg iter (fun σ H R => t σ H R ∨ t' σ H R) := ⟨fun pins s σ H R I q => by
  rcases q with q | q
  · exact h.run pins s σ H R I q
  · exact h'.run pins s σ H R I q⟩
theorem evs_one (e : IE) (ρ : Env) : evs Φ Mu [e] ρ = (ev Φ Mu e ρ).bind fun r => (shareR r.1).bind fun d' => .ok ([d'], r.2) := rfl
theorem i_list (hK : K = X.K) (ha : EOk Φ Mu K fnA EX Wx X e ie) : PI X tg e (TIt Φ Mu K fnA EX Wx .list [ie]) := by
  refine weakI (orI (pi_list ha.v) (orI (pi_tup ha.v) (pi_str ha.v))) fun σ H R q => ?_
  obtain ⟨C, F, ρ, hC, st, p⟩ := q
  rw [evs_one] at p
  cases ee : ev Φ Mu ie ρ with
  | bad => rw [ee] at p; exact p.elim
  | err c x =>
    rw [ee] at p
    exact .inl ⟨C, F, ρ, hC, st, by rw [ee]; exact p⟩
  | ok r =>
    obtain ⟨d, ρ1⟩ := r
    rw [ee] at p
    obtain ⟨hm, p⟩ := post_share p
    have p : ∃ xs, iterOf .list [share d] = some xs ∧ ∀ its J H', StOk C (its ++ F) σ ρ1 H' → ItRep C J its xs → R J H' := p
    obtain ⟨xs, hx, kk⟩ := p
    cases d with
    | lst f ds =>
      have hxs : xs = ds := by cases f <;> first | (cases hm; done) | (cases hx; rfl)
      subst hxs
      refine .inl ⟨C, F, ρ, hC, st, ?_⟩
      rw [ee]
      intro v H' s
      have g := s.good.share1 (its := F ++ sl σ ρ1) hm
      have hf : ∃ f', share (D.lst f xs) = D.lst f' xs := by cases f <;> exact ⟨_, rfl⟩
      obtain ⟨f', ef⟩ := hf
      rw [ef] at g
      obtain ⟨a, vs, rfl, rd, _⟩ := item_lst g.head
      exact ⟨a, rfl, ⟨vs, .inl rd⟩, kk _ _ H' ⟨s.ok, g⟩ (it_list (hC.K.trans hK))⟩
    | tup ds =>
      cases hx
      refine .inr (.inl ⟨C, F, ρ, hC, st, ?_⟩)
      rw [ee]
      intro v H' s
      obtain ⟨a, vs, rfl, rd, _⟩ := item_tup s.good.head
      exact ⟨a, rfl, ⟨vs, .inl (.inl rd)⟩, kk _ _ H' s (it_tup (hC.K.trans hK))⟩
    | str l =>
      cases hx
      refine .inr (.inr ⟨C, F, ρ, hC, st, ?_⟩)
      rw [ee]
      intro v H' s
      cases item_str s.good.head
      exact ⟨_, rfl, kk [] _ H' ⟨s.ok, s.good.tail⟩ it_str⟩
    | dic f t kvs => cases f <;> first | (cases hm; done) | (cases hx; done)
    | _ => cases hx
theorem pa1 (hs : notStar e = true) (ha : EOk Φ Mu K fnA EX Wx X e ie) : PA X [e] (TVs Φ Mu K fnA EX Wx [ie]) := pa_vs_cons ha pa_vs_nil (notStar_ne hs)
theorem pa2 (hs : notStar e = true) (hs2 : notStar e2 = true) (ha : EOk Φ Mu K fnA EX Wx X e ie) (hb : EOk Φ Mu K fnA EX Wx X e2 ie2) : PA X [e, e2] (TVs Φ Mu K fnA EX Wx [ie, ie2]) := pa_vs_cons ha (pa1 hs2 hb) (notStar_ne hs)
theorem star1 (hs : notStar e = true) (env : PySem.Env) : starEach [e] env = [(false, eval e env)] := plain_star (e := e) (es := []) (by simp [plainEs, hs]) env
theorem TVs_of {it : It} {src : List IE} {σ : L2.St} {H : Hp} {R : L2.It → Hp → Prop} (q : TIt Φ Mu K fnA EX Wx it src σ H R) : TVs Φ Mu K fnA EX Wx src σ H fun vs H' => ∃ C F ρ ds xs, CtxOk K fnA C ∧ iterOf it ds = some xs ∧ vs.length = ds.length ∧ StOk C (vs.zip ds ++ F) σ ρ H' ∧
    ∀ its J H', StOk C (its ++ F) σ ρ H' → ItRep C J its xs → R J H' := by
  obtain ⟨C, F, ρ, hC, st, p⟩ := q
  refine ⟨C, F, ρ, hC, st, post_mono p (fun r k => ?_) fun _ _ z => z⟩
  obtain ⟨xs, hx, k⟩ := k
  exact fun vs H' hl s => ⟨C, F, r.2, r.1, xs, hC, hx, hl, s, k⟩
theorem rg_of {n : Int} (h : rgOk n = true) : -(2 ^ 62) ≤ n ∧ n < 2 ^ 62 := by
  unfold rgOk at h
  rw [Bool.and_eq_true, decide_eq_true_eq, decide_eq_true_eq] at h
  exact h
theorem zip_ints {C : RC} {F : List (V × D)} {σ : L2.St} {ρ : Env} {H : Hp} : ∀ {vs : List V} {ds : List D} {ns : List Int}, intsD ds = some ns → vs.length = ds.length → StOk C (vs.zip ds ++ F) σ ρ H → vs = ns.map V.int ∧ StOk C F σ ρ H
  | [], [], ns, h, _, s => by cases h; exact ⟨rfl, s⟩
  | [], _ :: _, _, _, h, _ => by cases h
  | _ :: _, [], _, _, h, _ => by cases h
  | v :: vs, d :: ds, ns, h, hl, s => by
    cases d with
    | int i =>
      have h : (intsD ds).map (i :: ·) = some ns := h
      obtain ⟨r, e, rfl⟩ := Option.map_eq_some_iff.mp h
      have s : StOk C ((v, .int i) :: (vs.zip ds ++ F)) σ ρ H := s
      cases item_int s.good.head
      obtain ⟨rfl, s2⟩ := zip_ints e (by simpa using hl) ⟨s.ok, s.good.tail⟩
      exact ⟨rfl, s2⟩
    | _ => cases h
theorem i_range1 {p : Pos} (hg : Gl X "range") (hm : X.mg "range" = none) (hs : notStar e = true) (ha : EOk Φ Mu K fnA EX Wx X e ie) : PI X tg (.Call (.Name "range" p) [e] [] pos) (TIt Φ Mu K fnA EX Wx .range1 [ie]) := by
  refine weakI (pi_range1 hg hm (pa1 hs ha) (star1 hs _)) fun σ H R q => ?_
  obtain ⟨C, F, ρ, hC, st, p⟩ := TVs_of q
  refine ⟨C, F, ρ, hC, st, post_mono p (fun r k => ?_) fun _ _ z => z⟩
  intro vs H' hl s
  obtain ⟨C', F', ρ', ds, xs, hC', hx, hl', s', k⟩ := k vs H' hl s
  have hx : (match intsD ds with | some [n] => if rgOk n then some (rangeL 0 n.toNat) else none | _ => none) = some xs := hx
  split at hx
  · rename_i n e
    split at hx
    · rename_i b
      cases hx
      obtain ⟨rfl, s2⟩ := zip_ints e hl' s'
      exact ⟨n, rfl, (rg_of b).1, (rg_of b).2, k [] _ H' s2 it_range⟩
    · cases hx
  · cases hx
theorem i_range2 {p : Pos} (hg : Gl X "range") (hm : X.mg "range" = none) (hs : notStar e = true) (hs2 : notStar e2 = true) (ha : EOk Φ Mu K fnA EX Wx X e ie) (hb : EOk Φ Mu K fnA EX Wx X e2 ie2) : PI X tg (.Call (.Name "range" p) [e, e2] [] pos) (TIt Φ Mu K fnA EX Wx .range2 [ie, ie2]) := by
  refine weakI (pi_range2 hg hm (pa2 hs hs2 ha hb) (by rw [plain_star (by simp [plainEs, hs, hs2]), star1 hs2]) (star1 hs2 _)) fun σ H R q => ?_
  obtain ⟨C, F, ρ, hC, st, p⟩ := TVs_of q
  refine ⟨C, F, ρ, hC, st, post_mono p (fun r k => ?_) fun _ _ z => z⟩
  intro vs H' hl s
  obtain ⟨C', F', ρ', ds, xs, hC', hx, hl', s', k⟩ := k vs H' hl s
  have hx : (match intsD ds with | some [a, b] => if rgOk a && rgOk b then some (rangeL a (b - a).toNat) else none | _ => none) = some xs := hx
  split at hx
  · rename_i a b e
    split at hx
    · rename_i q
      rw [Bool.and_eq_true] at q
      cases hx
      obtain ⟨rfl, s2⟩ := zip_ints e hl' s'
      exact ⟨a, b, rfl, ⟨(rg_of q.1).1, (rg_of q.1).2, (rg_of q.2).1, (rg_of q.2).2⟩, k [] _ H' s2 it_range⟩
    · cases hx
  · cases hx
theorem i_range3 {e3 : Expr} {ie3 : IE} {p : Pos} (hg : Gl X "range") (hm : X.mg "range" = none) (hs : notStar e = true) (hs2 : notStar e2 = true) (hs3 : notStar e3 = true) (ha : EOk Φ Mu K fnA EX Wx X e ie) (hb : EOk Φ Mu K fnA EX Wx X e2 ie2) (hc : EOk Φ Mu K fnA EX Wx X e3 ie3) :
    PI X tg (.Call (.Name "range" p) [e, e2, e3] [] pos) (TIt Φ Mu K fnA EX Wx .range3 [ie, ie2, ie3]) := by
  have hp : plainEs [e, e2, e3] = true := by simp [plainEs, hs, hs2, hs3]
  refine weakI (pi_range3 hg hm (pa_vs_cons ha (pa2 hs2 hs3 hb hc) (notStar_ne hs)) (plain_star hp _) (star_any (plain_cons hp).2 _ _)) fun σ H R q => ?_
  obtain ⟨C, F, ρ, hC, st, p⟩ := TVs_of q
  refine ⟨C, F, ρ, hC, st, post_mono p (fun r k => ?_) fun _ _ z => z⟩
  intro vs H' hl s
  obtain ⟨C', F', ρ', ds, xs, hC', hx, hl', s', k⟩ := k vs H' hl s
  have hx : (match intsD ds with | some [a, b, c] => if rgOk a && rgOk b && decide (c = -1) then some (rangeC a c (a - b).toNat) else none | _ => none) = some xs := hx
  split at hx
  · rename_i a b c e
    split at hx
    · rename_i q
      rw [Bool.and_eq_true, Bool.and_eq_true, decide_eq_true_eq] at q
      obtain ⟨⟨q1, q2⟩, rfl⟩ := q
      cases hx
      obtain ⟨rfl, s2⟩ := zip_ints e hl' s'
      exact ⟨a, b, -1, (a - b).toNat, rfl, RgC.neg (rg_of q1).1 (rg_of q1).2 (rg_of q2).1 (rg_of q2).2, k [] _ H' s2 it_rangeC⟩
    · cases hx
  · cases hx
theorem zip_d {ds xs : List D} (h : itZip ds = some xs) : (∃ f f' x y, ds = [.lst f x, .lst f' y] ∧ xs = zipD x y) ∨ ∃ x y, ds = [.tup x, .tup y] ∧ xs = zipD x y := by
  unfold itZip at h
  split at h
  · cases h; exact .inl ⟨_, _, _, _, rfl, rfl⟩
  · cases h; exact .inr ⟨_, _, rfl, rfl⟩
  · cases h
theorem i_zip {elts : List Expr} {kk : Nat} {p tpos : Pos} (hK : K = X.K) (hg : Gl X "zip") (hm : X.mg "zip" = none) (hs : notStar e = true) (hs2 : notStar e2 = true) (ha : EOk Φ Mu K fnA EX Wx X e ie) (hb : EOk Φ Mu K fnA EX Wx X e2 ie2) : PI X (.Tuple elts kk tpos) (.Call (.Name "zip" p) [e, e2] [] pos) (TIt Φ Mu K fnA EX Wx .zip [ie, ie2]) := by
  have hp : plainEs [e, e2] = true := by simp [plainEs, hs, hs2]
  refine weakI (RZ.pi_zipA hg hm (pa2 hs hs2 ha hb) (plain_star hp _) (star_any (plain_cons hp).2 _ _)) fun σ H R q => ?_
  obtain ⟨C, F, ρ, hC, st, p⟩ := TVs_of q
  refine ⟨C, F, ρ, hC, st, post_mono p (fun r k => ?_) fun _ _ z => z⟩
  intro vs H' hl s
  obtain ⟨C', F', ρ', ds, xs, hC', hx, hl', s', k⟩ := k vs H' hl s
  rcases zip_d (show itZip ds = some xs from hx) with ⟨f, f', x, y, rfl, rfl⟩ | ⟨x, y, rfl, rfl⟩
  · match vs, hl' with
    | [v, w], _ =>
      obtain ⟨a, vs, rfl, rd, _⟩ := item_lst s'.good.head
      obtain ⟨b, ws, rfl, rd2, _⟩ := item_lst (s'.good.ok (w, .lst f' y) (List.mem_cons_of_mem _ List.mem_cons_self))
      exact ⟨a, b, vs, ws, rfl, .inl ⟨.inl rd, .inl rd2, k _ _ H' s' (it_zip (hC'.K.trans hK))⟩⟩
  · match vs, hl' with
    | [v, w], _ =>
      obtain ⟨a, vs, rfl, rd, _⟩ := item_tup s'.good.head
      obtain ⟨b, ws, rfl, rd2, _⟩ := item_tup (s'.good.ok (w, .tup y) (List.mem_cons_of_mem _ List.mem_cons_self))
      exact ⟨a, b, vs, ws, rfl, .inr ⟨.inl (.inl rd), .inl (.inl rd2), k _ _ H' s' (it_zipT (hC'.K.trans hK))⟩⟩
theorem list_d {ds xs : List D} (h : itList ds = some xs) : (∃ f, ds = [.lst f xs]) ∨ ds = [.tup xs] ∨ ∃ s, ds = [.str s] ∧ xs = signs s := by
  unfold itList at h
  split at h
  · cases h; exact .inl ⟨_, rfl⟩
  · cases h; exact .inr (.inl rfl)
  · cases h; exact .inr (.inr ⟨_, rfl, rfl⟩)
  · cases h
theorem i_enum {elts : List Expr} {kk : Nat} {p tpos : Pos} (hK : K = X.K) (hg : Gl X "enumerate") (hm : X.mg "enumerate" = none) (hs : notStar e = true) (ha : EOk Φ Mu K fnA EX Wx X e ie) : PI X (.Tuple elts kk tpos) (.Call (.Name "enumerate" p) [e] [] pos) (TIt Φ Mu K fnA EX Wx .enum [ie]) := by
  refine weakI (pi_enumA hg hm (pa1 hs ha) (star1 hs _)) fun σ H R q => ?_
  obtain ⟨C, F, ρ, hC, st, p⟩ := TVs_of q
  refine ⟨C, F, ρ, hC, st, post_mono p (fun r k => ?_) fun _ _ z => z⟩
  intro vs H' hl s
  obtain ⟨C', F', ρ', ds, xs, hC', hx, hl', s', k⟩ := k vs H' hl s
  obtain ⟨ys, e1, rfl⟩ := Option.map_eq_some_iff.mp (show (itList ds).map (enumD 0) = some xs from hx)
  rcases list_d e1 with ⟨f, rfl⟩ | rfl | ⟨l, rfl, rfl⟩
  · match vs, hl' with
    | [v], _ =>
      obtain ⟨a, vs, rfl, rd, _⟩ := item_lst s'.good.head
      exact .inl ⟨a, vs, rfl, .inl rd, k _ _ H' s' (it_enum (hC'.K.trans hK))⟩
  · match vs, hl' with
    | [v], _ =>
      obtain ⟨a, vs, rfl, rd, _⟩ := item_tup s'.good.head
      exact .inr (.inl ⟨a, vs, rfl, .inl (.inl rd), k _ _ H' s' (it_enumT (hC'.K.trans hK))⟩)
  · match vs, hl' with
    | [v], _ =>
      cases item_str s'.good.head
      exact .inr (.inr ⟨_, rfl, k [] _ H' ⟨s'.ok, s'.good.tail⟩ it_enumS⟩)
end
end QE
namespace QE
open PySem L2 PySem.Spec PyProof.Rows
mutual
def tgs : Tg → List Nat
  | .var i => [i]
  | .tup ts => tgss ts
termination_by structural t => t
def tgss : List Tg → List Nat
  | [] => []
  | t :: ts => tgs t ++ tgss ts
termination_by structural ts => ts
end
def SameBut' (σ' σ : L2.St) (own : List Nat) : Prop := L2.wipe σ' own = L2.wipe σ own
section
variable {C : RC} {H H' : Hp} {σ σ' : L2.St} {ρ ρ' : Env} {F F' : List (V × D)} {own : List Nat} {v : V} {d : D} {i : Nat}
theorem wipe_set (x : Option V) : ∀ {own : List Nat} {σ : L2.St}, i ∈ own → L2.wipe (σ.set i x) own = L2.wipe σ own
  | [], _, h => by cases h
  | j :: r, σ, h => by
    show (L2.wipe (σ.set i x) r).set j none = (L2.wipe σ r).set j none
    by_cases hr : i ∈ r
    · rw [wipe_set x hr]
    · have hj : i = j := (List.mem_cons.mp h).elim id fun z => absurd z hr
      subst hj
      clear h
      apply List.ext_getElem?
      intro k
      by_cases hk : i = k
      · subst hk
        by_cases hl : i < σ.length
        · rw [List.getElem?_set_self (by rw [wipe_length, List.length_set]; exact hl), List.getElem?_set_self (by rw [wipe_length]; exact hl)]
        · rw [List.getElem?_eq_none (by rw [List.length_set, wipe_length, List.length_set]; omega), List.getElem?_eq_none (by rw [List.length_set, wipe_length]; omega)]
      · rw [List.getElem?_set_ne hk, List.getElem?_set_ne hk]
        by_cases hkr : k ∈ r
        · have : ∀ (r : List Nat) (a b : L2.St), a.length = b.length → k ∈ r → (L2.wipe a r)[k]? = (L2.wipe b r)[k]? := by
            intro r
            induction r with
            | nil => intro a b _ h; cases h
            | cons j r ih =>
              intro a b hab h
              show ((L2.wipe a r).set j none)[k]? = ((L2.wipe b r).set j none)[k]?
              by_cases hj : j = k
              · subst hj
                by_cases hl : j < a.length
                · rw [List.getElem?_set_self (by rw [wipe_length]; exact hl), List.getElem?_set_self (by rw [wipe_length]; omega)]
                · rw [List.getElem?_eq_none (by rw [List.length_set, wipe_length]; omega), List.getElem?_eq_none (by rw [List.length_set, wipe_length]; omega)]
              · rw [List.getElem?_set_ne hj, List.getElem?_set_ne hj]
                exact ih a b hab ((List.mem_cons.mp h).elim (fun z => absurd z.symm hj) id)
          exact this r _ _ (by rw [List.length_set]) hkr
        · rw [wipe_at hkr, wipe_at hkr, List.getElem?_set_ne hk]
theorem setS_ge {x : Option D} : ∀ {ρ : Env} {i : Nat}, ρ.length ≤ i → setS ρ i x = ρ
  | [], _, _ => rfl
  | _ :: _, 0, h => by cases h
  | d :: r, i + 1, h => by show d :: _ = d :: _; rw [setS_ge (Nat.le_of_succ_le_succ h)]
theorem StOk.putAny (s : StOk C ((v, d) :: F) σ ρ H) : StOk C F (σ.set i (some v)) (setS ρ i (some d)) H := by
  by_cases hi : i < σ.length
  · exact StOk.put s.ok hi (s.good.sub (((s.ok.off i).2.append_left F).cons_cons _))
  · rw [List.set_eq_of_length_le (by omega), setS_ge (by rw [← s.ok.len]; omega)]
    exact ⟨s.ok, s.good.tail⟩
end
def TGt (t : Tg) : TG := fun v σ H Q => ∃ C F ρ d ρ', StOk C ((v, d) :: F) σ ρ H ∧ NotOwn d ∧ bindT t d ρ = some ρ' ∧ ∀ σ', StOk C F σ' ρ' H → (∀ own, (∀ i ∈ tgs t, i ∈ own) → L2.wipe σ' own = L2.wipe σ own) → Q σ' H
def TGts (ts : List Tg) : TGs := fun vs σ H Q => ∃ C F ρ ds ρ', StOk C (vs.zip ds ++ F) σ ρ H ∧ vs.length = ds.length ∧ (∀ d ∈ ds, NotOwn d) ∧ bindTs ts ds ρ = some ρ' ∧ ∀ σ', StOk C F σ' ρ' H → (∀ own, (∀ i ∈ tgss ts, i ∈ own) → L2.wipe σ' own = L2.wipe σ own) → Q σ' H
section
variable {X : Cx} {t : Tg} {ts : List Tg} {e : Expr} {es : List Expr} {i : Nat} {x : Str} {pos : Pos}
theorem weakG {g g' : TG} (h : PG X e g) (w : ∀ v σ H Q, g' v σ H Q → g v σ H Q) : PG X e g' := ⟨fun pins s σ H v u Q I r q => h.run pins s σ H v u Q I r (w _ _ _ _ q)⟩
theorem weakGs {g g' : TGs} (h : PGs X es g) (w : ∀ v σ H Q, g' v σ H Q → g v σ H Q) : PGs X es g' := ⟨fun pins s σ H v u Q I r q => h.run pins s σ H v u Q I r (w _ _ _ _ q)⟩
theorem g_name (hN : X.N.Nodup) (hi : X.N[i]? = some x) (hx : Loc X.env.scope x) (hf : X.fn x = true ∨ X.env.scope.names.lookup x = some .local) : PG X (.Name x pos) (TGt (.var i)) := by
  refine weakG (pg_name hN hi hx hf) fun v σ H Q q => ?_
  obtain ⟨C, F, ρ, d, ρ', st, hn, hb, k⟩ := q
  have hb : some (setS ρ i (some (share d))) = some ρ' := hb
  cases hb
  rw [share_of hn] at k
  exact k _ st.putAny fun own h => wipe_set _ (h i List.mem_cons_self)
theorem gs_nil : PGs X [] (TGts []) := by
  refine weakGs pgs_nil fun vs σ H Q q => ?_
  obtain ⟨C, F, ρ, ds, ρ', st, hl, hn, hb, k⟩ := q
  cases ds with
  | nil =>
    cases hb
    have : vs = [] := List.length_eq_zero_iff.mp hl
    subst this
    exact ⟨rfl, k σ st fun _ _ => rfl⟩
  | cons d ds => cases hb
theorem each_cons (h : notStar e = true) (env : PySem.Env) : assignEach (e :: es) env = (false, assign e env) :: assignEach es env := by
  cases e <;> first | rfl | cases h
theorem each_len : ∀ {es : List Expr}, plainEs es = true → ∀ env : PySem.Env, (assignEach es env).length = es.length
  | [], _, _ => rfl
  | e :: es, h, env => by rw [each_cons (plain_cons h).1]; show (assignEach es env).length + 1 = _; rw [each_len (plain_cons h).2]; rfl
theorem each_star : ∀ {es : List Expr}, plainEs es = true → ∀ env : PySem.Env, (assignEach es env).findIdx? (·.1) = none
  | [], _, _ => rfl
  | e :: es, h, env => by
    rw [each_cons (plain_cons h).1, List.findIdx?_cons, each_star (plain_cons h).2]
    rfl
theorem gs_cons (hs : notStar e = true) (h1 : PG X e (TGt t)) (h2 : PGs X es (TGts ts)) : PGs X (e :: es) (TGts (t :: ts)) := by
  refine weakGs (pgs_cons h1 h2 (by rw [each_cons hs]; rfl)) fun vs σ H Q q => ?_
  obtain ⟨C, F, ρ, ds, ρ', st, hl, hn, hb, k⟩ := q
  match vs, ds, hl, hb with
  | v :: vs, d :: ds, hl, hb =>
    have hb : ((bindT t d ρ).bind fun ρ1 => bindTs ts ds ρ1) = some ρ' := hb
    obtain ⟨ρ1, b1, b2⟩ := Option.bind_eq_some_iff.mp hb
    refine ⟨v, vs, rfl, C, vs.zip ds ++ F, ρ, d, ρ1, st, hn d List.mem_cons_self, b1, fun σ1 s1 w1 => ?_⟩
    refine ⟨C, F, ρ1, ds, ρ', s1, by simpa using hl, fun d hd => hn d (List.mem_cons_of_mem _ hd), b2, fun σ2 s2 w2 => ?_⟩
    exact k σ2 s2 fun own h => (w2 own fun i hi => h i (List.mem_append_right _ hi)).trans (w1 own fun i hi => h i (List.mem_append_left _ hi))
  | [], d :: ds, hl, _ => cases hl
  | _ :: _, [], _, hb => cases hb
  | [], [], _, hb => cases hb
theorem add_row {C : RC} {σ : L2.St} {ρ : Env} {H : Hp} : ∀ {vs : List V} {ds : List D} {F : List (V × D)}, StOk C F σ ρ H → RepL C (roots (F ++ sl σ ρ)) H vs ds → StOk C (vs.zip ds ++ F) σ ρ H ∧ ∀ d ∈ ds, NotOwn d
  | _, _, F, s, .nil => ⟨s, fun d hd => by cases hd⟩
  | v :: vs, d :: ds, F, s, .cons r rl => by
    obtain ⟨a, b⟩ := add_row s rl
    have e : roots (vs.zip ds ++ F ++ sl σ ρ) = roots (F ++ sl σ ρ) := by
      rw [List.append_assoc, roots_app, roots_none (l := vs.zip ds) fun it hit => b it.2 (List.of_mem_zip (a := it.1) (b := it.2) hit).2]
      rfl
    exact ⟨⟨a.ok, a.good.add (by rw [e]; exact r)⟩, fun x hx => (List.mem_cons.mp hx).elim (fun z => z ▸ r.notOwn) (b x)⟩
theorem g_tup {k : Nat} (hc : X.calm = true) (hp : plainEs es = true) (hl : es.length = ts.length) (h : PGs X es (TGts ts)) : PG X (.Tuple es k pos) (TGt (.tup ts)) := by
  refine weakG (pg_tup (n := ts.length) hc h (by rw [each_len hp, hl]) (each_star hp _)) fun v σ H Q q => ?_
  obtain ⟨C, F, ρ, d, ρ', st, hn, hb, kk⟩ := q
  cases d with
  | tup xs =>
    have hb : bindTs ts xs ρ = some ρ' := hb
    obtain ⟨a, vs, rfl, e, rl⟩ := item_tup st.good.head
    have st2 : StOk C F σ ρ H := ⟨st.ok, st.good.tail⟩
    have er : roots ((V.ref a, D.tup xs) :: F ++ sl σ ρ) = roots (F ++ sl σ ρ) := rfl
    obtain ⟨s3, n3⟩ := add_row st2 (show RepL C (roots (F ++ sl σ ρ)) H vs xs from rl)
    have hlen : ∀ (ts : List Tg) (xs : List D) (ρ ρ' : Env), bindTs ts xs ρ = some ρ' → xs.length = ts.length := by
      intro ts
      induction ts with
      | nil => intro xs ρ ρ' h; cases xs with | nil => rfl | cons _ _ => cases h
      | cons t ts ih =>
        intro xs ρ ρ' h
        cases xs with
        | nil => cases h
        | cons x xs =>
          have h : ((bindT t x ρ).bind fun ρ1 => bindTs ts xs ρ1) = some ρ' := h
          obtain ⟨ρ1, _, h2⟩ := Option.bind_eq_some_iff.mp h
          exact congrArg (· + 1) (ih xs ρ1 ρ' h2)
    exact ⟨a, vs, rfl, .inl (.inl e), by rw [rl.length, hlen _ _ _ _ hb], C, F, ρ, xs, ρ', s3, rl.length, n3, hb, kk⟩
  | _ => cases hb
end
end QE
namespace QE
open PySem L2 PySem.Spec PyProof.Rows
section
variable {C : RC} {H H' : Hp} {σ σ' : L2.St} {ρ ρ' : Env} {its : List (V × D)} {own : List Nat} {v : V} {d : D} {a : Addr} {f : Fl} {ds ds' : List D} {vs vs' : List V}
theorem Good.writeL (g : Good C ((.ref a, .lst f ds) :: its) H) (hf : f = .own ∨ f = .ownM) (r : RepL C (a :: roots its) H vs' ds') : Good C ((.ref a, .lst f ds') :: its) (upd H a (.lst vs')) := by
  have e0 : ∀ x : List D, root (V.ref a, D.lst f x) = [a] := fun x => by rcases hf with rfl | rfl <;> rfl
  have er : ∀ x : List D, roots ((V.ref a, D.lst f x) :: its) = a :: roots its := fun x => by rw [roots_cons, e0]; rfl
  have n0 := g.nd
  rw [er] at n0
  obtain ⟨n1, n2⟩ := List.nodup_cons.mp n0
  have hin : a ∈ roots ((V.ref a, D.lst f ds) :: its) := by rw [er]; exact List.mem_cons_self
  obtain ⟨⟨o, eo, mo⟩, hM⟩ := g.root_some hin
  have k : Keep [a] H (upd H a (.lst vs')) := ⟨fun b o e hb _ => by rw [upd_ne (fun z => hb (by rw [z]; exact List.mem_singleton.mpr rfl))]; exact e, fun b hb o' e => by
    cases List.mem_singleton.mp hb
    rw [eo] at e; cases e; exact mo⟩
  have hX : ∀ b ∈ [a], b ∈ a :: roots its := fun b hb => by cases List.mem_singleton.mp hb; exact List.mem_cons_self
  have r2 : RepL C (a :: roots its) (upd H a (.lst vs')) vs' ds' := r.keep k hX (fun b hb => .inl hb) g.ext.exs
  have nt1 : (∀ ps, H a ≠ some (.tbl ps)) ∧ ∀ c q, H a ≠ some (LamX.CodeO c q) := by
    have h := g.ok _ List.mem_cons_self
    rcases hf with rfl | rfl
    · obtain ⟨a', us, q, e, _⟩ := h
      cases q
      exact rd_code (.inl e) nofun nofun
    · obtain ⟨a', us, q, e, _⟩ := h
      cases q
      exact rd_code (.inl e) nofun nofun
  refine Good.ret (its0 := [(.ref a, .lst f ds)]) (new := [(.ref a, .lst f ds')]) g k (fun b hb => ?_) ?_ (fun b hb => ?_) (fun it hit => ?_) ?_
  · cases List.mem_singleton.mp hb
    rw [roots_cons, e0]; exact List.mem_cons_self
  · rw [roots_cons, e0]; exact List.nodup_cons.mpr ⟨(fun z => nomatch z), List.nodup_nil⟩
  · rw [roots_cons, e0] at hb
    cases List.mem_singleton.mp hb
    exact ⟨n1, .inl (by rw [roots_cons, e0]; exact List.mem_cons_self)⟩
  · cases List.mem_singleton.mp hit
    have eO : roots [(V.ref a, D.lst f ds')] ++ roots its = a :: roots its := by rw [roots_cons, e0]; rfl
    rw [eO]
    have h := g.ok _ List.mem_cons_self
    rcases hf with rfl | rfl
    · obtain ⟨a', _, q, _, n, _⟩ := h
      cases q
      exact ⟨a, vs', rfl, upd_same, n, r2⟩
    · obtain ⟨a', _, q, _, n, _⟩ := h
      cases q
      exact ⟨a, vs', rfl, upd_same, n, r2⟩
  · refine ⟨fun b o h n nt => ?_, fun b h => ?_, g.ext.old, g.ext.muta, g.ext.exs, fun p hp => tabS_write (g.ext.tabs p hp) nt1.1 nt1.2⟩
    · have hb : b ≠ a := by
        intro z; subst z
        rcases hM with q | q
        · rw [h] at q; cases q
        · exact n q
      rw [upd_ne hb]; exact g.ext.keep b o h n nt
    · by_cases hb : b = a
      · subst hb; rw [upd_same]; exact fun z => nomatch z
      · rw [upd_ne hb]; exact g.ext.there b h
theorem Good.app1 (g : Good C ((v, d) :: (.ref a, .lst f ds) :: its) H) (hf : f = .own ∨ f = .ownM) (hn : NotOwn d) (hv : H a = some (.lst vs)) : Good C ((.ref a, .lst f (ds ++ [d])) :: its) (upd H a (.lst (vs ++ [v]))) := by
  have g1 : Good C ((.ref a, .lst f ds) :: (v, d) :: its) H := g.perm (List.Perm.swap _ _ _)
  have er : roots ((V.ref a, D.lst f ds) :: (v, d) :: its) = a :: roots ((v, d) :: its) := by rcases hf with rfl | rfl <;> rfl
  have h := g1.ok _ List.mem_cons_self
  have hd := g1.ok (v, d) (List.mem_cons_of_mem _ List.mem_cons_self)
  rw [item_not hn, er] at hd
  rw [er] at h
  have rl : RepL C (a :: roots ((v, d) :: its)) H vs ds := by
    rcases hf with rfl | rfl
    · obtain ⟨a', vs1, q, e, _, r⟩ := h
      cases q; rw [hv] at e; cases e; exact r
    · obtain ⟨a', vs1, q, e, _, r⟩ := h
      cases q; rw [hv] at e; cases e; exact r
  have g2 := g1.writeL hf (rl.app (.cons hd .nil))
  exact g2.sub ((List.sublist_cons_self _ _).cons_cons _)
end
section
variable (Φ : Calls) (Mu : Muts) (K : PySem.W.Frag) (fnA : FA)
def TIf (ifs : List IE) : TT := fun σ H Q => ∃ C F ρ, CtxOk K fnA C ∧ StOk C F σ ρ H ∧ post (evIfs Φ Mu ifs ρ) (fun r => ∀ H', StOk C F σ r.2 H' → Q r.1 H') (fun _ _ => False)
end
def noW : WX := fun _ _ _ _ => False
section
variable {Φ : Calls} {Mu : Muts} {K : PySem.W.Frag} {fnA : FA} {EX : EC} {Wx : WX} {X : Cx}
theorem weakTs {ifs : List Expr} {t t' : TT} (h : PTs X ifs t) (w : ∀ σ H Q, t' σ H Q → t σ H Q) : PTs X ifs t' := ⟨fun pins s σ H Q I q => h.run pins s σ H Q I (w _ _ _ q)⟩
theorem if_nil : PTs X [] (TIf Φ Mu K fnA []) := weakTs pts_nil fun σ H Q q => by
  obtain ⟨C, F, ρ, hC, st, p⟩ := q
  have p : ∀ H', StOk C F σ ρ H' → Q true H' := p
  exact p H st
theorem if_one {c : Expr} {ic : IE} (h : PT X c (TB Φ Mu K fnA EX Wx ic)) : PTs X [c] (TIf Φ Mu K fnA [ic]) := weakTs (pts_one h) fun σ H Q q => by
  obtain ⟨C, F, ρ, hC, st, p⟩ := q
  refine ⟨C, F, ρ, hC, st, ?_⟩
  have p : post ((ev Φ Mu ic ρ).bind fun | (.bl true, ρ1) => evIfs Φ Mu [] ρ1 | (.bl false, ρ1) => .ok (false, ρ1) | _ => .bad) (fun r => ∀ H', StOk C F σ r.2 H' → Q r.1 H') (fun _ _ => False) := p
  cases e : ev Φ Mu ic ρ with
  | bad => rw [e] at p; exact p.elim
  | err c x => rw [e] at p; exact p.elim
  | ok r =>
    obtain ⟨d, ρ1⟩ := r
    rw [e] at p
    cases d with
    | bl b =>
      cases b with
      | true =>
        have p : ∀ H', StOk C F σ ρ1 H' → Q true H' := p
        exact ⟨true, rfl, p⟩
      | false =>
        have p : ∀ H', StOk C F σ ρ1 H' → Q false H' := p
        exact ⟨false, rfl, p⟩
    | _ => exact p.elim
theorem drop_nth {α : Type} : ∀ {xs : List α} {i : Nat} {x : α}, nth xs i = some x → xs.drop i = x :: xs.drop (i + 1)
  | [], i, _, h => by cases i <;> cases h
  | _ :: _, 0, _, h => by cases h; rfl
  | _ :: r, i + 1, _, h => drop_nth (xs := r) h
def compB (Φ : Calls) (Mu : Muts) (elt : IE) (ifs : List IE) : Env → Res (Option D × Env) := fun ρ2 => (evIfs Φ Mu ifs ρ2).bind fun (b, ρ3) => if b then (ev Φ Mu elt ρ3).bind fun (d, ρ4) => .ok (some d, ρ4) else .ok (none, ρ3)
theorem ev_comp {own : List Nat} {elt : IE} {t : Tg} {it : It} {src ifs : List IE} (ρ : Env) : ev Φ Mu (.comp own elt t it src ifs) ρ = (evs Φ Mu src ρ).bind fun (ss, ρ1) => match iterOf it ss with
    | some xs => (noErr (compF t own ρ1 (compB Φ Mu elt ifs) [] xs ρ1)).bind fun (acc, ρ5) => .ok (.lst .own acc, restore ρ1 (wipe ρ5 own) own)
    | none => .bad := rfl
theorem wipe_eqAt {k : Nat} : ∀ (r : List Nat) (a b : L2.St), a.length = b.length → k ∈ r → (L2.wipe a r)[k]? = (L2.wipe b r)[k]? := by
  intro r
  induction r with
  | nil => intro a b _ h; cases h
  | cons j r ih =>
    intro a b hab h
    show ((L2.wipe a r).set j none)[k]? = ((L2.wipe b r).set j none)[k]?
    by_cases hj : j = k
    · subst hj
      by_cases hl : j < a.length
      · rw [List.getElem?_set_self (by rw [wipe_length]; exact hl), List.getElem?_set_self (by rw [wipe_length]; omega)]
      · rw [List.getElem?_eq_none (by rw [List.length_set, wipe_length]; omega), List.getElem?_eq_none (by rw [List.length_set, wipe_length]; omega)]
    · rw [List.getElem?_set_ne hj, List.getElem?_set_ne hj]
      exact ih a b hab ((List.mem_cons.mp h).elim (fun z => absurd z.symm hj) id)
theorem wipe_wipe {own : List Nat} {σ : L2.St} : L2.wipe (L2.wipe σ own) own = L2.wipe σ own := by
  apply List.ext_getElem?
  intro k
  by_cases hk : k ∈ own
  · exact wipe_eqAt own _ _ (wipe_length _ _) hk
  · rw [wipe_at hk]
theorem comp_tv {own : List Nat} {elt : IE} {t : Tg} {it : It} {src ifs : List IE} (hn : own.Nodup) (ht : ∀ i ∈ tgs t, i ∈ own) : ∀ σ H Q, TV Φ Mu K fnA EX Wx (.comp own elt t it src ifs) σ H Q →
    tLc (TIt Φ Mu K fnA EX Wx it src) (TGt t) (TIf Φ Mu K fnA ifs) (TV Φ Mu K fnA EX noW elt) own σ H Q := by
  intro σ H Q q
  obtain ⟨C, F, ρ, hC, st, p⟩ := q
  rw [ev_comp] at p
  refine ⟨C, F, ρ, hC, st, post_mono (post_bind p) (fun r k => ?_) fun _ _ z => z⟩
  obtain ⟨ss, ρ1⟩ := r
  simp only at k
  cases e1 : iterOf it ss with
  | none => rw [e1] at k; exact k.elim
  | some xs =>
    rw [e1] at k
    simp only at k
    refine ⟨xs, rfl, fun its J H1 st1 ir L0 hD => ?_⟩
    cases e2 : compF t own ρ1 (compB Φ Mu elt ifs) [] xs ρ1 with
    | bad => rw [e2] at k; exact k.elim
    | err c x => rw [e2] at k; exact k.elim
    | ok r =>
      obtain ⟨acc, ρ5⟩ := r
      rw [e2] at k
      have k : ∀ v H', StOk C ((v, .lst .own acc) :: F) σ (restore ρ1 (wipe ρ5 own) own) H' → Q v H' := k
      obtain ⟨cut, sc, back⟩ := cut_own hn st1
      have len1 := st1.ok.len
      refine ⟨fun i m H => ∃ a ρi, m = xs.length - i ∧ i ≤ xs.length ∧ StOk C (its ++ ((.ref L0, .lst .own a) :: (cut ++ F))) σ (wipe ρi own) H ∧ compF t own ρ1 (compB Φ Mu elt ifs) a (xs.drop i) ρi = .ok (acc, ρ5), ⟨_, [], ρ1, rfl, Nat.zero_le _, ?_, e2⟩, fun i m H w => ?_⟩
      · have g := sc.good.newL (p := L0) .nil hD
        refine ⟨sc.ok, g.perm ?_⟩
        have p1 : (cut ++ (its ++ F) ++ sl σ (wipe ρ1 own)).Perm (its ++ (cut ++ F) ++ sl σ (wipe ρ1 own)) := by
          refine List.Perm.append_right _ ?_
          rw [← List.append_assoc, ← List.append_assoc]
          exact List.perm_append_comm.append_right F
        refine (p1.cons _).trans ?_
        simp only [List.append_assoc, List.cons_append]
        exact List.perm_middle.symm
      · obtain ⟨a, ρi, rfl, hi, s, ec⟩ := w
        have len2 := s.ok.len
        rw [wipe_len] at len2
        by_cases hl : i = xs.length
        · subst hl
          rw [List.drop_length] at ec
          cases ec
          refine .inl ⟨ir.stop _ H _ (by have := s.good; rw [List.append_assoc] at this; exact this) rfl, k _ _ (back _ _ _ (by rw [wipe_len, ← len2, len1]) ?_)⟩
          exact (s.sub (List.sublist_append_right _ _)).permF List.perm_middle.symm
        · have hlt : i < xs.length := by omega
          obtain ⟨x, hx⟩ := nth_of_lt hlt
          rw [drop_nth hx] at ec
          have ec : ((Res.of (bindT t x (wipe ρi own))).bind fun ρ1' => (compB Φ Mu elt ifs ρ1').bind fun
            | (some d, ρ2) => if Nat.blt a.length LIM then (shareR d).bind fun d' => compF t own ρ1 (compB Φ Mu elt ifs) (a ++ [d']) (xs.drop (i + 1)) ρ2 else .bad
            | (none, ρ2) => compF t own ρ1 (compB Φ Mu elt ifs) a (xs.drop (i + 1)) ρ2) = .ok (acc, ρ5) := ec
          refine .inr ⟨ir.go i H _ (by have := s.good; rw [List.append_assoc] at this; exact this) hlt, fun H' => ∃ a ρi, StOk C (its ++ ((.ref L0, .lst .own a) :: (cut ++ F))) σ (wipe ρi own) H' ∧ compF t own ρ1 (compB Φ Mu elt ifs) a (xs.drop (i + 1)) ρi = .ok (acc, ρ5), fun H' ⟨a, ρi, s, e⟩ => ⟨_, by omega, a, ρi, rfl, by omega, s, e⟩, fun x' H2 y => ?_⟩
          obtain ⟨nx, g2⟩ := ir.yld i H x' H2 _ x (by have := s.good; rw [List.append_assoc] at this; exact this) hx y
          cases e3 : bindT t x (wipe ρi own) with
          | none => rw [e3] at ec; cases ec
          | some ρa =>
            rw [e3] at ec
            have ec : ((compB Φ Mu elt ifs ρa).bind fun
              | (some d, ρ2) => if Nat.blt a.length LIM then (shareR d).bind fun d' => compF t own ρ1 (compB Φ Mu elt ifs) (a ++ [d']) (xs.drop (i + 1)) ρ2 else .bad
              | (none, ρ2) => compF t own ρ1 (compB Φ Mu elt ifs) a (xs.drop (i + 1)) ρ2) = .ok (acc, ρ5) := ec
            have sx : StOk C ((x', x) :: (its ++ ((.ref L0, .lst .own a) :: (cut ++ F)))) σ (wipe ρi own) H2 := ⟨s.ok, by
              rw [← List.append_assoc] at g2; exact g2⟩
            refine ⟨C, its ++ ((.ref L0, .lst .own a) :: (cut ++ F)), wipe ρi own, x, ρa, sx.wipeIn, nx, e3, fun σ2 s2 w2 => ?_⟩
            have w3 : L2.wipe σ2 own = L2.wipe σ own := (w2 own ht).trans wipe_wipe
            refine ⟨w3, ?_⟩
            have toσ : ∀ {G : List (V × D)} {ρx : Env} {Hx : Hp}, StOk C G σ2 ρx Hx → StOk C G σ (wipe ρx own) Hx := fun {G ρx Hx} s => by
              have h := (StOk.wipe (own := own) s).wipeIn
              rw [w3] at h
              exact h.wipeOut
            have eb : compB Φ Mu elt ifs ρa = (evIfs Φ Mu ifs ρa).bind fun (b, ρ3) => if b then (ev Φ Mu elt ρ3).bind fun (d, ρ4) => .ok (some d, ρ4) else .ok (none, ρ3) := rfl
            rw [eb] at ec
            cases e4 : evIfs Φ Mu ifs ρa with
            | bad => rw [e4] at ec; cases ec
            | err c x => rw [e4] at ec; cases ec
            | ok r =>
              obtain ⟨b, ρ3⟩ := r
              rw [e4] at ec
              refine ⟨C, _, ρa, hC, s2, ?_⟩
              rw [e4]
              intro H3 s3
              cases b with
              | false =>
                have ec : compF t own ρ1 (compB Φ Mu elt ifs) a (xs.drop (i + 1)) ρ3 = .ok (acc, ρ5) := ec
                simp only [Bool.false_eq_true, if_false]
                exact ⟨a, ρ3, toσ s3, ec⟩
              | true =>
                simp only [if_true]
                have ec : (((ev Φ Mu elt ρ3).bind fun (d, ρ4) => .ok (some d, ρ4)).bind fun
                  | (some d, ρ2) => if Nat.blt a.length LIM then (shareR d).bind fun d' => compF t own ρ1 (compB Φ Mu elt ifs) (a ++ [d']) (xs.drop (i + 1)) ρ2 else .bad
                  | (none, ρ2) => compF t own ρ1 (compB Φ Mu elt ifs) a (xs.drop (i + 1)) ρ2) = .ok (acc, ρ5) := ec
                cases e5 : ev Φ Mu elt ρ3 with
                | bad => rw [e5] at ec; cases ec
                | err c x => rw [e5] at ec; cases ec
                | ok r =>
                  obtain ⟨d, ρ4⟩ := r
                  rw [e5] at ec
                  have ec : (if Nat.blt a.length LIM then (shareR d).bind fun d' => compF t own ρ1 (compB Φ Mu elt ifs) (a ++ [d']) (xs.drop (i + 1)) ρ4 else .bad) = .ok (acc, ρ5) := ec
                  split at ec
                  · rename_i hlim
                    refine ⟨C, _, ρ3, hC, s3, ?_⟩
                    rw [e5]
                    intro y H5 s5
                    have hm : isM d = false ∧ compF t own ρ1 (compB Φ Mu elt ifs) (a ++ [share d]) (xs.drop (i + 1)) ρ4 = .ok (acc, ρ5) := by
                      unfold shareR at ec
                      split at ec
                      · cases ec
                      · rename_i z
                        exact ⟨by simpa using z, ec⟩
                    have s6 := toσ s5
                    have g6 : Good C ((y, share d) :: (its ++ ((.ref L0, .lst .own a) :: (cut ++ F))) ++ sl σ (wipe ρ4 own)) H5 := s6.good.share1 hm.1
                    have g7 : Good C ((y, share d) :: (.ref L0, .lst .own a) :: (its ++ (cut ++ F) ++ sl σ (wipe ρ4 own))) H5 := g6.perm (by
                      refine List.Perm.cons _ ?_
                      show ((its ++ ((V.ref L0, D.lst .own a) :: (cut ++ F))) ++ sl σ (wipe ρ4 own)).Perm _
                      simp only [List.append_assoc, List.cons_append]
                      exact List.perm_middle)
                    obtain ⟨a', vs, q, hv, _, rl⟩ := g7.ok (.ref L0, .lst .own a) (List.mem_cons_of_mem _ List.mem_cons_self)
                    cases q
                    have hlen : vs.length < sizeLine := by
                      rw [rl.length]
                      exact Nat.le_of_ble_eq_true hlim
                    refine ⟨vs, hv, hlen, a ++ [share d], ρ4, ⟨s6.ok, (g7.app1 (.inl rfl) (share_not hm.1) hv).perm ?_⟩, hm.2⟩
                    simp only [List.append_assoc, List.cons_append]
                    exact List.perm_middle.symm
                  · cases ec
end
end QE
namespace QE
open PySem L2 PySem.Spec PyProof.Rows
section
variable (Φ : Calls) (Mu : Muts) (W : Nat) (K : PySem.W.Frag) (fnA : FA) (EX : EC) (Wx : WX)
def fwP (C : RC) (F : List (V × D)) (D0 : Ends) : Fw → Prop
  | .nx ρ' => ∀ σ' H', StOk C F σ' ρ' H' → D0.nx σ' H'
  | .rt d ρ' => ∀ v σ' H', StOk C ((v, d) :: F) σ' ρ' H' → D0.rt v H'
def TSt (s : IS) : TS := fun D0 σ H => ∃ C F ρ, CtxOk K fnA C ∧ StOk C F σ ρ H ∧ post (ex Φ Mu W s ρ) (fwP C F D0) (fun c x => ∀ σ', ErrP EX Wx C σ' c x)
def TSs (s : List IS) : TS := fun D0 σ H => ∃ C F ρ, CtxOk K fnA C ∧ StOk C F σ ρ H ∧ post (exs Φ Mu W s ρ) (fwP C F D0) (fun c x => ∀ σ', ErrP EX Wx C σ' c x)
end
section
variable {Φ : Calls} {Mu : Muts} {W : Nat} {K : PySem.W.Frag} {fnA : FA} {EX : EC} {Wx : WX} {X : Cx} {e : Expr} {ie : IE} {i : Nat} {x : Str} {pos pos' : Pos} {s : Stmt} {ss : List Stmt} {is : IS} {iss ia ib : List IS}
theorem s_fail : PS X s (TSt Φ Mu W K fnA EX Wx .fail) := ⟨fun pins s σ H D0 I q => by
  obtain ⟨C, F, ρ, hC, st, p⟩ := q
  exact p.elim⟩
theorem ss_nil : PSs X [] (TSs Φ Mu W K fnA EX Wx []) := weakSs pss_nil fun D0 σ H q => by
  obtain ⟨C, F, ρ, hC, st, p⟩ := q
  have p : ∀ σ' H', StOk C F σ' ρ H' → D0.nx σ' H' := p
  exact p σ H st
theorem ss_cons (h : PS X s (TSt Φ Mu W K fnA EX Wx is)) (hr : PSs X ss (TSs Φ Mu W K fnA EX Wx iss)) : PSs X (s :: ss) (TSs Φ Mu W K fnA EX Wx (is :: iss)) := weakSs (pss_cons h hr) fun D0 σ H q => by
  obtain ⟨C, F, ρ, hC, st, p⟩ := q
  have p : post ((ex Φ Mu W is ρ).bind fun | .nx ρ1 => exs Φ Mu W iss ρ1 | .rt d ρ1 => .ok (.rt d ρ1)) (fwP C F D0) (fun c x => ∀ σ', ErrP EX Wx C σ' c x) := p
  refine ⟨C, F, ρ, hC, st, post_mono (post_bind p) (fun r k => ?_) fun _ _ z => z⟩
  cases r with
  | nx ρ1 => exact fun σ' H' s' => ⟨C, F, ρ1, hC, s', k⟩
  | rt d ρ1 => exact k
theorem s_pass : PS X (.Pass pos) (TSt Φ Mu W K fnA EX Wx .pass) := weakS ps_pass fun D0 σ H q => by
  obtain ⟨C, F, ρ, hC, st, p⟩ := q
  have p : ∀ σ' H', StOk C F σ' ρ H' → D0.nx σ' H' := p
  exact p σ H st
theorem s_ret (h : EOk Φ Mu K fnA EX Wx X e ie) : PS X (.Return (some e) pos) (TSt Φ Mu W K fnA EX Wx (.ret ie)) := weakS (ps_ret h.v) fun D0 σ H q => by
  obtain ⟨C, F, ρ, hC, st, p⟩ := q
  have p : post ((ev Φ Mu ie ρ).bind fun r => .ok (.rt r.1 r.2)) (fwP C F D0) (fun c x => ∀ σ', ErrP EX Wx C σ' c x) := p
  exact ⟨C, F, ρ, hC, st, post_mono (post_bind p) (fun r k v H' s' => k v σ H' s') fun _ _ z => z σ⟩
theorem s_retN : PS X (.Return none pos) (TSt Φ Mu W K fnA EX Wx (.ret (.lit .non))) := weakS ps_retN fun D0 σ H q => by
  obtain ⟨C, F, ρ, hC, st, p⟩ := q
  have p : ∀ v σ' H', StOk C ((v, .non) :: F) σ' ρ H' → D0.rt v H' := p
  exact p _ σ H ⟨st.ok, st.good.add .non⟩
theorem s_expr (h : EOk Φ Mu K fnA EX Wx X e ie) (hs : swapsWith e none pos.line X.env = pure false) : PS X (.Expr e pos) (TSt Φ Mu W K fnA EX Wx (.expr ie)) := weakS (ps_expr h.v hs) fun D0 σ H q => by
  obtain ⟨C, F, ρ, hC, st, p⟩ := q
  have p : post ((ev Φ Mu ie ρ).bind fun r => .ok (.nx r.2)) (fwP C F D0) (fun c x => ∀ σ', ErrP EX Wx C σ' c x) := p
  exact ⟨C, F, ρ, hC, st, post_mono (post_bind p) (fun r k v H' s' => k σ H' ⟨s'.ok, s'.good.tail⟩) fun _ _ z => z σ⟩
theorem s_set (hN : X.N.Nodup) (hi : X.N[i]? = some x) (hx : Loc X.env.scope x) (h : EOk Φ Mu K fnA EX Wx X e ie) (hs : swapsWith e (some (.Name x pos')) pos.line X.env = pure false) (hf : X.fn x = true ∨ X.env.scope.names.lookup x = some .local) :
    PS X (.Assign [.Name x pos'] e pos) (TSt Φ Mu W K fnA EX Wx (.asg (.var i) ie)) := weakS (ps_set hN hi hx h.v hs hf) fun D0 σ H q => by
  obtain ⟨C, F, ρ, hC, st, p⟩ := q
  have p : post ((ev Φ Mu ie ρ).bind fun r => .ok (.nx (setS r.2 i (some r.1)))) (fwP C F D0) (fun c x => ∀ σ', ErrP EX Wx C σ' c x) := p
  exact ⟨C, F, ρ, hC, st, post_mono (post_bind p) (fun r k v H' s' => k _ H' s'.putAny) fun _ _ z => z σ⟩
theorem s_if {c : Expr} {ic : IE} {a b : List Stmt} (hc : PT X c (TB Φ Mu K fnA EX Wx ic)) (ha : PSs X a (TSs Φ Mu W K fnA EX Wx ia)) (hb : PSs X b (TSs Φ Mu W K fnA EX Wx ib)) : PS X (.If c a b pos) (TSt Φ Mu W K fnA EX Wx (.iff ic ia ib)) := weakS (ps_if hc ha hb) fun D0 σ H q => by
  obtain ⟨C, F, ρ, hC, st, p⟩ := q
  have p : post ((evB Φ Mu ic ρ).bind fun r => if r.1 then exs Φ Mu W ia r.2 else exs Φ Mu W ib r.2) (fwP C F D0) (fun c x => ∀ σ', ErrP EX Wx C σ' c x) := p
  have p := post_bind p
  refine ⟨C, F, ρ, hC, st, ?_⟩
  have eB : evB Φ Mu ic ρ = (ev Φ Mu ic ρ).bind fun | (.bl b, ρ1) => .ok (b, ρ1) | _ => .bad := rfl
  rw [eB] at p
  cases e1 : ev Φ Mu ic ρ with
  | bad => rw [e1] at p; exact p.elim
  | err c x => rw [e1] at p; exact (show ∀ σ', ErrP EX Wx C σ' c x from p) σ
  | ok r =>
    obtain ⟨d, ρ1⟩ := r
    rw [e1] at p
    cases d with
    | bl t =>
      have p : post (if t then exs Φ Mu W ia ρ1 else exs Φ Mu W ib ρ1) (fwP C F D0) (fun c x => ∀ σ', ErrP EX Wx C σ' c x) := p
      refine ⟨t, rfl, fun H' s' => ?_⟩
      cases t with
      | true => exact ⟨C, F, ρ1, hC, s', p⟩
      | false => exact ⟨C, F, ρ1, hC, s', p⟩
    | _ => exact p.elim
theorem s_setLc {y : Str} {py : Pos} {elt tg iter : Expr} {ifs : List Expr} {scope : Scope} {ownL : List (Str × Nat)} {lpos spos : Pos} {ielt : IE} {t : Tg} {it : It} {src iifs : List IE} (hc : X.calm = true) (hN : X.N.Nodup) (hy : X.N[i]? = some y) (hyl : X.env.scope.names.lookup y = some .local)
    (hsw : swapsWith (.ListComp elt [⟨tg, iter, ifs, 0⟩] scope lpos) (some (.Name y py)) spos.line X.env = pure true) (hi : PI X tg iter (TIt Φ Mu K fnA EX Wx it src)) (ok : BlkOk X.N X.env.scope scope ownL)
    (hg : ∀ (s : Shared) (H : Hp) (C : Addr) (cl : List (Str × Addr)) (fp : List Addr), PG (X.blk s H scope (compEnvC scope cl C X.env) fp) tg (TGt t)) (ht : ∀ (s : Shared) (H : Hp) (C : Addr) (cl : List (Str × Addr)) (fp : List Addr), PTs (X.blk s H scope (compEnvC scope cl C X.env) fp) ifs (TIf Φ Mu K fnA iifs))
    (he : ∀ (s : Shared) (H : Hp) (C : Addr) (cl : List (Str × Addr)) (fp : List Addr), PE (X.blk s H scope (compEnvC scope cl C X.env) fp) elt (TV Φ Mu K fnA EX noW ielt)) (hs : ∀ x, foldedSetIterable iter X.env x = pure x) (hn : (ownL.map (·.2)).Nodup) (htg : ∀ i ∈ tgs t, i ∈ ownL.map (·.2)) :
    PS X (.Assign [.Name y py] (.ListComp elt [⟨tg, iter, ifs, 0⟩] scope lpos) spos) (TSt Φ Mu W K fnA EX Wx (.asg (.var i) (.comp (ownL.map (·.2)) ielt t it src iifs))) := weakS (ps_setLc hc hN hy hyl hsw hi ok hg ht he hs) fun D0 σ H q => by
  obtain ⟨C, F, ρ, hC, st, p⟩ := q
  have p : post ((ev Φ Mu (.comp (ownL.map (·.2)) ielt t it src iifs) ρ).bind fun r => .ok (.nx (setS r.2 i (some r.1)))) (fwP C F D0) (fun c x => ∀ σ', ErrP EX Wx C σ' c x) := p
  exact comp_tv hn htg σ H _ ⟨C, F, ρ, hC, st, post_mono (post_bind p) (fun r k v H' s' => k _ H' s'.putAny) fun _ _ z => z σ⟩
theorem s_for {tg iter : Expr} {body : List Stmt} {t : Tg} {it : It} {src : List IE} (hp : PassesOwn (model X.prog X.w) X.A X.env X.xe) (hc : X.calm = true) (hi : PI X tg iter (TIt Φ Mu K fnA EX Wx it src)) (hg : PG X tg (TGt t)) (hb : PSs X body (TSs Φ Mu W K fnA EX Wx iss)) (hs : ∀ x, foldedSetIterable iter X.env x = pure x) :
    PS X (.For tg iter body [] pos) (TSt Φ Mu W K fnA EX Wx (.for_ t it src iss)) := weakS (ps_for hp hc hi hg hb hs) fun D0 σ H q => by
  obtain ⟨C, F, ρ, hC, st, p⟩ := q
  have p : post ((evs Φ Mu src ρ).bind fun r => match iterOf it r.1 with | some xs => forF t (fun ρ2 => exs Φ Mu W iss ρ2) xs r.2 | none => .bad) (fwP C F D0) (fun c x => ∀ σ', ErrP EX Wx C σ' c x) := p
  refine ⟨C, F, ρ, hC, st, post_mono (post_bind p) (fun r k => ?_) fun _ _ z => z σ⟩
  obtain ⟨ss, ρ1⟩ := r
  simp only at k
  cases e1 : iterOf it ss with
  | none => rw [e1] at k; exact k.elim
  | some xs =>
    rw [e1] at k
    have k : post (forF t (fun ρ2 => exs Φ Mu W iss ρ2) xs ρ1) (fwP C F D0) (fun c x => ∀ σ', ErrP EX Wx C σ' c x) := k
    refine ⟨xs, rfl, fun its J H1 st1 ir => ?_⟩
    refine ⟨fun i m σ H => ∃ ρi, m = xs.length - i ∧ i ≤ xs.length ∧ StOk C (its ++ F) σ ρi H ∧ post (forF t (fun ρ2 => exs Φ Mu W iss ρ2) (xs.drop i) ρi) (fwP C F D0) (fun c x => ∀ σ', ErrP EX Wx C σ' c x), ⟨_, ρ1, rfl, Nat.zero_le _, st1, k⟩, fun i m σ H w => ?_⟩
    obtain ⟨ρi, rfl, hi, s, k⟩ := w
    by_cases hl : i = xs.length
    · subst hl
      rw [List.drop_length] at k
      have k : ∀ σ' H', StOk C F σ' ρi H' → D0.nx σ' H' := k
      exact .inl ⟨ir.stop _ H _ (by have := s.good; rw [List.append_assoc] at this; exact this) rfl, k σ H (s.sub (List.sublist_append_right _ _))⟩
    · have hlt : i < xs.length := by omega
      obtain ⟨x, hx⟩ := nth_of_lt hlt
      rw [drop_nth hx] at k
      have k : post ((Res.of (bindT t x ρi)).bind fun ρ1 => (exs Φ Mu W iss ρ1).bind fun
        | .nx ρ2 => forF t (fun ρ2 => exs Φ Mu W iss ρ2) (xs.drop (i + 1)) ρ2
        | .rt d ρ2 => .ok (.rt d ρ2)) (fwP C F D0) (fun c x => ∀ σ', ErrP EX Wx C σ' c x) := k
      cases e3 : bindT t x ρi with
      | none => rw [e3] at k; exact k.elim
      | some ρa =>
        rw [e3] at k
        have k := post_bind (show post ((exs Φ Mu W iss ρa).bind fun
          | .nx ρ2 => forF t (fun ρ2 => exs Φ Mu W iss ρ2) (xs.drop (i + 1)) ρ2
          | .rt d ρ2 => .ok (.rt d ρ2)) (fwP C F D0) (fun c x => ∀ σ', ErrP EX Wx C σ' c x) from k)
        refine .inr ⟨ir.go i H _ (by have := s.good; rw [List.append_assoc] at this; exact this) hlt, fun σ' H' => ∃ ρi, StOk C (its ++ F) σ' ρi H' ∧ post (forF t (fun ρ2 => exs Φ Mu W iss ρ2) (xs.drop (i + 1)) ρi) (fwP C F D0) (fun c x => ∀ σ', ErrP EX Wx C σ' c x), fun σ' H' ⟨ρi, s, k⟩ => ⟨_, by omega, ρi, rfl, by omega, s, k⟩, fun x' H2 y => ?_⟩
        obtain ⟨nx, g2⟩ := ir.yld i H x' H2 _ x (by have := s.good; rw [List.append_assoc] at this; exact this) hx y
        have sx : StOk C ((x', x) :: (its ++ F)) σ ρi H2 := ⟨s.ok, by rw [← List.append_assoc] at g2; exact g2⟩
        refine ⟨C, its ++ F, ρi, x, ρa, sx, nx, e3, fun σ2 s2 _ => ⟨C, its ++ F, ρa, hC, s2, post_mono k (fun r kk => ?_) fun _ _ z => z⟩⟩
        cases r with
        | nx ρ2 => exact fun σ' H' s' => ⟨ρ2, s', kk⟩
        | rt d ρ2 =>
          have kk : ∀ v σ' H', StOk C ((v, d) :: F) σ' ρ2 H' → D0.rt v H' := kk
          exact fun v σ' H' s' => kk v σ' H' (s'.sub ((List.sublist_append_right _ _).cons_cons _))
theorem s_while {c : Expr} {ic : IE} {body : List Stmt} (hp : PassesOwn (model X.prog X.w) X.A X.env X.xe) (hc : PT X c (TB Φ Mu K fnA EX Wx ic)) (hb : PSs X body (TSs Φ Mu W K fnA EX Wx iss)) : PS X (.While c body [] pos) (TSt Φ Mu W K fnA EX Wx (.while_ ic iss)) := weakS (ps_while hp hc hb) fun D0 σ H q => by
  obtain ⟨C, F, ρ, hC, st, p⟩ := q
  have p : post (whileF (fun ρ1 => evB Φ Mu ic ρ1) (fun ρ1 => exs Φ Mu W iss ρ1) W ρ) (fwP C F D0) (fun c x => ∀ σ', ErrP EX Wx C σ' c x) := p
  refine ⟨fun m σ H => ∃ ρi, StOk C F σ ρi H ∧ post (whileF (fun ρ1 => evB Φ Mu ic ρ1) (fun ρ1 => exs Φ Mu W iss ρ1) m ρi) (fwP C F D0) (fun c x => ∀ σ', ErrP EX Wx C σ' c x), ⟨W, ρ, st, p⟩, fun m σ H w => ?_⟩
  obtain ⟨ρi, s, k⟩ := w
  cases m with
  | zero => exact k.elim
  | succ n =>
    have k : post ((evB Φ Mu ic ρi).bind fun r => if r.1 then (exs Φ Mu W iss r.2).bind fun
      | .nx ρ2 => whileF (fun ρ1 => evB Φ Mu ic ρ1) (fun ρ1 => exs Φ Mu W iss ρ1) n ρ2
      | .rt d ρ2 => .ok (.rt d ρ2) else .ok (.nx r.2)) (fwP C F D0) (fun c x => ∀ σ', ErrP EX Wx C σ' c x) := k
    have eB : evB Φ Mu ic ρi = (ev Φ Mu ic ρi).bind fun | (.bl b, ρ1) => .ok (b, ρ1) | _ => .bad := rfl
    rw [eB] at k
    refine ⟨C, F, ρi, hC, s, ?_⟩
    cases e1 : ev Φ Mu ic ρi with
    | bad => rw [e1] at k; exact k.elim
    | err c x => rw [e1] at k; exact (show ∀ σ', ErrP EX Wx C σ' c x from k) σ
    | ok r =>
      obtain ⟨d, ρ1⟩ := r
      rw [e1] at k
      cases d with
      | bl b =>
        refine ⟨b, rfl, fun H' s' => ?_⟩
        cases b with
        | true =>
          have k := post_bind (show post ((exs Φ Mu W iss ρ1).bind fun
            | .nx ρ2 => whileF (fun ρ1 => evB Φ Mu ic ρ1) (fun ρ1 => exs Φ Mu W iss ρ1) n ρ2
            | .rt d ρ2 => .ok (.rt d ρ2)) (fwP C F D0) (fun c x => ∀ σ', ErrP EX Wx C σ' c x) from k)
          simp only [if_true]
          refine ⟨fun σ' H' => ∃ ρi, StOk C F σ' ρi H' ∧ post (whileF (fun ρ1 => evB Φ Mu ic ρ1) (fun ρ1 => exs Φ Mu W iss ρ1) n ρi) (fwP C F D0) (fun c x => ∀ σ', ErrP EX Wx C σ' c x), fun σ' H' h => ⟨n, Nat.lt_succ_self n, h⟩, C, F, ρ1, hC, s', post_mono k (fun r kk => ?_) fun _ _ z => z⟩
          cases r with
          | nx ρ2 => exact fun σ' H' s' => ⟨ρ2, s', kk⟩
          | rt d ρ2 => exact kk
        | false =>
          have k : ∀ σ' H', StOk C F σ' ρ1 H' → D0.nx σ' H' := k
          simp only [Bool.false_eq_true, if_false]
          exact k σ H' s'
      | _ => exact k.elim
end
end QE
namespace QE
open PySem L2 PySem.Spec PyProof.Rows
section
variable {Φ : Calls} {Mu : Muts} {W : Nat} {K : PySem.W.Frag} {fnA : FA} {EX : EC} {Wx : WX} {X : Cx} {e : Expr} {ie : IE} {i : Nat} {x : Str} {pos pos' apos cpos : Pos}
theorem app_some {d o o' : D} (h : appD d o = some o') : ∃ f xs, o = .lst f xs ∧ (f = .own ∨ f = .ownM) ∧ xs.length < sizeLine ∧ o' = .lst f (xs ++ [d]) := by
  cases o with
  | lst f xs =>
    have h : (if (f == .own || f == .ownM) && Nat.blt xs.length LIM then some (D.lst f (xs ++ [d])) else none) = some o' := h
    split at h
    · rename_i k
      rw [Bool.and_eq_true, Bool.or_eq_true] at k
      cases h
      exact ⟨f, xs, rfl, by simpa using k.1, Nat.le_of_ble_eq_true k.2, rfl⟩
    · cases h
  | _ => cases h
theorem s_app (hN : X.N[i]? = some x) (hv : Vis X.env.scope x) (hd : (x == ("__debug__" : Str)) = false) (hcd : (x == ("__classdict__" : Str)) = false) (hK : K = X.K) (h : EOk Φ Mu K fnA EX Wx X e ie) (hs : notStar e = true) (hline : (apos.endLine == cpos.line) = true) :
    PS X (.Expr (.Call (.Attribute (.Name x pos') "append" apos) [e] [] cpos) pos) (TSt Φ Mu W K fnA EX Wx (.app i [] ie)) := by
  have hp : plainEs [e] = true := by simp [plainEs, hs]
  refine weakS (ps_expr (pe_bm F.plainAttrs_list F.slot_list_append F.type_list_append mt_append (pe_var hN hv hd hcd) (pa_cons h.v pa_nil (plain_star hp _)) (base_of rfl _ _ _) (star_few hp (by show 1 < 25; omega) _ _) hline (plain_star hp _) (star_any (plain_cons hp).2 _ _)) rfl) fun D0 σ H q => ?_
  obtain ⟨C, F, ρ, hC, st, p⟩ := q
  have p : post (match getS ρ i with
    | some (.lst _ _) => (ev Φ Mu ie ρ).bind fun r => (shareR r.1).bind fun d => match getS r.2 i with
      | some o => match appD d o with
        | some o' => .ok (.nx (setS r.2 i (some o')))
        | none => .bad
      | none => .bad
    | _ => .bad) (fwP C F D0) (fun c x => ∀ σ', ErrP EX Wx C σ' c x) := by
      have p0 : post (ex Φ Mu W (.app i [] ie) ρ) (fwP C F D0) (fun c x => ∀ σ', ErrP EX Wx C σ' c x) := p
      have e0 : ex Φ Mu W (.app i [] ie) ρ = (match ([] : List IE), getS ρ i with
        | [], some (.lst _ _) => (ev Φ Mu ie ρ).bind fun (d0, ρ1) => (shareR d0).bind fun d => match getS ρ1 i with
          | some o => match appD d o with
            | some o' => .ok (.nx (setS ρ1 i (some o')))
            | none => .bad
          | none => .bad
        | _, _ => .bad) := rfl
      rw [e0] at p0
      cases e1 : getS ρ i with
      | none => rw [e1] at p0; exact p0.elim
      | some d => rw [e1] at p0; cases d <;> exact p0
  cases e1 : getS ρ i with
  | none => rw [e1] at p; exact p.elim
  | some d0 =>
    rw [e1] at p
    cases d0 with
    | lst f0 xs0 =>
      obtain ⟨v, hv0, g0, _⟩ := st.at e1
      obtain ⟨a, vs0, rfl, rd, _⟩ := item_lst g0.head
      refine ⟨_, hv0, .inl ⟨rfl, vs0, .inl rd⟩, ?_⟩
      refine ⟨C, F, ρ, hC, st, post_mono (post_bind p) (fun r k => ?_) fun _ _ z => z σ⟩
      obtain ⟨d, ρ1⟩ := r
      intro y H1 s1
      obtain ⟨hm, k⟩ := post_share k
      simp only at k
      cases e2 : getS ρ1 i with
      | none => rw [e2] at k; exact k.elim
      | some o =>
        rw [e2] at k
        simp only at k
        cases e3 : appD (share d) o with
        | none => rw [e3] at k; exact k.elim
        | some o' =>
          rw [e3] at k
          have k : ∀ σ' H', StOk C F σ' (setS ρ1 i (some o')) H' → D0.nx σ' H' := k
          obtain ⟨f, xs, rfl, hf, hl, rfl⟩ := app_some e3
          have s2 : StOk C ((y, share d) :: F) σ ρ1 H1 := ⟨s1.ok, s1.good.share1 hm⟩
          obtain ⟨v, hv1, g, _⟩ := s2.at e2
          rw [hv0] at hv1; cases hv1
          have g2 : Good C ((y, share d) :: (.ref a, .lst f xs) :: (F ++ sl σ (setS ρ1 i none))) H1 := g.perm (List.Perm.swap _ _ _)
          have h2 := g2.ok (.ref a, .lst f xs) (List.mem_cons_of_mem _ List.mem_cons_self)
          have hh : ∃ vs, H1 a = some (.lst vs) ∧ vs.length = xs.length := by
            rcases hf with rfl | rfl
            · obtain ⟨a', vs, q, e, _, r⟩ := h2
              cases q; exact ⟨vs, e, r.length⟩
            · obtain ⟨a', vs, q, e, _, r⟩ := h2
              cases q; exact ⟨vs, e, r.length⟩
          obtain ⟨vs, ev1, el⟩ := hh
          have g3 := g2.app1 hf (share_not hm) ev1
          exact ⟨a, vs, y, rfl, rfl, ev1, by rw [el]; exact hl, k σ _ (StOk.back s2.ok hv0 g3)⟩
    | _ => exact p.elim
theorem ext_some {ys : List D} {o o' : D} (h : extD ys o = some o') : ∃ f xs, o = .lst f xs ∧ (f = .own ∨ f = .ownM) ∧ xs.length + ys.length ≤ sizeLine ∧ o' = .lst f (xs ++ ys) := by
  cases o with
  | lst f xs =>
    have h : (if (f == .own || f == .ownM) && Nat.ble (xs.length + ys.length) LIM then some (D.lst f (xs ++ ys)) else none) = some o' := h
    split at h
    · rename_i k
      rw [Bool.and_eq_true, Bool.or_eq_true] at k
      cases h
      exact ⟨f, xs, rfl, by simpa using k.1, Nat.le_of_ble_eq_true k.2, rfl⟩
    · cases h
  | _ => cases h
theorem extOf_some {d : D} {ys : List D} (h : extOf d = some ys) : ∃ f, d = .lst f ys ∧ f ≠ .old := by
  cases d with
  | lst f xs => cases f <;> first | (cases h; exact ⟨_, rfl, fun z => nomatch z⟩) | cases h
  | _ => cases h
theorem lst_in {C : RC} {O : List Addr} {H : Hp} {y : V} {f : Fl} {ys : List D} (h : ItemOk C O H (y, .lst f ys)) (n : f ≠ .old) : ∃ b zs, y = .ref b ∧ H b = some (.lst zs) ∧ RepL C O H zs ys := by
  cases f with
  | own => obtain ⟨a, vs, rfl, e, _, r⟩ := h; exact ⟨a, vs, rfl, e, r⟩
  | ownM => obtain ⟨a, vs, rfl, e, _, r⟩ := h; exact ⟨a, vs, rfl, e, r⟩
  | fr => cases h with | fr e _ _ r => exact ⟨_, _, rfl, e, r⟩
  | old => exact absurd rfl n
theorem Good.extL {C : RC} {H : Hp} {y : V} {a : Addr} {f f2 : Fl} {ds ys : List D} {vs : List V} {its : List (V × D)} (g : Good C ((y, .lst f2 ys) :: (.ref a, .lst f ds) :: its) H) (hf : f = .own ∨ f = .ownM) (n : f2 ≠ .old) (hv : H a = some (.lst vs)) :
    ∃ b zs, y = .ref b ∧ H b = some (.lst zs) ∧ zs.length = ys.length ∧ Good C ((.ref a, .lst f (ds ++ ys)) :: its) (upd H a (.lst (vs ++ zs))) := by
  have g1 : Good C ((.ref a, .lst f ds) :: (y, .lst f2 ys) :: its) H := g.perm (List.Perm.swap _ _ _)
  have er : roots ((V.ref a, D.lst f ds) :: (y, .lst f2 ys) :: its) = a :: roots ((y, .lst f2 ys) :: its) := by rcases hf with rfl | rfl <;> rfl
  have h := g1.ok _ List.mem_cons_self
  have hd := g1.ok (y, .lst f2 ys) (List.mem_cons_of_mem _ List.mem_cons_self)
  rw [er] at h hd
  obtain ⟨b, zs, rfl, eb, rb⟩ := lst_in hd n
  have rl : RepL C (a :: roots ((.ref b, .lst f2 ys) :: its)) H vs ds := by
    rcases hf with rfl | rfl
    · obtain ⟨a', vs1, q, e, _, r⟩ := h
      cases q; rw [hv] at e; cases e; exact r
    · obtain ⟨a', vs1, q, e, _, r⟩ := h
      cases q; rw [hv] at e; cases e; exact r
  have g2 := g1.writeL hf (rl.app rb)
  exact ⟨b, zs, rfl, eb, rb.length, g2.sub ((List.sublist_cons_self _ _).cons_cons _)⟩
theorem s_ext (hN : X.N[i]? = some x) (hv : Vis X.env.scope x) (hd : (x == ("__debug__" : Str)) = false) (hcd : (x == ("__classdict__" : Str)) = false) (hK : K = X.K) (h : EOk Φ Mu K fnA EX Wx X e ie) (hs : notStar e = true) (hline : (apos.endLine == cpos.line) = true) :
    PS X (.Expr (.Call (.Attribute (.Name x pos') "extend" apos) [e] [] cpos) pos) (TSt Φ Mu W K fnA EX Wx (.ext i [] ie)) := by
  have hp : plainEs [e] = true := by simp [plainEs, hs]
  refine weakS (ps_expr (pe_bm F.plainAttrs_list F.slot_list_extend F.type_list_extend mt_extend (pe_var hN hv hd hcd) (pa_cons h.v pa_nil (plain_star hp _)) (base_of rfl _ _ _) (star_few hp (by show 1 < 25; omega) _ _) hline (plain_star hp _) (star_any (plain_cons hp).2 _ _)) rfl) fun D0 σ H q => ?_
  obtain ⟨C, F, ρ, hC, st, p⟩ := q
  have p : post (match getS ρ i with
    | some (.lst _ _) => (ev Φ Mu ie ρ).bind fun r => match extOf r.1 with
      | some ys => match getS r.2 i with
        | some o => match extD ys o with
          | some o' => .ok (.nx (setS r.2 i (some o')))
          | none => .bad
        | none => .bad
      | none => .bad
    | _ => .bad) (fwP C F D0) (fun c x => ∀ σ', ErrP EX Wx C σ' c x) := by
      have p0 : post (ex Φ Mu W (.ext i [] ie) ρ) (fwP C F D0) (fun c x => ∀ σ', ErrP EX Wx C σ' c x) := p
      have e0 : ex Φ Mu W (.ext i [] ie) ρ = (match ([] : List IE), getS ρ i with
        | [], some (.lst _ _) => (ev Φ Mu ie ρ).bind fun (d, ρ1) => match extOf d with
          | some ys => match getS ρ1 i with
            | some o => match extD ys o with
              | some o' => .ok (.nx (setS ρ1 i (some o')))
              | none => .bad
            | none => .bad
          | none => .bad
        | _, _ => .bad) := rfl
      rw [e0] at p0
      cases e1 : getS ρ i with
      | none => rw [e1] at p0; exact p0.elim
      | some d => rw [e1] at p0; cases d <;> exact p0
  cases e1 : getS ρ i with
  | none => rw [e1] at p; exact p.elim
  | some d0 =>
    rw [e1] at p
    cases d0 with
    | lst f0 xs0 =>
      obtain ⟨v, hv0, g0, _⟩ := st.at e1
      obtain ⟨a, vs0, rfl, rd, _⟩ := item_lst g0.head
      refine ⟨_, hv0, .inl ⟨rfl, vs0, .inl rd⟩, ?_⟩
      refine ⟨C, F, ρ, hC, st, post_mono (post_bind p) (fun r k => ?_) fun _ _ z => z σ⟩
      obtain ⟨d, ρ1⟩ := r
      intro y H1 s1
      simp only at k
      cases e4 : extOf d with
      | none => rw [e4] at k; exact k.elim
      | some ys =>
      rw [e4] at k
      simp only at k
      obtain ⟨f2, rfl, n2⟩ := extOf_some e4
      cases e2 : getS ρ1 i with
      | none => rw [e2] at k; exact k.elim
      | some o =>
        rw [e2] at k
        simp only at k
        cases e3 : extD ys o with
        | none => rw [e3] at k; exact k.elim
        | some o' =>
          rw [e3] at k
          have k : ∀ σ' H', StOk C F σ' (setS ρ1 i (some o')) H' → D0.nx σ' H' := k
          obtain ⟨f, xs, rfl, hf, hl, rfl⟩ := ext_some e3
          have s2 : StOk C ((y, .lst f2 ys) :: F) σ ρ1 H1 := ⟨s1.ok, s1.good⟩
          obtain ⟨v, hv1, g, _⟩ := s2.at e2
          rw [hv0] at hv1; cases hv1
          have g2 : Good C ((y, .lst f2 ys) :: (.ref a, .lst f xs) :: (F ++ sl σ (setS ρ1 i none))) H1 := g.perm (List.Perm.swap _ _ _)
          have h2 := g2.ok (.ref a, .lst f xs) (List.mem_cons_of_mem _ List.mem_cons_self)
          have hh : ∃ vs, H1 a = some (.lst vs) ∧ vs.length = xs.length := by
            rcases hf with rfl | rfl
            · obtain ⟨a', vs, q, e, _, r⟩ := h2
              cases q; exact ⟨vs, e, r.length⟩
            · obtain ⟨a', vs, q, e, _, r⟩ := h2
              cases q; exact ⟨vs, e, r.length⟩
          obtain ⟨vs, ev1, el⟩ := hh
          obtain ⟨b, zs, rfl, eb, ez, g3⟩ := g2.extL hf n2 ev1
          exact ⟨a, b, vs, zs, rfl, rfl, ev1, eb, by rw [el, ez]; exact hl, k σ _ (StOk.back s2.ok hv0 g3)⟩
    | _ => exact p.elim
end
end QE
namespace QE
open PySem L2 PySem.Spec PyProof.Rows
section
variable {C : RC} {O : List Addr} {H : Hp} {a : Addr} {v w : V} {d : D}
theorem any_k {κ : Type} [DecidableEq κ] {kd : D → Option κ} (hq : ∀ {x y : D} {k j : κ}, kd x = some k → kd y = some j → deq x y = decide (k = j)) : ∀ {ws : List (κ × V)} {l : List (D × V)} {es : List (D × D)} {x : D} {k : κ}, Paired (fun (p : κ × V) (q : D × V) => kd q.1 = some p.1 ∧ p.2 = q.2) ws l → RepKv C O H l es → kd x = some k →
    dany x es = ws.any fun kv => decide (kv.1 = k)
  | _, _, _, _, _, .nil, .nil, _ => rfl
  | _, _, _, x, k, .cons (a := p) (b := (k', v)) hp hr, .cons (d := d) h r, e => by
    obtain ⟨h1, h2⟩ := hp
    simp only at h1 h2
    show (deq k' x || dany x _) = _
    rw [hq h1 e, any_k hq hr r e]
    rfl
theorem map_k {κ : Type} [DecidableEq κ] {kd : D → Option κ} (hq : ∀ {x y : D} {k j : κ}, kd x = some k → kd y = some j → deq x y = decide (k = j)) : ∀ {ws : List (κ × V)} {l : List (D × V)} {es : List (D × D)} {x : D} {k : κ}, Paired (fun (p : κ × V) (q : D × V) => kd q.1 = some p.1 ∧ p.2 = q.2) ws l → RepKv C O H l es → kd x = some k → Rep C O H w d →
    ∃ l', Paired (fun (p : κ × V) (q : D × V) => kd q.1 = some p.1 ∧ p.2 = q.2) (ws.map fun kv => if kv.1 = k then (kv.1, w) else kv) l' ∧ RepKv C O H l' (dmapv x d es)
  | _, _, _, _, _, .nil, .nil, _, _ => ⟨[], .nil, .nil⟩
  | _, _, _, x, k, .cons (a := p) (b := (k', v)) hp hr, .cons (d := d1) h r, e, hw => by
    obtain ⟨l', i1, i2⟩ := map_k hq hr r e hw
    obtain ⟨h1, h2⟩ := hp
    simp only at h1 h2
    show ∃ l', Paired _ ((if p.1 = k then (p.1, w) else p) :: _) l' ∧ RepKv C O H l' ((k', if deq k' x then d else d1) :: _)
    rw [hq h1 e]
    by_cases hk : p.1 = k
    · rw [if_pos hk, decide_eq_true hk, if_pos rfl]
      exact ⟨(k', w) :: l', .cons ⟨h1, rfl⟩ i1, .cons hw i2⟩
    · rw [if_neg hk, decide_eq_false hk, if_neg (by decide)]
      exact ⟨(k', v) :: l', .cons ⟨h1, h2⟩ i1, .cons h i2⟩
theorem snoc_k {κ : Type} {kd : D → Option κ} : ∀ {ws : List (κ × V)} {l : List (D × V)} {es : List (D × D)} {x : D} {k : κ}, Paired (fun (p : κ × V) (q : D × V) => kd q.1 = some p.1 ∧ p.2 = q.2) ws l → RepKv C O H l es → kd x = some k → Rep C O H w d →
    Paired (fun (p : κ × V) (q : D × V) => kd q.1 = some p.1 ∧ p.2 = q.2) (ws ++ [(k, w)]) (l ++ [(x, w)]) ∧ RepKv C O H (l ++ [(x, w)]) (es ++ [(x, d)])
  | _, _, _, _, _, .nil, .nil, e, hw => ⟨.cons ⟨e, rfl⟩ .nil, .cons hw .nil⟩
  | _, _, _, _, _, .cons hp hr, .cons h r, e, hw => by
    obtain ⟨i1, i2⟩ := snoc_k hr r e hw
    exact ⟨.cons hp i1, .cons h i2⟩
theorem put_k {κ : Type} [DecidableEq κ] {kd : D → Option κ} (hq : ∀ {x y : D} {k j : κ}, kd x = some k → kd y = some j → deq x y = decide (k = j)) {ws : List (κ × V)} {l : List (D × V)} {es : List (D × D)} {x : D} {k : κ} (p : Paired (fun (p : κ × V) (q : D × V) => kd q.1 = some p.1 ∧ p.2 = q.2) ws l) (r : RepKv C O H l es) (e : kd x = some k) (hw : Rep C O H w d) :
    ∃ l', Paired (fun (p : κ × V) (q : D × V) => kd q.1 = some p.1 ∧ p.2 = q.2) (putK ws k w) l' ∧ RepKv C O H l' (dput x d es) := by
  unfold putK dput
  rw [any_k hq p r e]
  split
  · exact map_k hq p r e hw
  · exact ⟨_, snoc_k p r e hw⟩
theorem repKv_len : ∀ {l : List (D × V)} {es : List (D × D)}, RepKv C O H l es → l.length = es.length
  | _, _, .nil => rfl
  | _, _, .cons _ r => congrArg (· + 1) (repKv_len r)
theorem paired_len {α β : Type} {F : α → β → Prop} : ∀ {l : List α} {r : List β}, Paired F l r → l.length = r.length
  | _, _, .nil => rfl
  | _, _, .cons _ r => congrArg (· + 1) (paired_len r)
theorem rd_mut {o : HO} (h : Rd H a o) (m : ∃ o, H a = some o ∧ Mut (some o)) : H a = some o := by
  rcases h with h | ⟨u, h⟩
  · exact h
  · obtain ⟨o', e, mu⟩ := m
    rw [h] at e; cases e; exact mu.elim
end
section
variable {C : RC} {its : List (V × D)} {H : Hp} {a : Addr} {v y : V} {d kd : D} {f : Fl} {t : Bool} {kvs : List (D × D)}
theorem Good.writeD {l' : List (D × V)} {kvs' : List (D × D)} {o : HO} (g : Good C ((.ref a, .dic f t kvs) :: its) H) (hf : f = .own ∨ f = .ownM) (mo : Mut (some o)) (hd : DH (upd H a o) a t l') (r : RepKv C (a :: roots its) H l' kvs') : Good C ((.ref a, .dic f t kvs') :: its) (upd H a o) := by
  have e0 : ∀ x, root (V.ref a, D.dic f t x) = [a] := fun x => by rcases hf with rfl | rfl <;> rfl
  have er : ∀ x, roots ((V.ref a, D.dic f t x) :: its) = a :: roots its := fun x => by rw [roots_cons, e0]; rfl
  have n0 := g.nd
  rw [er] at n0
  obtain ⟨n1, n2⟩ := List.nodup_cons.mp n0
  have hin : a ∈ roots ((V.ref a, D.dic f t kvs) :: its) := by rw [er]; exact List.mem_cons_self
  obtain ⟨⟨o0, eo, mo0⟩, hM⟩ := g.root_some hin
  have k : Keep [a] H (upd H a o) := ⟨fun b o e hb _ => by rw [upd_ne (fun z => hb (by rw [z]; exact List.mem_singleton.mpr rfl))]; exact e, fun b hb o' e => by
    cases List.mem_singleton.mp hb
    rw [eo] at e; cases e; exact mo0⟩
  have hX : ∀ b ∈ [a], b ∈ a :: roots its := fun b hb => by cases List.mem_singleton.mp hb; exact List.mem_cons_self
  have r2 : RepKv C (a :: roots its) (upd H a o) l' kvs' := r.keep k hX (fun b hb => .inl hb) g.ext.exs
  have nt0 : ∀ l, DH H a t l → (∀ ps, H a ≠ some (.tbl ps)) ∧ ∀ c q, H a ≠ some (LamX.CodeO c q) := fun l h => by
    cases h with
    | k r _ => exact rd_code r nofun nofun
    | t r _ => exact rd_code r nofun nofun
  have nt1 : (∀ ps, H a ≠ some (.tbl ps)) ∧ ∀ c q, H a ≠ some (LamX.CodeO c q) := by
    have h := g.ok _ List.mem_cons_self
    rcases hf with rfl | rfl
    · obtain ⟨a', us, q, e, _⟩ := h
      cases q
      exact nt0 _ e
    · obtain ⟨a', us, q, e, _⟩ := h
      cases q
      exact nt0 _ e
  refine Good.ret (its0 := [(.ref a, .dic f t kvs)]) (new := [(.ref a, .dic f t kvs')]) g k (fun b hb => ?_) ?_ (fun b hb => ?_) (fun it hit => ?_) ?_
  · cases List.mem_singleton.mp hb
    rw [roots_cons, e0]; exact List.mem_cons_self
  · rw [roots_cons, e0]; exact List.nodup_cons.mpr ⟨(fun z => nomatch z), List.nodup_nil⟩
  · rw [roots_cons, e0] at hb
    cases List.mem_singleton.mp hb
    exact ⟨n1, .inl (by rw [roots_cons, e0]; exact List.mem_cons_self)⟩
  · cases List.mem_singleton.mp hit
    have eO : roots [(V.ref a, D.dic f t kvs')] ++ roots its = a :: roots its := by rw [roots_cons, e0]; rfl
    rw [eO]
    have h := g.ok _ List.mem_cons_self
    rcases hf with rfl | rfl
    · obtain ⟨a', _, q, _, _, n, _⟩ := h
      cases q
      exact ⟨a, l', rfl, hd, ⟨o, upd_same, mo⟩, n, r2⟩
    · obtain ⟨a', _, q, _, _, n, _⟩ := h
      cases q
      exact ⟨a, l', rfl, hd, ⟨o, upd_same, mo⟩, n, r2⟩
  · refine ⟨fun b o h n nt => ?_, fun b h => ?_, g.ext.old, g.ext.muta, g.ext.exs, fun p hp => tabS_write (g.ext.tabs p hp) nt1.1 nt1.2⟩
    · have hb : b ≠ a := by
        intro z; subst z
        rcases hM with q | q
        · rw [h] at q; cases q
        · exact n q
      rw [upd_ne hb]; exact g.ext.keep b o h n nt
    · by_cases hb : b = a
      · subst hb; rw [upd_same]; exact fun z => nomatch z
      · rw [upd_ne hb]; exact g.ext.there b h
end
end QE
namespace QE
open PySem L2 PySem.Spec PyProof.Rows
section
variable {C : RC} {its : List (V × D)} {H : Hp} {a : Addr} {w y : V} {d kd o o' : D}
theorem set_cases (h : setItem o kd d = some o') : (∃ f xs i n, o = .lst f xs ∧ (f = .own ∨ f = .ownM) ∧ kd = .int i ∧ QE.ixN xs.length i = some n ∧ o' = .lst f (setAt xs n d)) ∨
    ∃ f t kvs, o = .dic f t kvs ∧ (f = .own ∨ f = .ownM) ∧ keyIs t kd = true ∧ kvs.length < sizeLine ∧ o' = .dic f t (dput kd d kvs) := by
  cases o with
  | lst f xs =>
    have h : (if f == .own || f == .ownM then (match kd with | .int i => (QE.ixN xs.length i).map fun n => D.lst f (setAt xs n d) | _ => none) else none) = some o' := h
    split at h
    · rename_i k
      have hf : f = .own ∨ f = .ownM := by simpa using k
      cases kd with
      | int i =>
        obtain ⟨n, e, rfl⟩ := Option.map_eq_some_iff.mp (show (QE.ixN xs.length i).map (fun n => D.lst f (setAt xs n d)) = some o' from h)
        exact .inl ⟨f, xs, i, n, rfl, hf, rfl, e, rfl⟩
      | _ => cases h
    · cases h
  | dic f t kvs =>
    have h : (if (f == .own || f == .ownM) && keyIs t kd && Nat.blt kvs.length LIM then some (D.dic f t (dput kd d kvs)) else none) = some o' := h
    split at h
    · rename_i k
      rw [Bool.and_eq_true, Bool.and_eq_true] at k
      cases h
      exact .inr ⟨f, t, kvs, rfl, by simpa using k.1.1, k.1.2, Nat.le_of_ble_eq_true k.2, rfl⟩
    · cases h
  | _ => cases h
theorem key_v {O : List Addr} {k : Key} (h : ItemOk C O H (y, kd)) (e : kD kd = some k) : y = kV k := by
  cases kd <;> simp [kD] at e <;> subst e
  · exact item_int h
  · exact item_str h
theorem keys_v {O : List Addr} : ∀ {vs : List V} {xs : List D} {j : List Key}, RepL C O H vs xs → kDs xs = some j → vs = j.map kV := by
  intro vs xs j q
  induction xs generalizing vs j with
  | nil => intro e; cases q; cases e; rfl
  | cons x xs ih =>
    intro e
    cases q with
    | cons h q =>
      simp only [kDs, Option.bind_eq_some_iff, Option.map_eq_some_iff] at e
      obtain ⟨k, e1, r, e2, rfl⟩ := e
      rw [ih q e2]
      cases x <;> simp [kD] at e1 <;> subst e1
      · cases h; rfl
      · cases h; rfl
theorem set_end {v0 : V} (g : Good C ((v0, o) :: (y, kd) :: (w, d) :: its) H) (hn : NotOwn d) (e : setItem o kd d = some o') (Q : Hp → Prop) (fin : ∀ H', Good C ((v0, o') :: its) H' → Q H') : rSetL v0 y w H Q ∨ rSetD v0 y w H Q := by
  have hy := g.ok (y, kd) (List.mem_cons_of_mem _ List.mem_cons_self)
  have hw := g.ok (w, d) (List.mem_cons_of_mem _ (List.mem_cons_of_mem _ List.mem_cons_self))
  have h0 := g.ok (v0, o) List.mem_cons_self
  rcases set_cases e with ⟨f, xs, i, n, rfl, hf, rfl, hn', rfl⟩ | ⟨f, t, kvs, rfl, hf, hk, hl, rfl⟩
  · obtain ⟨a, vs, rfl, rd, rl⟩ := item_lst h0
    have hr : roots ((V.ref a, D.lst f xs) :: (y, .int i) :: (w, d) :: its) = a :: roots ((y, .int i) :: (w, d) :: its) := by rcases hf with rfl | rfl <;> rfl
    have ea : H a = some (.lst vs) := by
      rcases hf with rfl | rfl
      · obtain ⟨a', vs', q, e, _, r⟩ := h0
        cases q
        rcases rd with z | ⟨u, z⟩
        · exact z
        · rw [e] at z; cases z
      · obtain ⟨a', vs', q, e, _, r⟩ := h0
        cases q
        rcases rd with z | ⟨u, z⟩
        · exact z
        · rw [e] at z; cases z
    cases item_int hy
    rw [item_not hn] at hw
    rw [hr] at rl hw
    have hj : L2.ixN vs.length i = some n := by rw [rl.length, ← ixN_eq]; exact hn'
    have g2 := g.writeL hf (rl.set n hw)
    exact .inl ⟨a, vs, i, n, rfl, rfl, ea, hj, fin _ (g2.sub (((List.sublist_cons_self _ _).trans (List.sublist_cons_self _ _)).cons_cons _))⟩
  · obtain ⟨a, l, rfl, dh, rk⟩ := item_dic h0
    have hr : roots ((V.ref a, D.dic f t kvs) :: (y, kd) :: (w, d) :: its) = a :: roots ((y, kd) :: (w, d) :: its) := by rcases hf with rfl | rfl <;> rfl
    have mu : ∃ o, H a = some o ∧ Mut (some o) := by
      rcases hf with rfl | rfl
      · obtain ⟨a', l', q, _, m, _⟩ := h0; cases q; exact m
      · obtain ⟨a', l', q, _, m, _⟩ := h0; cases q; exact m
    have hw2 := hw
    rw [item_not hn, hr] at hw2
    rw [hr] at rk
    cases dh with
    | k rd p =>
      rename_i ws
      obtain ⟨j, ej⟩ := keyIs0 hk
      have ea := rd_mut rd mu
      obtain ⟨l', p', r'⟩ := put_k (kd := kD) kD_deq p rk ej hw2
      have g2 := g.writeD (o := .dK (putK ws j w)) hf trivial (.k (.inl upd_same) p') r'
      refine .inr ⟨a, _, rfl, .inl ⟨ws, j, ea, key_v hy ej, ?_, rfl⟩, fin _ (g2.sub (((List.sublist_cons_self _ _).trans (List.sublist_cons_self _ _)).cons_cons _))⟩
      rw [paired_len p, repKv_len rk]; exact hl
    | t rd p =>
      rename_i ws
      obtain ⟨xs, j, rfl, e2, ej⟩ := keyIs1 hk
      have ea := rd_mut rd mu
      obtain ⟨b, vs, rfl, hb, rb⟩ := item_tup hy
      obtain ⟨l', p', r'⟩ := put_k (kd := kT) kT_deq p rk ej hw2
      have g2 := g.writeD (o := .dT (putK ws j w)) hf trivial (.t (.inl upd_same) p') r'
      refine .inr ⟨a, _, rfl, .inr ⟨ws, j, b, ea, rfl, ?_, ?_, rfl⟩, fin _ (g2.sub (((List.sublist_cons_self _ _).trans (List.sublist_cons_self _ _)).cons_cons _))⟩
      · rw [← keys_v rb e2]; exact hb
      · rw [paired_len p, repKv_len rk]; exact hl
end
section
variable {Φ : Calls} {Mu : Muts} {W : Nat} {K : PySem.W.Frag} {fnA : FA} {EX : EC} {Wx : WX} {X : Cx} {e k : Expr} {ie ik : IE} {i : Nat} {x : Str} {pos pos' spos : Pos}
theorem set_all (hu : X.A.units + 1 < cLine) : PSet X (fun o i v H Q => rSetL o i v H Q ∨ rSetD o i v H Q) := by
  intro pins s σ H o i v ov iv u Q I ro ri rv h
  rcases h with h | h
  · exact set_list pins s σ H o i v ov iv u Q I ro ri rv h
  · exact set_dict hu pins s σ H o i v ov iv u Q I ro ri rv h
theorem swaps_sub {t i : Expr} {p : Pos} {l : Nat} {env : PySem.Env} : swapsWith e (some (.Subscript t i p)) l env = pure false := by
  unfold swapsWith
  cases e <;> rfl
theorem s_setS (hu : X.A.units + 1 < cLine) (hN : X.N[i]? = some x) (hv : Vis X.env.scope x) (hd : (x == ("__debug__" : Str)) = false) (hcd : (x == ("__classdict__" : Str)) = false) (h : EOk Φ Mu K fnA EX Wx X e ie) (hk : EOk Φ Mu K fnA EX Wx X k ik)
    (ha : ∀ v, assign (.Subscript (.Name x pos') k spos) X.env v = (do
      let ov ← holding [v] (eval (.Name x pos') X.env)
      let iv ← holding [v, ov] (eval k X.env)
      standAt spos
      holding [v, ov, iv] (PySem.setItem ov iv v)
      release [v, ov, iv] [])) :
    PS X (.Assign [.Subscript (.Name x pos') k spos] e pos) (TSt Φ Mu W K fnA EX Wx (.setS i [] ik ie)) := by
  refine weakS (ps_asg h.v (pg_sub (pe_var hN hv hd hcd) hk.v (set_all hu) ha) (show swapsWith e (some (.Subscript (.Name x pos') k spos)) pos.line X.env = pure false from swaps_sub) rfl rfl) fun D0 σ H q => ?_
  obtain ⟨C, F, ρ, hC, st, p⟩ := q
  have p : post ((ev Φ Mu ie ρ).bind fun r => (shareR r.1).bind fun d => if (getS r.2 i).isSome then (ev Φ Mu ik r.2).bind fun r2 => match getS r2.2 i with
      | some o => match QE.setItem o r2.1 d with
        | some o' => .ok (.nx (setS r2.2 i (some o')))
        | none => .bad
      | none => .bad else .bad) (fwP C F D0) (fun c x => ∀ σ', ErrP EX Wx C σ' c x) := p
  refine ⟨C, F, ρ, hC, st, post_mono (post_bind p) (fun r k1 => ?_) fun _ _ z => z σ⟩
  obtain ⟨d0, ρ1⟩ := r
  intro w H1 s1
  obtain ⟨hm, k1⟩ := post_share k1
  simp only at k1
  have s2 : StOk C ((w, share d0) :: F) σ ρ1 H1 := ⟨s1.ok, s1.good.share1 hm⟩
  split at k1
  · rename_i hsome
    obtain ⟨o1, e1⟩ := Option.isSome_iff_exists.mp hsome
    obtain ⟨v0, hv0, _, _⟩ := s2.at e1
    refine ⟨v0, hv0, C, (w, share d0) :: F, ρ1, hC, s2, post_mono (post_bind k1) (fun r2 k2 => ?_) fun _ _ z => z σ⟩
    obtain ⟨kd, ρ2⟩ := r2
    intro y H2 s3
    simp only at k2
    cases e2 : getS ρ2 i with
    | none => rw [e2] at k2; exact k2.elim
    | some o =>
      rw [e2] at k2
      simp only at k2
      cases e3 : QE.setItem o kd (share d0) with
      | none => rw [e3] at k2; exact k2.elim
      | some o' =>
        rw [e3] at k2
        have k2 : ∀ σ' H', StOk C F σ' (setS ρ2 i (some o')) H' → D0.nx σ' H' := k2
        obtain ⟨v1, hv1, g, _⟩ := s3.at e2
        rw [hv0] at hv1; cases hv1
        exact set_end g (share_not hm) e3 _ fun H' g' => k2 σ H' (StOk.back s3.ok hv0 g')
  · exact k1.elim
end
end QE
namespace QE
open PySem L2 PySem.Spec PyProof.Rows
section
variable {Φ : Calls} {Mu : Muts} {W : Nat} {K : PySem.W.Frag} {fnA : FA} {EX : EC} {Wx : WX} {X : Cx} {e : Expr} {ie : IE} {pos tpos : Pos} {es : List Expr} {ts : List Tg} {kk : Nat}
def notTup : Expr → Bool
  | .Tuple .. => false
  | _ => true
theorem swaps_tup {l : Nat} {env : PySem.Env} : swapsWith e (some (.Tuple es kk tpos)) l env = pure false := by
  unfold swapsWith
  cases e <;> rfl
theorem stores_tup {env : PySem.Env} (h : notTup e = true) : swappedStores [.Tuple es kk tpos] e env = pure none := by
  unfold swappedStores
  cases e <;> first | rfl | cases h
theorem s_asgT (hw : swappedStores [.Tuple es kk tpos] e X.env = pure none) (hg : PG X (.Tuple es kk tpos) (TGt (.tup ts))) (h : EOk Φ Mu K fnA EX Wx X e ie) : PS X (.Assign [.Tuple es kk tpos] e pos) (TSt Φ Mu W K fnA EX Wx (.asg (.tup ts) ie)) := by
  refine weakS (ps_asg h.v hg (show swapsWith e (some (.Tuple es kk tpos)) pos.line X.env = pure false from swaps_tup) hw rfl) fun D0 σ H q => ?_
  obtain ⟨C, F, ρ, hC, st, p⟩ := q
  have p : post ((ev Φ Mu ie ρ).bind fun r => (Res.of (bindT (.tup ts) r.1 r.2)).bind fun ρ2 => .ok (.nx ρ2)) (fwP C F D0) (fun c x => ∀ σ', ErrP EX Wx C σ' c x) := p
  refine ⟨C, F, ρ, hC, st, post_mono (post_bind p) (fun r k => ?_) fun _ _ z => z σ⟩
  obtain ⟨d, ρ1⟩ := r
  intro v H1 s1
  simp only at k
  cases eb : bindT (.tup ts) d ρ1 with
  | none => rw [eb] at k; exact k.elim
  | some ρ2 =>
    rw [eb] at k
    have k : ∀ σ' H', StOk C F σ' ρ2 H' → D0.nx σ' H' := k
    have hn : NotOwn d := by
      cases d with
      | tup xs => trivial
      | _ => cases eb
    exact ⟨C, F, ρ1, d, ρ2, s1, hn, eb, fun σ' s2 _ => k σ' H1 s2⟩

section
variable (Φ : Calls) (Mu : Muts) (K : PySem.W.Frag) (fnA : FA) (EX : EC) (Wx : WX)
def TPar (es : List IE) : TA := fun σ H Q => ∃ C F ρ, CtxOk K fnA C ∧ StOk C F σ ρ H ∧ post (evPar Φ Mu es ρ) (fun r => ∀ vs H', vs.length = r.1.length → StOk C (vs.zip r.1 ++ F) σ r.2 H' → Q vs H') (ErrP EX Wx C σ)
end
theorem pa_par_nil : PA X [] (TPar Φ Mu K fnA EX Wx []) := weakA pa_nil fun σ H Q q => by
  obtain ⟨C, F, ρ, hC, st, p⟩ := q
  have p : ∀ vs H', vs.length = 0 → StOk C (vs.zip [] ++ F) σ ρ H' → Q vs H' := p
  exact p [] H rfl st
theorem pa_par_cons {es : List Expr} {ies : List IE} (h : EOk Φ Mu K fnA EX Wx X e ie) (hr : PA X es (TPar Φ Mu K fnA EX Wx ies)) (hs : notStar e = true) : PA X (e :: es) (TPar Φ Mu K fnA EX Wx (ie :: ies)) := by
  refine weakA (pa_cons h.v hr (star_free (notStar_ne hs))) fun σ H Q q => ?_
  obtain ⟨C, F, ρ, hC, st, p⟩ := q
  have p : post ((ev Φ Mu ie ρ).bind fun r => (evPar Φ Mu ies r.2).bind fun s => .ok (r.1 :: s.1, s.2)) (fun r => ∀ vs H', vs.length = r.1.length → StOk C (vs.zip r.1 ++ F) σ r.2 H' → Q vs H') (ErrP EX Wx C σ) := p
  refine ⟨C, F, ρ, hC, st, post_mono (post_bind p) (fun r k => ?_) fun _ _ z => z⟩
  intro v H1 st1
  refine ⟨C, _, r.2, hC, st1, post_mono (post_bind k) (fun s k2 => ?_) fun _ _ z => z⟩
  intro vs H2 hl st3
  refine k2 (v :: vs) H2 (by simp [hl]) (st3.permF ?_)
  show (vs.zip s.1 ++ (v, r.1) :: F).Perm ((v, r.1) :: (vs.zip s.1 ++ F))
  exact List.perm_middle
theorem evPar_len : ∀ {es : List IE} {ρ : Env} {r : List D × Env}, evPar Φ Mu es ρ = .ok r → r.1.length = es.length
  | [], ρ, r, h => by cases h; rfl
  | e :: es, ρ, r, h => by
    have h : ((ev Φ Mu e ρ).bind fun x => (evPar Φ Mu es x.2).bind fun s => .ok (x.1 :: s.1, s.2)) = .ok r := h
    cases h1 : ev Φ Mu e ρ with
    | ok o =>
      rw [h1] at h
      have h : ((evPar Φ Mu es o.2).bind fun s => Res.ok (o.1 :: s.1, s.2)) = .ok r := h
      cases h2 : evPar Φ Mu es o.2 with
      | ok s => rw [h2] at h; cases h; exact congrArg (· + 1) (evPar_len h2)
      | err c x => rw [h2] at h; cases h
      | bad => rw [h2] at h; cases h
    | err c x => rw [h1] at h; cases h
    | bad => rw [h1] at h; cases h
theorem s_par2 {i j : Nat} {x y : Str} {a b : Expr} {ia ib : IE} {px py pt : Pos} {kt k2 : Nat} {pt2 : Pos} (hc : X.calm = true) (hN : X.N.Nodup) (hi : X.N[i]? = some x) (hj : X.N[j]? = some y) (hij : i ≠ j) (hx : X.env.scope.names.lookup x = some .local) (hy : X.env.scope.names.lookup y = some .local)
    (ha : EOk Φ Mu K fnA EX Wx X a ia) (hb : EOk Φ Mu K fnA EX Wx X b ib) (hsa : notStar a = true) (hsb : notStar b = true) (hw : swappedStores [.Tuple [.Name x px, .Name y py] kt pt] (.Tuple [a, b] k2 pt2) X.env = pure (some [x, y])) :
    PS X (.Assign [.Tuple [.Name x px, .Name y py] kt pt] (.Tuple [a, b] k2 pt2) pos) (TSt Φ Mu W K fnA EX Wx (.par [.var i, .var j] [ia, ib])) := by
  refine weakS (ps_par hc hN hi hj hij hx hy (pa_par_cons ha (pa_par_cons hb pa_par_nil hsb) hsa) hw rfl) fun D0 σ H q => ?_
  obtain ⟨C, F, ρ, hC, st, p⟩ := q
  have p : post ((evPar Φ Mu [ia, ib] ρ).bind fun r => (Res.of (parT [.var i, .var j] r.1 r.2)).bind fun ρ2 => .ok (.nx ρ2)) (fwP C F D0) (fun c x => ∀ σ', ErrP EX Wx C σ' c x) := p
  refine ⟨C, F, ρ, hC, st, ?_⟩
  cases e1 : evPar Φ Mu [ia, ib] ρ with
  | bad => rw [e1] at p; exact p.elim
  | err c x => rw [e1] at p; exact (show ∀ σ', ErrP EX Wx C σ' c x from p) σ
  | ok r =>
    obtain ⟨ds, ρ1⟩ := r
    rw [e1] at p
    have hl := evPar_len e1
    intro vs H' hlen s1
    match ds, vs, hl, hlen with
    | [d1, d2], [v1, v2], _, _ =>
      have p : ∀ σ' H', StOk C F σ' (setS (setS ρ1 i (some d1)) j (some d2)) H' → D0.nx σ' H' := p
      have s2 : StOk C ((v1, d1) :: (v2, d2) :: F) σ ρ1 H' := s1
      exact ⟨v1, v2, rfl, p _ H' s2.putAny.putAny⟩
theorem s_par3 {i j l : Nat} {x y z : Str} {a b c : Expr} {ia ib ic : IE} {px py pz pt : Pos} {kt k2 : Nat} {pt2 : Pos} (hc : X.calm = true) (hN : X.N.Nodup) (hi : X.N[i]? = some x) (hj : X.N[j]? = some y) (hl : X.N[l]? = some z) (hij : i ≠ j) (hil : i ≠ l) (hjl : j ≠ l)
    (hx : X.env.scope.names.lookup x = some .local) (hy : X.env.scope.names.lookup y = some .local) (hz : X.env.scope.names.lookup z = some .local)
    (ha : EOk Φ Mu K fnA EX Wx X a ia) (hb : EOk Φ Mu K fnA EX Wx X b ib) (hcc : EOk Φ Mu K fnA EX Wx X c ic) (hsa : notStar a = true) (hsb : notStar b = true) (hsc : notStar c = true) (hw : swappedStores [.Tuple [.Name x px, .Name y py, .Name z pz] kt pt] (.Tuple [a, b, c] k2 pt2) X.env = pure (some [x, y, z])) :
    PS X (.Assign [.Tuple [.Name x px, .Name y py, .Name z pz] kt pt] (.Tuple [a, b, c] k2 pt2) pos) (TSt Φ Mu W K fnA EX Wx (.par [.var i, .var j, .var l] [ia, ib, ic])) := by
  refine weakS (ps_par3 hc hN hi hj hl hij hil hjl hx hy hz (pa_par_cons ha (pa_par_cons hb (pa_par_cons hcc pa_par_nil hsc) hsb) hsa) hw rfl) fun D0 σ H q => ?_
  obtain ⟨C, F, ρ, hC, st, p⟩ := q
  have p : post ((evPar Φ Mu [ia, ib, ic] ρ).bind fun r => (Res.of (parT [.var i, .var j, .var l] r.1 r.2)).bind fun ρ2 => .ok (.nx ρ2)) (fwP C F D0) (fun c x => ∀ σ', ErrP EX Wx C σ' c x) := p
  refine ⟨C, F, ρ, hC, st, ?_⟩
  cases e1 : evPar Φ Mu [ia, ib, ic] ρ with
  | bad => rw [e1] at p; exact p.elim
  | err c x => rw [e1] at p; exact (show ∀ σ', ErrP EX Wx C σ' c x from p) σ
  | ok r =>
    obtain ⟨ds, ρ1⟩ := r
    rw [e1] at p
    have hl := evPar_len e1
    intro vs H' hlen s1
    match ds, vs, hl, hlen with
    | [d1, d2, d3], [v1, v2, v3], _, _ =>
      have p : ∀ σ' H', StOk C F σ' (setS (setS (setS ρ1 i (some d1)) j (some d2)) l (some d3)) H' → D0.nx σ' H' := p
      have s2 : StOk C ((v1, d1) :: (v2, d2) :: (v3, d3) :: F) σ ρ1 H' := s1
      exact ⟨v1, v2, v3, rfl, p _ H' s2.putAny.putAny.putAny⟩
end
end QE
namespace QE
open PySem L2 PySem.Spec PyProof.Rows
theorem lenIs_len {α : Type} : ∀ {l : List α} {n : Nat}, lenIs l n = true → l.length = n
  | [], 0, _ => rfl
  | [], _ + 1, h => by cases h
  | _ :: _, 0, h => by cases h
  | _ :: r, n + 1, h => congrArg (· + 1) (lenIs_len (l := r) h)
theorem sl_nones : ∀ (n : Nat), SlOk (List.replicate n none) (none? n) ∧ sl (List.replicate n none) (none? n) = []
  | 0 => ⟨.nil, rfl⟩
  | n + 1 => by
    obtain ⟨a, b⟩ := sl_nones n
    exact ⟨.skip a, by show sl (none :: _) (none :: _) = []; rw [sl_none]; exact b⟩
theorem sl_start (n : Nat) : ∀ {vs : List V} {ds : List D}, vs.length = ds.length → SlOk (vs.map some ++ List.replicate n none) (somes ds ++ none? n) ∧ sl (vs.map some ++ List.replicate n none) (somes ds ++ none? n) = vs.zip ds
  | [], [], _ => sl_nones n
  | [], _ :: _, h => by cases h
  | _ :: _, [], h => by cases h
  | v :: vs, d :: ds, h => by
    obtain ⟨a, b⟩ := sl_start n (vs := vs) (ds := ds) (by simpa using h)
    exact ⟨.keep a, congrArg ((v, d) :: ·) b⟩
theorem nth_zip : ∀ {vs : List V} {ds : List D} {j : Nat} {d : D}, vs.length = ds.length → nth ds j = some d → ∃ v, nth vs j = some v ∧ (v, d) ∈ vs.zip ds
  | [], [], j, d, _, h => by cases j <;> cases h
  | [], _ :: _, _, _, h, _ => by cases h
  | _ :: _, [], _, _, h, _ => by cases h
  | v :: vs, d :: ds, 0, _, _, h => by cases h; exact ⟨v, rfl, List.mem_cons_self⟩
  | v :: vs, d :: ds, j + 1, x, hl, h => by
    obtain ⟨w, e, m⟩ := nth_zip (vs := vs) (ds := ds) (j := j) (by simpa using hl) h
    exact ⟨w, e, List.mem_cons_of_mem _ m⟩
theorem isM_ref {C : RC} {O : List Addr} {H : Hp} {v : V} {d : D} (h : ItemOk C O H (v, d)) (m : isM d = true) : ∃ a, v = .ref a ∧ C.M = some a := by
  cases d with
  | lst f xs =>
    cases f <;> first | (cases m; done) | skip
    obtain ⟨a, vs, rfl, _, k, _⟩ := h
    exact ⟨a, rfl, k⟩
  | dic f t xs =>
    cases f <;> first | (cases m; done) | skip
    obtain ⟨a, vs, rfl, _, _, k, _⟩ := h
    exact ⟨a, rfl, k⟩
  | _ => cases m
section
variable {T : List (Nat × FD)} {W n : Nat} {K : PySem.W.Frag} {fnA : FA} {EX : EC} {f : Nat} {fd : FD} {N : List Str} {vs : List V} {H : Hp} {Q : VK} {E : XK}
theorem call_succ (ds : List D) (hl : lookF T f = some fd) : call T W (n + 1) f ds = (if lenIs ds fd.np && mOk fd.muts ds then match exs (call T W n) (mutsOf T) W fd.body (somes ds ++ none? (fd.ns - fd.np)) with
        | .ok (.rt v ρ) => (match outsOf ρ fd.muts with
          | some outs => .ok (v, outs)
          | none => .bad)
        | .ok (.nx ρ) => (match outsOf ρ fd.muts with
          | some outs => .ok (.non, outs)
          | none => .bad)
        | .err c x => .err c x
        | .bad => .bad else .bad) := by
  have e : call T W (n + 1) f ds = (match lookF T f with
    | some fd => if lenIs ds fd.np && mOk fd.muts ds then match exs (call T W n) (mutsOf T) W fd.body (somes ds ++ none? (fd.ns - fd.np)) with
        | .ok (.rt v ρ) => (match outsOf ρ fd.muts with
          | some outs => .ok (v, outs)
          | none => .bad)
        | .ok (.nx ρ) => (match outsOf ρ fd.muts with
          | some outs => .ok (.non, outs)
          | none => .bad)
        | .err c x => .err c x
        | .bad => .bad else .bad
    | none => .bad) := rfl
  rw [e, hl]
theorem outs_good {C : RC} {ds : List D} {σ' : L2.St} {ρ' : Env} {H' : Hp} {v : V} {d : D} {outs : List D} (g0 : Good C (vs.zip ds) H) (hlen : vs.length = ds.length) {m : Option Nat} (hm : mOk m ds = true) (s : StOk C [(v, d)] σ' ρ' H') (e : outsOf ρ' m = some outs) : Good C ((v, d) :: outIts m vs outs) H' := by
  cases m with
  | none =>
    cases e
    exact s.good.sub ((List.nil_sublist _).cons_cons _)
  | some j =>
    have hm : (match nth ds j with | some d => isM d | none => false) = true := hm
    cases e1 : nth ds j with
    | none => rw [e1] at hm; cases hm
    | some dj =>
      rw [e1] at hm
      obtain ⟨vj, e2, mem⟩ := nth_zip hlen e1
      obtain ⟨a, rfl, ka⟩ := isM_ref (g0.ok _ mem) hm
      have e : (match getS ρ' j with | some d => if isM d then some [d] else none | none => none) = some outs := e
      cases e3 : getS ρ' j with
      | none => rw [e3] at e; cases e
      | some dj' =>
        rw [e3] at e
        simp only at e
        split at e
        · rename_i hm'
          cases e
          obtain ⟨w, hw, g, _⟩ := s.at e3
          obtain ⟨a', rfl, ka'⟩ := isM_ref g.head hm'
          rw [ka] at ka'; cases ka'
          have eo : outIts (some j) vs [dj'] = [(.ref a, dj')] := by
            show (match nth vs j with | some v => [(v, dj')] | none => []) = _
            rw [e2]
          rw [eo]
          refine (g.perm (List.Perm.swap _ _ _)).sub ?_
          exact ((List.nil_sublist _).cons_cons _).cons_cons _
        · cases e
theorem entry (hl : lookF T f = some fd) (hN : N.length = fd.ns) (h : SpOf (call T W (n + 1)) (mutsOf T) K fnA EX f fd.np vs H Q E) : TSs (call T W n) (mutsOf T) W K fnA EX (fun cls d _ H => E cls d H) fd.body { nx := fun _ H' => Q .non H', rt := Q } (L2.start N vs) H := by
  obtain ⟨hv, C, ds, hC, hH, hlen, g, p⟩ := h
  rw [call_succ ds hl] at p
  have hMu : mutsOf T f = fd.muts := by unfold mutsOf; rw [hl]
  rw [hMu] at p
  split at p
  · rename_i hb
    rw [Bool.and_eq_true] at hb
    obtain ⟨s1, s2⟩ := sl_start (fd.ns - fd.np) hlen
    have est : L2.start N vs = vs.map some ++ List.replicate (fd.ns - fd.np) none := by unfold L2.start; rw [hN, hv]
    refine ⟨C, [], somes ds ++ none? (fd.ns - fd.np), hC, ⟨by rw [est]; exact s1, ?_⟩, ?_⟩
    · rw [est, List.nil_append, s2]; exact g
    · cases ee : exs (call T W n) (mutsOf T) W fd.body (somes ds ++ none? (fd.ns - fd.np)) with
      | bad => rw [ee] at p; exact p.elim
      | err c x =>
        rw [ee] at p
        have p : ∀ cls dd H', Ext C H' → EX.exc c x cls dd H' → E cls dd H' := p
        exact fun σ' cls dd H' e k => p cls dd H' e k
      | ok r =>
        rw [ee] at p
        cases r with
        | rt d ρ' =>
          simp only at p
          cases eo : outsOf ρ' fd.muts with
          | none => rw [eo] at p; exact p.elim
          | some outs =>
            rw [eo] at p
            have p : ∀ v H', Good C ((v, d) :: outIts fd.muts vs outs) H' → Q v H' := p
            exact fun v σ' H' s => p v H' (outs_good g hlen hb.2 s eo)
        | nx ρ' =>
          simp only at p
          cases eo : outsOf ρ' fd.muts with
          | none => rw [eo] at p; exact p.elim
          | some outs =>
            rw [eo] at p
            have p : ∀ v H', Good C ((v, .non) :: outIts fd.muts vs outs) H' → Q v H' := p
            exact fun σ' H' s => p .non H' (outs_good g hlen hb.2 ⟨s.ok, s.good.add .non⟩ eo)
  · exact p.elim
end
end QE
namespace QE
open PySem L2 PySem.Spec PyProof.Rows
section
variable {Φ : Calls} {Mu : Muts} {K : PySem.W.Frag} {fnA : FA} {EX : EC} {Wx : WX} {X : Cx}
theorem e_comp {elt tg iter : Expr} {ifs : List Expr} {scope : Scope} {ownL : List (Str × Nat)} {lpos : Pos} {ielt : IE} {t : Tg} {it : It} {src iifs : List IE} (hc : X.calm = true) (hN : X.N.Nodup) (hi : PI X tg iter (TIt Φ Mu K fnA EX Wx it src)) (ok : BlkOk X.N X.env.scope scope ownL)
    (hg : ∀ (s : Shared) (H : Hp) (C : Addr) (cl : List (Str × Addr)) (fp : List Addr), PG (X.blk s H scope (compEnvC scope cl C X.env) fp) tg (TGt t)) (ht : ∀ (s : Shared) (H : Hp) (C : Addr) (cl : List (Str × Addr)) (fp : List Addr), PTs (X.blk s H scope (compEnvC scope cl C X.env) fp) ifs (TIf Φ Mu K fnA iifs))
    (he : ∀ (s : Shared) (H : Hp) (C : Addr) (cl : List (Str × Addr)) (fp : List Addr), PE (X.blk s H scope (compEnvC scope cl C X.env) fp) elt (TV Φ Mu K fnA EX noW ielt)) (hs : ∀ x, foldedSetIterable iter X.env x = pure x) (hn : (ownL.map (·.2)).Nodup) (htg : ∀ i ∈ tgs t, i ∈ ownL.map (·.2)) :
    EOk Φ Mu K fnA EX Wx X (.ListComp elt [⟨tg, iter, ifs, 0⟩] scope lpos) (.comp (ownL.map (·.2)) ielt t it src iifs) := EOk.of (weakE (pe_lc hc hN hi ok hg ht he hs) (comp_tv hn htg)) rfl
theorem e_dic0 {pos : Pos} : EOk Φ Mu K fnA EX Wx X (.Dict [] [] pos) (.dic false []) := by
  refine EOk.of (weakE pe_dnewK fun σ H Q q => ?_) rfl
  obtain ⟨C, F, ρ, hC, st, p⟩ := q
  have p : ∀ v H', StOk C ((v, .dic .own false []) :: F) σ ρ H' → Q v H' := p
  intro a ha
  exact p _ _ ⟨st.ok, st.good.newD .nil ha (.k (.inl upd_same) .nil) trivial⟩
theorem e_dic0t {pos : Pos} : EOk Φ Mu K fnA EX Wx X (.Dict [] [] pos) (.dic true []) := by
  refine EOk.of (weakE pe_dnewT fun σ H Q q => ?_) rfl
  obtain ⟨C, F, ρ, hC, st, p⟩ := q
  have p : ∀ v H', StOk C ((v, .dic .own true []) :: F) σ ρ H' → Q v H' := p
  intro a ha
  exact p _ _ ⟨st.ok, st.good.newD .nil ha (.t (.inl upd_same) .nil) trivial⟩
theorem e_dic1 {i j : Int} {k1 k2 : Nat} {p1 p2 pos : Pos} : EOk Φ Mu K fnA EX Wx X (.Dict [some (.Constant (.int i) k1 p1)] [.Constant (.int j) k2 p2] pos) (.dic false [.lit (.int i), .lit (.int j)]) := by
  refine EOk.of (weakE (pe_disp (pps_cons pe_int pe_int pps_nil) rfl rfl (fun z => nomatch z) (by show (1 : Nat) ≤ 15; decide)) fun σ H Q q => ?_) rfl
  obtain ⟨C, F, ρ, hC, st, p⟩ := q
  have p : ∀ v H', StOk C ((v, .dic .own false [(.int i, .int j)]) :: F) σ ρ H' → Q v H' := p
  intro a ha
  show upd H a (.dK []) a = some (.dK []) ∧ _
  refine ⟨upd_same, [(.inl i, .int j)], rfl, by show (1 : Nat) ≤ 15; decide, ?_⟩
  rw [upd_upd]
  exact p _ _ ⟨st.ok, st.good.newD (l := [(.int i, .int j)]) (.cons (.int j) .nil) ha (.k (.inl upd_same) (.cons ⟨rfl, rfl⟩ .nil)) trivial⟩
end
end QE
namespace QE
open PySem L2 PySem.Spec PySem.W PySem.Calls PyProof.Rows
abbrev veT : List Value := [.type "ValueError", .type "Exception", .type "BaseException", .type "object"]
abbrev initBody (f pa : Str) (p : Nat → Pos) : List Stmt :=
  [.Expr (.Call (.Attribute (.Call (.Name "super" (p 2)) [] [] (p 3)) "__init__" (p 4)) [.Name pa (p 5)] [] (p 6)) (p 7), .Assign [.Attribute (.Name "self" (p 8)) f (p 9)] (.Name pa (p 10)) (p 11)]
theorem superCall {pa : Str} {p2 p3 p4 p5 p6 : Pos} {env : PySem.Env} (hl : (p4.endLine == p6.line) = true) : eval (.Call (.Attribute (.Call (.Name "super" p2) [] [] p3) "__init__" p4) [.Name pa p5] [] p6) env = (do
      let ov ← attributeBase (.Call (.Name "super" p2) [] [] p3) "__init__" env (eval (.Call (.Name "super" p2) [] [] p3) env)
      standAt p4.atName
      let (f, first) ← holding [ov] (getMethod ov "__init__" (do return (← importBound (.Call (.Name "super" p2) [] [] p3) env).getD true))
      callWith p6 f first (backTo p6 (starEach [.Name pa p5] env)) []) := by
  show (do
    let ov ← attributeBase (.Call (.Name "super" p2) [] [] p3) "__init__" env (eval (.Call (.Name "super" p2) [] [] p3) env)
    standAt p4.atName
    methodCall (.Call (.Name "super" p2) [] [] p3) "__init__" p4 p6 env ov 1 (backTo p6 (starEach [.Name pa p5] env)) []) = _
  congr 1
  funext ov
  congr 1
  funext _
  rw [L2.mcall_line rfl hl]
  rfl
section
variable {prog : Program} {w : World} {A : Around} {R : Result → Shared → Prop} {h : Heap} {g : Array GenState} {d : Drawn} {t : Nat} {os : OsState}
theorem init_run {K : Frag} {e C fI cc cda t0 : Addr} {nm qual f pa : Str} {p : Nat → Pos} {params : Arguments} {scope : Scope} {dV kV doc pm ct oc ccl cl : Value} {an od cdd cld : Option Addr} {osl ccs csl : Array (Option Value)} {vs : Array Value} {file : Str} {tf : Tok} {u : Value} {mg mb : Str → Option Value} {ar : Arg} {cd : ClassData}
    (X : K.In h) (hns : h.Ns mainGlobals mg) (hsup : mg "super" = none) (hb : h.Ns builtinsNs mb) (hbb : ∀ x : Str, x ≠ "__name__" → mb x = bootBuiltins x) (hlim : h.NoLimit) (hroom : A.depth < recursionLimit)
    (ho : K.lookup fI = some ⟨oc, od, .func (ksFn nm qual params (initBody f pa p) scope dV kV doc pm an (.ref cda) ct cc), osl⟩) (hcd : codeIn K (.ref cda) qual = true)
    (hbind : ∀ s : Shared, BindsTo s (ksFn nm qual params (initBody f pa p) scope dV kV doc pm an (.ref cda) ct cc) ⟨[.ref e, u], []⟩ [("self", .ref e), (pa, u)])
    (hp : (params.posonlyargs ++ params.args).head? = some ar) (har : ar.arg = "self") (hpa : pa ≠ "self")
    (hcode : K.lookup cda = some ⟨ccl, cdd, .fields vs, ccs⟩) (hvs : vs[2]? = some (.str file tf)) (hfile : ((prog.main.file : Str) == file) = true)
    (hcell : K.lookup cc = some ⟨cl, cld, .cell (some (.ref C)), csl⟩) (htop : (prog.main.scope.names.lookup ("super" : Str)).isSome = false)
    (hscell : ∀ x ∈ scope.names, x.2 ≠ .cell) (hself : scope.names.lookup ("self" : Str) = some NameKind.local) (hpl : scope.names.lookup pa = some NameKind.local) (hks : scope.names.lookup ("super" : Str) = some .globalImplicit) (hkc : scope.names.lookup ("__class__" : Str) = some .free)
    (hpd : (pa == ("__debug__" : Str)) = false) (hline : ((p 4).endLine == (p 6).line) = true) (hco : scope.isCoroutine = false) (hgen : scope.isGenerator = false) (hk : scope.kind = .function)
    (hcls : clsIn K C = some cd) (hmro : cd.mro = .ref C :: cd.mro.tail) (hmt : HandSPX.refsVE cd.mro = true) (hdict : cd.hasDict = true)
    (hsub : mroIn K C (.ref C) = some true) (hq : excInitIn K C veT "ValueError.__new__" = true) (hsu : ks_superIn K C C "__init__" = some (some (.builtin "ValueError.__init__"))) (htp : nsIn K cStatics "thirdparty.any" = some none)
    (hB : subIn K (.ref C) (.type "ValueError") = some true) (hsa : findIn K (.ref C) "__setattr__" = some (some (.builtin "object.__setattr__"))) (hno : findIn K (.ref C) f = some none)
    (he : h.get? e = some (excObj C t0 none .none)) (hKe : K.lookup e = none)
    (hq2 : ∀ h' dx t1 tk, (∀ b o, b ≠ e → h.get? b = some o → h'.get? b = some o) → h.objs.size ≤ dx → dx ≠ e → h'.get? e = some ({ cls := .ref C, dict := some dx, data := .fields #[.ref t1, .none, .none, .none, .bool false, .none] } : Obj) → h'.Ns1 dx (fun y => if y = f then some u else none) → R (.ok (.ret .none)) ⟨h', g, d, tk, os⟩) :
    codeAny (model prog w) A (.call (.ref fI) ⟨[.ref e, u], []⟩) R ⟨h, g, d, t, os⟩ := by
  refine ks_codeAny_call_defAt (fd := ksFn nm qual params (initBody f pa p) scope dV kV doc pm an (.ref cda) ct cc) (body := initBody f pa p) (binds := [("self", .ref e), (pa, u)]) hroom (X _ _ ho) rfl hlim (codeRec_of X hcd) rfl (hbind _) hscell (fun x hx => ?_) (fun h₀ hns₀ hk₀ => ?_) hco hgen hk
  · rcases List.mem_cons.mp hx with rfl | hx
    · exact hself
    · cases List.mem_singleton.mp hx
      exact hpl
  have X0 : K.In h₀ := X.keeps hk₀
  have he0 := hk₀ _ _ he
  have nLe : h.objs.size ≠ e := Nat.ne_of_gt (Heap.lt_size he)
  have hi : interactive (callEnv (ksFn nm qual params (initBody f pa p) scope dV kV doc pm an (.ref cda) ct cc) h.objs.size fI) = false := by
    unfold interactive
    have e : (callEnv (ksFn nm qual params (initBody f pa p) scope dV kV doc pm an (.ref cda) ct cc) h.objs.size fI).scope.kind = .function := hk
    simp [e]
  refine ks_wpAt_execs_cons (ks_wpAt_Expr_any (ks_wpAt_MethodCall (he := superCall hline) (ks_wpAt_super_base (env := callEnv (ksFn nm qual params (initBody f pa p) scope dV kV doc pm an (.ref cda) ct cc) h.objs.size fI) hks hkc (by decide) rfl (X0 _ _ ho) rfl hp rfl (X0 _ _ hcode) rfl hvs hfile htop ?_)) hi)
  refine ks_loadName_global hk hks (loadGlobal_builtin (hns.keeps hk₀) hsup (hb.keeps hk₀) ((hbb _ (by decide)).trans (by decide +kernel : bootBuiltins "super" = some (.type "super"))) ⟨rfl, ?_⟩)
  refine wpAny_loadName_free hk hkc rfl ⟨_, X0 _ _ hcell, rfl⟩ ?_
  rw [har]
  have nse : (("self" : Str) == pa) = false := by
    have : ("self" : Str) ≠ pa := fun z => hpa z.symm
    simpa using this
  have lself : ([(("self" : Str), Value.ref e), (pa, u)].reverse).lookup ("self" : Str) = some (.ref e) := by
    show List.lookup _ [(pa, u), ("self", Value.ref e)] = _
    rw [List.lookup_cons, nse]
    rfl
  have lpa : ([(("self" : Str), Value.ref e), (pa, u)].reverse).lookup pa = some u := by
    show List.lookup _ [(pa, u), ("self", Value.ref e)] = _
    rw [List.lookup_cons, beq_self_eq_true]
  refine wpAny_loadName_local hk hself hns₀ lself ?_
  obtain ⟨oD, hD1, hD2⟩ : ∃ oD, h₀.get? C = some oD ∧ oD.data = .cls cd := by
    have hD := hcls
    unfold clsIn at hD
    split at hD
    · rename_i c d cd' sl ho'
      cases hD
      exact ⟨_, X0 _ _ ho', rfl⟩
    · cases hD
  refine ks_wpAny_isType_cls hD1 hD2 ⟨rfl, ?_⟩
  refine ks_wpAny_call_super hD1 hD2 he0 rfl (fun c z => by cases z) (looks_mroIn X0 hsub) (fun h1 hso k1 => ?_)
  have X1 : K.In h1 := X0.keeps k1
  have he1 := k1 _ _ he0
  have hI : PySem.W.InstAt h1 e (excObj C t0 none .none) C none := ⟨he1, rfl, rfl, trivial⟩
  have hsu' := hsu
  unfold ks_superIn at hsu'
  rw [hcls, Option.bind_some] at hsu'
  refine kxs_getMethod kxs_ValueError hso (looks_opaque X1 htp) (l₀ := cd.mro) (fun A Q E s k q => wpAny_bind ((looks_clsIn X1 hcls) A _ E s k (wpAny_pure q))) rfl X1 hsu' (hI.type.andThen (looks_subIn X1 hB)) (ks_ne X1 hI hcls) (by decide) ?_
  have ns1 : h1.Ns h.objs.size (fun x => [(("self" : Str), Value.ref e), (pa, u)].reverse.lookup x) := hns₀.keeps k1
  have hu : (h1.push (kxs_mw "ValueError.__init__" e)).get? h1.objs.size = some (kxs_mw "ValueError.__init__" e) := Heap.get?_push_size _ rfl
  have k2 : ∀ b o, h1.get? b = some o → (h1.push (kxs_mw "ValueError.__init__" e)).get? b = some o := fun b o z => Heap.get?_push_of_some _ z
  generalize hh2 : h1.push (kxs_mw "ValueError.__init__" e) = h2 at hu k2
  have X2 : K.In h2 := X1.keeps k2
  have he2 := k2 _ _ he1
  refine kxs_callWith (i := "ValueError.__init__") (x := e) rfl (evalArgs_plain ?_)
  refine Calls.spliced_cons (wpAny_Name (wpAny_loadName_local hk hpl (ns1.keeps k2) lpa ?_) hpd)
  refine Calls.spliced_nil ⟨hu, ?_⟩
  show wpAny _ _ (PySem.call (.ref h1.objs.size) [u] []) _ _ _
  obtain ⟨nm', N', qn, bs, bm, hdct, sn, sub, ab, col, dd, k0', k1', k2', k3', k5', hC, hT⟩ := excInit_of X2 hq
  refine wpAny_call (codeAny_of_tree ?_)
  show wpAny _ _ (callAny (.ref h1.objs.size) ⟨[u], []⟩) _ _ _
  simp only [callAny]
  refine wpAny_bind (wpAny_load hu ?_)
  simp only [kxs_mw, show (Value.type "method-wrapper" == Value.type "method" || Value.type "method-wrapper" == Value.type "builtin_function_or_method" || Value.type "method-wrapper" == Value.type "method-wrapper") = true by decide, if_true]
  refine KFB.if_so (by decide) ?_
  refine wpAny_bind (check_bound_init F.excBase_ValueError.toExcCallFacts hC he2 rfl ?_)
  refine wpAny_bind (wpAny_pure (wpAny_pure ?_))
  refine ⟨plainId_quiet F.excBase_ValueError.init.plain _, codeAny_builtin F.excBase_ValueError.initEntry ?_⟩
  refine exc_init_tree (cls := .ref C) (t0 := t0) (dv := none) (c2 := .none) (c3 := .none) (b4 := .bool false) he2 (by show 1 ≤ sizeLine; rw [sizeLine_eq]; omega) fun h3 k3 he3 ht3 => ?_
  have nL3 : ∀ b, b ≠ e → ∀ o, h.get? b = some o → h3.get? b = some o := fun b hb o z => k3 b o hb (k2 _ _ (k1 _ _ (hk₀ _ _ z)))
  have X3 : K.In h3 := fun b o z => k3 b o (fun y => by rw [y, hKe] at z; cases z) (X2 b o z)
  have ns3 : h3.Ns h.objs.size (fun x => [(("self" : Str), Value.ref e), (pa, u)].reverse.lookup x) := by
    obtain ⟨o, es, ep, q1, q2⟩ := ns1.keeps k2
    exact ⟨o, es, ep, k3 _ _ nLe q1, q2⟩
  refine ks_wpAt_execs_cons (ks_wpAt_Assign_Attr (wpAt_of_wpAny (wpAny_Name (wpAny_loadName_local hk hpl ns3 lpa ?_) hpd)))
  refine wpAny_Name (wpAny_loadName_local hk hself ns3 lself ?_) (by decide)
  refine PySem.W.set_plain X3 (ox := excObj C h2.objs.size none .none) (od := none) ⟨he3, rfl, rfl, trivial⟩ hsa ?_
  refine PySem.HandSPX.exc_osa X3 he3 hcls hmt hdict hno (fun h4 tk4 dx k4 dn dne he4 hn4 => ?_)
  refine wpAt_of_wpAny (wpAny_execs_nil ?_)
  refine hq2 h4 dx h2.objs.size tk4 (fun b o hb z => k4 b o hb (nL3 b hb o z)) (Nat.le_trans (Nat.le_of_lt ns3.lt) dn) dne he4 hn4
end

structure ExcAt (K : Frag) (C : Addr) : Prop where
  own : excInitIn K C veT "ValueError.__new__" = true
  kp : keepIn K (.ref C) = true
  exC : subIn K (.ref C) (.type "BaseException") = some true
  tyC : typeIn K (.ref C) = some (.type "type")
structure Exc0 (K : Frag) (C : Addr) : Prop extends ExcAt K C where
  init : findIn K (.ref C) "__init__" = some (some (.builtin "ValueError.__init__"))
structure Exc1 (K : Frag) (prog : Program) (C : Addr) (f : Str) : Prop extends ExcAt K C where
  init : ∃ fI, findIn K (.ref C) "__init__" = some (some (.ref fI)) ∧ typeIn K (.ref fI) = some (.type "function") ∧
    ∀ (A : Around) (R : Result → Shared → Prop) (h : Heap) (g : Array GenState) (d : Drawn) (t : Nat) (os : OsState) (e t0 : Addr) (u : Value) (mg mb : Str → Option Value),
      K.In h → h.Ns mainGlobals mg → mg "super" = none → h.Ns builtinsNs mb → (∀ x : Str, x ≠ "__name__" → mb x = bootBuiltins x) → h.NoLimit → A.depth < recursionLimit → h.get? e = some (excObj C t0 none .none) → K.lookup e = none →
      (∀ h' dx t1 tk, (∀ b o, b ≠ e → h.get? b = some o → h'.get? b = some o) → h.objs.size ≤ dx → dx ≠ e → h'.get? e = some ({ cls := .ref C, dict := some dx, data := .fields #[.ref t1, .none, .none, .none, .bool false, .none] } : Obj) → h'.Ns1 dx (fun y => if y = f then some u else none) → R (.ok (.ret .none)) ⟨h', g, d, tk, os⟩) →
      ∀ w, codeAny (model prog w) A (.call (.ref fI) ⟨[.ref e, u], []⟩) R ⟨h, g, d, t, os⟩
section
variable {X : Cx} {x : Str} {C : Addr} {p pos : Pos}
theorem pmk_exc0 (T : Exc0 X.K C) (hg : Gl X x) (hm : X.mg x = some (.ref C)) (hdb : (x == ("__debug__" : Str)) = false) : PMk X (.Call (.Name x p) [] [] pos) (fun _ H Q => Q (.ref C) none H) := by
  intro pins s σ H Q I h
  refine wpAny_Call_Name_kw (ld_glob I hg hm ?_ hdb)
  refine PySem.W.callWith_K0 I.kIn T.kp ?_
  show wpAny _ _ (PySem.call (.ref C) []) _ _ _
  obtain ⟨nm, N, qn, bs, bm, hdct, sn, sub, ab, col, dd, k0, k1, k2, k3, k5, hC, hT⟩ := excInit_of I.kIn T.own
  obtain ⟨hp, g, d, t, os⟩ := s
  refine call_B F.excBase_ValueError hT hC (looks_findIn I.kIn T.init) (Nat.zero_le _) fun h' k he ht => ?_
  exact ⟨hp.objs.size + 1, _, _, ⟨hp, g, d, t, os⟩, H, .ref C, none, rfl, I, k, Heap.get?_none_of_le (Nat.le_succ _), he, ⟨rfl, rfl⟩, rfl, rfl, I.hok.fresh (Nat.le_succ _), rfl, I.bare, raises_own T.exC T.tyC, h⟩
theorem inv_xd {pins : List (Addr × Obj)} {σ : L2.St} {H : Hp} {hp h' : Heap} {g : Array GenState} {d : Drawn} {t t' : Nat} {os : OsState} {e dx : Addr} {f : Str} {v : V} {u : Value} (I : Inv X pins σ H ⟨hp, g, d, t, os⟩) (k : ∀ b o, hp.get? b = some o → h'.get? b = some o) (hdx : hp.objs.size ≤ dx) (he : hp.objs.size ≤ e) (hne : dx ≠ e)
    (hn : h'.Ns1 dx (fun y => if y = f then some u else none)) (r : RelV v u) : ∃ G : Heap, Inv X pins σ (upd H dx (.xd [(f, v)])) ⟨G, g, d, t', os⟩ ∧ (∀ b o, G.get? b = some o → h'.get? b = some o) ∧ G.get? e = none ∧ upd H dx (.xd [(f, v)]) e = none := by
  obtain ⟨G, g1, g2⟩ := restrict h' fun b => decide (b ≠ e)
  have gk : ∀ b, b ≠ e → G.get? b = h'.get? b := fun b hb => g1 b (decide_eq_true hb)
  have nhe : ∀ {b : Addr} {o : Obj}, hp.get? b = some o → b ≠ e := fun z => Nat.ne_of_lt (Nat.lt_of_lt_of_le (Heap.lt_size z) he)
  have kG : ∀ b o, hp.get? b = some o → G.get? b = some o := fun b o z => (gk b (nhe z)).trans (k b o z)
  refine ⟨G, I.laid (t' := t') (a := dx) (o := .xd [(f, v)]) (h' := G) kG hdx ?_, fun b o z => ?_, g2 e (by simp), ?_⟩
  · refine ⟨_, hn.at fun o y => (gk dx hne).trans y, fun y => ?_⟩
    exact relO_put (fs := []) r (mA := fun _ => none) (fun _ => True.intro) y
  · by_cases hb : b = e
    · rw [hb, g2 e (by simp)] at z; cases z
    · exact (gk b hb).symm.trans z
  · rw [upd_ne (Ne.symm hne)]
    exact I.hok.fresh he
theorem pmk_exc1 {f : Str} {e : Expr} {te : TE} (T : Exc1 X.K X.prog C f) (hr : Room 1 X.A) (hsup : X.mg "super" = none) (hg : Gl X x) (hm : X.mg x = some (.ref C)) (he : PE X e te) (hs : starEach [e] X.env = [(false, eval e X.env)]) (hdb : (x == ("__debug__" : Str)) = false) :
    PMk X (.Call (.Name x p) [e] [] pos) (fun σ H Q => te σ H fun x H1 => ∃ v, [x] = [v] ∧ ∀ dx, H1 dx = none → Q (.ref C) (some dx) (upd H1 dx (.xd [(f, v)]))) := by
  intro pins s σ H Q I h
  have ha : PA X [e] (tCons te tNil) := pa_cons he pa_nil hs
  refine wpAny_Call_Name_kw (ld_glob I hg hm ?_ hdb)
  refine PySem.W.callWith_K (h₀ := X.base) I.ok.mod.kin T.kp (thn (ha.run pos pins s σ H (fun vs H1 => ∃ v, vs = [v] ∧ ∀ dx, H1 dx = none → Q (.ref C) (some dx) (upd H1 dx (.xd [(f, v)]))) I h) fun us s1 ⟨vs, H1, I1, r1, q1⟩ => ⟨I1.kIn, ?_⟩) hs (by rfl)
  obtain ⟨v, rfl, q⟩ := q1
  cases r1 with
  | @cons _ u _ ur rv rr =>
  cases rr
  show wpAny _ _ (PySem.call (.ref C) [u]) _ _ _
  obtain ⟨nm, N, qn, bs, bm, hdct, sn, sub, ab, col, dd, k0, k1, k2, k3, k5, hC, hT⟩ := excInit_of I1.kIn T.own
  obtain ⟨fI, hfI, tI, hrun⟩ := T.init
  obtain ⟨hp, g, d, t, os⟩ := s1
  have kk : ∀ b o, hp.get? b = some o → ((hp.push (PySem.W.kdv_tup [u])).push (PySem.HandSPX.excO C hp.objs.size)).get? b = some o := fun b o e => Heap.get?_push_of_some _ (Heap.get?_push_of_some _ e)
  have hget : ((hp.push (PySem.W.kdv_tup [u])).push (PySem.HandSPX.excO C hp.objs.size)).get? (hp.objs.size + 1) = some (PySem.HandSPX.excO C hp.objs.size) := by heap_get
  have hsz : ((hp.push (PySem.W.kdv_tup [u])).push (PySem.HandSPX.excO C hp.objs.size)).objs.size = hp.objs.size + 2 := by rw [Heap.size_push, Heap.size_push]
  have kin2 := I1.kIn.keeps kk
  have hm0 := I1.ok.mod
  obtain ⟨mb, hb, hbb⟩ := hm0.blt
  have kb := I1.bk
  have hKe : X.K.lookup (hp.objs.size + 1) = none := by
    cases z : X.K.lookup (hp.objs.size + 1) with
    | none => rfl
    | some o => exact absurd (Heap.lt_size (I1.kIn _ _ z)) (Nat.not_lt.mpr (Nat.le_succ _))
  refine wpAny_call (PySem.HandSPX.call_own F.excBase_ValueError hT hC (PySem.W.looks_findIn I1.kIn hfI) (fun self => PySem.W.bind_fn I1.kIn self tI) (by show 1 ≤ sizeLine; rw [sizeLine_eq]; omega)
    (hrun _ _ _ _ _ _ _ (hp.objs.size + 1) hp.objs.size u X.mg mb kin2 ((hm0.glob.keeps kb).keeps kk) hsup ((hb.keeps kb).keeps kk) hbb ((hm0.nolimit.keeps kb).keeps kk) (hr.make C [u] []).depth hget hKe
      (fun h' dx t1 tk k3 hd hne he' hn' => ?_) X.w))
  obtain ⟨G, J, kG, ge, na⟩ := inv_xd (t' := tk) I1 (fun b o z => k3 b o (Nat.ne_of_lt (Nat.lt_succ_of_lt (Heap.lt_size z))) (kk b o z)) (Nat.le_trans (by rw [hsz]; omega) hd) (Nat.le_succ _) hne hn' rv
  refine ⟨rfl, hp.objs.size + 1, _, _, ⟨G, g, d, tk, os⟩, _, .ref C, some dx, rfl, J, kG, ge, he', ⟨rfl, rfl⟩, rfl, rfl, na, rfl, I1.bare, raises_own T.exC T.tyC, q dx ?_⟩
  exact I1.hok.fresh (Nat.le_trans (show hp.objs.size ≤ _ by rw [hsz]; omega) hd)
end

def excAtB (K : Frag) (C : Addr) : Bool := excInitIn K C veT "ValueError.__new__" && keepIn K (.ref C) && decide (subIn K (.ref C) (.type "BaseException") = some true) && decide (typeIn K (.ref C) = some (.type "type"))
theorem excAtB_ok {K : Frag} {C : Addr} (h : excAtB K C = true) : ExcAt K C := by
  unfold excAtB at h
  simp only [Bool.and_eq_true, decide_eq_true_eq] at h
  exact ⟨h.1.1.1, h.1.1.2, h.1.2, h.2⟩
def exc0B (K : Frag) (C : Addr) : Bool := excAtB K C && decide (findIn K (.ref C) "__init__" = some (some (.builtin "ValueError.__init__")))
theorem exc0B_ok {K : Frag} {C : Addr} (h : exc0B K C = true) : Exc0 K C := by
  unfold exc0B at h
  rw [Bool.and_eq_true] at h
  exact ⟨excAtB_ok h.1, of_decide_eq_true h.2⟩
def initShape (body : List Stmt) : Option (Str × Str × List Pos) := match body with
  | [.Expr (.Call (.Attribute (.Call (.Name s2 p2) [] [] p3) i4 p4) [.Name pa p5] [] p6) p7, .Assign [.Attribute (.Name s8 p8) f p9] (.Name pb p10) p11] =>
    if s2 = "super" ∧ i4 = "__init__" ∧ s8 = "self" ∧ pb = pa then some (f, pa, [p2, p2, p2, p3, p4, p5, p6, p7, p8, p9, p10, p11]) else none
  | _ => none
theorem initShape_ok {body : List Stmt} {f pa : Str} {ps : List Pos} (h : initShape body = some (f, pa, ps)) : body = initBody f pa fun i => ps.getD i default := by
  unfold initShape at h
  split at h
  · rename_i s2 p2 p3 i4 p4 pa' p5 p6 p7 s8 p8 f' p9 pb p10 p11
    split at h
    · rename_i e
      obtain ⟨e1, e2, e3, e4⟩ := e
      simp only [Option.some.injEq, Prod.mk.injEq] at h
      obtain ⟨rfl, rfl, rfl⟩ := h
      subst e1 e2 e3 e4
      rfl
    · cases h
  · cases h
theorem bindInit {pa : Str} (h : pa = "place" ∨ pa = "index" ∨ pa = "most") (a1 a2 : Option Expr) (q1 q2 : Pos) (nm qual : Str) (body : List Stmt) (scope : Scope) (cc : Addr) (doc pm cdv ct : Value) (an : Option Addr) (u v : Value) :
    bindArgs (ksFn nm qual ⟨[], [⟨"self", a1, q1⟩, ⟨pa, a2, q2⟩], none, [], [], none, []⟩ body scope .none .none doc pm an cdv ct cc) ⟨[u, v], []⟩ = pure [(("self" : Str), u), (pa, v)] := by
  rcases h with rfl | rfl | rfl <;> rfl
def initC (file : Str) (K : Frag) (C : Addr) (f : Str) (fd : FuncData) (f' pa pa' s cn : Str) (cc cda : Addr) (p4 p6 : Pos) : Bool :=
  decide (s = "self" ∧ pa' = pa ∧ cn = "__class__" ∧ f' = f ∧ fd.globals = mainGlobals ∧ fd.builtins = builtinsNs ∧ fd.defaults = .none ∧ fd.kwdefaults = .none ∧ (pa = "place" ∨ pa = "index" ∨ pa = "most")) &&
  codeIn K (.ref cda) fd.qualname && (match K.lookup cda with
    | some ⟨_, _, .fields vs, _⟩ => (match (vs[2]? : Option Value) with
      | some (.str z _) => decide (z = file)
      | _ => false)
    | _ => false) && (match K.lookup cc with
    | some ⟨_, _, .cell (some (.ref D)), _⟩ => decide (D = C)
    | _ => false) &&
  decide ((∀ x ∈ fd.scope.names, x.2 ≠ .cell) ∧ fd.scope.names.lookup ("self" : Str) = some NameKind.local ∧ fd.scope.names.lookup pa = some NameKind.local ∧ fd.scope.names.lookup ("super" : Str) = some .globalImplicit ∧ fd.scope.names.lookup ("__class__" : Str) = some .free ∧
    fd.scope.isCoroutine = false ∧ fd.scope.isGenerator = false ∧ fd.scope.kind = .function) && (p4.endLine == p6.line) &&
  ((clsIn K C).any fun cd => HandSPX.refsVE cd.mro && cd.hasDict && decide (cd.mro = .ref C :: cd.mro.tail)) && decide (mroIn K C (.ref C) = some true ∧ ks_superIn K C C "__init__" = some (some (.builtin "ValueError.__init__")) ∧ nsIn K cStatics "thirdparty.any" = some none ∧
    subIn K (.ref C) (.type "ValueError") = some true ∧ findIn K (.ref C) "__setattr__" = some (some (.builtin "object.__setattr__")) ∧ findIn K (.ref C) f = some none)
def exc1B (file : Str) (K : Frag) (C : Addr) (f : Str) : Bool := excAtB K C && match findIn K (.ref C) "__init__" with
  | some (some (.ref fI)) => (match K.lookup fI with
    | some ⟨.type t, _, .func fd, _⟩ => decide (t = "function") && (match fd.body, fd.params, fd.closure, fd.code with
      | .stmts body, ⟨[], [⟨s, _, _⟩, ⟨pa', _, _⟩], none, [], [], none, []⟩, [(cn, cc)], .ref cda => (match initShape body with
        | some (f', pa, ps) => initC file K C f fd f' pa pa' s cn cc cda (ps.getD 4 default) (ps.getD 6 default)
        | none => false)
      | _, _, _, _ => false)
    | _ => false)
  | _ => false
theorem exc1B_ok {file : Str} {K : Frag} {C : Addr} {f : Str} {prog : Program} (hfile : ((prog.main.file : Str) == file) = true) (htop : (prog.main.scope.names.lookup ("super" : Str)).isSome = false) (h : exc1B file K C f = true) : Exc1 K prog C f := by
  unfold exc1B at h
  rw [Bool.and_eq_true] at h
  obtain ⟨h0, h⟩ := h
  split at h
  · rename_i fI hfI
    split at h
    · rename_i tt od fd osl hl
      rw [Bool.and_eq_true] at h
      obtain ⟨ht, h⟩ := h
      have ht := of_decide_eq_true ht
      subst ht
      split at h
      · rename_i e1 e2 e3 e4 body s a1 q1 pa' a2 q2 cn cc cda hb hp hcl hcd
        split at h
        · rename_i f' pa ps hsh
          have hbody := initShape_ok hsh
          unfold initC at h
          simp only [Bool.and_eq_true, decide_eq_true_eq] at h
          obtain ⟨⟨⟨⟨⟨⟨⟨⟨rfl, rfl, rfl, rfl, hg, hbu, hd, hkd, hpa⟩, hci⟩, hcode⟩, hcell⟩, hs1, hs2, hs3, hs4, hs5, hs6, hs7, hs8⟩, hline⟩, hcls⟩, hm1, hm2, hm3, hm4, hm5, hm6⟩ := h
          split at hcode
          · rename_i c1 c2 vs c3 hlc
            split at hcode
            · rename_i z tf hz
              have hcode := of_decide_eq_true hcode
              subst hcode
              split at hcell
              · rename_i d1 d2 D d3 hlD
                have hcell := of_decide_eq_true hcell
                subst hcell
                obtain ⟨cd, hc1, hc2⟩ := any_some hcls
                simp only [Bool.and_eq_true, decide_eq_true_eq] at hc2
                obtain ⟨nm, qual, params, bd, scope, gl, clo, dV, kV, doc, pm, an, cdv, ct, bn⟩ := fd
                simp only at hb hp hcl hcd hg hbu hd hkd hci hs1 hs2 hs3 hs4 hs5 hs6 hs7 hs8 hline
                subst hb hp hcl hcd hg hbu hd hkd
                subst hbody
                refine ⟨excAtB_ok h0, fI, hfI, by show (K.lookup fI).map _ = _; rw [hl]; rfl, fun A R h g d t os e t0 u mg mb X hns hsup hbb1 hbb2 hlim hroom he hKe hq2 w => ?_⟩
                exact init_run X hns hsup hbb1 hbb2 hlim hroom hl hci (fun s => BindsTo.of_eq (bindInit hpa _ _ _ _ _ _ _ _ _ _ _ _ _ _ _ _)) rfl rfl (by rcases hpa with rfl | rfl | rfl <;> decide) hlc hz hfile hlD htop hs1 hs2 hs3 hs4 hs5 (by rcases hpa with rfl | rfl | rfl <;> decide) hline hs6 hs7 hs8 hc1 hc2.2 hc2.1.1 hc2.1.2 hm1
                  (by unfold excAtB at h0; simp only [Bool.and_eq_true] at h0; exact h0.1.1.1) hm2 hm3 hm4 hm5 hm6 he hKe hq2
              · cases hcell
            · cases hcode
          · cases hcode
        · cases h
      · cases h
    · cases h
  · cases h
end QE
namespace QE
open PySem L2 PySem.Spec PyProof.Rows
section
variable {C : RC} {H H' : Hp} {σ : L2.St} {ρ ρ' : Env} {F G : List (V × D)}
theorem Good.keepW {its : List (V × D)} (g : Good C its H) (k : Keep [] H H') (e : Ext C H') : Good C its H' :=
  ⟨g.nd, fun ⟨v, d⟩ hm => (g.ok _ hm).keep k (fun _ z => nomatch z) (fun b hb => .inl hb) g.ext.exs (fun _ _ z => nomatch z), e⟩
theorem StOk.keepW (s : StOk C F σ ρ H) (k : Keep [] H H') (e : Ext C H') : StOk C F σ ρ H' := ⟨s.ok, s.good.keepW k e⟩
end
section
variable {Φ : Calls} {Mu : Muts} {K : PySem.W.Frag} {fnA : FA} {EX : EC} {C : RC} {H : Hp} {σ : L2.St} {ρ : Env} {F : List (V × D)}
theorem SpOf.imp {f n : Nat} {vs : List V} {Q : VK} {E E' : XK} (h : SpOf Φ Mu K fnA EX f n vs H Q E) (hE : ∀ c d H', E c d H' → E' c d H') : SpOf Φ Mu K fnA EX f n vs H Q E' := by
  obtain ⟨h1, C', ds, h2, h3, h4, h5, p⟩ := h
  exact ⟨h1, C', ds, h2, h3, h4, h5, post_mono p (fun _ z => z) fun c x z cls dd H' e k => hE _ _ _ (z cls dd H' e k)⟩
theorem call_spT {f n : Nat} {vs : List V} {os0 : List Opd} {Q : VK} {E : XK} (hm : Mu f = none) (hC : CtxOk K fnA C) (st0 : StOk C (opIs vs os0 ++ F) σ ρ H) (ha0 : opAts σ vs os0) (hlen : ∀ ds, Φ f ds ≠ .bad → ds.length = n)
    (p : post (doCall Φ Mu f os0 ρ) (fun r => ∀ v H', StOk C ((v, r.1) :: F) σ r.2 H' → Q v H') (fun c x => ∀ cls dd H', StOk C F σ ρ H' → EX.exc c x cls dd H' → E cls dd H')) : SpOf Φ Mu K fnA EX f n vs H Q E := by
  cases hd : doCall Φ Mu f os0 ρ with
  | bad => rw [hd] at p; exact p.elim
  | ok r =>
    rw [hd] at p
    have p' : post (doCall Φ Mu f os0 ρ) (fun r => ∀ v H', StOk C ((v, r.1) :: F) σ r.2 H' → Q v H') (ErrP EX (fun _ _ _ _ => False) C σ) := by rw [hd]; exact p
    exact (call_sp hC st0 ha0 hlen p').imp fun _ _ _ z => z.elim
  | err c x =>
    rw [hd] at p
    have p : ∀ cls dd H', StOk C F σ ρ H' → EX.exc c x cls dd H' → E cls dd H' := p
    unfold doCall at hd
    simp only [hm] at hd
    split at hd
    · rename_i hv
      rw [Bool.and_eq_true] at hv
      have st : StOk C (opIs vs (shareOs none os0) ++ F) σ ρ H := by
        refine ⟨st0.ok, ?_⟩
        have g := st0.good
        rw [List.append_assoc] at g ⊢
        exact share_os hv.1 g
      have ha := share_ats (m := none) ha0
      revert st ha
      generalize hos : shareOs none os0 = os at hd
      intro st ha
      cases e : handOver ρ none os with
      | none => rw [e] at hd; cases hd
      | some ds =>
        rw [e] at hd
        simp only at hd
        cases eΦ : Φ f ds with
        | bad => rw [eΦ] at hd; cases hd
        | err c' x' =>
          rw [eΦ] at hd
          cases hd
          obtain ⟨l, g⟩ := callee_none (B := False) st ha e (fun z => z.elim)
          refine ⟨l.trans (hlen ds (by rw [eΦ]; exact fun z => nomatch z)), calleeC C H (roots (opIs vs os ++ F ++ sl σ ρ)) False none, ds, ⟨hC.K, hC.fnA⟩, rfl, l, g, ?_⟩
          rw [eΦ]
          refine fun cls dd H' e' k => p cls dd H' ?_ k
          have kp := callee_keep (C := C) (H := H) (m := none) (fun b z => by cases z) e'
          exact (st0.sub (List.sublist_append_right _ _)).keepW kp (callee_back st.good.ext (fun b z => by cases z) e')
        | ok r =>
          obtain ⟨d, outs⟩ := r
          rw [eΦ] at hd
          simp only at hd
          exfalso
          repeat' (split at hd <;> try (cases hd; done))
    · cases hd
end
end QE
namespace QE
open PySem L2 PySem.Spec PySem.W PyProof.Rows LamX
abbrev lamO (qual : Str) (params : Arguments) (body : Expr) (scope : Scope) (cl : List (Str × Addr)) (dV doc pm : Value) (c' : Addr) (ctv : Value) : Obj := kdv_obj "<lambda>" qual params (.expr body) scope cl dV doc pm c' ctv
inductive LamP : Arguments → Value → Heap → List (Str × Value) → Prop
  | none {h : Heap} : LamP ⟨[], [], .none, [], [], .none, []⟩ .none h []
  | one {a : Str} {an : Option Expr} {p : Pos} {i : Int} {j : Nat} {q : Pos} {T : Addr} {v : Value} {n : Nat} {sl : Array (Option Value)} {h : Heap} : h.get? T = some ⟨.type "tuple", .none, .seq #[v] n, sl⟩ → LamP ⟨[], [⟨a, an, p⟩], .none, [], [], .none, [.Constant (.int i) j q]⟩ (.ref T) h [(a, v)]
def lamPB : Arguments → Bool
  | ⟨[], [], none, [], [], none, []⟩ => true
  | ⟨[], [⟨_, _, _⟩], none, [], [], none, [.Constant (.int _) _ _]⟩ => true
  | _ => false
def lamNames (p : Arguments) : List Str := p.args.map (·.arg)
theorem LamP.binds {params : Arguments} {dV : Value} {s : Shared} {bs : List (Str × Value)} (h : LamP params dV s.heap bs) {q : Str} {body : Expr} {scope : Scope} {cl : List (Str × Addr)} {doc pm cdv ctv : Value} : BindsTo s (kdv_fn "<lambda>" q params (.expr body) scope cl dV doc pm cdv ctv) ⟨[], []⟩ bs := by
  cases h with
  | none => exact BindsTo.of_eq rfl
  | @one a an p i j q' T v n sl _ hT =>
    exact BindsTo.of_defaults rfl hT rfl rfl (by show (pure (List.filterMap (fun n => (List.lookup n [(a, v)]).map (n, ·)) [a]) : Sem (List (Str × Value))) = _; simp [List.lookup])
theorem LamP.names {params : Arguments} {dV : Value} {h : Heap} {bs : List (Str × Value)} (x : LamP params dV h bs) : bs.map (·.1) = lamNames params := by cases x <;> rfl
structure LamT (N : List Str) (sc scope : Scope) (ps : List Str) : Prop where
  kind : scope.kind = .function
  co : scope.isCoroutine = false
  gen : scope.isGenerator = false
  own : ∀ y ∈ scope.names, y.2 ≠ .cell ∧ (y.2 = .local → y.1 ∉ N)
  free : ∀ y ∈ scope.names, y.2 = .free → sc.names.lookup y.1 = some .cell ∨ sc.names.lookup y.1 = some .free
  par : ∀ x ∈ ps, scope.names.lookup x = some .local
def lamTB (N : List Str) (sc scope : Scope) (ps : List Str) : Bool :=
  decide (scope.kind = .function) && !scope.isCoroutine && !scope.isGenerator && (scope.names.all fun y => !decide (y.2 = .cell) && (!decide (y.2 = .local) || !decide (y.1 ∈ N)) && (!decide (y.2 = .free) || decide (sc.names.lookup y.1 = some .cell) || decide (sc.names.lookup y.1 = some .free))) && ps.all fun x => decide (scope.names.lookup x = some .local)
theorem lamT_by {N : List Str} {sc scope : Scope} {ps : List Str} (h : lamTB N sc scope ps = true) : LamT N sc scope ps := by
  unfold lamTB at h
  simp only [Bool.and_eq_true, Bool.or_eq_true, Bool.not_eq_true', decide_eq_true_eq, decide_eq_false_iff_not, List.all_eq_true] at h
  obtain ⟨⟨⟨⟨h1, h2⟩, h3⟩, h4⟩, h5⟩ := h
  refine ⟨h1, h2, h3, fun y hy => ⟨(h4 y hy).1.1, fun e => ?_⟩, fun y hy e => ?_, h5⟩
  · rcases (h4 y hy).1.2 with z | z
    · exact absurd e z
    · exact z
  · rcases (h4 y hy).2 with (z | z) | z
    · exact absurd e z
    · exact .inl z
    · exact .inr z
section
variable {X : Cx} {pins : List (Addr × Obj)} {σ : L2.St} {H : Hp} {s : Shared}
theorem LamT.has {N ps : List Str} {scope : Scope} (L : LamT N X.env.scope scope ps) (ok : X.Ok) : ∀ y ∈ scope.names, y.2 = .free → ∃ c, X.env.cells.lookup y.1 = some c := fun y hy e => by
  rcases L.free y hy e with k | k
  · exact ok.has _ (.inl k)
  · exact ok.has _ (.inr k)
theorem lam_tail {T : List (Addr × Str)} {c P : Addr} {params : Arguments} {body : Expr} {scope : Scope} {pos : Pos} {dV : Value} {E : Value → Shared → Prop} {Q : Value → Shared → Prop} (I : Inv X pins σ H s) (TB : TabB X.base X.mg c P) (hcode : X.env.code = .ref c)
    (hm : (P, X.env.qual ++ "<lambda>") ∈ T) (hu : ∀ p ∈ T, p.1 = P → p.2 = X.env.qual ++ "<lambda>") (hT : Tabs T H) (hfree : ∀ y ∈ scope.names, y.2 = .free → ∃ c, X.env.cells.lookup y.1 = some c)
    (h : ∀ (f c' : Addr) (pm ctv doc : Value) (H1 : Hp) (s' : Shared), Inv X pins σ H1 s' → ExtN H H1 → Tabs T H1 → (∀ b o, b ≠ P → s.heap.get? b = some o → s'.heap.get? b = some o) → (∀ b o, s.heap.get? b = some o → H b = none → H1 b = none) → (∀ b, H b ≠ none → H1 b ≠ none) →
      s'.heap.get? f = some (lamO (X.env.qual ++ "<lambda>") params body scope (cloFrom X.env.cells scope.names []) dV doc pm c' ctv) → H1 f = none → f ∉ frs X.stack → H1 c' = some (CodeO c' (X.env.qual ++ "<lambda>")) → Q (.ref f) s') :
    wpAny (model X.prog X.w) X.A (makeTail "<lambda>" (X.env.qual ++ "<lambda>") params (.expr body) scope X.env dV .none none pos pos.line) Q E s := by
  obtain ⟨ps, hP, ht, ha⟩ := hT _ hm
  have bP : s.heap.BuiltinsAt X.mg P := TB.bm.keeps I.bk
  have hP' : s.heap.get? P = some { cls := .none, data := .fields ps } := I.hok P _ hP
  have nofr : ∀ f, s.heap.objs.size ≤ f → f ∉ frs X.stack := fun f hf z => by
    rcases List.mem_cons.mp (I.stkSub _ z) with e | e
    · have h1 := I.lt
      rw [← e] at h1
      exact Nat.lt_irrefl _ (Nat.lt_of_lt_of_le h1 hf)
    · exact I.nofs hf e
  cases hc : codeAmong pos ps.toList with
  | none =>
    refine PySem.W.kdv_makeTail (mg := X.mg) (c := c) (P := P) (ps := ps) (closure_ok hfree) I.ok.glob (I.mod.glob.keeps I.bk) hcode (TB.code.keeps I.bk) hP' ht hc TB.gP bP fun c' ctv doc h' tk hx hge hlt hrec htb => ?_
    obtain ⟨c2, oc, vs, t, e2, hoc, hd, hv⟩ := hrec
    cases e2
    have hsz : s.heap.objs.size ≤ h'.objs.size := Nat.le_trans hge (Nat.le_of_lt hlt)
    have nC : H c' = none := I.hok.fresh hge
    have I1 := inv_table (t' := tk) (more := #[rawInt pos.line, rawInt pos.col, .ref c']) (h' := h'.push (lamO (X.env.qual ++ "<lambda>") params body scope (cloFrom X.env.cells scope.names []) dV doc ((X.mg "__name__").getD .none) c' ctv)) I hP
      (fun b o hb e => Heap.get?_push_of_some _ (hx b o hb e)) (Heap.get?_push_of_some _ htb) hge ⟨oc, vs, t, Heap.get?_push_of_some _ hoc, hd, hv⟩
    have hE : ExtN H (upd (upd H P (.tbl (ps ++ #[rawInt pos.line, rawInt pos.col, .ref c']))) c' (CodeO c' (X.env.qual ++ "<lambda>"))) := fun b o e n => by
      rw [upd_ne (ne_of_none e nC), upd_ne (fun z => n ps (Option.some.inj (e.symm.trans (by rw [z]; exact hP))))]
      exact e
    have eL : (ps ++ #[rawInt pos.line, rawInt pos.col, .ref c']).toList = ps.toList ++ [rawInt pos.line, rawInt pos.col, .ref c'] := by simp
    refine h h'.objs.size c' ((X.mg "__name__").getD .none) ctv doc _ _ I1 hE (fun p hp => ?_) (fun b o hb e => Heap.get?_push_of_some _ (hx b o hb e)) (fun b o e n => by rw [upd_ne (Nat.ne_of_lt (Nat.lt_of_lt_of_le (Heap.lt_size e) hge)), upd_ne (fun z => by rw [z, hP] at n; cases n)]; exact n) (fun b e => by
      by_cases hb : b = c'
      · rw [hb, upd_same]; exact fun z => nomatch z
      · rw [upd_ne hb]
        by_cases hb2 : b = P
        · rw [hb2, upd_same]; exact fun z => nomatch z
        · rw [upd_ne hb2]; exact e) (Heap.get?_push_size _ rfl) ?_ (nofr _ hsz) upd_same
    · by_cases hb : p.1 = P
      · rw [hu p hp hb, hb]
        refine ⟨_, by rw [upd_ne (ne_of_none hP nC), upd_same], by rw [eL]; exact PySem.TriplesOk_snoc _ _ _ _ ht, fun p' cv hcv => ?_⟩
        rw [eL] at hcv
        rcases among_app _ ht hcv with z | z
        · obtain ⟨c0, e1, e2⟩ := ha p' cv z
          exact ⟨c0, e1, hE _ _ e2 codeO_ne⟩
        · exact ⟨c', z, upd_same⟩
      · obtain ⟨ps', a1, a2, a3⟩ := hT p hp
        refine ⟨ps', by rw [upd_ne (ne_of_none a1 nC), upd_ne hb]; exact a1, a2, fun p' cv hcv => ?_⟩
        obtain ⟨c0, e1, e2⟩ := a3 p' cv hcv
        exact ⟨c0, e1, hE _ _ e2 codeO_ne⟩
    · have n1 : h'.objs.size ≠ c' := Nat.ne_of_gt hlt
      have n2 : h'.objs.size ≠ P := Nat.ne_of_gt (Nat.lt_of_lt_of_le (Heap.lt_size hP') hsz)
      rw [upd_ne n1, upd_ne n2]
      exact I.hok.fresh hsz
  | some cv =>
    obtain ⟨c', e, hco⟩ := ha pos cv hc
    subst e
    refine PySem.W.kdv_makeTailHit (mg := X.mg) (c := c) (P := P) (ps := ps) (closure_ok hfree) I.ok.glob (I.mod.glob.keeps I.bk) hcode (TB.code.keeps I.bk) hP' ht hc bP fun ctv doc h' tk hx hsz => ?_
    have I1 : Inv X pins σ H { s with heap := h'.push (lamO (X.env.qual ++ "<lambda>") params body scope (cloFrom X.env.cells scope.names []) dV doc ((X.mg "__name__").getD .none) c' ctv), toks := tk } := I.kept fun b o e => Heap.get?_push_of_some _ (hx b o e)
    exact h h'.objs.size c' ((X.mg "__name__").getD .none) ctv doc H _ I1 (ExtN.refl H) hT (fun b o _ e => Heap.get?_push_of_some _ (hx b o e)) (fun _ _ _ n => n) (fun _ e => e) (Heap.get?_push_size _ rfl) (I.hok.fresh hsz) (nofr _ hsz) hco
theorem lam_made {T : List (Addr × Str)} {c P : Addr} {params : Arguments} {body : Expr} {scope : Scope} {pos : Pos} {E : Value → Shared → Prop} {Q : Value → Shared → Prop} (I : Inv X pins σ H s) (TB : TabB X.base X.mg c P) (hcode : X.env.code = .ref c)
    (hm : (P, X.env.qual ++ "<lambda>") ∈ T) (hu : ∀ p ∈ T, p.1 = P → p.2 = X.env.qual ++ "<lambda>") (hT : Tabs T H) (hpar : lamPB params = true) (hfree : ∀ y ∈ scope.names, y.2 = .free → ∃ c, X.env.cells.lookup y.1 = some c)
    (h : ∀ (f c' : Addr) (pm ctv doc dV : Value) (bs : List (Str × Value)) (H1 : Hp) (s' : Shared), Inv X pins σ H1 s' → ExtN H H1 → (∀ b, H b ≠ none → H1 b ≠ none) → Tabs T H1 → LamP params dV s'.heap bs → (∀ T0, dV = .ref T0 → H1 T0 = none ∧ T0 ∉ frs X.stack) →
      s'.heap.get? f = some (lamO (X.env.qual ++ "<lambda>") params body scope (cloFrom X.env.cells scope.names []) dV doc pm c' ctv) → H1 f = none → f ∉ frs X.stack → H1 c' = some (CodeO c' (X.env.qual ++ "<lambda>")) → Q (.ref f) s') :
    wpAny (model X.prog X.w) X.A (eval (.Lambda params body scope pos) X.env) Q E s := by
  rw [arm_eval_Lambda]
  have nofr : ∀ {s : Shared} {H : Hp}, Inv X pins σ H s → ∀ f, s.heap.objs.size ≤ f → f ∉ frs X.stack := fun {s H} I f hf z => by
    rcases List.mem_cons.mp (I.stkSub _ z) with e | e
    · have h1 := I.lt
      rw [← e] at h1
      exact Nat.lt_irrefl _ (Nat.lt_of_lt_of_le h1 hf)
    · exact I.nofs hf e
  unfold lamPB at hpar
  split at hpar
  · show wpAny _ _ (do let dv ← evalAll []; let kdv ← holding dv (evalAllOpt []); makeFunction "<lambda>" (X.env.qual ++ "<lambda>") _ (.expr body) scope X.env dv kdv [] pos pos.line) Q E s
    refine wpAny_bind (wpAny_pure (wpAny_bind (wpAny_holding (wpAny_pure ?_))))
    rw [makeFunction_eq]
    simp only [List.zip_nil_right, List.filterMap_nil, List.isEmpty_nil, if_true, pure_bind]
    exact lam_tail I TB hcode hm hu hT hfree fun f c' pm ctv doc H1 s' I1 hE hT1 _ _ hth hf hfn hfr hco => h f c' pm ctv doc .none [] H1 s' I1 hE hth hT1 .none (fun _ z => nomatch z) hf hfn hfr hco
  · rename_i a an p i j q
    show wpAny _ _ (do let dv ← evalAll (evalEach [.Constant (.int i) j q] X.env); let kdv ← holding dv (evalAllOpt []); makeFunction "<lambda>" (X.env.qual ++ "<lambda>") _ (.expr body) scope X.env dv kdv [] pos pos.line) Q E s
    refine wpAny_bind (kdv_all1 (wpAny_Constant_int (kdv_all0 (wpAny_bind (wpAny_holding (wpAny_pure ?_))))))
    rw [makeFunction_eq]
    simp only [List.zip_nil_right, List.filterMap_nil, List.isEmpty_nil, List.isEmpty_cons, Bool.false_eq_true, if_false, if_true, pure_bind]
    refine wpAny_bind (wpAny_newTextTuple ?_)
    have I1 : Inv X pins σ H { s with heap := s.heap.push { cls := .type "tuple", data := .seq [Value.int i s.toks].toArray }, toks := s.toks + 1 } := I.kept fun b o e => Heap.get?_push_of_some _ e
    have hTn : H s.heap.objs.size = none := I.hok.fresh (Nat.le_refl _)
    have hTf := nofr I s.heap.objs.size (Nat.le_refl _)
    obtain ⟨ps, hP, _⟩ := hT _ hm
    have nP : s.heap.objs.size ≠ P := fun z => by rw [← z, hTn] at hP; cases hP
    refine lam_tail I1 TB hcode hm hu hT hfree fun f c' pm ctv doc H1 s' I2 hE hT1 hk hfree2 hth hf hfn hfr hco => h f c' pm ctv doc (.ref s.heap.objs.size) [(a, .int i s.toks)] H1 s' I2 hE hth hT1 (.one (n := _) (sl := _) (hk _ _ nP (Heap.get?_push_size _ rfl))) (fun T0 z => ?_) hf hfn hfr hco
    cases z
    exact ⟨hfree2 _ _ (Heap.get?_push_size _ rfl) hTn, hTf⟩
  · cases hpar

abbrev lamE (X : Cx) (scope : Scope) (L f c' : Addr) : PySem.Env := PySem.W.envX (X.env.qual ++ "<lambda>") scope L f (.ref c') (cloFrom X.env.cells scope.names [])
variable {HZ : Hp} {s1 : Shared}
theorem lam_start {A : Around} {outer : List PySem.Env} {E : XK} {scope : Scope} {f c' : Addr} {h₁ : Heap} {tk : Nat} {m : Str → Option Value} {ps : List Str} (I : Inv X pins σ H s) (L : LamT X.N X.env.scope scope ps) (e0 : Env0 X.prog X.w X.K X.mg X.base A outer s1 HZ) (hd : A.handled = none)
    (un : Un (frs X.stack) [] H HZ s.heap s1.heap) (hns : h₁.Ns s1.heap.objs.size m) (kp : ∀ b o, s1.heap.get? b = some o → h₁.get? b = some o) :
    Inv (lamCx X A outer s1 HZ E scope f c') [] σ HZ { s1 with heap := h₁, toks := tk } := by
  have hfree := L.has I.ok
  have cm : ∀ {y c}, (cloFrom X.env.cells scope.names []).lookup y = some c → X.env.cells.lookup y = some c := fun {y c} e => by
    rcases cloFrom_mem (PySem.mem_of_lookup e) with hm | ⟨h1, h2⟩
    · cases hm
    · obtain ⟨c1, hc⟩ := hfree _ h1 rfl
      have hc : X.env.cells.lookup y = some c1 := hc
      have e2 : c = c1 := by
        rw [h2, hc] <;> rfl
      rw [e2]
      exact hc
  have look : ∀ {y}, scope.names.lookup y = some .free → ∃ c, (cloFrom X.env.cells scope.names []).lookup y = some c := fun {y} hl => by
    have hy : (y, NameKind.free) ∈ scope.names := PySem.mem_of_lookup hl
    exact mem_lookup (cloFrom_has (cells := X.env.cells) (acc := []) hy)
  have cellK : ∀ {c : Addr} {v : Option Value}, H c = none → s.heap.IsCell c v → h₁.IsCell c v := fun {c v} n ⟨o, ho, hd⟩ => by
    obtain ⟨sl, q⟩ := un.any ho n (by simp)
    exact ⟨_, kp _ _ q, hd⟩
  have noA : ∀ (b : Addr), b ∉ ([] : List Addr) := fun b z => nomatch z
  refine ⟨⟨e0.mod, L.kind, rfl, rfl, Nat.le_refl _, fun y z c e1 e2 => I.ok.inj y z c (cm e1) (cm e2), fun y hy => ?_, fun y c z _ => ?_, fun _ => hd, Around.frames_deeper e0.frames, .inr ⟨rfl, rfl⟩, fun b z => absurd z (noA b), e0.bs, e0.bsz, fun b _ _ => noA b,
      fun b z => absurd z (noA b), e0.funs, e0.frf⟩,
    rfl, e0.bare, Un.kept kp, ⟨_, hns, fun i y v e1 e2 e3 => ?_⟩, fun y c e => ?_, e0.hok.fresh (Nat.le_refl _), fun y c e => ?_, fun q hq => absurd (show q ∈ ([] : List (Addr × Obj)) ++ [] from hq) (by simp), e0.hok.kept kp, I.len⟩
  · have hy : scope.names.lookup y = some .cell ∨ scope.names.lookup y = some .free := hy
    rcases hy with hy | hy
    · exact absurd rfl (L.own _ (PySem.mem_of_lookup hy)).1
    · exact look hy
  · have z : false = true := z
    cases z
  · have e3 : Vis scope y := e3
    rcases e3 with k | k | k
    · exact absurd (List.mem_of_getElem? e1) ((L.own _ (PySem.mem_of_lookup k)).2 rfl)
    · exact absurd rfl (L.own _ (PySem.mem_of_lookup k)).1
    · obtain ⟨m, hn, hl⟩ := I.loc
      have hvis : Vis X.env.scope y := (L.free _ (PySem.mem_of_lookup k) rfl).elim (fun k => .inr (.inl k)) (fun k => .inr (.inr k))
      obtain ⟨w', r, q⟩ := hl i y v e1 e2 hvis
      obtain ⟨c2, h2⟩ := look k
      refine ⟨w', r, .inr ⟨.inr k, c2, h2, ?_⟩⟩
      have c1 := cm h2
      rcases q with ⟨k', _⟩ | ⟨_, c3, e', z⟩
      · have k' : X.env.scope.names.lookup y = some .local := k'
        rcases L.free _ (PySem.mem_of_lookup k) rfl with k2 | k2 <;> rw [show X.env.scope.names.lookup y = _ from k2] at k' <;> cases k'
      · rw [c1] at e'
        cases e'
        exact cellK (I.freeC y _ c1) z
  · obtain ⟨w', z⟩ := I.cell y c (cm e)
    exact ⟨w', cellK (I.freeC y c (cm e)) z⟩
  · obtain ⟨v, o, ho, hd⟩ := I.cell y c (cm e)
    exact un.free c o ho (I.freeC y c (cm e)) (by simp)
theorem LamP.keep {params : Arguments} {dV : Value} {h h' : Heap} {bs : List (Str × Value)} (x : LamP params dV h bs) (k : ∀ T o, dV = .ref T → h.get? T = some o → h'.get? T = some o) : LamP params dV h' bs := by
  cases x with
  | none => exact .none
  | one hT => exact .one (k _ _ rfl hT)
theorem lam_act {CXg : CXT} {Eg : XK} {Ng : List Str} {qg : Str} {sg : Scope} {g f c' : Addr} {cdg pm ctv doc dV : Value} {params : Arguments} {bs : List (Str × Value)} {body : Expr} {scope : Scope} {k i : Nat} {a : Str} {pn : List (Addr × Obj)} {xe : Value → Shared → Prop} {W : WX} {E : XK} {tb : TE} {p1 p2 : Pos}
    (I : Inv X pins σ H s) (L : LamT X.N X.env.scope scope (lamNames params)) (hpar : LamP params dV s.heap bs) (hdT : ∀ T0, dV = .ref T0 → H T0 = none ∧ T0 ∉ frs X.stack)
    (hf : s.heap.get? f = some (lamO (X.env.qual ++ "<lambda>") params body scope (cloFrom X.env.cells scope.names []) dV doc pm c' ctv)) (hfn : H f = none) (hfr : f ∉ frs X.stack)
    (tk : Takes ((cxOf CXg X.prog X.w X.K X.mg X.base Ng qg sg g cdg X.A X.stack s H Eg).tr pn xe) W) (hr : Room (k + 1) (X.A.deeper (envOfC qg sg s.heap.objs.size g cdg)))
    (hbody : ∀ (A : Around) (outer : List PySem.Env) (s : Shared) (H : Hp), Room k (A.deeper (lamEnv X scope s.heap.objs.size f c')) → PE (lamCx X A outer s H E scope f c') body tb)
    (hN : Ng[i]? = some a) (hv : Vis sg a) (hd : (a == ("__debug__" : Str)) = false) (hcd : (a == ("__classdict__" : Str)) = false) :
    PE ((cxOf CXg X.prog X.w X.K X.mg X.base Ng qg sg g cdg X.A X.stack s H Eg).tr pn xe) (.Call (.Name a p1) [] [] p2)
      (fun σZ HZ Q => (∀ cls d H', E cls d H' → W cls d σZ H') ∧ σZ[i]? = some (some (.ref f)) ∧ HZ c' = some (CodeO c' (X.env.qual ++ "<lambda>")) ∧ tb σ HZ Q) := by
  refine ⟨fun pinsZ sZ σZ HZ Q IZ h => ?_⟩
  obtain ⟨hW, hs, hc, ht⟩ := h
  refine wpAny_Call_Name_kw (thn ((pe_var (pos := p1) (i := i) hN hv hd hcd).run pinsZ sZ σZ HZ (fun v H1 => v = .ref f ∧ H1 = HZ) IZ ⟨.ref f, hs, rfl, rfl⟩) fun u s1 ⟨v, H1, I1, r1, q1⟩ => ?_)
  obtain ⟨ev, eH⟩ := q1
  subst ev
  rw [eH] at I1
  obtain rfl : u = Value.ref f := r1
  have of1 : s1.heap.get? f = some (lamO (X.env.qual ++ "<lambda>") params body scope (cloFrom X.env.cells scope.names []) dV doc pm c' ctv) := I1.base.keep f _ hf hfn hfr (fun z => nomatch (show f ∈ ([] : List Addr) from z))
  have hpar1 : LamP params dV s1.heap bs := hpar.keep fun T0 o e z => I1.base.keep T0 o z (hdT T0 e).1 (hdT T0 e).2 (fun z => nomatch (show T0 ∈ ([] : List Addr) from z))
  refine PySem.W.callWith_F0 ⟨_, _, _, _, of1⟩ ?_
  have un : Un (frs X.stack) [] H HZ s.heap s1.heap := I1.base
  obtain ⟨⟨oc, vs, t, hoc, hdc, hvc⟩, _, _⟩ := I1.hok c' _ hc
  have rc : codeAny (model X.prog X.w) (X.A.deeper (envOfC qg sg s.heap.objs.size g cdg)) (.call (.ref f) ⟨[], []⟩) (CR (L2.CX X.prog X.w) (envOfC qg sg s.heap.objs.size g cdg :: X.stack) X.prog X.w HZ s1 Q E) s1 := by
    refine PySem.W.kla_callFunE hr.depth of1 rfl L.co L.gen rfl ⟨c', oc, vs, t, rfl, hoc, hdc, hvc⟩ ?_
    refine hpar1.binds _ _ _ _ ?_
    refine wpAny_newFunctionEnv (fun y hy => (L.own y hy).1) (fun y hy => L.par y.1 (by rw [← hpar1.names]; exact List.mem_map_of_mem hy)) (fun h₁ hns hsb => ⟨I1.nolimit.fresh _ hsb, ?_⟩) L.kind
    show codeAny _ _ (.expr body (lamEnv X scope s1.heap.objs.size f c')) _ _
    have kp : ∀ b o, s1.heap.get? b = some o → h₁.get? b = some o := fun b o e => hsb.extBut b o (Nat.ne_of_lt (Heap.lt_size e)) (Heap.get?_push_of_some _ e)
    have J : Inv (lamCx X (X.A.deeper (envOfC qg sg s.heap.objs.size g cdg)) (envOfC qg sg s.heap.objs.size g cdg :: X.stack) s1 HZ E scope f c') [] σ HZ { s1 with heap := h₁, toks := s1.toks + bs.length } :=
      lam_start I L I1.env0 hr.hd un hns kp
    refine PySem.W.kla_codeExpr (wpAny_mono ((hbody _ _ s1 HZ (hr.deeper _)).run [] _ _ HZ Q J ht) (fun v s' hq => ?_) fun e s' hq => hq)
    obtain ⟨w', H', J', rv, q⟩ := hq
    exact ⟨w', H', J'.os, J'.bare, J'.base, J'.hok, rv, q⟩
  refine wpAny_call (codeAny_mono rc fun r s' hq => ?_)
  cases r with
  | error e => exact tk e s' (XE.of_call I1 (fun cls d H' h => hW cls d H' h) hq)
  | ok fl =>
    cases fl with
    | ret u => exact I1.after hq
    | next => exact False.elim hq
    | brk => exact False.elim hq
    | cont => exact False.elim hq
end
end QE
namespace QE
open PySem L2 PySem.Spec PyProof.Rows LamX
abbrev bodyTold (a fnd cn en z : Str) (j : Nat) (p : Nat → Pos) (b₀ : Stmt) (rest : List Stmt) : List Stmt :=
  [.Assign [.Name fnd (p 0)] (.Constant (.str z) j (p 1)) (p 2), .Try [.Expr (.Call (.Name a (p 3)) [] [] (p 4)) (p 5)] [.ExceptHandler (some (.Name cn (p 6))) (some en) (b₀ :: rest) (p 7)] [] [] (p 8), .Return (some (.Name fnd (p 9))) (p 10)]
def isTold (i1 i2 : Nat) (z : Str) (iss : List IS) : List IS := [.asg (.var i1) (.lit (.str (strL z))), .try_ [.expr (.callv 0 [])] 0 (some i2) iss, .ret (.var i1)]
def fnE (EX : EC) (a : Addr) (cls : Value) (d : Option Addr) : FA := ⟨fun _ _ => False, fun a' c x H => a' = a ∧ EX.exc c x cls d H⟩
abbrev tdCx (X : Cx) (Ng : List Str) (x : Str) (sg : Scope) (g : Addr) (cdg : Value) (s : Shared) (H : Hp) : Cx := cxOf C8.CX0 X.prog X.w X.K X.mg X.base Ng x sg g cdg X.A X.stack s H C8.E0
structure TdOk (Φ : Calls) (EX : EC) (X : Cx) (x : Str) (gi : Nat) (a fnd cn en z : Str) (j : Nat) (p : Nat → Pos) (b₀ : Stmt) (rest : List Stmt) (Ng : List Str) (sg : Scope) (g CS : Addr) (cdg : Value) (i1 i2 nn : Nat) (iss : List IS) (Φt : Calls) (Mt : Muts) (Wt : Nat) : Prop where
  S : FnScope Ng [a] sg
  n0 : Ng[0]? = some a
  n1 : Ng[i1]? = some fnd
  n2 : Ng[i2]? = some en
  len : Ng.length = nn + 1
  l0 : Vis sg a
  l1 : sg.names.lookup fnd = some .local
  l2 : sg.names.lookup en = some .local
  p0 : (a == ("__debug__" : Str)) = false ∧ (a == ("__classdict__" : Str)) = false
  p1 : (fnd == ("__debug__" : Str)) = false ∧ (fnd == ("__classdict__" : Str)) = false
  ps : (cn == ("__debug__" : Str)) = false
  gl : sg.names.lookup cn = some .globalImplicit
  mg : X.mg cn = some (.ref CS)
  exm : ∀ c y cls d H, EX.exc c y cls d H → PySem.W.exmOne X.K cls (.ref CS) = some true
  stay : ∀ c y cls d H1 H2, EX.exc c y cls d H1 → Stay H1 H2 → EX.exc c y cls d H2
  suite : ∀ (s : Shared) (H : Hp) (a : Addr) (oe : Obj) (cls : Value) (d : Option Addr) (pn : List (Addr × Obj)), Zc cls d oe → (∃ vs, oe.data = .fields vs) → PSs ((tdCx X Ng x sg g cdg s H).nox.suite a ((a, oe) :: pn)) (b₀ :: rest) (TSs Φt Mt Wt X.K (fnE EX a cls d) EX noW iss)
  says : ∀ dv d, Φ gi [dv] = .ok (d, []) → ∃ ρ', exs Φt Mt Wt (isTold i1 i2 z iss) (some dv :: none? nn) = .ok (.rt d ρ')
structure KeepT (K : PySem.W.Frag) (H H' : Hp) : Prop where
  keep : Keep [] H H'
  there : ∀ b, H b ≠ none → H' b ≠ none
  tabs : ∀ p ∈ tabsK K, TabS H' p.1 p.2
def PlainAt (H : Hp) (v : V) (d : D) : Prop := ∀ C O, Rep C O H v d
theorem plain_flat {C : RC} {O : List Addr} {H : Hp} {v : V} {d : D} (h : Rep C O H v d) (hf : flat d = true) : PlainAt H v d := by
  intro C' O'
  cases h <;> first | (cases hf; done) | constructor
theorem plain_flats {C : RC} {O : List Addr} {H : Hp} : ∀ {vs : List V} {ds : List D}, RepL C O H vs ds → allFlat ds = true → ∀ C' O', RepL C' O' H vs ds
  | _, _, .nil, _, _, _ => .nil
  | _, _, .cons h r, hf, C', O' => by
    have hf : (flat _ && allFlat _) = true := hf
    rw [Bool.and_eq_true] at hf
    exact .cons (plain_flat h hf.1 C' O') (plain_flats r hf.2 C' O')
theorem plain_of {C : RC} {O : List Addr} {H : Hp} {v : V} {d : D} (h : ItemOk C O H (v, d)) (hp : plainR d = true) : PlainAt H v d := by
  cases d with
  | tup xs =>
    have h : Rep C O H v (.tup xs) := h
    intro C' O'
    cases h with
    | tup h1 r => exact .tup h1 (plain_flats r hp C' O')
  | lst f xs => cases hp
  | dic f t xs => cases hp
  | exc c x => cases hp
  | fn f => cases hp
  | non => exact plain_flat (C := C) (O := O) h rfl
  | bl b => exact plain_flat (C := C) (O := O) h rfl
  | int b => exact plain_flat (C := C) (O := O) h rfl
  | str b => exact plain_flat (C := C) (O := O) h rfl
theorem plain_share {d : D} (h : plainR (share d) = true) : share d = d := by
  cases d with
  | lst f xs => cases f <;> cases h
  | dic f t xs => cases f <;> cases h
  | _ => rfl
def TTd (K : PySem.W.Frag) (Φ : Calls) (EX : EC) (gi : Nat) (tl : XK → Hp → VK → Prop) (H : Hp) (Q : VK) : Prop :=
  tl (fun cls dd H2 => (∀ p ∈ tabsK K, TabS H2 p.1 p.2) ∧ ∃ c y d, EX.exc c y cls dd H2 ∧ Φ gi [.exc c y] = .ok (d, []) ∧ plainR d = true ∧ ∀ v H', KeepT K H2 H' → PlainAt H' v d → Q v H')
    H (fun _ H2 => (∀ p ∈ tabsK K, TabS H2 p.1 p.2) ∧ ∃ d, Φ gi [.tup [.non]] = .ok (d, []) ∧ plainR d = true ∧ ∀ v H', KeepT K H2 H' → PlainAt H' v d → Q v H')
theorem getS_none : ∀ {n i : Nat}, getS (none? n : Env) i = none
  | 0, i => by cases i <;> rfl
  | n + 1, 0 => rfl
  | n + 1, i + 1 => getS_none (n := n) (i := i)
theorem getS_set_ne : ∀ {ρ : Env} {i k : Nat} {x : Option D}, i ≠ k → getS (setS ρ i x) k = getS ρ k
  | [], _, _, _, _ => rfl
  | _ :: _, 0, 0, _, h => absurd rfl h
  | _ :: _, 0, _ + 1, _, _ => rfl
  | _ :: _, _ + 1, 0, _, _ => rfl
  | _ :: r, i + 1, k + 1, _, h => getS_set_ne (ρ := r) fun e => h (congrArg (· + 1) e)
theorem nonesLen : ∀ n : Nat, (none? n : Env).length = n
  | 0 => rfl
  | n + 1 => congrArg (· + 1) (nonesLen n)
theorem sl_nonesT : ∀ (n : Nat), SlOk (List.replicate n none) (none? n) ∧ sl (List.replicate n none) (none? n) = []
  | 0 => ⟨.nil, rfl⟩
  | n + 1 => by
    obtain ⟨a, b⟩ := sl_nonesT n
    exact ⟨.skip a, by show sl (none :: _) (none :: _) = []; rw [sl_none]; exact b⟩
theorem flatS_set {d : D} (h : flat d = true) : ∀ (ρ : Env) (i : Nat), flatS (setS ρ i (some d)) = setS (flatS ρ) i (some d)
  | [], _ => rfl
  | some e :: r, 0 => by show (if flat d then some d else none) :: flatS r = some d :: flatS r; rw [if_pos h]
  | none :: r, 0 => by show (if flat d then some d else none) :: flatS r = some d :: flatS r; rw [if_pos h]
  | some e :: r, i + 1 => by show _ :: flatS (setS r i (some d)) = _ :: setS (flatS r) i (some d); rw [flatS_set h r i]
  | none :: r, i + 1 => by show _ :: flatS (setS r i (some d)) = _ :: setS (flatS r) i (some d); rw [flatS_set h r i]
theorem flatS_none : ∀ n : Nat, flatS (none? n) = none? n
  | 0 => rfl
  | n + 1 => congrArg (none :: ·) (flatS_none n)
section
variable {Φt : Calls} {Mt : Muts} {Wt : Nat}
theorem ev_varE (i : Nat) (ρ : Env) : ev Φt Mt (.var i) ρ = (match getS ρ i with
  | some d => if isM d then Res.bad else Res.ok (share d, setS ρ i (some (share d)))
  | none => Res.bad) := rfl
theorem callv_tup {i : Nat} {ρ : Env} {d : D} (h : getS ρ i = some (.tup [d])) : ev Φt Mt (.callv i []) ρ = .ok (d, ρ) := by
  have e : ev Φt Mt (.callv i []) ρ = (match getS ρ i with
    | some (.fn f) => (evOs Φt Mt [] ρ).bind fun r => doCall Φt Mt f r.1 r.2
    | some (.exc c x) => Res.err c x
    | some (.tup [d]) => Res.ok (d, ρ)
    | _ => Res.bad) := rfl
  rw [e, h]
theorem callv_exc {i c : Nat} {ρ : Env} {y : D} (h : getS ρ i = some (.exc c y)) : ev Φt Mt (.callv i []) ρ = .err c y := by
  have e : ev Φt Mt (.callv i []) ρ = (match getS ρ i with
    | some (.fn f) => (evOs Φt Mt [] ρ).bind fun r => doCall Φt Mt f r.1 r.2
    | some (.exc c x) => Res.err c x
    | some (.tup [d]) => Res.ok (d, ρ)
    | _ => Res.bad) := rfl
  rw [e, h]
theorem exs_consE (s : IS) (r : List IS) (ρ : Env) : exs Φt Mt Wt (s :: r) ρ = (ex Φt Mt Wt s ρ).bind fun
  | .nx ρ1 => exs Φt Mt Wt r ρ1
  | .rt d ρ1 => Res.ok (.rt d ρ1) := rfl
theorem exs_nilE (ρ : Env) : exs Φt Mt Wt [] ρ = .ok (.nx ρ) := rfl
theorem ex_exprE (e : IE) (ρ : Env) : ex Φt Mt Wt (.expr e) ρ = (ev Φt Mt e ρ).bind fun r => .ok (.nx r.2) := rfl
theorem ex_retE (e : IE) (ρ : Env) : ex Φt Mt Wt (.ret e) ρ = (ev Φt Mt e ρ).bind fun r => .ok (.rt r.1 r.2) := rfl
theorem ex_asgL (i : Nat) (d : D) (ρ : Env) : ex Φt Mt Wt (.asg (.var i) (.lit d)) ρ = .ok (.nx (setS ρ i (some d))) := rfl
theorem ex_tryE (body h : List IS) (c i : Nat) (ρ : Env) : ex Φt Mt Wt (.try_ body c (some i) h) ρ = (match exs Φt Mt Wt body ρ with
  | .ok f => .ok f
  | .err c' x => if Nat.beq c 0 || Nat.beq c c' then (exs Φt Mt Wt h (setS (flatS ρ) i (some (.exc c' x)))).bind fun
      | .nx ρ1 => .ok (.nx (setS ρ1 i none))
      | .rt d ρ1 => .ok (.rt d ρ1)
    else .err c' x
  | .bad => Res.bad) := rfl
end
theorem told_ok {Φt : Calls} {Mt : Muts} {Wt i1 i2 nn : Nat} {z : Str} {iss : List IS} {d : D} {ρ' : Env} (i10 : i1 ≠ 0) (hi : i1 < nn + 1) (h : exs Φt Mt Wt (isTold i1 i2 z iss) (some (.tup [.non]) :: none? nn) = .ok (.rt d ρ')) : d = .str (strL z) := by
  have g0 : getS (setS (some (.tup [.non]) :: none? nn) i1 (some (.str (strL z)))) 0 = some (.tup [.non]) := getS_set_ne i10
  have g1 : getS (setS (some (.tup [.non]) :: none? nn) i1 (some (.str (strL z)))) i1 = some (.str (strL z)) := getS_set_same (by show i1 < (none? nn : Env).length + 1; rw [nonesLen]; exact hi)
  unfold isTold at h
  rw [exs_consE, ex_asgL] at h
  have h : exs Φt Mt Wt [.try_ [.expr (.callv 0 [])] 0 (some i2) iss, .ret (.var i1)] (setS (some (.tup [.non]) :: none? nn) i1 (some (.str (strL z)))) = .ok (.rt d ρ') := h
  rw [exs_consE, ex_tryE, exs_consE, ex_exprE, callv_tup g0] at h
  have h : exs Φt Mt Wt [.ret (.var i1)] (setS (some (.tup [.non]) :: none? nn) i1 (some (.str (strL z)))) = .ok (.rt d ρ') := h
  rw [exs_consE, ex_retE, ev_varE, g1] at h
  cases h
  rfl
theorem told_err {Φt : Calls} {Mt : Muts} {Wt i1 i2 nn c : Nat} {y : D} {z : Str} {iss : List IS} {d : D} {ρ' : Env} (i10 : i1 ≠ 0) (i12 : i1 ≠ i2) (h : exs Φt Mt Wt (isTold i1 i2 z iss) (some (.exc c y) :: none? nn) = .ok (.rt d ρ')) :
    (∃ ρ4, exs Φt Mt Wt iss (setS (setS (none :: none? nn) i1 (some (.str (strL z)))) i2 (some (.exc c y))) = .ok (.rt d ρ4)) ∨ ∃ ρ4 d0, exs Φt Mt Wt iss (setS (setS (none :: none? nn) i1 (some (.str (strL z)))) i2 (some (.exc c y))) = .ok (.nx ρ4) ∧ getS ρ4 i1 = some d0 ∧ d = share d0 := by
  have g0 : getS (setS (some (.exc c y) :: none? nn) i1 (some (.str (strL z)))) 0 = some (.exc c y) := getS_set_ne i10
  unfold isTold at h
  rw [exs_consE, ex_asgL] at h
  have h : exs Φt Mt Wt [.try_ [.expr (.callv 0 [])] 0 (some i2) iss, .ret (.var i1)] (setS (some (.exc c y) :: none? nn) i1 (some (.str (strL z)))) = .ok (.rt d ρ') := h
  rw [exs_consE, ex_tryE, exs_consE, ex_exprE, callv_exc g0] at h
  have h : ((exs Φt Mt Wt iss (setS (flatS (setS (some (.exc c y) :: none? nn) i1 (some (.str (strL z))))) i2 (some (.exc c y)))).bind fun
        | .nx ρ1 => Res.ok (Fw.nx (setS ρ1 i2 none))
        | .rt d ρ1 => .ok (.rt d ρ1)).bind (fun
    | .nx ρ1 => exs Φt Mt Wt [.ret (.var i1)] ρ1
    | .rt d ρ1 => .ok (.rt d ρ1)) = .ok (.rt d ρ') := h
  have ef : flatS (setS (some (.exc c y) :: none? nn) i1 (some (.str (strL z)))) = setS (none :: none? nn) i1 (some (.str (strL z))) := by
    rw [flatS_set rfl]
    congr 1
    show (if flat (.exc c y) then _ else none) :: flatS (none? nn) = _
    rw [flatS_none]
    rfl
  rw [ef] at h
  cases e5 : exs Φt Mt Wt iss (setS (setS (none :: none? nn) i1 (some (.str (strL z)))) i2 (some (.exc c y))) with
  | bad => rw [e5] at h; cases h
  | err c' x' => rw [e5] at h; cases h
  | ok fw =>
    rw [e5] at h
    cases fw with
    | rt d' ρ4 =>
      have h : Res.ok (Fw.rt d' ρ4) = .ok (.rt d ρ') := h
      cases h
      exact .inl ⟨_, rfl⟩
    | nx ρ4 =>
      have h : exs Φt Mt Wt [.ret (.var i1)] (setS ρ4 i2 none) = .ok (.rt d ρ') := h
      rw [exs_consE, ex_retE, ev_varE, getS_set_ne (Ne.symm i12)] at h
      cases e7 : getS ρ4 i1 with
      | none => rw [e7] at h; cases h
      | some d0 =>
        rw [e7] at h
        simp only at h
        split at h
        · cases h
        · cases h
          exact .inr ⟨ρ4, d0, rfl, e7, rfl⟩
section
variable {Φ : Calls} {EX : EC} {X : Cx} {x : Str} {gi : Nat} {a fnd cn en z : Str} {j : Nat} {p : Nat → Pos} {b₀ : Stmt} {rest : List Stmt} {Ng : List Str} {sg : Scope} {g CS : Addr} {cdg : Value} {i1 i2 nn : Nat} {iss : List IS} {Φt : Calls} {Mt : Muts} {Wt : Nat}
theorem keepT_refl {K : PySem.W.Frag} {H : Hp} (h : ∀ p ∈ tabsK K, TabS H p.1 p.2) : KeepT K H H := ⟨.refl, fun _ e => e, h⟩
theorem keepT_of {C : RC} {H H' : Hp} (h0 : C.H0 = H) (hM : C.M = none) (e : Ext C H') : KeepT C.K H H' := by
  subst h0
  exact ⟨⟨fun b o z _ nt => e.keep b o z (by rw [hM]; exact fun y => nomatch y) nt, fun _ z => nomatch z⟩, e.there, e.tabs⟩
theorem told_run {s : Shared} {H : Hp} {f c' : Addr} {q : Str} {tl : XK → Hp → VK → Prop} {Q : VK} (T : TdOk Φ EX X x gi a fnd cn en z j p b₀ rest Ng sg g CS cdg i1 i2 nn iss Φt Mt Wt) (i12 : i1 ≠ i2) (i10 : i1 ≠ 0) (i20 : i2 ≠ 0)
    (act : ∀ (W : WX) (pn : List (Addr × Obj)) (xe : Value → Shared → Prop) (E : XK) (p1 p2 : Pos), Takes ((tdCx X Ng x sg g cdg s H).tr pn xe) W →
      PE ((tdCx X Ng x sg g cdg s H).tr pn xe) (.Call (.Name a p1) [] [] p2) (fun σZ HZ Q => (∀ cls d H', E cls d H' → W cls d σZ H') ∧ σZ[0]? = some (some (.ref f)) ∧ HZ c' = some (CodeO c' q) ∧ tl E HZ Q))
    (hmono : ∀ (E E' : XK) (H : Hp) (Q Q' : VK), tl E H Q → (∀ c d H', E c d H' → E' c d H') → (∀ v H', Q v H' → Q' v H') → tl E' H Q')
    (hc : H c' = some (CodeO c' q)) (h : TTd X.K Φ EX gi tl H Q) : ∃ t, PSs (tdCx X Ng x sg g cdg s H).nox (bodyTold a fnd cn en z j p b₀ rest) t ∧ t { nx := fun _ H' => Q .non H', rt := Q } (L2.start Ng [.ref f]) H := by
  refine ⟨_, pss_cons (ps_set (X := (tdCx X Ng x sg g cdg s H).nox) T.S.nd T.n1 (.inl T.l1) pe_str (by rfl) (.inr T.l1)) (pss_cons (ps_try_as (X := (tdCx X Ng x sg g cdg s H).nox) (c := .ref CS) (i := i2) (n := en)
      (tb := fun W D σ H2 => ∃ Ech : XK, (∀ cls d H', Ech cls d H' → W cls d σ H') ∧ σ[0]? = some (some (.ref f)) ∧ H2 c' = some (CodeO c' q) ∧ tl Ech H2 (fun _ H' => D.nx σ H'))
      (ts := fun a cls d => TSs Φt Mt Wt X.K (fnE EX a cls d) EX noW iss) (Wout := fun _ _ _ _ => False)
      rfl rfl T.S.nd T.n2 T.l2 ⟨T.gl, T.ps, .inl T.mg⟩ L2.takes0 (fun W pn xe tk _ => ?_) (fun a oe cls d pn h1 h2 => T.suite s H a oe cls d pn h1 h2)) (pss_one (ps_ret (pe_var T.n1 (.inl T.l1) T.p1.1 T.p1.2)))), ?_⟩
  · refine ⟨fun pins s' σ H' D I h' => ?_⟩
    obtain ⟨Ech, hW, h1, h2, h3⟩ := h'
    exact (pss_one (ps_expr (act W pn xe Ech _ _ tk) (by rfl))).run pins s' σ H' D I ⟨hW, h1, h2, h3⟩
  · have hi1 : i1 < nn + 1 := by
      have := T.n1
      rw [← T.len]
      exact (List.getElem?_eq_some_iff.mp this).1
    have hi2 : i2 < nn + 1 := by
      have := T.n2
      rw [← T.len]
      exact (List.getElem?_eq_some_iff.mp this).1
    have e0 : L2.start Ng [V.ref f] = some (V.ref f) :: List.replicate nn none := by
      unfold L2.start
      rw [T.len]
      rfl
    have hl0 : (L2.start Ng [V.ref f]).length = nn + 1 := by rw [e0]; simp
    generalize hσ : (L2.start Ng [V.ref f]).set i1 (some (V.str z)) = σ1
    have hl1 : σ1.length = nn + 1 := by rw [← hσ, List.length_set]; exact hl0
    have g1 : σ1[i1]? = some (some (V.str z)) := by rw [← hσ, List.getElem?_set_self (by rw [hl0]; exact hi1)]
    have g0 : σ1[0]? = some (some (V.ref f)) := by
      rw [← hσ, List.getElem?_set_ne i10, e0]
      rfl
    have hz : V.str z = strV (strL z) := by
      unfold strV strL
      simp
    show ∃ Ech : XK, (∀ cls d H', Ech cls d H' → wAs X.K (.ref CS) i2 (fun a cls d => TSs Φt Mt Wt X.K (fnE EX a cls d) EX noW iss) (fun _ _ _ _ => False) { nx := fun σ' H' => tRet (tVar i1) { nx := fun _ H' => Q .non H', rt := Q } σ' H', rt := Q } cls d ((L2.start Ng [V.ref f]).set i1 (some (V.str z))) H') ∧
      ((L2.start Ng [V.ref f]).set i1 (some (V.str z)))[0]? = some (some (.ref f)) ∧ H c' = some (CodeO c' q) ∧ tl Ech H (fun _ H' => tRet (tVar i1) { nx := fun _ H' => Q .non H', rt := Q } ((L2.start Ng [V.ref f]).set i1 (some (V.str z))) H')
    rw [hσ]
    refine ⟨_, fun cls dd H2 hE => ?_, g0, hc, hmono _ _ _ _ _ h (fun _ _ _ z => z) (fun v H2 hq => ?_)⟩
    · obtain ⟨htab, c, y, d, hex, hΦ, hpl, k⟩ := hE
      refine ⟨true, T.exm c y cls dd H2 hex, fun _ ea hea => ?_, fun z => nomatch z⟩
      obtain ⟨ρ', hs⟩ := T.says _ _ hΦ
      have he := told_err i10 i12 hs
      -- the suite's start
      let C : RC := ⟨X.K, fnE EX ea cls dd, H2, fun _ => False, none⟩
      have hext : Ext C H2 := ⟨fun b o e _ _ => e, fun b e => e, fun b z => z.elim, (fun b z => nomatch z), fun a' c' x' Ha Hb z st => ⟨z.1, T.stay _ _ _ _ _ _ z.2 st⟩, htab⟩
      have hg0 : Good C [] H2 := ⟨List.nodup_nil, fun _ z => (nomatch z), hext⟩
      obtain ⟨sn1, sn2⟩ := sl_nonesT (nn)
      have s0 : StOk C [] (L2.start Ng [V.ref f]) (none :: none? nn) H2 := by
        rw [e0]
        refine ⟨.skip sn1, ?_⟩
        show Good C ([] ++ sl (some (V.ref f) :: _) (none :: _)) H2
        rw [sl_none, sn2]
        exact hg0
      have s1 : StOk C [] σ1 (setS (none :: none? nn) i1 (some (.str (strL z)))) H2 := by
        rw [← hσ]
        refine StOk.put s0.ok (by rw [hl0]; exact hi1) ((s0.off i1).good.add ?_)
        rw [hz]
        exact .str _
      have s2 : StOk C [] (σ1.set i2 (some (.ref ea))) (setS (setS (none :: none? nn) i1 (some (.str (strL z)))) i2 (some (.exc c y))) H2 :=
        StOk.put s1.ok (by rw [hl1]; exact hi2) ((s1.off i2).good.add (.exc ⟨rfl, hex⟩))
      refine ⟨C, [], _, ⟨rfl, rfl⟩, s2, ?_⟩
      rcases he with ⟨ρ4, e4⟩ | ⟨ρ4, d0, e4, e5, e6⟩
      · rw [e4]
        intro v σ' H' s'
        exact k v H' (keepT_of (C := C) rfl rfl s'.good.ext) (plain_of s'.good.head hpl)
      · rw [e4]
        intro σ' H' s'
        obtain ⟨v, hv, gv, _⟩ := s'.at e5
        have ed : d0 = d := by
          rw [e6] at hpl
          rw [e6, plain_share hpl]
        rw [ed] at gv
        refine ⟨v, ?_, k v H' (keepT_of (C := C) rfl rfl s'.good.ext) (plain_of gv.head hpl)⟩
        rw [List.getElem?_set_ne (Ne.symm i12)]
        exact hv
    · obtain ⟨htab, d, hΦ, hpl, k⟩ := hq
      obtain ⟨ρ', hs⟩ := T.says _ _ hΦ
      have ed := told_ok i10 hi1 hs
      refine ⟨.str z, g1, k _ H2 (keepT_refl htab) ?_⟩
      rw [ed, hz]
      exact fun C O => .str _
end
end QE
namespace QE
open PySem L2 PySem.Spec PyProof.Rows LamX
def LawT (X : Cx) : Prop := ∃ c P, TabB X.base X.mg c P ∧ X.env.code = .ref c ∧ (P, X.env.qual ++ "<lambda>") ∈ tabsK X.K ∧ ∀ p ∈ tabsK X.K, p.1 = P → p.2 = X.env.qual ++ "<lambda>"
structure TdAt (Φ : Calls) (EX : EC) (X : Cx) (x : Str) (k : Nat) : Prop where
  ex : ∃ (a fnd cn en z : Str) (j : Nat) (p : Nat → Pos) (b₀ : Stmt) (rest : List Stmt) (Ng : List Str) (sg : Scope) (g CS : Addr) (pg : Arguments) (dV kV doc pm cdv ct oc : Value) (an od : Option Addr) (osl : Array (Option Value)) (i1 i2 nn : Nat) (iss : List IS) (Φt : Calls) (Mt : Muts) (Wt : Nat),
    X.mg x = some (.ref g) ∧ PySem.W.keepIn X.K (.ref g) = true ∧ X.K.lookup g = some ⟨oc, od, .func (PySem.W.fnOf x x pg (bodyTold a fnd cn en z j p b₀ rest) sg dV kV doc pm an cdv ct), osl⟩ ∧ PySem.W.codeIn X.K cdv x = true ∧
    L2.Binds X.K (PySem.W.fnOf x x pg (bodyTold a fnd cn en z j p b₀ rest) sg dV kV doc pm an cdv ct) [a] [] ∧ i1 ≠ i2 ∧ i1 ≠ 0 ∧ i2 ≠ 0 ∧ TdOk Φ EX X x (nm x) a fnd cn en z j p b₀ rest Ng sg g CS cdv i1 i2 nn iss Φt Mt Wt
  room : Room (k + 2) X.A
abbrev WXE (E : XK) : WX := fun cls d _ H => E cls d H
section
variable {Φ : Calls} {Mu : Muts} {K : PySem.W.Frag} {fnA : FA} {EX : EC} {Wx : WX} {X : Cx}
theorem ErrP.imp {W W' : WX} {C : RC} {σ : L2.St} {c : Nat} {x : D} (h : ErrP EX W C σ c x) (hw : ∀ cls d σ H, W cls d σ H → W' cls d σ H) : ErrP EX W' C σ c x := fun cls dd H' e k => hw _ _ _ _ (h cls dd H' e k)
theorem Ext.keepT {C : RC} {H H' : Hp} (e : Ext C H) (k : KeepT C.K H H') : Ext C H' := ⟨fun b o h m nt => k.keep.keep b o (e.keep b o h m nt) (fun z => nomatch z) nt, fun b h => k.there b (e.there b h), e.old, e.muta, e.exs, k.tabs⟩
theorem e_thunk {x : Str} {k : Nat} {params : Arguments} {body : Expr} {scope : Scope} {p lpos pos : Pos} {f : IE} {ies : List IE} {callee : L2.St → Nat → Nat → Prop} (hT : LawT X) (hK : K = X.K) (hg : Gl X x) (hdb : (x == ("__debug__" : Str)) = false) (hTd : TdAt Φ EX X x k)
    (hpar : lamPB params = true) (L : LamT X.N X.env.scope scope (lamNames params))
    (hbody : ∀ (A : Around) (outer : List PySem.Env) (s : Shared) (H : Hp) (E : XK) (f' c' : Addr), Room k (A.deeper (lamEnv X scope s.heap.objs.size f' c')) → PE (lamCx X A outer s H E scope f' c') body (fun σ H Q => ∃ n np, callee σ n np ∧ TOs Φ Mu K fnA EX (WXE E) ies σ H fun vs H1 => SpOf Φ Mu K fnA EX n np vs H1 Q E))
    (hcal : ∀ (C : RC) (F : List (V × D)) (σ : L2.St) (ρ : Env) (H : Hp) (n : Nat), CtxOk K fnA C → StOk C F σ ρ H → fnOf f ρ = some n → ∃ np, callee σ n np ∧ ∀ ds, Φ n ds ≠ .bad → ds.length = np) :
    EOk Φ Mu K fnA EX Wx X (.Call (.Name x p) [.Lambda params body scope lpos] [] pos) (.thunk (nm x) f ies) := by
  obtain ⟨c, P, TB, hcode, hmT, hu⟩ := hT
  obtain ⟨a, fnd, cn, en, z, j, pp, b₀, rest, Ng, sg, g, CS, pg, dV, kV, doc, pm, cdv, ct, oc, an, od, osl, i1, i2, nn, iss, Φt, Mt, Wt, hm, hk, lk, hcg, hb, i12, i10, i20, T⟩ := hTd.ex
  refine EOk.of ⟨fun pins s σ H Q I q => ?_⟩ rfl
  obtain ⟨C, F, ρ, hC, st, kk⟩ := q
  have kk : post (match fnOf f ρ with
    | some n => (noErr (evOs Φ Mu ies ρ)).bind fun r => thunkR Φ Mu (nm x) (doCall Φ Mu n r.1 r.2) n r.2
    | none => .bad) (fun r => ∀ v H', StOk C ((v, r.1) :: F) σ r.2 H' → Q v H') (ErrP EX Wx C σ) := kk
  have hCK : C.K = X.K := hC.K.trans hK
  cases ef : fnOf f ρ with
  | none => rw [ef] at kk; exact kk.elim
  | some n =>
  rw [ef] at kk
  simp only at kk
  cases eo : evOs Φ Mu ies ρ with
  | bad => rw [eo] at kk; exact kk.elim
  | err c x => rw [eo] at kk; exact kk.elim
  | ok r0 =>
  obtain ⟨os, ρ1⟩ := r0
  rw [eo] at kk
  have kk : post (thunkR Φ Mu (nm x) (doCall Φ Mu n os ρ1) n ρ1) (fun r => ∀ v H', StOk C ((v, r.1) :: F) σ r.2 H' → Q v H') (ErrP EX Wx C σ) := kk
  unfold thunkR at kk
  split at kk
  · exact kk.elim
  rename_i hMu
  have hMu : Mu n = none := by
    cases e : Mu n with
    | none => rfl
    | some _ => rw [e] at hMu; exact absurd rfl hMu
  obtain ⟨np, hcl, hlen⟩ := hcal C F σ ρ H n hC st ef
  have hTabs : Tabs (tabsK X.K) H := fun p hp => st.good.ext.tabs p (by rw [hCK]; exact hp)
  refine wpAny_Call_Name_kw (ld_glob I hg hm ?_ hdb)
  refine PySem.W.callWith_K (h₀ := X.base) I.ok.mod.kin hk ?_ (by rfl) (by rfl)
  show wpAny _ _ (spliced ((false, eval (.Lambda params body scope lpos) X.env) :: backTo pos (starEach [] X.env))) _ _ s
  refine Calls.spliced_cons (lam_made I TB hcode hmT hu hTabs hpar (L.has I.ok) fun f' c' pm' ctv doc' dV' bs H1 s' I1 eN hth T1 hlp hdT hf hfn hfr hco => ?_)
  refine Calls.spliced_nil ⟨I1.kIn, ?_⟩
  have kt : KeepT C.K H H1 := ⟨⟨fun b o e _ nt => eN b o e nt, fun _ z => nomatch z⟩, hth, fun p hp => T1 p (by rw [← hCK]; exact hp)⟩
  have st1 : StOk C F σ ρ H1 := st.keepW kt.keep (st.good.ext.keepT kt)
  have rc : codeAny (model X.prog X.w) X.A (.call (.ref g) ⟨[.ref f'], []⟩) (CR C8.CX0 X.stack X.prog X.w H1 s' Q C8.E0) s' := by
    refine run_ofS (N := Ng) (ps := [a]) (us := [.ref f']) (vs := [.ref f']) lk hcg T.S hTd.room I1.env0 (hb s' [.ref f'] I1.kIn rfl) (.cons rfl .nil) rfl fun hr' => ?_
    obtain ⟨t', ht', hq'⟩ := told_run (s := s') (H := H1) (f := f') (c' := c') (q := X.env.qual ++ "<lambda>") (Q := Q) (tl := fun E H' Q' => ∃ n np, callee σ n np ∧ TOs Φ Mu K fnA EX (WXE E) ies σ H' fun vs H1 => SpOf Φ Mu K fnA EX n np vs H1 Q' E) T i12 i10 i20
      (fun W pn xe E p1 p2 tk => lam_act (i := 0) I1 L hlp hdT hf hfn hfr tk hr' (fun A outer s H hr2 => hbody A outer s H E f' c' hr2) T.n0 T.l0 T.p0.1 T.p0.2)
      (fun E E' H Q Q' hh hE hQ => by
        obtain ⟨n, np, h1, C, F, ρ, h2, h3, h4⟩ := hh
        refine ⟨n, np, h1, C, F, ρ, h2, h3, post_mono h4 (fun r hr vs H' ha hs => ?_) fun c x z => z.imp fun _ _ _ _ y => hE _ _ _ y⟩
        obtain ⟨g1, C', ds, g2, g3, g4, g5, g6⟩ := hr vs H' ha hs
        exact ⟨g1, C', ds, g2, g3, g4, g5, post_mono g6 (fun r hr v H' gg => hQ _ _ (hr v H' gg)) fun c x z cls dd H' e k => hE _ _ _ (z cls dd H' e k)⟩)
      hco (by
        refine ⟨n, np, hcl, C, F, ρ, hC, st1, ?_⟩
        rw [eo]
        intro vs H2 ha2 st2
        refine call_spT hMu hC st2 ha2 hlen ?_
        cases ed : doCall Φ Mu n os ρ1 with
        | bad => rw [ed] at kk; exact kk.elim
        | ok r =>
          obtain ⟨d1, ρ2⟩ := r
          rw [ed] at kk
          have kk : post (thunkG Φ (nm x) (.tup [.non]) ρ2) (fun r => ∀ v H', StOk C ((v, r.1) :: F) σ r.2 H' → Q v H') (ErrP EX Wx C σ) := kk
          unfold thunkG at kk
          intro v H3 s3
          refine ⟨fun p hp => s3.good.ext.tabs p (by rw [hCK]; exact hp), ?_⟩
          cases eΦ : Φ (nm x) [.tup [.non]] with
          | bad => rw [eΦ] at kk; exact kk.elim
          | err c x => rw [eΦ] at kk; exact kk.elim
          | ok r =>
            obtain ⟨d, outs⟩ := r
            rw [eΦ] at kk
            simp only at kk
            split at kk
            · rename_i hp
              rw [Bool.and_eq_true] at hp
              have eo : outs = [] := by cases outs with
                | nil => rfl
                | cons _ _ => cases hp.2
              have kk : ∀ v H', StOk C ((v, d) :: F) σ ρ2 H' → Q v H' := kk
              refine ⟨d, by rw [eo], hp.1, fun v' H4 k4 hpl => kk v' H4 ?_⟩
              rw [← hCK] at k4
              have s4 := (s3.sub (List.sublist_cons_self _ _)).keepW k4.keep (s3.good.ext.keepT k4)
              exact ⟨s4.ok, s4.good.add (hpl _ _)⟩
            · exact kk.elim
        | err c y =>
          rw [ed] at kk
          have kk : post (thunkG Φ (nm x) (.exc c y) ρ1) (fun r => ∀ v H', StOk C ((v, r.1) :: F) σ r.2 H' → Q v H') (ErrP EX Wx C σ) := kk
          unfold thunkG at kk
          intro cls dd H3 s3 hex
          refine ⟨fun p hp => s3.good.ext.tabs p (by rw [hCK]; exact hp), c, y, ?_⟩
          cases eΦ : Φ (nm x) [.exc c y] with
          | bad => rw [eΦ] at kk; exact kk.elim
          | err c x => rw [eΦ] at kk; exact kk.elim
          | ok r =>
            obtain ⟨d, outs⟩ := r
            rw [eΦ] at kk
            simp only at kk
            split at kk
            · rename_i hp
              rw [Bool.and_eq_true] at hp
              have eo : outs = [] := by cases outs with
                | nil => rfl
                | cons _ _ => cases hp.2
              have kk : ∀ v H', StOk C ((v, d) :: F) σ ρ1 H' → Q v H' := kk
              refine ⟨d, hex, by rw [eo], hp.1, fun v' H4 k4 hpl => kk v' H4 ?_⟩
              rw [← hCK] at k4
              have s4 := s3.keepW k4.keep (s3.good.ext.keepT k4)
              exact ⟨s4.ok, s4.good.add (hpl _ _)⟩
            · exact kk.elim)
    exact ⟨t', ht'.nox, hq'⟩
  refine wpAny_call (codeAny_mono rc fun r s2 hq => ?_)
  cases r with
  | error e => exact (show False from hq).elim
  | ok fl =>
    cases fl with
    | ret u => exact I1.after hq
    | next => exact False.elim hq
    | brk => exact False.elim hq
    | cont => exact False.elim hq
end
end QE
namespace QE
open PySem L2 PySem.Spec PyProof.Rows

structure PD where
  fns : List Str
  consts : List (Str × D)
  free : List Str
  /-- the classes of exceptions, the field that each keeps -/
  excs : List (Str × Option Str) := []
  /-- the defs that tell of errors -/
  tolds : List Str := []
  /-- the names of the scope that calls them -/
  tnames : List (Str × NameKind) := []
  /-- within an except suite -/
  hot : Bool := false

structure ScOk (sc : Scope) (X : Cx) : Prop where
  kind : X.env.scope.kind = .function
  keep : ∀ x k, k ≠ .free → sc.names.lookup x = some k → X.env.scope.names.lookup x = some k
  free : ∀ x, sc.names.lookup x = some .free → X.env.scope.names.lookup x = some .free ∨ X.env.scope.names.lookup x = some .cell
  fn : ∀ x, sc.names.lookup x = some .cell → X.fn x = true
theorem kindIs_eq {sc : Scope} {x : Str} {k : NameKind} (h : kindIs sc x k = true) : sc.names.lookup x = some k := by
  unfold kindIs at h
  exact eq_of_beq h
section
variable {sc : Scope} {X : Cx} {x : Str}
theorem ScOk.vis (s : ScOk sc X) (h : visible sc x = true) : Vis X.env.scope x := by
  unfold visible at h
  rw [Bool.or_eq_true, Bool.or_eq_true] at h
  rcases h with (h | h) | h
  · exact .inl (s.keep x _ (by decide) (kindIs_eq h))
  · exact .inr (.inl (s.keep x _ (by decide) (kindIs_eq h)))
  · rcases s.free x (kindIs_eq h) with z | z
    · exact .inr (.inr z)
    · exact .inr (.inl z)
theorem ScOk.gl (s : ScOk sc X) (h : isGlob sc x = true) : Gl X x := s.keep x _ (by decide) (kindIs_eq h)
theorem ScOk.loc (s : ScOk sc X) (h : (kindIs sc x .local || kindIs sc x .cell) = true) : Loc X.env.scope x ∧ (X.fn x = true ∨ X.env.scope.names.lookup x = some .local) := by
  rw [Bool.or_eq_true] at h
  rcases h with h | h
  · have e := s.keep x _ (by decide) (kindIs_eq h)
    exact ⟨.inl e, .inr e⟩
  · have e := s.keep x _ (by decide) (kindIs_eq h)
    exact ⟨.inr e, .inl (s.fn x (kindIs_eq h))⟩
theorem ScOk.blk {scope : Scope} (hk : scope.kind = .function) (s0 : Shared) (H : Hp) (C : Addr) (cl : List (Str × Addr)) (fp : List Addr) : ScOk scope (X.blk s0 H scope (compEnvC scope cl C X.env) fp) := by
  have e : (X.blk s0 H scope (compEnvC scope cl C X.env) fp).env.scope = relS scope X.env.scope := rfl
  refine ⟨hk, fun x k hne h => ?_, fun x h => ?_, fun x h => ?_⟩
  · rw [e]; exact lookup_relS_keep hne h
  · rw [e]
    have : ∀ (names : List (Str × NameKind)), names.lookup x = some .free → (names.map fun (n, k) => if (k == NameKind.free && X.env.scope.kind == .function && X.env.scope.names.lookup n == some .cell) then (n, NameKind.cell) else (n, k)).lookup x = some .free ∨ (names.map fun (n, k) => if (k == NameKind.free && X.env.scope.kind == .function && X.env.scope.names.lookup n == some .cell) then (n, NameKind.cell) else (n, k)).lookup x = some .cell := by
      intro names
      induction names with
      | nil => intro h; cases h
      | cons p r ih =>
        obtain ⟨n, k⟩ := p
        intro h
        rw [List.map_cons]
        rw [List.lookup_cons] at h
        cases hx : x == n with
        | true =>
          rw [hx] at h
          cases h
          simp only
          split
          · right; rw [List.lookup_cons, hx]
          · left; rw [List.lookup_cons, hx]
        | false =>
          rw [hx] at h
          have ih := ih h
          simp only
          split
          · rw [List.lookup_cons, hx]; exact ih
          · rw [List.lookup_cons, hx]; exact ih
    exact this _ h
  · show (scope.names.lookup x == some .cell) = true
    rw [h]; rfl
end
def ConstAt (mg : Str → Option Value) (x : Str) (d : D) : Prop := (∃ i t, d = .int i ∧ mg x = some (.int i t)) ∨ ∃ z t, d = .str (strL z) ∧ mg x = some (.str z t)
def fv : D → Option V
  | .non => some .non
  | .bl b => some (.bl b)
  | .int i => some (.int i)
  | .str s => some (strV s)
  | _ => none
def exRow (K : PySem.W.Frag) (y : Str × Option Str) (x : D) (cls : Value) (dd : Option Addr) (H : Hp) : Prop :=
  cls = .ref (He.ga K y.1) ∧ match y.2 with
    | none => x = .non ∧ dd = none
    | some f => ∃ dx v, dd = some dx ∧ fv x = some v ∧ H dx = some (.xd [(f, v)])
def exE (K : PySem.W.Frag) (cs : List (Str × Option Str)) : EC := ⟨fun c x cls dd H => ∃ y ∈ cs, nm y.1 = c ∧ exRow K y x cls dd H⟩
def HotAt (fnA : FA) (EX : EC) (X : Cx) : Prop := ∃ (X0 : Cx) (a : Addr) (oe : Obj) (pn : List (Addr × Obj)) (cls : Value) (d : Option Addr), X = X0.suite a ((a, oe) :: pn) ∧ Zc cls d oe ∧ (∃ vs, oe.data = .fields vs) ∧ ∀ a' c x H, fnA.ex a' c x H → a' = a ∧ EX.exc c x cls d H
structure ExcRow (K : PySem.W.Frag) (prog : Program) (mg : Str → Option Value) (cs : List (Str × Option Str)) (y : Str × Option Str) : Prop where
  gl : mg y.1 = some (.ref (He.ga K y.1))
  made : match y.2 with
    | none => Exc0 K (He.ga K y.1)
    | some f => Exc1 K prog (He.ga K y.1) f
  cc : ExcC K (He.ga K y.1)
  kit : ∀ z ∈ cs, PySem.W.kitOne K (.ref (He.ga K y.1)) (.ref (He.ga K z.1)) = some (Nat.beq (nm y.1) (nm z.1))
  kitV : PySem.W.kitOne K (.ref (He.ga K y.1)) (.type "ValueError") = some true
  kitS : PySem.W.kitOne K (.ref (He.ga K y.1)) (.ref (He.ga K "SayError")) = some true
  exm : PySem.W.exmOne K (.ref (He.ga K y.1)) (.ref (He.ga K "SayError")) = some true
  fld : ∀ f, y.2 = some f → XfC K (He.ga K y.1) ∧ PySem.W.findIn K (.ref (He.ga K y.1)) f = some none
structure ExcsOk (K : PySem.W.Frag) (prog : Program) (mg : Str → Option Value) (cs : List (Str × Option Str)) : Prop where
  say : cs ≠ [] → mg "SayError" = some (.ref (He.ga K "SayError"))
  row : ∀ y ∈ cs, ExcRow K prog mg cs y
structure XOk (P : PD) (N : List Str) (sc : Scope) (Φ : Calls) (Mu : Muts) (K : PySem.W.Frag) (fnA : FA) (EX : EC) (Wx : WX) (X : Cx) : Prop where
  ex : EX = exE K P.excs
  excs : ExcsOk K X.prog X.mg P.excs
  room : P.hot = false → Room 1 X.A
  hotx : P.hot = true → HotAt fnA EX X
  lv : P.tolds ≠ [] → sc.names = P.tnames → LawT X ∧ (∃ k, (∀ x ∈ P.fns, FnAtK k Φ Mu fnA EX X x (nm x)) ∧ ∀ x ∈ P.tolds, TdAt Φ EX X x (k + 2)) ∧ ∀ n a, fnA n a → ∃ x ∈ P.fns, n = nm x ∧ X.mg x = some (.ref a)
  sc : ScOk sc X
  N : X.N = N
  nd : X.N.Nodup
  K : K = X.K
  calm : P.hot = false → X.calm = true
  hu : X.A.units + 200 < cLine
  mg0 : ∀ x, x ∈ P.free → X.mg x = none
  fns : ∀ x ∈ P.fns, FnAt Φ Mu fnA EX X x (nm x)
  consts : ∀ p ∈ P.consts, ConstAt X.mg p.1 p.2
  tk : Takes X Wx
structure SOk (P : PD) (N : List Str) (sc : Scope) (Φ : Calls) (Mu : Muts) (K : PySem.W.Frag) (fnA : FA) (EX : EC) (Wx : WX) (X : Cx) : Prop where
  x : XOk P N sc Φ Mu K fnA EX Wx X
  pass : PassesOwn (model X.prog X.w) X.A X.env X.xe
def noT (P : PD) : PD := { P with tolds := [] }
theorem XOk.blk {P : PD} {N : List Str} {sc scope : Scope} {Φ : Calls} {Mu : Muts} {K : PySem.W.Frag} {fnA : FA} {EX : EC} {Wx : WX} {X : Cx} (h : XOk P N sc Φ Mu K fnA EX Wx X) (hh : P.hot = false) (ht : P.tolds ≠ [] → scope.names ≠ P.tnames) (hk : scope.kind = .function) (s0 : Shared) (H : Hp) (C : Addr) (cl : List (Str × Addr)) (fp : List Addr) :
    XOk P N scope Φ Mu K fnA EX noW (X.blk s0 H scope (compEnvC scope cl C X.env) fp) where
  sc := ScOk.blk hk s0 H C cl fp
  N := h.N
  nd := h.nd
  K := h.K
  calm := h.calm
  hu := h.hu
  mg0 := h.mg0
  fns := fun x hx => by
    obtain ⟨k, hF⟩ := h.fns x hx
    exact ⟨k, ⟨hF.ex⟩⟩
  consts := h.consts
  tk := takes0
  ex := h.ex
  excs := h.excs
  room := h.room
  hotx := fun z => by rw [hh] at z; cases z
  lv := fun z1 z2 => absurd z2 (ht z1)
theorem blk_ok {N : List Str} {sc scope : Scope} {own : List (Str × Nat)} {X : Cx} (s : ScOk sc X) (hN : X.N = N) (h : blkC N sc scope own = true) : BlkOk X.N X.env.scope scope own := by
  have b := blkOk_by h
  refine ⟨b.kind, b.uniq, ?_, fun y hy e => ?_, ?_⟩
  · rw [hN]; exact b.ix
  · rcases b.free y hy e with z | z
    · exact .inl (s.keep _ _ (by decide) z)
    · rcases s.free _ z with q | q
      · exact .inr q
      · exact .inl q
  · rw [hN]; exact b.own
end QE
namespace QE
open PySem L2 PySem.Spec PyProof.Rows
def notComp : Expr → Bool
  | .ListComp .. | .SetComp .. | .DictComp .. => false
  | _ => true
theorem swaps_not {e : Expr} {t : Option Expr} {l : Nat} {env : PySem.Env} (h : notComp e = true) : swapsWith e t l env = pure false := by
  cases e <;> first | (cases h; done) | rfl
def notSet : Expr → Bool
  | .Set .. => false
  | _ => true
theorem folded_ok {e : Expr} {env : PySem.Env} (h : notSet e = true) : ∀ x, foldedSetIterable e env x = pure x := by
  intro x
  cases e <;> first | (cases h; done) | rfl
theorem behind_ok {op : CmpOp} {e : Expr} (h : notSet e = true) : behindInMarks op e = false := by
  cases e <;> first | (cases h; done) | rfl
theorem last_ok {op op' : CmpOp} {e e' : Expr} (h : notSet e' = true) : lastMarks [op, op'] [e, e'] = false := behind_ok h
def swapB (y : Str) (py : Pos) (scope : Scope) (pos : Pos) : Bool := (py.line == pos.line) && !(scope.names.any fun (n, k) => n == y && (k == .local || k == .cell))
theorem sw_cell {elt : Expr} {gs : List Comprehension} {scope : Scope} {pos py : Pos} {y : Str} {l : Nat} {env : PySem.Env} (hy : env.scope.names.lookup y = some .cell) : swapsWith (.ListComp elt gs scope pos) (some (.Name y py)) l env = pure false := by
  have ky : env.kindOf y = some .cell := hy
  unfold swapsWith
  simp only [ky]
  have : (some NameKind.cell == some NameKind.local) = false := rfl
  simp only [this, Bool.and_false, Bool.false_and]
theorem sw_loc {elt : Expr} {gs : List Comprehension} {scope : Scope} {pos py : Pos} {y : Str} {l : Nat} {env : PySem.Env} (hk : env.scope.kind = .function) (hy : env.scope.names.lookup y = some .local) : swapsWith (.ListComp elt gs scope pos) (some (.Name y py)) l env = pure (swapB y py scope pos) := by
  have ky : env.kindOf y = some .local := hy
  have hb : env.blockKind = .function := by unfold Env.blockKind; rw [hk]; rfl
  unfold swapsWith swapB
  simp only [hb, ky, Expr.pos]
  simp
theorem any_star : ∀ {es : List Expr} (f : Expr → Bool), plainEs es = true → (∀ e, notStar e = true → f e = false) → es.any f = false
  | [], _, _, _ => rfl
  | e :: es, f, h, hf => by
    obtain ⟨h1, h2⟩ := plain_cons h
    rw [List.any_cons, any_star f h2 hf, hf e h1]; rfl
theorem fm2 (f : Expr → Option Str) {a b : Expr} {x y : Str} (h1 : f a = some x) (h2 : f b = some y) : [a, b].filterMap f = [x, y] := by
  simp only [List.filterMap_cons, h1, h2, List.filterMap_nil]
theorem fm3 (f : Expr → Option Str) {a b c : Expr} {x y z : Str} (h1 : f a = some x) (h2 : f b = some y) (h3 : f c = some z) : [a, b, c].filterMap f = [x, y, z] := by
  simp only [List.filterMap_cons, h1, h2, h3, List.filterMap_nil]
theorem st_two {x y : Str} {px py pt pt2 : Pos} {kt k2 : Nat} {a b : Expr} {env : PySem.Env} (hk : env.scope.kind = .function) (hx : env.scope.names.lookup x = some .local) (hy : env.scope.names.lookup y = some .local) (hpy : (py.line == px.line) = true) (hn : ([x, y].eraseDups.length != 2) = false)
    (hs : plainEs [a, b] = true) (hf : [a, b].all (foldedForSure 8) = false) (hc : [a, b].all (constantsAlone 8) = false) : swappedStores [.Tuple [.Name x px, .Name y py] kt pt] (.Tuple [a, b] k2 pt2) env = pure (some [x, y]) := by
  have kx : env.kindOf x = some .local := hx
  have ky : env.kindOf y = some .local := hy
  have hb : env.blockKind = .function := by unfold Env.blockKind; rw [hk]; rfl
  unfold swappedStores
  dsimp only
  rw [if_neg, if_neg, if_neg, if_neg, if_neg, fm2 (x := x) (y := y)]
  · simp [kx, Expr.pos]
  · simpa [ky, Expr.pos] using hpy
  · rw [hc]; exact Bool.false_ne_true
  · rw [hf]; exact Bool.false_ne_true
  · rw [fm2 (x := x) (y := y)]
    · rw [show ([x, y].length != [Expr.Name x px, Expr.Name y py].length) = false from rfl, show ([x, y].eraseDups.length != [x, y].length) = false from hn]
      exact Bool.false_ne_true
    · simp [kx, Expr.pos]
    · simpa [ky, Expr.pos] using hpy
  · rw [any_star _ hs fun e he => ?_]
    · exact Bool.false_ne_true
    · cases e <;> first | (cases he; done) | rfl
  · rw [hb]; exact Bool.false_ne_true
theorem st_three {x y z : Str} {px py pz pt pt2 : Pos} {kt k2 : Nat} {a b c : Expr} {env : PySem.Env} (hk : env.scope.kind = .function) (hx : env.scope.names.lookup x = some .local) (hy : env.scope.names.lookup y = some .local) (hz : env.scope.names.lookup z = some .local) (hpy : (py.line == px.line) = true) (hpz : (pz.line == px.line) = true) (hn : ([x, y, z].eraseDups.length != 3) = false)
    (hs : plainEs [a, b, c] = true) (hf : [a, b, c].all (foldedForSure 8) = false) (hc : [a, b, c].all (constantsAlone 8) = false) : swappedStores [.Tuple [.Name x px, .Name y py, .Name z pz] kt pt] (.Tuple [a, b, c] k2 pt2) env = pure (some [x, y, z]) := by
  have kx : env.kindOf x = some .local := hx
  have ky : env.kindOf y = some .local := hy
  have kz : env.kindOf z = some .local := hz
  have hb : env.blockKind = .function := by unfold Env.blockKind; rw [hk]; rfl
  unfold swappedStores
  dsimp only
  rw [if_neg, if_neg, if_neg, if_neg, if_neg, fm3 (x := x) (y := y) (z := z)]
  · simp [kx, Expr.pos]
  · simpa [ky, Expr.pos] using hpy
  · simpa [kz, Expr.pos] using hpz
  · rw [hc]; exact Bool.false_ne_true
  · rw [hf]; exact Bool.false_ne_true
  · rw [fm3 (x := x) (y := y) (z := z)]
    · rw [show ([x, y, z].length != [Expr.Name x px, Expr.Name y py, Expr.Name z pz].length) = false from rfl, show ([x, y, z].eraseDups.length != [x, y, z].length) = false from hn]
      exact Bool.false_ne_true
    · simp [kx, Expr.pos]
    · simpa [ky, Expr.pos] using hpy
    · simpa [kz, Expr.pos] using hpz
  · rw [any_star _ hs fun e he => ?_]
    · exact Bool.false_ne_true
    · cases e <;> first | (cases he; done) | rfl
  · rw [hb]; exact Bool.false_ne_true
theorem st_folded {ts vs : List Expr} {pt pt2 : Pos} {kt k2 : Nat} {env : PySem.Env} (hf : vs.all (foldedForSure 8) = true) : swappedStores [.Tuple ts kt pt] (.Tuple vs k2 pt2) env = pure none := by
  unfold swappedStores
  dsimp only
  split
  · rfl
  · split
    · rfl
    · split
      · rfl
      · first | rfl | rw [if_pos hf]
theorem filterMap_short {f : Expr → Option Str} : ∀ {ts : List Expr}, ts.any (fun t => (f t).isNone) = true → (ts.filterMap f).length < ts.length
  | [], h => by cases h
  | t :: ts, h => by
    rw [List.any_cons, Bool.or_eq_true] at h
    have hle : (ts.filterMap f).length ≤ ts.length := List.length_filterMap_le ..
    rw [List.filterMap_cons]
    cases e : f t with
    | none => simp only [List.length_cons]; omega
    | some z =>
      rw [e] at h
      rcases h with h | h
      · cases h
      · have := filterMap_short h
        simp only [List.length_cons]; omega
end QE
namespace QE
open PySem L2 PySem.Spec PyProof.Rows
def TPs (ts : List Tg) : TGs := fun vs σ H Q => ∃ C F ρ ds ρ', StOk C (vs.zip ds ++ F) σ ρ H ∧ vs.length = ds.length ∧ parT ts ds ρ = some ρ' ∧ ∀ σ', StOk C F σ' ρ' H → Q σ' H
section
variable {Φ : Calls} {Mu : Muts} {W : Nat} {K : PySem.W.Frag} {fnA : FA} {EX : EC} {Wx : WX} {X : Cx} {es ts : List Expr} {tgs : List Tg} {ies : List IE} {x : Str} {i : Nat} {pos tpos p2 : Pos} {kt k2 : Nat}
theorem p_nil : PGs X [] (TPs []) := by
  refine weakGs pgs_nil fun vs σ H Q q => ?_
  obtain ⟨C, F, ρ, ds, ρ', st, hl, hb, k⟩ := q
  cases ds with
  | nil =>
    cases hb
    have : vs = [] := List.length_eq_zero_iff.mp hl
    subst this
    exact ⟨rfl, k σ st⟩
  | cons d ds => cases hb
theorem p_cons (hN : X.N.Nodup) (hi : X.N[i]? = some x) (hx : Loc X.env.scope x) (hf : X.fn x = true ∨ X.env.scope.names.lookup x = some .local) (h2 : PGs X ts (TPs tgs)) : PGs X (.Name x pos :: ts) (TPs (.var i :: tgs)) := by
  refine weakGs (pgs_cons (pg_name hN hi hx hf) h2 (by rw [each_cons rfl]; rfl)) fun vs σ H Q q => ?_
  obtain ⟨C, F, ρ, ds, ρ', st, hl, hb, k⟩ := q
  match vs, ds, hl, hb with
  | v :: vs, d :: ds, hl, hb =>
    have hb : parT tgs ds (setS ρ i (some d)) = some ρ' := hb
    refine ⟨v, vs, rfl, ?_⟩
    have st : StOk C ((v, d) :: (vs.zip ds ++ F)) σ ρ H := st
    exact ⟨C, F, _, ds, ρ', st.putAny, by simpa using hl, hb, k⟩
  | [], d :: ds, hl, _ => cases hl
  | _ :: _, [], _, hb => cases hb
  | [], [], _, hb => cases hb
theorem parT_len : ∀ {ts : List Tg} {ds : List D} {ρ ρ' : Env}, parT ts ds ρ = some ρ' → ds.length = ts.length
  | [], [], _, _, _ => rfl
  | [], _ :: _, _, _, h => by cases h
  | t :: ts, [], _, _, h => by cases t <;> cases h
  | .var i :: ts, d :: ds, ρ, ρ', h => congrArg (· + 1) (parT_len (show parT ts ds (setS ρ i (some d)) = some ρ' from h))
  | .tup us :: ts, d :: ds, ρ, ρ', h => by
    have h : ((bindT (.tup us) d ρ).bind fun ρ1 => parT ts ds ρ1) = some ρ' := h
    obtain ⟨ρ1, _, h2⟩ := Option.bind_eq_some_iff.mp h
    exact congrArg (· + 1) (parT_len h2)
theorem s_parT (hc : X.calm = true) (hw : swappedStores [.Tuple ts kt tpos] (.Tuple es k2 p2) X.env = pure none) (hg : PGs X ts (TPs tgs)) (hp : plainEs ts = true) (hl : ts.length = tgs.length) (hm : tgs.length ≤ sizeLine) (h : PA X es (TPar Φ Mu K fnA EX Wx ies)) :
    PS X (.Assign [.Tuple ts kt tpos] (.Tuple es k2 p2) pos) (TSt Φ Mu W K fnA EX Wx (.par tgs ies)) := by
  refine weakS (ps_asg (pe_tup h) (pg_tup (n := tgs.length) hc hg (by rw [each_len hp, hl]) (each_star hp _)) (show swapsWith (.Tuple es k2 p2) (some (.Tuple ts kt tpos)) pos.line X.env = pure false from swaps_tup) hw rfl) fun D0 σ H q => ?_
  obtain ⟨C, F, ρ, hC, st, p⟩ := q
  have p : post ((evPar Φ Mu ies ρ).bind fun r => (Res.of (parT tgs r.1 r.2)).bind fun ρ2 => .ok (.nx ρ2)) (fwP C F D0) (fun c x => ∀ σ', ErrP EX Wx C σ' c x) := p
  refine ⟨C, F, ρ, hC, st, post_mono (post_bind p) (fun r k => ?_) fun _ _ z => z σ⟩
  obtain ⟨ds, ρ1⟩ := r
  intro vs H1 hlen s1
  simp only at k hlen
  cases eb : parT tgs ds ρ1 with
  | none => rw [eb] at k; exact k.elim
  | some ρ2 =>
    rw [eb] at k
    have k : ∀ σ' H', StOk C F σ' ρ2 H' → D0.nx σ' H' := k
    have l2 := parT_len eb
    refine ⟨by rw [hlen, l2]; exact hm, fun p hp => ?_⟩
    refine ⟨p, vs, rfl, .inl (.inl upd_same), by rw [hlen, l2], C, F, ρ1, ds, ρ2, ⟨s1.ok, s1.good.step0 (KeepS.new hp)⟩, hlen, eb, fun σ' s2 => k σ' _ s2⟩
theorem st_many {env : PySem.Env} (h : (ts.length == 2 || ts.length == 3) = false) : swappedStores [.Tuple ts kt tpos] (.Tuple es k2 p2) env = pure none := by
  unfold swappedStores
  dsimp only
  rw [if_pos]
  rw [h]; rfl
theorem st_cell {y : Str} {py : Pos} {env : PySem.Env} (hm : Expr.Name y py ∈ ts) (hy : env.scope.names.lookup y = some .cell) : swappedStores [.Tuple ts kt tpos] (.Tuple es k2 p2) env = pure none := by
  have ky : env.kindOf y = some .cell := hy
  unfold swappedStores
  dsimp only
  split
  · rfl
  · split
    · rfl
    · rw [if_pos]
      rw [Bool.or_eq_true]
      left
      have h := filterMap_short (f := fun
        | .Name id pos => if env.kindOf id == some .local && pos.line == (ts.head?.map (·.pos.line)).getD 0 then some id else none
        | _ => none) (ts := ts) (List.any_eq_true.mpr ⟨_, hm, by simp [ky]⟩)
      rw [bne_iff_ne]
      exact Nat.ne_of_lt h
end
end QE
namespace QE
open PySem L2 PySem.Spec PyProof.Rows
theorem ip_mulW {X : Cx} : PIp X .Mult (fun x y H Q => ∃ i j, x = .int i ∧ y = .int j ∧ CMulW i j ∧ Q (.int (i * j)) H) := by
  intro pins s σ H x y v u Q I r1 r2 h
  obtain ⟨i, j, e1, e2, hc, q⟩ := h
  subst e1; subst e2
  obtain ⟨t, rfl⟩ := r1
  obtain ⟨t', rfl⟩ := r2
  exact imul_int ⟨.int _, H, I.tok _, ⟨_, rfl⟩, q⟩ hc.ok
def augP : Operator → Option Pr
  | .Add => some .add | .Sub => some .sub | .Mult => some .mul
  | _ => none
theorem aug_ok {X : Cx} {op : Operator} {p : Pr} (h : augP op = some p) : ∃ t : TIp, PIp X op t ∧ ∀ (a b c : Int) H Q, prim p [.int a, .int b] = .ok (.int c) → Q (.int c) H → t (.int a) (.int b) H Q := by
  cases op <;> first | (cases h; done) | skip
  · cases h; exact ⟨_, ip_add, fun a b c H Q e q => by cases e; exact ⟨a, b, rfl, rfl, q⟩⟩
  · cases h; exact ⟨_, ip_sub, fun a b c H Q e q => by cases e; exact ⟨a, b, rfl, rfl, q⟩⟩
  · cases h; exact ⟨_, ip_mulW, fun a b c H Q e q => by
      have e : (if mulOk a b then Res.ok (D.int (a * b)) else .bad) = .ok (.int c) := e
      split at e
      · rename_i k
        cases e
        exact ⟨a, b, rfl, rfl, Nat.blt_eq.mp k, q⟩
      · cases e⟩
section
variable {Φ : Calls} {Mu : Muts} {W : Nat} {K : PySem.W.Frag} {fnA : FA} {EX : EC} {Wx : WX} {X : Cx} {e k : Expr} {ie ik : IE} {i : Nat} {x : Str} {pos pos' tpos : Pos} {op : Operator} {p : Pr}
theorem s_aug (hN : X.N.Nodup) (hi : X.N[i]? = some x) (hx : Loc X.env.scope x) (hf : X.fn x = true ∨ X.env.scope.names.lookup x = some .local) (h : EOk Φ Mu K fnA EX Wx X e ie) (ho : augP op = some p) :
    PS X (.AugAssign (.Name x pos') op e pos) (TSt Φ Mu W K fnA EX Wx (.aug i p ie)) := by
  obtain ⟨t, ht, hr⟩ := aug_ok (X := X) ho
  refine weakS (ps_aug hN hi hx h.v ht hf) fun D0 σ H q => ?_
  obtain ⟨C, F, ρ, hC, st, p0⟩ := q
  have e0 : ex Φ Mu W (.aug i p ie) ρ = (match getS ρ i with
    | some (.int a) => (ev Φ Mu ie ρ).bind fun
      | (.int b, ρ1) => (noErr (prim p [.int a, .int b])).bind fun
        | .int c => .ok (.nx (setS ρ1 i (some (.int c))))
        | _ => .bad
      | _ => .bad
    | _ => .bad) := rfl
  rw [e0] at p0
  cases e1 : getS ρ i with
  | none => rw [e1] at p0; exact p0.elim
  | some d0 =>
    rw [e1] at p0
    cases d0 with
    | int a =>
      simp only at p0
      obtain ⟨v, hv0, g0, _⟩ := st.at e1
      cases item_int g0.head
      refine ⟨_, hv0, C, F, ρ, hC, st, post_mono (post_bind p0) (fun r k => ?_) fun _ _ z => z σ⟩
      obtain ⟨d, ρ1⟩ := r
      intro y H1 s1
      cases d with
      | int b =>
        cases item_int s1.good.head
        cases ep : prim p [.int a, .int b] with
        | ok c0 =>
          simp only [ep] at k
          cases c0 with
          | int c =>
            have k : ∀ σ' H', StOk C F σ' (setS ρ1 i (some (.int c))) H' → D0.nx σ' H' := k
            refine hr a b c H1 _ ep (k _ H1 ?_)
            have s2 : StOk C ((V.int c, D.int c) :: F) σ ρ1 H1 := ⟨s1.ok, s1.good.tail.int c⟩
            exact s2.putAny
          | _ => exact k.elim
        | err c z => simp only [ep] at k; exact k.elim
        | bad => simp only [ep] at k; exact k.elim
      | _ => exact k.elim
    | _ => exact p0.elim
theorem get_all (hu : X.A.units + 1 < cLine) : PGet X (fun x y H Q => rIxL X.K x y H Q ∨ ∃ a v, x = .ref a ∧ DGet H a y (some v) ∧ Q v H) := by
  intro pins s σ H x y v u Q I rx ry h
  rcases h with h | h
  · obtain ⟨p, xs, i, z, rfl, rfl, hq, he, q⟩ := h
    cases rx
    obtain ⟨t, rfl⟩ := ry
    obtain ⟨its, r, pl, hz⟩ := I.list hq
    obtain ⟨j, h1, h2, h3, h4, h5⟩ := atI_get he
    obtain ⟨w, ew, rw'⟩ := r.get h2
    have hl := r.length
    have hn := line63
    have fin : EP X pins σ Q w s := ⟨z, H, I, rw', q⟩
    by_cases h0 : 0 ≤ i
    · have hj : i.toNat = j := by
        rw [seqIndex_of h0 h5] at h1
        exact Option.some.inj h1
      exact wpAny_getItem_list pl.isList h0 (by omega) (by rw [hj]; simpa using ew) fin
    · have hj : (i + (its.toArray.size : Int)).toNat = j := by
        rw [seqIndex_neg (by omega) h4] at h1
        rw [List.size_toArray, ← hl]
        exact Option.some.inj h1
      exact wpAny_getItem_list_neg pl.isList (by omega) (by rw [List.size_toArray] <;> omega) (by omega) (by rw [hj]; simpa using ew) fin
  · obtain ⟨a, w, rfl, g, q⟩ := h
    cases rx
    exact d_getItem hu I g ry fun w' s' I' r' => ⟨w, H, I', r', q⟩
theorem s_augS (hu : X.A.units + 1 < cLine) (hN : X.N[i]? = some x) (hv : Vis X.env.scope x) (hd : (x == ("__debug__" : Str)) = false) (hcd : (x == ("__classdict__" : Str)) = false) (hK : K = X.K) (h : EOk Φ Mu K fnA EX Wx X e ie) (hk : EOk Φ Mu K fnA EX Wx X k ik) (ho : augP op = some p)
    (ha : ∀ ov iv new, augStore k ov iv new = (do holding [new, ov, iv] (PySem.setItem ov iv new); release [new, ov, iv] []; pure .next)) :
    PS X (.AugAssign (.Subscript (.Name x pos') k tpos) op e pos) (TSt Φ Mu W K fnA EX Wx (.augS i [] ik p ie)) := by
  obtain ⟨t, ht, hr⟩ := aug_ok (X := X) ho
  refine weakS (ps_augS (pe_var hN hv hd hcd) hk.v (get_all hu) h.v ht (set_all hu) ha) fun D0 σ H q => ?_
  obtain ⟨C, F, ρ, hC, st, p0⟩ := q
  have e0 : ex Φ Mu W (.augS i [] ik p ie) ρ = (if (getS ρ i).isSome then (ev Φ Mu ik ρ).bind fun r => match getS r.2 i with
      | some o => if canSet o then (noErr (prim .ix [o, r.1])).bind fun
        | .int a => (ev Φ Mu ie r.2).bind fun
          | (.int b, ρ2) => (noErr (prim p [.int a, .int b])).bind fun
            | .int c => match getS ρ2 i with
              | some o2 => match QE.setItem o2 r.1 (.int c) with
                | some o' => .ok (.nx (setS ρ2 i (some o')))
                | none => .bad
              | none => .bad
            | _ => .bad
          | _ => .bad
        | _ => .bad else .bad
      | none => .bad else .bad) := rfl
  rw [e0] at p0
  split at p0
  · rename_i hsome
    obtain ⟨o1, e1⟩ := Option.isSome_iff_exists.mp hsome
    obtain ⟨v0, hv0, _, _⟩ := st.at e1
    refine ⟨v0, hv0, C, F, ρ, hC, st, post_mono (post_bind p0) (fun r k1 => ?_) fun _ _ z => z σ⟩
    obtain ⟨kd, ρ1⟩ := r
    intro y H1 s1
    simp only at k1
    cases e2 : getS ρ1 i with
    | none => rw [e2] at k1; exact k1.elim
    | some o =>
      rw [e2] at k1
      simp only at k1
      obtain ⟨v1, hv1, g1, _⟩ := s1.at e2
      rw [hv0] at hv1; cases hv1
      cases hcs : canSet o with
      | false => rw [if_neg (by rw [hcs]; exact Bool.false_ne_true)] at k1; exact k1.elim
      | true =>
      rw [if_pos hcs] at k1
      cases ei : prim .ix [o, kd] with
      | err c z => simp only [ei] at k1; exact k1.elim
      | bad => simp only [ei] at k1; exact k1.elim
      | ok a0 =>
        simp only [ei] at k1
        have io : ItemOk C (roots ((v0, o) :: ((y, kd) :: F ++ sl σ (setS ρ1 i none)))) H1 (v0, o) := g1.head
        have ik' : ItemOk C (roots ((v0, o) :: ((y, kd) :: F ++ sl σ (setS ρ1 i none)))) H1 (y, kd) := g1.ok _ (List.mem_cons_of_mem _ List.mem_cons_self)
        cases a0 with
        | int a =>
          have k1 : post ((ev Φ Mu ie ρ1).bind fun
            | (.int b, ρ2) => (noErr (prim p [.int a, .int b])).bind fun
              | .int c => match getS ρ2 i with
                | some o2 => match QE.setItem o2 kd (.int c) with
                  | some o' => .ok (.nx (setS ρ2 i (some o')))
                  | none => .bad
                | none => .bad
              | _ => .bad
            | _ => .bad) (fwP C F D0) (fun c x => ∀ σ', ErrP EX Wx C σ' c x) := k1
          have rest : ∀ z, z = V.int a → TV Φ Mu K fnA EX Wx ie σ H1 fun y4 H4 => t z y4 H4 fun z5 H5 => (rSetL v0 y z5 H5 fun H6 => D0.nx σ H6) ∨ rSetD v0 y z5 H5 fun H6 => D0.nx σ H6 := by
            rintro z rfl
            refine ⟨C, (y, kd) :: F, ρ1, hC, s1, post_mono (post_bind k1) (fun r2 k2 => ?_) fun _ _ z => z σ⟩
            obtain ⟨d, ρ2⟩ := r2
            intro y4 H4 s4
            cases d with
            | int b =>
              cases item_int s4.good.head
              cases ep : prim p [.int a, .int b] with
              | err c z => simp only [ep] at k2; exact k2.elim
              | bad => simp only [ep] at k2; exact k2.elim
              | ok c0 =>
                simp only [ep] at k2
                cases c0 with
                | int c =>
                  refine hr a b c H4 _ ep ?_
                  have k2 : post (match getS ρ2 i with
                    | some o2 => match QE.setItem o2 kd (.int c) with
                      | some o' => Res.ok (Fw.nx (setS ρ2 i (some o')))
                      | none => .bad
                    | none => .bad) (fwP C F D0) (fun c x => ∀ σ', ErrP EX Wx C σ' c x) := k2
                  cases e5 : getS ρ2 i with
                  | none => rw [e5] at k2; exact k2.elim
                  | some o2 =>
                    rw [e5] at k2
                    simp only at k2
                    cases e6 : QE.setItem o2 kd (.int c) with
                    | none => rw [e6] at k2; exact k2.elim
                    | some o' =>
                      rw [e6] at k2
                      have k2 : ∀ σ' H', StOk C F σ' (setS ρ2 i (some o')) H' → D0.nx σ' H' := k2
                      have s5 : StOk C ((y, kd) :: (V.int c, D.int c) :: F) σ ρ2 H4 := by
                        refine ⟨s4.ok, ?_⟩
                        have := (s4.good.tail.int c).perm (List.Perm.swap _ _ _)
                        exact this
                      obtain ⟨v5, hv5, g5, _⟩ := s5.at e5
                      rw [hv0] at hv5; cases hv5
                      exact set_end g5 trivial e6 _ fun H' g' => k2 σ H' (StOk.back s5.ok hv0 g')
                | _ => exact k2.elim
            | _ => exact k2.elim
          cases o with
          | lst f xs =>
            cases kd with
            | int j =>
              cases item_int ik'
              obtain ⟨aa, vs, rfl, rd, rl⟩ := item_lst io
              have ei : Res.of (QE.atI xs j) = .ok (.int a) := ei
              obtain ⟨w, ew, rw'⟩ := rl.atI (of_ok ei)
              cases rw' with
              | int _ => exact .inl ⟨aa, vs, j, _, rfl, rfl, .inl rd, ew, rest _ rfl⟩
            | _ => cases ei
          | dic f tt kvs =>
            have ei : (if keyIs tt kd then Res.of (dfind kd kvs) else .bad) = .ok (.int a) := ei
            split at ei
            · rename_i hkey
              obtain ⟨aa, oo, rfl, hg, h1, _⟩ := dget io ik' hkey
              obtain ⟨w, rfl, rw'⟩ := h1 _ (of_ok ei)
              cases rw' with
              | int _ => exact .inr ⟨aa, _, rfl, hg, rest _ rfl⟩
            · cases ei
          | _ => cases hcs
        | _ => exact k1.elim
  · exact p0.elim
end
end QE
namespace QS
open PySem L2 PySem.Spec PyProof.Rows
abbrev eSet (w : World) : Obj := { cls := .type "set", dict := none, data := .set #[] 0 (.fresh 0 0 (!w.params.followText "set-order")) }
section
variable {P : Program} {w : World} {A : Around} {E : Value → Shared → Prop} {s : Shared}
theorem eset_type {h : Heap} {s0 : Shared} (e : s0.heap = h.push (eSet w)) : s0.TypeIs (.ref h.objs.size) "set" := ⟨_, by rw [e]; exact Heap.get?_push_size _ rfl, rfl⟩
def Upd (w : World) (s : Shared) (ns : List Int) (r : Value) (s₂ : Shared) : Prop := r = .none ∧ ∃ h' tk c, s₂ = { s with heap := h', toks := tk } ∧ SetR w h' s.heap.objs.size (fun j => decide (j ∈ ns)) c ∧ c ≤ ns.length ∧ (∀ b o, s.heap.get? b = some o → h'.get? b = some o)
theorem call_setL {l : Addr} {xs : Array Value} (ns : List Int) {Q : Value → Shared → Prop} (hh : A.handled = none) (hl : s.heap.IsList l xs) (hi : IntsAre xs.toList ns) (hb : ns.length + 1 < scanBound)
    (q : ∀ (h' : Heap) (tk c : Nat), SetR w h' s.heap.objs.size (fun j => decide (j ∈ ns)) c → c ≤ ns.length → (∀ b o, s.heap.get? b = some o → h'.get? b = some o) → Q (.ref s.heap.objs.size) { s with heap := h', toks := tk }) :
    wpAny (model P w) A (call (.type "set") [.ref l]) Q E s := by
  have hsz : xs.size = ns.length := (Array.length_toList).symm.trans hi.length
  obtain ⟨c, tl, m1⟩ := F.called_set.mro
  have m2 := F.called_set.made
  have m3 := F.called_set.sub
  refine wpAny_call (codeAny_of_tree ?_)
  show wpAny _ _ (callAny (.type "set") _) _ _ _
  refine wpAny_pure ⟨Code.quiet_builtin _ (by decide +kernel), codeAny_builtin F.entry_type_call ?_⟩
  rw [Around.under_plain (weight_type_call_type "set" [.ref l] []) rfl]
  have n1 := F.called_set.notType
  have n2 := F.called_set.canCreate
  have n3 := F.typeCall_set_1 (.ref l)
  repeat (any_goals (first | assumption | wp_step))
  refine codeAny_mono (code_set_led1 (.ref l) (E := E) (Q₁ := fun u s₁ => u = .ref s.heap.objs.size ∧ s₁ = { s with heap := s.heap.push (eSet w) }) ⟨rfl, rfl⟩) fun r s₁ k => ?_
  cases r with
  | error e => exact k
  | ok fl =>
    cases fl with
    | ret u =>
      obtain ⟨rfl, rfl⟩ := k
      have at0 : (s.heap.push (eSet w)).get? s.heap.objs.size = some (eSet w) := Heap.get?_push_size _ rfl
      have ty : Shared.TypeIs { s with heap := s.heap.push (eSet w) } (.ref s.heap.objs.size) "set" := eset_type (w := w) rfl
      have i1 := F.called_set.init.lookup
      have i2 := F.called_set.init.bind (.ref s.heap.objs.size)
      repeat (any_goals (first | assumption | wp_step))
      refine codeAny_mono (codeAny_call_builtin (R := wants (Upd w s ns) E) F.called_set.init.plain F.entry_set_init (check_set_init_1 ty ?_)) fun r₂ s₂ k₂ => ?_
      · obtain ⟨⟨oc, od, dt, os⟩, ho, hc, nl, hd⟩ := hl
        simp only at hc hd
        subst hc; subst hd
        have ho' : (s.heap.push (eSet w)).get? l = some { cls := .type "list", dict := od, data := .seq xs nl, slots := os } := Heap.get?_push_of_some _ ho
        have b1 := F.sub_list_set
        have b2 := F.sub_list_frozenset
        have b3 : (Value.type "list" == Value.type "dict") = false := by decide
        have hl1 : (s.heap.push (eSet w)).IsList l xs := ⟨_, ho', rfl, nl, rfl⟩
        unfold Builtin.«set.__init__» noKeywords Builtin.Frozenset.updateFrom
        generalize hPI : pyIter = PI
        wp_walk
        subst hPI
        refine wpAny_pyIter_list hl1 ?_
        refine wpAny_bind (wpAny_runValue ?_)
        have lt : l < s.heap.objs.size := Heap.lt_size ho
        have h3 : A.in1.in1.in1.handled = none := by simp [hh]
        have ne1 : l ≠ (s.heap.push (eSet w)).objs.size := by
          rw [Heap.size_push]
          exact Nat.ne_of_lt (Nat.lt_succ_of_lt lt)
        have nf : s.heap.objs.size ∉ [(s.heap.push (eSet w)).objs.size, l] := by
          rw [Heap.size_push]
          intro z
          rcases List.mem_cons.mp z with e | z
          · exact Nat.ne_of_lt (Nat.lt_succ_self _) e
          · exact Nat.ne_of_gt lt (List.mem_singleton.mp z)
        have hv : ∀ (i : Nat) (v : Value), xs[i]? = some v → ∃ k t, ns[i]? = some k ∧ v = .int k t := fun i v e => by
          have lt2 : i < ns.length := by rw [← hsz]; exact (Array.getElem?_eq_some_iff.mp e).1
          obtain ⟨t, e2⟩ := IntsAre.int_at hi i v (by rw [Array.getElem?_toList]; exact e)
          refine ⟨ns[i], t, List.getElem?_eq_getElem lt2, ?_⟩
          rw [e2, List.getD_eq_getElem?_getD, List.getElem?_eq_getElem lt2]
          rfl
        refine set_update_ints ((Walks.list h3 _ l ne1 xs).toS) s.heap.objs.size nf ns hsz hb hv (xs.size - 0) 0 _ (by omega) (Nat.zero_le _) ⟨⟨_, Heap.get?_push_size _ rfl, rfl, rfl⟩, (hl1.push _)⟩ ?c0 ?c1
        case c0 => exact ⟨0, Nat.le_refl 0, setR_new_at (Heap.get?_push_of_some _ at0)⟩
        case c1 =>
          rintro ⟨h', g', d', tk', os'⟩ c' mv hc' new
          obtain rfl : g' = s.gens := mv.gens
          obtain rfl : d' = s.drawn := mv.drawn
          obtain rfl : os' = s.os := mv.os
          show wpAny _ _ _ _ _ _
          refine wpAny_pure ?_
          show wpAny _ _ (ret Value.none) _ _ _
          refine wpAny_pure ⟨rfl, h', tk', c', rfl, new, by rw [hsz] at hc'; exact hc', fun b o e => ?_⟩
          have lb : b < s.heap.objs.size := Heap.lt_size e
          refine mv.heap b o (fun z => ?_) (Heap.get?_push_of_some _ (Heap.get?_push_of_some _ e))
          rcases List.mem_cons.mp z with e1 | z
          · exact Nat.ne_of_lt lb e1
          · rw [List.mem_singleton, Heap.size_push] at z
            exact Nat.ne_of_lt (Nat.lt_succ_of_lt lb) z
      · cases r₂ with
        | error e => exact k₂
        | ok fl₂ =>
          cases fl₂ with
          | ret r =>
            obtain ⟨rfl, h', tk, c', rfl, new, hc', keep⟩ := k₂
            repeat (any_goals (first | assumption | wp_step))
            exact q _ _ _ new hc' keep
          | _ => exact k₂.elim
    | _ => exact k.elim
end
theorem insU_mem (x y : Int) : ∀ (l : List Int), y ∈ QE.insU x l ↔ y = x ∨ y ∈ l
  | [] => by simp [QE.insU]
  | z :: r => by
    unfold QE.insU
    split
    · simp
    · split
      · rename_i e
        have e : x = z := eq_of_beq e
        subst e
        simp
      · rw [List.mem_cons, insU_mem x y r, List.mem_cons]
        constructor
        · rintro (h | h | h)
          · exact .inr (.inl h)
          · exact .inl h
          · exact .inr (.inr h)
        · rintro (h | h | h)
          · exact .inr (.inl h)
          · exact .inl h
          · exact .inr (.inr h)
theorem insU_rise (x : Int) : ∀ (l : List Int), l.Pairwise (· < ·) → (QE.insU x l).Pairwise (· < ·)
  | [], _ => by simp [QE.insU]
  | z :: r, h => by
    obtain ⟨h1, h2⟩ := List.pairwise_cons.mp h
    unfold QE.insU
    split
    · rename_i c
      refine List.pairwise_cons.mpr ⟨fun y hy => ?_, h⟩
      rcases List.mem_cons.mp hy with rfl | hy
      · exact c
      · exact Int.lt_trans c (h1 y hy)
    · split
      · exact h
      · rename_i c e
        have e : ¬ x = z := fun q => e (by simp [q])
        refine List.pairwise_cons.mpr ⟨fun y hy => ?_, insU_rise x r h2⟩
        rcases (insU_mem x y r).mp hy with rfl | hy
        · omega
        · exact h1 y hy
theorem sortU_mem (y : Int) : ∀ (l : List Int), y ∈ QE.sortU l ↔ y ∈ l
  | [] => Iff.rfl
  | x :: r => by
    show y ∈ QE.insU x (QE.sortU r) ↔ _
    rw [insU_mem, sortU_mem y r, List.mem_cons]
theorem sortU_rise : ∀ (l : List Int), (QE.sortU l).Pairwise (· < ·)
  | [] => List.Pairwise.nil
  | x :: r => insU_rise x _ (sortU_rise r)
theorem rise_one {a b : List Int} (ha : a.Pairwise (· < ·)) (hb : b.Pairwise (· < ·)) (h : ∀ k, k ∈ a ↔ k ∈ b) : a = b := by
  refine List.Perm.eq_of_pairwise (le := fun x y => x < y) (fun x y _ _ h1 h2 => by omega) ha hb ?_
  exact (List.perm_ext_iff_of_nodup (ha.imp fun z => by omega) (hb.imp fun z => by omega)).mpr h
theorem same_len {a b : List Int} (ha : a.Nodup) (hb : b.Nodup) (h : ∀ k, k ∈ a ↔ k ∈ b) : a.length = b.length := ((List.perm_ext_iff_of_nodup ha hb).mpr h).length_eq
section
variable {X : Cx}
def rSetL (K : PySem.W.Frag) (w : World) : List V → Hp → VK → Prop := fun vs H Q => ∃ (a : Addr) (ns : List Int), vs = [V.ref a] ∧ SqL K H a (ns.map V.int) ∧ ns.length < 4095 ∧
  ∀ (p : Addr), H p = none → Q (.ref p) (upd H p (SetO w p (fun j => decide (j ∈ ns)) (QE.sortU ns).length))
theorem cr_setL (hc : X.calm = true) : CallR X (.type "set") (rSetL X.K X.w) := by
  intro pins s σ H vs us Q I r h
  obtain ⟨a, ns, rfl, hs, hn, q⟩ := h
  obtain ⟨its, rv, hl, _⟩ := I.list hs
  rw [Vals.ref1 r]
  refine call_setL ns (I.ok.hd hc) hl.isList rv.ints (by show ns.length + 1 < 4096; omega) fun h' tk c R hc' k => ?_
  have ec : c = (QE.sortU ns).length := by
    obtain ⟨o, es, ep, t, _, _, _, _, nd, hm, _, _, e, _⟩ := R
    rw [← e, ← Array.length_toList, ← List.length_map (f := keyOf)]
    refine same_len nd ((sortU_rise ns).imp fun z => by omega) fun k => ?_
    rw [← hm k, sortU_mem]
    exact decide_eq_true_iff
  subst ec
  exact ⟨.ref _, upd H s.heap.objs.size (SetO X.w s.heap.objs.size (fun j => decide (j ∈ ns)) (QE.sortU ns).length), I.laid (t' := tk) k (Nat.le_refl _) (setO_new R), rfl, q _ (I.hok.fresh (Nat.le_refl _))⟩
end
end QS
namespace QE
open PySem L2 PySem.Spec PyProof.Rows
section
variable {X : Cx}
theorem sortedSet_ok {C : RC} {its : List (V × D)} {H : Hp} {x : V} {dx d : D} {Q : VK} (hK : C.K = X.K) (g : Good C its H) (hx : ItemOk C (roots its) H (x, dx)) (e : prim .sortedSet [dx] = .ok d) (q : ∀ v H', Good C ((v, d) :: its) H' → Q v H') :
    QS.rSetL X.K X.w [x] H fun y H1 => rSortedSet X.w [y] H1 Q := by
  cases dx with
  | lst f s =>
    obtain ⟨a, vs, rfl, ha, r⟩ := item_lst hx
    have e : (match intsD s with
      | some r => if Nat.blt r.length 4095 && Nat.blt (sortU r).length 64 then Res.ok (D.lst .own ((sortU r).map .int)) else .bad
      | none => .bad) = .ok d := e
    split at e
    · rename_i ns en
      split at e
      · rename_i c
        rw [Bool.and_eq_true] at c
        cases e
        rw [r.intsD en] at ha
        refine ⟨a, ns, rfl, .inl ha, Nat.blt_eq.mp c.1, fun p hp => ?_⟩
        refine ⟨p, _, _, rfl, upd_same, Nat.blt_eq.mp c.2, fun ns' p' pw hm hl hp' => ?_⟩
        have e2 : ns' = sortU ns := QS.rise_one pw (QS.sortU_rise ns) fun k => by
          rw [hm k, QS.sortU_mem]
          exact decide_eq_true_iff
        rw [e2]
        have g2 := g.step0 (KeepS.new (o := SetO X.w p (fun j => decide (j ∈ ns)) (sortU ns).length) hp)
        exact q _ _ (g2.newL (.ofInts _) hp')
      · cases e
    · cases e
  | _ => cases e
end
end QE
namespace QE
open PySem L2 PySem.Spec PyProof.Rows
section
variable {Φ : Calls} {Mu : Muts} {K : PySem.W.Frag} {fnA : FA} {EX : EC} {Wx : WX} {X : Cx} {a : Expr} {ia : IE} {pf ps p2 pos : Pos}
theorem plain1 (h : notStar a = true) : plainEs [a] = true := by simp [plainEs, h]
theorem e_sortedSet (hc : X.calm = true) (hK : K = X.K) (hg : Gl X "sorted") (hm : X.mg "sorted" = none) (hg2 : Gl X "set") (hm2 : X.mg "set" = none) (hs : notStar a = true) (ha : EOk Φ Mu K fnA EX Wx X a ia) :
    EOk Φ Mu K fnA EX Wx X (.Call (.Name "sorted" pf) [.Call (.Name "set" ps) [a] [] p2] [] pos) (.pr .sortedSet [ia]) :=
  EOk.of (weakE (pe_callB (cr_sortedSet hc) hg hm (by decide +kernel) (pa_cons (pe_callTy (QS.cr_setL hc) hg2 hm2 (by decide +kernel) (pa_cons ha.o pa_nil (plain_star (plain1 hs) _)) (by decide) (by decide) (plain_star (plain1 hs) _) rfl) pa_nil rfl) (by decide) (by decide) rfl rfl)
    (pr1 (fun C its H x dx d Q hK' g hx e q => sortedSet_ok hK' g hx e q) hK ha)) rfl
end
end QE
namespace QE
open PySem L2 PySem.Spec PyProof.Rows
section
variable (Φ : Calls) (Mu : Muts) (K : PySem.W.Frag) (fnA : FA) (EX : EC) (Wx : WX)
def TVst (es : List IE) : TA := fun σ H Q => ∃ C F ρ, CtxOk K fnA C ∧ StOk C F σ ρ H ∧ post (evSt Φ Mu es ρ) (fun r => ∀ vs H', vs.length = r.1.length → (∀ d ∈ r.1, NotOwn d) → StOk C (vs.zip r.1 ++ F) σ r.2 H' → Q vs H') (ErrP EX Wx C σ)
end
section
variable {Φ : Calls} {Mu : Muts} {K : PySem.W.Frag} {fnA : FA} {EX : EC} {Wx : WX} {X : Cx} {e : Expr} {ie : IE} {pos p : Pos}
theorem Good.addRow {C : RC} {H : Hp} {its : List (V × D)} (g : Good C its H) : ∀ {vs : List V} {ds : List D}, RepL C (roots its) H vs ds → Good C (vs.zip ds ++ its) H ∧ roots (vs.zip ds ++ its) = roots its
  | _, _, .nil => ⟨g, rfl⟩
  | _, _, .cons (v := v) (d := d) h r => by
    obtain ⟨g1, e1⟩ := Good.addRow g r
    rw [← e1] at h
    refine ⟨g1.add h, ?_⟩
    rw [← e1]
    show roots ((v, d) :: _) = _
    rw [roots_cons, root_not h.notOwn]; rfl
theorem repL_not {C : RC} {O : List Addr} {H : Hp} : ∀ {vs : List V} {ds : List D}, RepL C O H vs ds → ∀ d ∈ ds, NotOwn d
  | _, _, .nil, d, hd => nomatch hd
  | _, _, .cons h r, d, hd => by
    rcases List.mem_cons.mp hd with rfl | hd
    · exact h.notOwn
    · exact repL_not r d hd
theorem pst_nil : PA X [] (TVst Φ Mu K fnA EX Wx []) := weakA pa_nil fun σ H Q q => by
  obtain ⟨C, F, ρ, hC, st, p⟩ := q
  have p : ∀ vs H', vs.length = 0 → (∀ d ∈ ([] : List D), NotOwn d) → StOk C (vs.zip [] ++ F) σ ρ H' → Q vs H' := p
  exact p [] H rfl (fun _ z => nomatch z) st
theorem pst_cons {es : List Expr} {ies : List IE} (h : EOk Φ Mu K fnA EX Wx X e ie) (hr : PA X es (TVst Φ Mu K fnA EX Wx ies)) (hs : ∀ z p, e ≠ .Starred z p) (hi : isStar ie = false) : PA X (e :: es) (TVst Φ Mu K fnA EX Wx (ie :: ies)) := by
  refine weakA (pa_cons h.v hr (star_free hs)) fun σ H Q q => ?_
  obtain ⟨C, F, ρ, hC, st, p⟩ := q
  have e0 : evSt Φ Mu (ie :: ies) ρ = (ev Φ Mu ie ρ).bind fun r => (shareR r.1).bind fun d' => (evSt Φ Mu ies r.2).bind fun s => .ok ([d'] ++ s.1, s.2) := by
    show ((ev Φ Mu ie ρ).bind fun r => (shareR r.1).bind fun d' => match starOf (isStar ie) d' with | some xs => (evSt Φ Mu ies r.2).bind fun s => .ok (xs ++ s.1, s.2) | none => .bad) = _
    rw [hi]; rfl
  rw [e0] at p
  refine ⟨C, F, ρ, hC, st, post_mono (post_bind p) (fun r k => ?_) fun _ _ z => z⟩
  intro v H1 st1
  obtain ⟨hm, k⟩ := post_share k
  have st2 : StOk C ((v, share r.1) :: F) σ r.2 H1 := ⟨st1.ok, st1.good.share1 hm⟩
  refine ⟨C, _, r.2, hC, st2, post_mono (post_bind k) (fun s k2 => ?_) fun _ _ z => z⟩
  intro vs H2 hl hn st3
  refine k2 (v :: vs) H2 (by simp [hl]) (fun d hd => ?_) (st3.permF ?_)
  · rcases List.mem_cons.mp hd with rfl | hd
    · exact share_not hm
    · exact hn d hd
  show (vs.zip s.1 ++ (v, share r.1) :: F).Perm ((v, share r.1) :: (vs.zip s.1 ++ F))
  exact List.perm_middle
theorem row_of {C : RC} {O : List Addr} {H : Hp} {v : V} {d : D} {xs : List D} (h : starOf true d = some xs) (hi : ItemOk C O H (v, d)) : ∃ p vs, v = .ref p ∧ (SqT C.K H p vs ∨ SqL C.K H p vs) ∧ RepL C O H vs xs := by
  cases d with
  | tup ys =>
    cases h
    obtain ⟨p, vs, rfl, hl, rl⟩ := item_tup hi
    exact ⟨p, vs, rfl, .inl (SqT.of hl), rl⟩
  | lst f ys =>
    cases h
    obtain ⟨p, vs, rfl, hl, rl⟩ := item_lst hi
    exact ⟨p, vs, rfl, .inr (.inl hl), rl⟩
  | _ => cases h
theorem pst_star {es : List Expr} {ies : List IE} (hK : K = X.K) (h : EOk Φ Mu K fnA EX Wx X e ie) (hr : PA X es (TVst Φ Mu K fnA EX Wx ies)) : PA X (.Starred e p :: es) (TVst Φ Mu K fnA EX Wx (.star ie :: ies)) := by
  refine weakA (StX.pa_star h.v hr) fun σ H Q q => ?_
  obtain ⟨C, F, ρ, hC, st, p⟩ := q
  have p : post ((ev Φ Mu ie ρ).bind fun r => (shareR r.1).bind fun d' => match starOf true d' with | some xs => (evSt Φ Mu ies r.2).bind fun s => .ok (xs ++ s.1, s.2) | none => .bad) _ _ := p
  refine ⟨C, F, ρ, hC, st, post_mono (post_bind p) (fun r k => ?_) fun _ _ z => z⟩
  intro v H1 st1
  obtain ⟨hm, k⟩ := post_share k
  have st2 : StOk C ((v, share r.1) :: F) σ r.2 H1 := ⟨st1.ok, st1.good.share1 hm⟩
  cases e1 : starOf true (share r.1) with
  | none => rw [e1] at k; exact k.elim
  | some xs =>
  rw [e1] at k
  obtain ⟨a, ws, rfl, hl, rl⟩ := row_of e1 (st2.good.ok _ List.mem_cons_self)
  have g2 : Good C ((.ref a, share r.1) :: (F ++ sl σ r.2)) H1 := st2.good
  have hnr : roots ((V.ref a, share r.1) :: (F ++ sl σ r.2)) = roots (F ++ sl σ r.2) := by rw [roots_cons, root_not (share_not hm)]; rfl
  have rl2 : RepL C (roots (F ++ sl σ r.2)) H1 ws xs := by rw [← hnr]; exact rl
  have g3 := (g2.tail.addRow rl2).1
  have st3 : StOk C (ws.zip xs ++ F) σ r.2 H1 := ⟨st2.ok, by rw [List.append_assoc]; exact g3⟩
  refine ⟨a, ws, rfl, by rw [← hK, ← hC.K]; exact hl, ?_⟩
  refine ⟨C, _, r.2, hC, st3, post_mono (post_bind k) (fun s k2 => ?_) fun _ _ z => z⟩
  intro vs H2 hl2 hn st4
  have hlen : ws.length = xs.length := rl.length
  refine k2 (ws ++ vs) H2 (by simp [hl2, hlen]) (fun d hd => ?_) (st4.permF ?_)
  · rcases List.mem_append.mp hd with hd | hd
    · exact repL_not rl2 d hd
    · exact hn d hd
  rw [List.zip_append hlen, List.append_assoc]
  exact (List.perm_append_comm_assoc _ _ _)
theorem e_tupS {es : List Expr} {ies : List IE} {k : Nat} (h : PA X es (TVst Φ Mu K fnA EX Wx ies)) : EOk Φ Mu K fnA EX Wx X (.Tuple es k pos) (.tupS ies) := by
  refine EOk.of (weakE (pe_tup h) fun σ H Q q => ?_) rfl
  obtain ⟨C, F, ρ, hC, st, p⟩ := q
  have p : post ((evSt Φ Mu ies ρ).bind fun r => (limT r.1).bind fun d => .ok (d, r.2)) _ _ := p
  refine ⟨C, F, ρ, hC, st, post_mono (post_bind p) (fun r k => ?_) fun _ _ z => z⟩
  intro vs H1 hl hn st1
  unfold limT at k
  split at k
  · rename_i c
    refine ⟨by rw [hl, sizeLine_LIM]; exact Nat.le_of_ble_eq_true c, fun p hp => ?_⟩
    have g := st1.good
    have := g.newT (repL_of (σ := σ) (ρ := ρ) g hn hl fun x hx => List.mem_append_left _ (List.mem_append_left _ hx)) hp
    have k : ∀ v H', StOk C ((v, .tup r.1) :: F) σ r.2 H' → Q v H' := k
    exact k _ _ ⟨st1.ok, this.sub zip_drop⟩
  · exact k.elim
theorem e_lstS {es : List Expr} {ies : List IE} (h : PA X es (TVst Φ Mu K fnA EX Wx ies)) : EOk Φ Mu K fnA EX Wx X (.List es pos) (.lstS ies) := by
  refine EOk.of (weakE (pe_lst h) fun σ H Q q => ?_) rfl
  obtain ⟨C, F, ρ, hC, st, p⟩ := q
  have p : post ((evSt Φ Mu ies ρ).bind fun r => (limL r.1).bind fun d => .ok (d, r.2)) _ _ := p
  refine ⟨C, F, ρ, hC, st, post_mono (post_bind p) (fun r k => ?_) fun _ _ z => z⟩
  intro vs H1 hl hn st1
  unfold limL at k
  split at k
  · rename_i c
    refine ⟨by rw [hl, sizeLine_LIM]; exact Nat.le_of_ble_eq_true c, fun p hp => ?_⟩
    have g := st1.good
    have := g.newL (repL_of (σ := σ) (ρ := ρ) g hn hl fun x hx => List.mem_append_left _ (List.mem_append_left _ hx)) hp
    have k : ∀ v H', StOk C ((v, .lst .own r.1) :: F) σ r.2 H' → Q v H' := k
    exact k _ _ ⟨st1.ok, this.sub zip_drop⟩
  · exact k.elim
end
end QE
namespace QE
open PySem L2 PySem.Spec PyProof.Rows
abbrev InX (P : PD) (N : List Str) (sc : Scope) (p : Calls → Muts → PySem.W.Frag → FA → EC → WX → Cx → Prop) : Prop :=
  ∀ (Φ : Calls) (Mu : Muts) (K : PySem.W.Frag) (fnA : FA) (EX : EC) (Wx : WX) (X : Cx), XOk P N sc Φ Mu K fnA EX Wx X → p Φ Mu K fnA EX Wx X
abbrev InS (P : PD) (N : List Str) (sc : Scope) (p : Calls → Muts → PySem.W.Frag → FA → EC → WX → Cx → Prop) : Prop :=
  ∀ (Φ : Calls) (Mu : Muts) (K : PySem.W.Frag) (fnA : FA) (EX : EC) (Wx : WX) (X : Cx), SOk P N sc Φ Mu K fnA EX Wx X → p Φ Mu K fnA EX Wx X
abbrev ES (P : PD) (N : List Str) (sc : Scope) (e : Expr) := { ie : IE // InX P N sc fun Φ Mu K fnA EX Wx X => EOk Φ Mu K fnA EX Wx X e ie }
abbrev TS' (P : PD) (N : List Str) (sc : Scope) (e : Expr) := { ie : IE // InX P N sc fun Φ Mu K fnA EX Wx X => PT X e (TB Φ Mu K fnA EX Wx ie) }
abbrev WS' (P : PD) (N : List Str) (sc : Scope) (e : Expr) := { ie : IE // InX P N sc fun Φ Mu K fnA EX Wx X => PW X e (TB Φ Mu K fnA EX Wx ie) }
abbrev OS' (P : PD) (N : List Str) (sc : Scope) (es : List Expr) := { ies : List IE // InX P N sc fun Φ Mu K fnA EX Wx X => PA X es (TOs Φ Mu K fnA EX Wx ies) }
abbrev SV' (P : PD) (N : List Str) (sc : Scope) (es : List Expr) := { ies : List IE // InX P N sc fun Φ Mu K fnA EX Wx X => PA X es (TVst Φ Mu K fnA EX Wx ies) }
abbrev VS' (P : PD) (N : List Str) (sc : Scope) (es : List Expr) := { ies : List IE // InX P N sc fun Φ Mu K fnA EX Wx X => PA X es (TVs Φ Mu K fnA EX Wx ies) }
abbrev IS' (P : PD) (N : List Str) (sc : Scope) (tg e : Expr) := { p : It × List IE // InX P N sc fun Φ Mu K fnA EX Wx X => PI X tg e (TIt Φ Mu K fnA EX Wx p.1 p.2) }
abbrev GS' (P : PD) (N : List Str) (sc : Scope) (e : Expr) := { t : Tg // InX P N sc fun Φ Mu K fnA EX Wx X => PG X e (TGt t) }
abbrev GsS' (P : PD) (N : List Str) (sc : Scope) (es : List Expr) := { ts : List Tg // es.length = ts.length ∧ InX P N sc fun Φ Mu K fnA EX Wx X => PGs X es (TGts ts) }
abbrev FS' (P : PD) (N : List Str) (sc : Scope) (es : List Expr) := { ies : List IE // InX P N sc fun Φ Mu K fnA EX Wx X => PTs X es (TIf Φ Mu K fnA ies) }
abbrev SS' (P : PD) (N : List Str) (sc : Scope) (s : Stmt) := { is : IS // InS P N sc fun Φ Mu K fnA EX Wx X => ∀ W, PS X s (TSt Φ Mu W K fnA EX Wx is) }
abbrev SsS' (P : PD) (N : List Str) (sc : Scope) (s : List Stmt) := { is : List IS // InS P N sc fun Φ Mu K fnA EX Wx X => ∀ W, PSs X s (TSs Φ Mu W K fnA EX Wx is) }

section
variable {P : PD} {N : List Str}
theorem idxS_at : ∀ {N : List Str} {x : Str} {n i : Nat}, idxS x N n = some i → ∃ j, i = n + j ∧ N[j]? = some x
  | [], _, _, _, h => by cases h
  | y :: r, x, n, i, h => by
    unfold idxS at h
    split at h
    · rename_i e
      cases h
      exact ⟨0, rfl, by simpa using eq_of_beq e⟩
    · obtain ⟨j, rfl, e⟩ := idxS_at h
      exact ⟨j + 1, by omega, by simpa using e⟩
theorem idx_at {N : List Str} {x : Str} {i : Nat} (h : idxS x N 0 = some i) : N[i]? = some x := by
  obtain ⟨j, e, hj⟩ := idxS_at h
  have e : i = j := by omega
  rw [e]; exact hj
def plainName (x : Str) : Bool := !(x == ("__debug__" : Str)) && !(x == ("__classdict__" : Str)) && !(x == ("__name__" : Str))
structure PlainN (x : Str) : Prop where
  a : (x == ("__debug__" : Str)) = false
  b : (x == ("__classdict__" : Str)) = false
  c : x ≠ "__name__"
theorem plainN {x : Str} (h : plainName x = true) : PlainN x := by
  unfold plainName at h
  simp only [Bool.and_eq_true, Bool.not_eq_true'] at h
  exact ⟨h.1.1, h.1.2, fun e => by rw [e] at h; exact absurd h.2 (by decide)⟩

def wSlot (N : List Str) (x : Str) : Option { i : Nat // N[i]? = some x } := match h : idxS x N 0 with
  | none => none
  | some i => some ⟨i, idx_at h⟩
def findC : (l : List (Str × D)) → (x : Str) → Option { d : D // (x, d) ∈ l }
  | [], _ => none
  | (y, d) :: r, x => if h : y = x then some ⟨d, by rw [h]; exact List.mem_cons_self⟩ else (findC r x).map fun q => ⟨q.1, List.mem_cons_of_mem _ q.2⟩
theorem e_const {P : PD} {sc : Scope} {x : Str} {d : D} {pos : Pos} (hg : isGlob sc x = true) (hn : plainName x = true) (hm : (x, d) ∈ P.consts) : InX P N sc fun Φ Mu K fnA EX Wx X => EOk Φ Mu K fnA EX Wx X (.Name x pos) (.lit d) := by
  intro Φ Mu K fnA EX Wx X hX
  rcases hX.consts _ hm with ⟨i, t, e, hm⟩ | ⟨z, t, e, hm⟩
  · have e : d = .int i := e
    rw [e]
    exact e_glob (hX.sc.gl hg) hm (v := .int i) ⟨t, rfl⟩ (plainN hn).a fun _ _ _ _ => .int i
  · have e : d = .str (strL z) := e
    rw [e]
    refine e_glob (hX.sc.gl hg) hm (v := .str z) ⟨t, rfl⟩ (plainN hn).a fun C O H _ => ?_
    have := Rep.str (C := C) (O := O) (H := H) (strL z)
    have e : (⟨(strL z).toArray⟩ : Str) = z := by cases z; simp [strL]
    rw [e] at this; exact this
theorem e_fn {P : PD} {sc : Scope} {x : Str} {pos : Pos} (hg : isGlob sc x = true) (hn : plainName x = true) (hm : x ∈ P.fns) : InX P N sc fun Φ Mu K fnA EX Wx X => EOk Φ Mu K fnA EX Wx X (.Name x pos) (.lit (.fn (nm x))) := by
  intro Φ Mu K fnA EX Wx X hX
  obtain ⟨k, hF⟩ := hX.fns _ hm
  obtain ⟨fa, fd, qs, F, hr0, hm, hk, hb, hfa, hlen⟩ := hF.ex
  exact e_glob (hX.sc.gl hg) hm (v := .ref fa) rfl (plainN hn).a fun C O H hC => .fn (by rw [hC.fnA]; exact hfa)
def wName (sc : Scope) (x : Str) (pos : Pos) : Option (ES P N sc (.Name x pos)) :=
  if hn : plainName x = true then
    if hv : visible sc x = true then (wSlot N x).map fun i => ⟨.var i.1, fun Φ Mu K fnA EX Wx X hX => e_var (by rw [hX.N]; exact i.2) (hX.sc.vis hv) (plainN hn).a (plainN hn).b⟩
    else if hg : isGlob sc x = true then if hf : x ∈ P.fns then some ⟨.lit (.fn (nm x)), e_fn hg hn hf⟩ else (findC P.consts x).map fun d => ⟨.lit d.1, e_const hg hn d.2⟩ else none
  else none
def wConst (sc : Scope) : (c : Const) → (j : Nat) → (pos : Pos) → Option (ES P N sc (.Constant c j pos))
  | .int i, _, _ => some ⟨.lit (.int i), fun _ _ _ _ _ _ _ _ => e_int⟩
  | .bool i, _, _ => some ⟨.lit (.bl i), fun _ _ _ _ _ _ _ _ => e_bool⟩
  | .none, _, _ => some ⟨.lit .non, fun _ _ _ _ _ _ _ _ => e_none⟩
  | .str z, _, _ => some ⟨.lit (.str (strL z)), fun _ _ _ _ _ _ _ _ => e_str⟩
  | _, _, _ => none
def binP : Operator → Option Pr
  | .Add => some .add | .Sub => some .sub | .Mult => some .mul | .FloorDiv => some .fdiv | .Mod => some .mod | .Pow => some .pow | .BitXor => some .xor
  | _ => none
theorem bin_ok {X : Cx} {op : Operator} {p : Pr} (h : binP op = some p) : ∃ r, OpR X (binaryOp op) r ∧ R2ok X r p := by
  cases op <;> first | (cases h; done) | skip
  · cases h; exact ⟨_, op_addAll, add_ok⟩
  · cases h; exact ⟨_, op_sub, sub_ok⟩
  · cases h; exact ⟨_, op_mulAll, mul_ok⟩
  all_goals first
    | (cases h; exact ⟨_, op_mod, mod_ok⟩)
    | (cases h; exact ⟨_, op_pow, pow_ok⟩)
    | (cases h; exact ⟨_, op_xor, xor_ok⟩)
    | (cases h; exact ⟨_, op_fdivW, fdiv_ok⟩)
def cmpP : CmpOp → Option Pr
  | .Eq => some .eq | .NotEq => some .ne | .Lt => some .lt | .LtE => some .le | .Gt => some .gt | .GtE => some .ge | .In => some .in_ | .NotIn => some .notIn
  | _ => none
theorem op_inDict {X : Cx} (hu : X.A.units + 1 < cLine) : OpR X (compareOp .In) (rInDict false) := by
  intro pins s σ H x y v u Q I rx ry h
  obtain ⟨a, o, rfl, g, q⟩ := h
  cases ry
  exact d_in hu I g rx fun s' I' => ⟨.bl o.isSome, H, I', rfl, q⟩
theorem op_notInDict {X : Cx} (hu : X.A.units + 1 < cLine) : OpR X (compareOp .NotIn) (rInDict true) := by
  intro pins s σ H x y v u Q I rx ry h
  obtain ⟨a, o, rfl, g, q⟩ := h
  cases ry
  exact d_notIn hu I g rx fun s' I' => ⟨.bl (!o.isSome), H, I', rfl, q⟩
theorem cmp_ok {X : Cx} {op : CmpOp} {p : Pr} (hu : X.A.units + 200 < cLine) (h : cmpP op = some p) : ∃ r, OpR X (compareOp op) r ∧ R2ok X r p := by
  cases op with
  | Eq => cases h; exact ⟨_, op_eq.or (op_eqD (by omega)), eq_ok⟩
  | NotEq => cases h; exact ⟨_, op_ne.or (op_neD (by omega)), ne_ok⟩
  | Lt => cases h; exact ⟨_, op_lt.or (op_lt_str.or (op_ltT (by omega))), lt_ok⟩
  | Gt => cases h; exact ⟨_, op_gt.or (op_gt_str.or (op_gtT (by omega))), gt_ok⟩
  | LtE => cases h; exact ⟨_, op_le.or op_le_str, le_ok⟩
  | GtE => cases h; exact ⟨_, op_ge.or op_ge_str, ge_ok⟩
  | In => cases h; exact ⟨_, op_inSign.or ((op_inSeq (by omega)).or (op_inDict (by omega))), in_ok false⟩
  | NotIn => cases h; exact ⟨_, op_notInSign.or ((op_notInSeq (by omega)).or (op_notInDict (by omega))), in_ok true⟩
  | _ => cases h
def isC? : CmpOp → Expr → Option Pr
  | .Is, .Constant .none _ _ => some (.isC .non true)
  | .IsNot, .Constant .none _ _ => some (.isC .non false)
  | .Is, .Constant (.bool v) _ _ => some (.isC (.bl v) true)
  | .IsNot, .Constant (.bool v) _ _ => some (.isC (.bl v) false)
  | _, _ => none
theorem e_isC {op : CmpOp} {b : Expr} {p : Pr} (h : isC? op b = some p) {Φ : Calls} {Mu : Muts} {K : PySem.W.Frag} {fnA : FA} {EX : EC} {Wx : WX} {X : Cx} {a : Expr} {ia : IE} {pos : Pos} (hK : K = X.K) (ha : EOk Φ Mu K fnA EX Wx X a ia) : EOk Φ Mu K fnA EX Wx X (.Compare a [op] [b] pos) (.pr p [ia]) ∧ PT X (.Compare a [op] [b] pos) (TB Φ Mu K fnA EX Wx (.pr p [ia])) := by
  unfold isC? at h
  split at h <;> cases h
  · exact ⟨e_isN ha, t_isN ha⟩
  · exact ⟨e_notN ha, t_notN ha⟩
  · exact ⟨e_isB hK ha, t_isB hK ha⟩
  · exact ⟨e_notB hK ha, t_notB hK ha⟩

def calmly {α : Type} (P : PD) (f : P.hot = false → Option α) : Option α := if h : P.hot = false then f h else none
structure Rec (P : PD) (N : List Str) where
  e : (sc : Scope) → (e : Expr) → Option (ES P N sc e)
  t : (sc : Scope) → (e : Expr) → Option (TS' P N sc e)

section
variable (R : Rec P N) (sc : Scope)
def wOs : (es : List Expr) → Option (OS' P N sc es)
  | [] => some ⟨[], fun _ _ _ _ _ _ _ _ => pa_os_nil⟩
  | e :: es => if hs : notStar e = true then (R.e sc e).bind fun ie => (wOs es).map fun ies => ⟨ie.1 :: ies.1, fun _ _ _ _ _ _ _ hX => pa_os_cons (ie.2 _ _ _ _ _ _ _ hX) (ies.2 _ _ _ _ _ _ _ hX) (notStar_ne hs)⟩ else none
def wVs : (es : List Expr) → Option (VS' P N sc es)
  | [] => some ⟨[], fun _ _ _ _ _ _ _ _ => pa_vs_nil⟩
  | e :: es => if hs : notStar e = true then (R.e sc e).bind fun ie => (wVs es).map fun ies => ⟨ie.1 :: ies.1, fun _ _ _ _ _ _ _ hX => pa_vs_cons (ie.2 _ _ _ _ _ _ _ hX) (ies.2 _ _ _ _ _ _ _ hX) (notStar_ne hs)⟩ else none
def wSt : (es : List Expr) → Option (SV' P N sc es)
  | [] => some ⟨[], fun _ _ _ _ _ _ _ _ => pst_nil⟩
  | .Starred e _ :: es => (R.e sc e).bind fun ie => (wSt es).map fun ies => ⟨.star ie.1 :: ies.1, fun _ _ _ _ _ _ _ hX => pst_star hX.K (ie.2 _ _ _ _ _ _ _ hX) (ies.2 _ _ _ _ _ _ _ hX)⟩
  | e :: es => if hs : notStar e = true then (R.e sc e).bind fun ie => if hi : isStar ie.1 = false then (wSt es).map fun ies => ⟨ie.1 :: ies.1, fun _ _ _ _ _ _ _ hX => pst_cons (ie.2 _ _ _ _ _ _ _ hX) (ies.2 _ _ _ _ _ _ _ hX) (notStar_ne hs) hi⟩ else none else none
def wAnd (pos : Pos) : (a : Expr) → (vs : List Expr) → Option (ES P N sc (.BoolOp .And (a :: vs) pos))
  | a, [] => (R.e sc a).map fun ia => ⟨ia.1, fun _ _ _ _ _ _ _ hX => e_one (ia.2 _ _ _ _ _ _ _ hX)⟩
  | a, b :: r => (R.e sc a).bind fun ia => (wAnd pos b r).map fun ib => ⟨.and ia.1 ib.1, fun _ _ _ _ _ _ _ hX => e_and (ia.2 _ _ _ _ _ _ _ hX) (ib.2 _ _ _ _ _ _ _ hX)⟩
def wOr (pos : Pos) : (a : Expr) → (vs : List Expr) → Option (ES P N sc (.BoolOp .Or (a :: vs) pos))
  | a, [] => (R.e sc a).map fun ia => ⟨ia.1, fun _ _ _ _ _ _ _ hX => e_one (ia.2 _ _ _ _ _ _ _ hX)⟩
  | a, b :: r => (R.e sc a).bind fun ia => (wOr pos b r).map fun ib => ⟨.or ia.1 ib.1, fun _ _ _ _ _ _ _ hX => e_or (ia.2 _ _ _ _ _ _ _ hX) (ib.2 _ _ _ _ _ _ _ hX)⟩
def wAndT (pos : Pos) : (a : Expr) → (vs : List Expr) → Option (WS' P N sc (.BoolOp .And (a :: vs) pos))
  | a, [] => (R.t sc a).map fun ia => ⟨ia.1, fun _ _ _ _ _ _ _ hX => pw_and1 (ia.2 _ _ _ _ _ _ _ hX)⟩
  | a, b :: r => (R.t sc a).bind fun ia => (wAndT pos b r).map fun ib => ⟨.and ia.1 ib.1, fun _ _ _ _ _ _ _ hX => w_and (ia.2 _ _ _ _ _ _ _ hX) (ib.2 _ _ _ _ _ _ _ hX)⟩
def wOrT (pos : Pos) : (a : Expr) → (vs : List Expr) → Option (WS' P N sc (.BoolOp .Or (a :: vs) pos))
  | a, [] => (R.t sc a).map fun ia => ⟨ia.1, fun _ _ _ _ _ _ _ hX => pw_or1 (ia.2 _ _ _ _ _ _ _ hX)⟩
  | a, b :: r => (R.t sc a).bind fun ia => (wOrT pos b r).map fun ib => ⟨.or ia.1 ib.1, fun _ _ _ _ _ _ _ hX => w_or (ia.2 _ _ _ _ _ _ _ hX) (ib.2 _ _ _ _ _ _ _ hX)⟩
def wBoolE (pos : Pos) : (op : BoolOp) → (vs : List Expr) → Option (ES P N sc (.BoolOp op vs pos))
  | _, [] => none
  | .And, a :: r => wAnd R sc pos a r
  | .Or, a :: r => wOr R sc pos a r
def wBoolT (pos : Pos) : (op : BoolOp) → (vs : List Expr) → Option (TS' P N sc (.BoolOp op vs pos))
  | _, [] => none
  | .And, a :: r => (wAndT R sc pos a r).map fun w => ⟨w.1, fun _ _ _ _ _ _ _ hX => (w.2 _ _ _ _ _ _ _ hX).pt⟩
  | .Or, a :: r => (wOrT R sc pos a r).map fun w => ⟨w.1, fun _ _ _ _ _ _ _ hX => (w.2 _ _ _ _ _ _ _ hX).pt⟩
def wUn (pos : Pos) : (op : UnaryOp) → (a : Expr) → Option (ES P N sc (.UnaryOp op a pos))
  | .USub, a => (R.e sc a).map fun ia => ⟨.pr .neg [ia.1], fun _ _ _ _ _ _ _ hX => e_neg hX.K (ia.2 _ _ _ _ _ _ _ hX)⟩
  | .Not, a => (R.e sc a).map fun ia => ⟨.not ia.1, fun _ _ _ _ _ _ _ hX => e_not (ia.2 _ _ _ _ _ _ _ hX)⟩
  | _, _ => none
def wBin (a : Expr) (op : Operator) (b : Expr) (pos : Pos) : Option (ES P N sc (.BinOp a op b pos)) := match h : binP op with
  | none => none
  | some p => (R.e sc a).bind fun ia => (R.e sc b).map fun ib => ⟨.pr p [ia.1, ib.1], fun _ _ _ _ _ _ _ hX => by
    obtain ⟨r, h1, h2⟩ := bin_ok h
    exact e_bin h1 h2 hX.K (ia.2 _ _ _ _ _ _ _ hX) (ib.2 _ _ _ _ _ _ _ hX)⟩
abbrev CS' (P : PD) (N : List Str) (sc : Scope) (e : Expr) := { ie : IE // InX P N sc fun Φ Mu K fnA EX Wx X => EOk Φ Mu K fnA EX Wx X e ie ∧ PT X e (TB Φ Mu K fnA EX Wx ie) }
def wCmp1 (a : Expr) (op : CmpOp) (b : Expr) (pos : Pos) : Option (CS' P N sc (.Compare a [op] [b] pos)) := match h : cmpP op with
  | none => (match h2 : isC? op b with
    | none => none
    | some p => (R.e sc a).map fun ia => ⟨.pr p [ia.1], fun _ _ _ _ _ _ _ hX => e_isC h2 hX.K (ia.2 _ _ _ _ _ _ _ hX)⟩)
  | some p => if hb : notSet b = true then (R.e sc a).bind fun ia => (R.e sc b).map fun ib => ⟨.pr p [ia.1, ib.1], fun _ _ _ _ _ _ _ hX => by
      obtain ⟨r, h1, h2⟩ := cmp_ok hX.hu h
      exact ⟨e_cmp h1 h2 hX.K (ia.2 _ _ _ _ _ _ _ hX) (ib.2 _ _ _ _ _ _ _ hX) (behind_ok hb), t_cmp h1 h2 hX.K (ia.2 _ _ _ _ _ _ _ hX) (ib.2 _ _ _ _ _ _ _ hX) (behind_ok hb)⟩⟩ else none
def wCmp2 (a : Expr) (op op' : CmpOp) (b c : Expr) (pos : Pos) : Option (CS' P N sc (.Compare a [op, op'] [b, c] pos)) := match h : cmpP op, h' : cmpP op' with
  | some p, some q => if hc : notSet c = true then (R.e sc a).bind fun ia => (R.e sc b).bind fun ib => (R.e sc c).map fun ic => ⟨.chain p q ia.1 ib.1 ic.1, fun _ _ _ _ _ _ _ hX => by
      obtain ⟨r, h1, h2⟩ := cmp_ok hX.hu h
      obtain ⟨r', h3, h4⟩ := cmp_ok hX.hu h'
      exact ⟨e_chain h1 h3 h2 h4 hX.K (ia.2 _ _ _ _ _ _ _ hX) (ib.2 _ _ _ _ _ _ _ hX) (ic.2 _ _ _ _ _ _ _ hX) (last_ok hc), t_chain h1 h3 h2 h4 hX.K (ia.2 _ _ _ _ _ _ _ hX) (ib.2 _ _ _ _ _ _ _ hX) (ic.2 _ _ _ _ _ _ _ hX) (last_ok hc)⟩⟩ else none
  | _, _ => none
def wCmp (a : Expr) (pos : Pos) : (ops : List CmpOp) → (bs : List Expr) → Option (CS' P N sc (.Compare a ops bs pos))
  | [op], [b] => wCmp1 R sc a op b pos
  | [op, op'], [b, c] => wCmp2 R sc a op op' b c pos
  | _, _ => none
def wTup (es : List Expr) (k : Nat) (pos : Pos) : Option (ES P N sc (.Tuple es k pos)) := match wVs R sc es with
  | some q => some ⟨.tup q.1, fun _ _ _ _ _ _ _ hX => e_tup (q.2 _ _ _ _ _ _ _ hX)⟩
  | none => (wSt R sc es).map fun q => ⟨.tupS q.1, fun _ _ _ _ _ _ _ hX => e_tupS (q.2 _ _ _ _ _ _ _ hX)⟩
def wLst (es : List Expr) (pos : Pos) : Option (ES P N sc (.List es pos)) := match wVs R sc es with
  | some q => some ⟨.lst q.1, fun _ _ _ _ _ _ _ hX => e_lst (q.2 _ _ _ _ _ _ _ hX)⟩
  | none => (wSt R sc es).map fun q => ⟨.lstS q.1, fun _ _ _ _ _ _ _ hX => e_lstS (q.2 _ _ _ _ _ _ _ hX)⟩
def wSub (o : Expr) (pos : Pos) : (i : Expr) → Option (ES P N sc (.Subscript o i pos))
  | .Slice none none none _ => (R.e sc o).map fun io => ⟨.pr (.sl false false) [io.1], fun _ _ _ _ _ _ _ hX => e_sl00 hX.K (io.2 _ _ _ _ _ _ _ hX)⟩
  | .Slice (some a) none none _ => (R.e sc o).bind fun io => (R.e sc a).map fun ia => ⟨.pr (.sl true false) [io.1, ia.1], fun _ _ _ _ _ _ _ hX => e_sl10 hX.K (io.2 _ _ _ _ _ _ _ hX) (ia.2 _ _ _ _ _ _ _ hX)⟩
  | .Slice none (some a) none _ => (R.e sc o).bind fun io => (R.e sc a).map fun ia => ⟨.pr (.sl false true) [io.1, ia.1], fun _ _ _ _ _ _ _ hX => e_sl01 hX.K (io.2 _ _ _ _ _ _ _ hX) (ia.2 _ _ _ _ _ _ _ hX)⟩
  | .Slice (some a) (some b) none _ => (R.e sc o).bind fun io => (R.e sc a).bind fun ia => (R.e sc b).map fun ib => ⟨.slc io.1 ia.1 ib.1, fun _ _ _ _ _ _ _ hX => e_sl11 hX.K (io.2 _ _ _ _ _ _ _ hX) (ia.2 _ _ _ _ _ _ _ hX) (ib.2 _ _ _ _ _ _ _ hX)⟩
  | .Slice none none (some (.UnaryOp .USub (.Constant (.int 1) _ _) _)) _ => (R.e sc o).map fun io => ⟨.pr .rev [io.1], fun _ _ _ _ _ _ _ hX => e_rev hX.K (io.2 _ _ _ _ _ _ _ hX)⟩
  | .Slice _ _ (some _) _ => none
  | i => if h : (match i with | .Slice .. => true | _ => false) = false then (R.e sc o).bind fun io => (R.e sc i).map fun ii => ⟨.pr .ix [io.1, ii.1], fun _ _ _ _ _ _ _ hX => e_ix (by have := hX.hu; omega) hX.K (io.2 _ _ _ _ _ _ _ hX) (ii.2 _ _ _ _ _ _ _ hX) fun lo hi p e => by rw [e] at h; cases h⟩ else none
end
end
end QE
namespace QE
open PySem L2 PySem.Spec PyProof.Rows
def rSortDI : List V → Hp → VK → Prop := fun xs H Q => ∃ (a : Addr) (kvs : List (Key × V)) (ks : List Int), xs = [.ref a] ∧ Rd H a (.dK kvs) ∧ kvs.map (·.1) = ks.map Sum.inl ∧ ks.length < 64 ∧
  ∀ (ys : List Int) (p : Addr), ys.Perm ks → ys.Pairwise (· ≤ ·) → H p = none → Q (.ref p) (upd H p (.lst (ys.map V.int)))
def rSortA (K : PySem.W.Frag) : List V → Hp → VK → Prop := fun vs H Q => rSortedI K vs H Q ∨ rSortDI vs H Q
theorem call_sortedA {X : Cx} (hc : X.calm = true) : CallR X (.builtin "sorted") (rSortA X.K) := by
  intro pins s σ H vs us Q I r h
  rcases h with h | h
  · exact cr_sortedI pins s σ H vs us Q I r h
  · exact call_sortedDI hc pins s σ H vs us Q I r h
theorem keys_int {C : RC} {O : List Addr} {H : Hp} : ∀ {l : List (D × V)} {es : List (D × D)}, RepKv C O H l es → ∀ {kvs : List (Key × V)} {ns : List Int}, Paired (fun (p : Key × V) (q : D × V) => kD q.1 = some p.1 ∧ p.2 = q.2) kvs l → intsD (keysD es) = some ns → kvs.map (·.1) = ns.map Sum.inl
  | _, _, .nil, _, _, .nil, e => by cases e; rfl
  | _, _, .cons (k := k) _ r2, _, _, .cons h r, e => by
    cases k with
    | int i =>
      have e : ((intsD (keysD _)).map (i :: ·)) = some _ := e
      cases e1 : intsD (keysD _) with
      | none => rw [e1] at e; cases e
      | some ms =>
        rw [e1] at e
        cases e
        have h2 := Option.some.inj (show some (Sum.inl i) = some _ from h.1)
        rw [List.map_cons, List.map_cons, keys_int r2 r e1, ← h2]
    | _ => cases e
end QE
namespace QE
open PySem L2 PySem.Spec PyProof.Rows
abbrev lx := HT.lexLt
theorem lx_tri : ∀ xs ys : List Int, lx xs ys = false → lx ys xs = false → xs = ys
  | [], [], _, _ => rfl
  | [], _ :: _, h, _ => by cases h
  | _ :: _, [], _, h => by cases h
  | x :: xs, y :: ys, h1, h2 => by
    rw [show lx (x :: xs) (y :: ys) = if x = y then lx xs ys else decide (x < y) from rfl] at h1
    rw [show lx (y :: ys) (x :: xs) = if y = x then lx ys xs else decide (y < x) from rfl] at h2
    by_cases e : x = y
    · subst e
      rw [if_pos rfl] at h1 h2
      rw [lx_tri xs ys h1 h2]
    · rw [if_neg e] at h1
      rw [if_neg (Ne.symm e)] at h2
      have a := of_decide_eq_false h1
      have b := of_decide_eq_false h2
      omega
theorem lxL_eq : ∀ xs ys : List Int, lexLtI xs ys = lx xs ys
  | [], [] => rfl
  | [], _ :: _ => rfl
  | _ :: _, [] => rfl
  | x :: xs, y :: ys => by
    show (if x = y then lexLtI xs ys else decide (x < y)) = if x = y then lx xs ys else decide (x < y)
    rw [lxL_eq xs ys]
theorem insT_perm (x : List Int) : ∀ xs : List (List Int), (insT x xs).Perm (x :: xs)
  | [] => .refl _
  | y :: r => by
    show (if lexLtI y x then y :: insT x r else x :: y :: r).Perm _
    by_cases h : lexLtI y x = true
    · rw [if_pos h]
      exact ((insT_perm x r).cons y).trans (.swap x y r)
    · rw [if_neg h]
theorem sortT_perm : ∀ xs : List (List Int), (sortT xs).Perm xs
  | [] => .refl _
  | x :: r => (insT_perm x (sortT r)).trans ((sortT_perm r).cons x)
def LeT (x y : List Int) : Prop := lx y x = false
theorem insT_sorted (x : List Int) : ∀ {xs : List (List Int)}, xs.Pairwise LeT → (insT x xs).Pairwise LeT
  | [], _ => List.pairwise_singleton _ _
  | y :: r, h => by
    have O := NtL.swo_lexL (fun z : List Int => z)
    show (if lexLtI y x then y :: insT x r else x :: y :: r).Pairwise _
    obtain ⟨h1, h2⟩ := List.pairwise_cons.mp h
    by_cases q : lexLtI y x = true
    · rw [if_pos q]
      refine List.pairwise_cons.mpr ⟨fun z hz => ?_, insT_sorted x h2⟩
      rcases List.mem_cons.mp ((insT_perm x r).mem_iff.mp hz) with rfl | hz
      · rw [lxL_eq] at q
        exact O.asym _ _ q
      · exact h1 z hz
    · rw [if_neg q]
      have q' : lx y x = false := by rw [lxL_eq] at q; simpa using q
      refine List.pairwise_cons.mpr ⟨fun z hz => ?_, h⟩
      rcases List.mem_cons.mp hz with rfl | hz
      · exact q'
      · exact O.tr _ _ _ q' (h1 z hz)
theorem sortT_sorted : ∀ xs : List (List Int), (sortT xs).Pairwise LeT
  | [] => .nil
  | x :: r => insT_sorted x (sortT_sorted r)
theorem sortedT_one : ∀ {xs ys : List (List Int)}, xs.Perm ys → xs.Pairwise LeT → ys.Pairwise LeT → xs = ys
  | [], ys, p, _, _ => p.nil_eq
  | x :: xs, ys, p, h1, h2 => by
    cases ys with
    | nil => exact absurd p.symm.nil_eq (by simp)
    | cons y ys =>
      obtain ⟨a1, a2⟩ := List.pairwise_cons.mp h1
      obtain ⟨b1, b2⟩ := List.pairwise_cons.mp h2
      have e : x = y := by
        rcases List.mem_cons.mp (p.mem_iff.mp (List.mem_cons_self (a := x))) with e | m
        · exact e
        · rcases List.mem_cons.mp (p.mem_iff.mpr (List.mem_cons_self (a := y))) with e | m'
          · exact e.symm
          · exact lx_tri _ _ (a1 _ m' |> fun z => b1 _ m) (a1 _ m')
      subst e
      rw [sortedT_one (p.cons_inv) a2 b2]
section
variable {prog : Program} {w : World} {A : Around} {E : Value → Shared → Prop} {s : Shared}
def IsIT (h : Heap) (v : Value) (ns : List Int) : Prop := ∃ a o us n, v = .ref a ∧ h.get? a = some o ∧ o.cls = .type "tuple" ∧ o.data = .seq (List.toArray us) n ∧ IntsAre us ns
theorem IsIT.keeps {h h' : Heap} {v : Value} {ns : List Int} (x : IsIT h v ns) (k : ∀ b o, v = .ref b → o.cls = .type "tuple" → h.get? b = some o → h'.get? b = some o) : IsIT h' v ns := by
  obtain ⟨a, o, us, n, e, ho, hc, hd, hi⟩ := x
  exact ⟨a, o, us, n, e, k a o e hc ho, hc, hd, hi⟩
theorem lex_kat {Q : Bool → Shared → Prop} : ∀ {us us' : List Value} {ns ms : List Int} (i : Nat), IntsAre us ns → IntsAre us' ms → Q (lx ns ms) s → PySem.W.KatLex prog w A true (decide (ns.length < ms.length)) Q (us.zip us') i s
  | _, _, [], [], i, .nil, .nil, h => PySem.W.kat_nil h
  | _, _, [], _ :: _, i, .nil, .cons _ _ _, h => by
    refine PySem.W.kat_nil ?_
    rw [show decide (([] : List Int).length < (_ :: _ : List Int).length) = true by simp]
    exact h
  | _, _, _ :: _, [], i, .cons _ _ _, .nil, h => by
    refine PySem.W.kat_nil ?_
    rw [show decide ((_ :: _ : List Int).length < ([] : List Int).length) = false by simp]
    exact h
  | _, _, x :: xs, y :: ys, i, .cons _ t r, .cons _ t' r', h => by
    rw [show lx (x :: xs) (y :: ys) = if x = y then lx xs ys else decide (x < y) from rfl] at h
    refine PySem.W.kat_cons (SeqAt.EqAt.int_int x t y t' prog w _ _ ?_)
    refine PySem.W.kat_go (fun e1 => ?_) fun e1 => ?_
    · have e : x = y := by simpa using e1
      rw [if_pos e] at h
      refine PySem.W.kat_yes ?_
      have := lex_kat (i + 1) r r' h
      rw [show decide ((x :: xs).length < (y :: ys).length) = decide (xs.length < ys.length) by simp]
      exact this
    · have e : ¬ x = y := by simpa using e1
      rw [if_neg e] at h
      refine PySem.W.kat_no ?_
      cases i with
      | zero => exact oneLt_int h
      | succ i =>
        rw [show (true && (i + 1 == 0)) = false by simp]
        exact PySem.W.kat_one _ _ (PyProof.Rows.lt_int h)
theorem it_cmp {vs : List Value} {k : Value → List Int} (hp : ∀ v ∈ vs, IsIT s.heap v (k v)) : SrtO.Cmp prog w A s (tuples' true) (fun p => p.1 ∈ vs) (SrtO.lt2 fun v u => lx (k v) (k u)) := by
  intro p q hm hm'
  have h1 := hp _ hm
  have h2 := hp _ hm'
  show wpAny (model prog w) A (keyLt' (tuples' true) p.1 q.1) (fun r s' => s' = s ∧ r = lx (k p.1) (k q.1)) (fun _ _ => False) s
  obtain ⟨a, o, us, n, e, ho, hc, hd, hi⟩ := h1
  obtain ⟨a', o', us', n', e', ho', hc', hd', hi'⟩ := h2
  have z1 := hi.length
  have z2 := hi'.length
  rw [e, e'] at *
  refine PySem.W.kat_lt ho hd ho' hd' ?_
  rw [show decide (us.toArray.size < us'.toArray.size) = decide ((k (.ref a)).length < (k (.ref a')).length) by simp [z1, z2]]
  exact lex_kat 0 hi hi' ⟨rfl, rfl⟩
theorem it_firsts : ∀ {vs : List Value} {k : Value → List Int} {h : Heap}, (∀ v ∈ vs, IsIT h v (k v)) → (∀ v ∈ vs, k v ≠ []) → ∃ fs, PySem.W.KatTups h vs fs ∧ fs.length = vs.length ∧ ∀ f ∈ fs, ∃ i t, f = Value.int i t
  | [], _, _, _, _ => ⟨[], trivial, rfl, fun _ z => nomatch z⟩
  | v :: vs, k, h, hp, hn => by
    obtain ⟨fs, h1, h2, h3⟩ := it_firsts (fun u hu => hp u (List.mem_cons_of_mem _ hu)) fun u hu => hn u (List.mem_cons_of_mem _ hu)
    obtain ⟨a, o, us, n, rfl, ho, hc, hd, hi⟩ := hp v List.mem_cons_self
    have ne := hn _ (List.mem_cons_self (a := Value.ref a))
    generalize k (Value.ref a) = ns at hi ne
    cases hi with
    | nil => exact absurd rfl ne
    | cons i t r =>
      refine ⟨.int i t :: fs, PySem.W.KatTups.cons ho hc hd rfl h1, by simp [h2], fun f hf => ?_⟩
      rcases List.mem_cons.mp hf with rfl | hf
      · exact ⟨i, t, rfl⟩
      · exact h3 f hf
theorem it_sortable {a : Addr} {vs : List Value} {k : Value → List Int} (h0 : 0 < vs.length) (hp : ∀ v ∈ vs, IsIT s.heap v (k v)) (hn : ∀ v ∈ vs, k v ≠ []) (ha : ∀ o, s.heap.get? a = some o → o.cls ≠ .type "tuple") : SrtO.SortableO prog w A s a vs fun v u => lx (k v) (k u) := by
  intro h' keep
  have hp' : ∀ v ∈ vs, IsIT h' v (k v) := fun v hm => (hp v hm).keeps fun b o _ c e => keep b o (fun z => by subst z; exact ha o e c) e
  obtain ⟨fs, h1, h2, h3⟩ := it_firsts hp' hn
  refine ⟨tuples' true, fun Q E hq => ?_, it_cmp hp'⟩
  refine PySem.W.kat_kind (T := .type "int") h1 (by omega) (fun f hm => ?_) (by rfl) ?_
  · obtain ⟨x, t, rfl⟩ := h3 f hm
    exact PySem.W.Looks.now
  · have e : (Value.type "int" != Value.type "tuple") = true := by first | decide +kernel | rfl | decide
    rw [e]
    exact hq
end
def rSortedIT (K : PySem.W.Frag) : List V → Hp → VK → Prop := fun vs H Q => ∃ (a : Addr) (xs : List V) (k : V → List Int), vs = [V.ref a] ∧ SqL K H a xs ∧ (∀ x ∈ xs, ∃ t, x = V.ref t ∧ SqT K H t ((k x).map V.int)) ∧ (xs.length < 2 ∨ ∀ x ∈ xs, k x ≠ []) ∧
  ∀ (ys : List V) (p : Addr), ys.Perm xs → (ys.map k).Pairwise LeT → H p = none → Q (.ref p) (upd H p (.lst ys))
theorem cr_sortedIT {X : Cx} : CallR X (.builtin "sorted") (rSortedIT X.K) := by
  intro pins s σ H vs us Q I r h
  obtain ⟨a, xs, k, rfl, hs, hx, hne, q⟩ := h
  obtain ⟨its, rv, hl, hz⟩ := I.list hs
  obtain ⟨u, rfl, ru⟩ := vals1 r
  obtain rfl : u = Value.ref a := ru
  obtain ⟨e1, e2⟩ := refs_back rv fun x m => by
    obtain ⟨t, e, _⟩ := hx x m
    exact ⟨t, e⟩
  have it : ∀ v ∈ its, IsIT s.heap v (k (backV v)) := fun v hv => by
    obtain ⟨t, rfl⟩ := e2 v hv
    have hm : V.ref t ∈ xs := by rw [e1]; exact List.mem_map.mpr ⟨_, hv, rfl⟩
    obtain ⟨t', e, ht⟩ := hx _ hm
    cases e
    obtain ⟨us, r2, ho, _⟩ := I.tuple ht
    obtain ⟨o, g1, g2, n, g3⟩ := ho
    exact ⟨t, o, us, n, rfl, g1, g2, g3, r2.ints⟩
  refine SrtO.sorted_ord (ltv := fun v u => lx (k (backV v)) (k (backV u))) (NtL.swo_lexL fun v => k (backV v)) hl.isList (by rw [← rv.length]; exact hz) (fun h2 h₁ a' ha kk => ?_) fun out h1 h2 => ?_
  · refine it_sortable (s := { s with heap := h₁ }) (by omega) (fun v hv => (it v hv).keeps fun b o _ _ e => (kk b o e).2) (fun v hv => ?_) fun o e => ?_
    · rcases hne with z | z
      · rw [rv.length] at z; omega
      · refine z _ ?_
        rw [e1]; exact List.mem_map.mpr ⟨v, hv, rfl⟩
    · have e' : some o = some (seqObj "list" its.toArray 0) := e.symm.trans ha
      cases e'
      intro c
      exact absurd (Value.type.inj c) (by decide)
  · have h3 : ∀ u ∈ out, ∃ a, u = Value.ref a := fun u hu => e2 u (h2.perm.mem_iff.mp hu)
    have pm : (out.map backV).Perm xs := by rw [e1]; exact h2.perm.map _
    obtain ⟨ep, he'⟩ := PyProof.Rows.sortedAll_at s.heap its out.toArray
    refine ⟨.ref _, upd H (s.heap.objs.size + 1) (.lst (out.map backV)), I.laid (t' := s.toks) (fun _ _ => PyProof.Rows.sortedAll_old) (Nat.le_succ _) ⟨?_, out, ep, vals_back h3, he'⟩, rfl, q _ _ pm ?_ (I.hok.fresh (Nat.le_succ _))⟩
    · rw [pm.length_eq]; exact hz
    · rw [List.map_map]
      exact List.pairwise_map.mpr h1
section
variable {prog : Program} {w : World} {A : Around} {E : Value → Shared → Prop} {s : Shared}
abbrev gat (h : Heap) (us : List Value) : Heap := (h.push (seqObj "list" #[] 0)).update h.objs.size (Obj.mapSeq (· ++ us.toArray))
theorem gather_tup {t : Addr} {us : List Value} {Q : List Value → Shared → Prop} (ht : s.heap.IsTuple t us.toArray) (hz : us.length ≤ sizeLine) (hQ : Q us { s with heap := gat s.heap us }) : wpAny (model prog w) A (collect (.ref t)) Q E s := by
  obtain ⟨ob, e1, e2, k, e3⟩ := id ht
  unfold collect
  refine wpAny_bind (wpAny_runValue (codeAny_builtin entry_proto_collect' ?_))
  show wpAny _ _ (do again (.builtin "list.__iadd__" ⟨[← newList [], .ref t], []⟩)) _ _ s
  refine wpAny_bind (wpAny_newList (wpAny_pure ⟨(Code.quiet_builtin _ (by decide +kernel)), codeAny_builtin entry_list_iadd' ?_⟩))
  show wpAny _ _ (Builtin.List.listExtendWith (.ref s.heap.objs.size) (.ref t) (.ref s.heap.objs.size)) _ _ { s with heap := s.heap.push (seqObj "list" #[] 0) }
  unfold Builtin.List.listExtendWith
  have up : (s.heap.push (seqObj "list" #[] 0)).get? t = some ob := Heap.get?_push_of_some (seqObj "list" #[] 0) e1
  refine wpAny_bind (wpAny_typeOf (T := "tuple") ⟨ob, up, e2⟩ ?_)
  have isT : (Value.type "tuple" == Value.type "tuple") = true := by rfl
  have isL : (Value.type "tuple" == Value.type "list") = false := by decide
  rw [if_pos (by rw [isT]; simp)]
  refine wpAny_bind (listItems_at up e3 ?_)
  refine wpAny_bind (listItems_at (xs := #[]) (n := 0) (Heap.get?_push_size s.heap rfl) rfl ?_)
  rw [if_neg (by simp)]
  refine wpAny_bind (listUpdate_at (n := 0) (xs := #[]) (Heap.get?_push_size s.heap rfl) rfl ?_ (Nat.zero_le _) (by
    show (#[] ++ us.toArray).size ≤ sizeLine + 1
    simp only [Array.size_append, List.size_toArray, List.length_nil]
    omega))
  refine wpAny_pure ?_
  show wpAny (model prog w) A (do
      let ob ← load s.heap.objs.size
      match ob.data with
      | .seq ys _ => pure ys.toList
      | _ => unsupported "internal:collect") Q E { s with heap := gat s.heap us }
  refine wpAny_bind (wpAny_load (get?_update_seq (Heap.get?_push_size s.heap rfl) _) ?_)
  show wpAny _ _ (pure ((#[] : Array Value) ++ us.toArray).toList) Q E _
  rw [show ((#[] : Array Value) ++ us.toArray).toList = us by simp]
  exact wpAny_pure hQ
theorem sorted_tupO {t : Addr} {us : List Value} {lt : Value → Value → Bool} {Q : Value → Shared → Prop} (O : SrtO.Swo lt) (ht : s.heap.IsTuple t us.toArray) (hz : us.length ≤ sizeLine)
    (hS : 2 ≤ us.length → ∀ (g : Heap) (a : Addr), g.get? a = some (seqObj "list" us.toArray 0) → (∀ b o, s.heap.get? b = some o → b ≠ a ∧ g.get? b = some o) → SrtO.SortableO prog w A.in1.in1 { s with heap := g } a us lt)
    (hQ : ∀ out : List Value, SrtO.Srtd lt out → SrtO.Stb lt out us → Q (.ref (s.heap.objs.size + 1)) { s with heap := sortedAll s.heap us out.toArray }) :
    wpAny (model prog w) A (PySem.call (.builtin "sorted") [.ref t]) Q E s := by
  refine Calls.call_function_entry kind_sorted plain_sorted entry_sorted (args_sorted1 (.ref t)) ?_
  unfold Builtin.«sorted»
  refine wpAny_bind (m := checkCount "sorted" 1 1 _) (wpAny_pure ?_)
  refine wpAny_bind (gather_tup ht hz ?_)
  refine wpAny_bind (wpAny_newList ?_ hz)
  have sz : (gat s.heap us).objs.size = s.heap.objs.size + 1 := by rw [Heap.size_update, size_push']
  have at1 : ((gat s.heap us).push (seqObj "list" us.toArray 0)).get? (s.heap.objs.size + 1) = some (seqObj "list" us.toArray 0) := by
    rw [← sz]
    exact Heap.get?_push_size (gat s.heap us) rfl
  have kp : ∀ b o, s.heap.get? b = some o → b ≠ s.heap.objs.size + 1 ∧ ((gat s.heap us).push (seqObj "list" us.toArray 0)).get? b = some o := fun b o e => by
    have lt : b < s.heap.objs.size := Heap.lt_size e
    refine ⟨Nat.ne_of_lt (Nat.lt_succ_of_lt lt), Heap.get?_push_of_some (seqObj "list" us.toArray 0) ?_⟩
    rw [Heap.get?_update_ne _ _ _ _ (Nat.ne_of_lt lt)]
    exact Heap.get?_push_of_some (seqObj "list" #[] 0) e
  show wpAny _ _ _ _ _ { s with heap := (gat s.heap us).push (seqObj "list" us.toArray 0) }
  rw [sz]
  refine wpAny_bind (wpAny_holding (wpAny_call_entry slot_list_sort ⟨_, at1, rfl⟩ entry_list_sort (SrtO.list_sort_ord O at1 hz (fun h2 => hS h2 _ _ at1 kp) fun out hs hb => ⟨_, rfl, ?_⟩) (args_list_sort _)))
  exact wpAny_pure ⟨_, rfl, hQ out hs hb⟩
end
def rSortedTI (K : PySem.W.Frag) : List V → Hp → VK → Prop := fun vs H Q => ∃ (a : Addr) (ns : List Int), vs = [V.ref a] ∧ SqT K H a (ns.map V.int) ∧
  ∀ (ms : List Int) (p : Addr), ms.Perm ns → ms.Pairwise (· ≤ ·) → H p = none → Q (.ref p) (upd H p (.lst (ms.map V.int)))
theorem cr_sortedTI {X : Cx} : CallR X (.builtin "sorted") (rSortedTI X.K) := by
  intro pins s σ H vs us Q I r hr
  obtain ⟨a, ns, rfl, hs, q⟩ := hr
  obtain ⟨its, rv, hl, hz⟩ := I.tuple hs
  rw [Vals.ref1 r]
  have hi := rv.ints
  refine sorted_tupO SrtO.swo_int (show s.heap.IsTuple a its.toArray from hl) (by rw [← rv.length]; exact hz) (fun h2 _ _ _ _ => SrtO.ints_sortable hi h2) fun out h1 h2 => ?_
  obtain ⟨k1, k2, k3⟩ := SrtO.ints_out hi h1 h2
  obtain ⟨ep, at1⟩ := PyProof.Rows.sortedAll_at s.heap its out.toArray
  refine ⟨.ref _, upd H (s.heap.objs.size + 1) (.lst ((out.map SrtO.iv).map V.int)), I.laid (t' := s.toks) (fun _ _ => PyProof.Rows.sortedAll_old) (Nat.le_succ _) ⟨?_, out, ep, vals_of_ints k1, at1⟩, rfl, q _ _ k2 k3 (I.hok.fresh (Nat.le_succ _))⟩
  rw [List.length_map] at hz ⊢
  rw [k2.length_eq]
  exact hz

def rSortB (K : PySem.W.Frag) : List V → Hp → VK → Prop := fun vs H Q => rSortA K vs H Q ∨ rSortedIT K vs H Q ∨ rSortedTI K vs H Q
theorem call_sortedB {X : Cx} (hc : X.calm = true) : CallR X (.builtin "sorted") (rSortB X.K) := by
  intro pins s σ H vs us Q I r h
  rcases h with h | h | h
  · exact call_sortedA hc pins s σ H vs us Q I r h
  · exact cr_sortedIT pins s σ H vs us Q I r h
  · exact cr_sortedTI pins s σ H vs us Q I r h
theorem Rd.sqT {K : PySem.W.Frag} {H : Hp} {a : Addr} {xs : List V} (h : H a = some (.tup xs)) : SqT K H a xs := .inl (.inl h)
theorem rows_at {C : RC} {O : List Addr} {H : Hp} : ∀ {vs : List V} {ds : List D} {rs : List (List Int)}, RepL C O H vs ds → rowsI ds = some rs →
    ∃ k : V → List Int, vs.map k = rs ∧ ∀ x ∈ vs, ∃ t, x = V.ref t ∧ H t = some (.tup ((k x).map V.int))
  | _, _, _, .nil, e => by cases e; exact ⟨fun _ => [], rfl, fun _ z => nomatch z⟩
  | v :: vs, d :: ds, rs, .cons r1 r2, e => by
    cases d with
    | tup xs =>
      have e : ((intsD xs).bind fun a => (rowsI ds).map fun b => a :: b) = some rs := e
      cases e1 : intsD xs with
      | none => rw [e1] at e; cases e
      | some ns =>
        rw [e1] at e
        have e : (rowsI ds).map (fun b => ns :: b) = some rs := e
        obtain ⟨rs', e2, rfl⟩ := Option.map_eq_some_iff.mp e
        obtain ⟨k, k1, k2⟩ := rows_at r2 e2
        cases r1 with
        | tup ht rr =>
          rename_i t vs'
          have ev := rr.intsD e1
          subst ev
          refine ⟨fun x => if x = V.ref t then ns else k x, ?_, fun x hx => ?_⟩
          · rw [List.map_cons, if_pos rfl, ← k1]
            refine congrArg (ns :: ·) (List.map_congr_left fun x hx => ?_)
            by_cases q : x = V.ref t
            · obtain ⟨t', q1, q2⟩ := k2 x hx
              rw [if_pos q]
              rw [q] at q1 q2 ⊢
              cases q1
              rw [ht] at q2
              have q3 : ns.map V.int = (k (V.ref t)).map V.int := by simpa using q2
              exact (List.map_inj_right fun a b h => by cases h; rfl).mp q3
            · rw [if_neg q]
          · show ∃ t1, x = V.ref t1 ∧ H t1 = some (.tup ((if x = V.ref t then ns else k x).map V.int))
            by_cases q : x = V.ref t
            · rw [if_pos q]; exact ⟨t, q, ht⟩
            · rw [if_neg q]
              rcases List.mem_cons.mp hx with z | z
              · exact absurd z q
              · exact k2 x z
    | _ => cases e
theorem rep_rows {C : RC} {O : List Addr} {H : Hp} {k : V → List Int} : ∀ {ys : List V}, (∀ x ∈ ys, ∃ t, x = V.ref t ∧ H t = some (.tup ((k x).map V.int))) → RepL C O H ys ((ys.map k).map tupI)
  | [], _ => .nil
  | y :: ys, h => by
    obtain ⟨t, e1, e2⟩ := h y List.mem_cons_self
    refine .cons ?_ (rep_rows fun x hx => h x (List.mem_cons_of_mem _ hx))
    rw [e1] at e2 ⊢
    exact .tup e2 (.ofInts _)
theorem sortB_ok {X : Cx} : CRok X (rSortB X.K) .sorted 1 := by
  intro C its H xs ds d Q hK g n hp e q
  obtain ⟨x, dx, rfl, rfl, hx⟩ := one hp n
  cases dx with
  | lst f s =>
    obtain ⟨a, vs, rfl, ha, r⟩ := item_lst hx
    have e : (match intsD s with | some r => Res.ok (D.lst .own ((sortI r).map .int)) | none => sortRows s) = .ok d := e
    split at e
    · rename_i ns en
      cases e
      exact .inl (.inl (sortedI_ok C its H a vs s ns Q hK g ha r en q))
    · unfold sortRows at e
      split at e
      · rename_i rs er
        split at e
        · rename_i hb
          cases e
          obtain ⟨k, k1, k2⟩ := rows_at r er
          refine .inr (.inl ⟨a, vs, k, rfl, .inl ha, fun x hx => ?_, ?_, fun ys p h1 h2 hn => ?_⟩)
          · obtain ⟨t, e1, e2⟩ := k2 x hx
            exact ⟨t, e1, Rd.sqT e2⟩
          · rw [Bool.or_eq_true] at hb
            rcases hb with z | z
            · have := Nat.le_of_ble_eq_true z
              rw [← k1, List.length_map] at this
              exact .inl this
            · refine .inr fun x hx e0 => ?_
              have := List.all_eq_true.mp z (k x) (by rw [← k1]; exact List.mem_map.mpr ⟨x, hx, rfl⟩)
              rw [e0] at this
              cases this
          · have es : ys.map k = sortT rs := sortedT_one ((h1.map k).trans (by rw [k1]; exact (sortT_perm rs).symm)) h2 (sortT_sorted rs)
            have rr : RepL C (roots its) H ys ((sortT rs).map tupI) := by
              rw [← es]
              exact rep_rows fun x hx => k2 x (h1.mem_iff.mp hx)
            exact q _ _ (g.newL rr hn)
        · cases e
      · cases e
  | tup s =>
    obtain ⟨a, vs, rfl, ha, r⟩ := item_tup hx
    have e : (match intsD s with | some r => Res.ok (D.lst .own ((sortI r).map .int)) | none => .bad) = .ok d := e
    split at e
    · rename_i ns en
      cases e
      have ev := r.intsD en
      subst ev
      refine .inr (.inr ⟨a, ns, rfl, .inl (.inl ha), fun ms p h1 h2 hn => ?_⟩)
      have em : ms = sortI ns := sorted_one (h1.trans (sortI_perm ns).symm) h2 (sortI_sorted ns)
      rw [em]
      exact q _ _ (g.newL (.ofInts _) hn)
    · cases e
  | dic f t kvs =>
    cases t with
    | true => cases e
    | false =>
      have e : (match intsD (keysD kvs) with | some r => if Nat.blt r.length 64 then Res.ok (D.lst .own ((sortI r).map .int)) else .bad | none => .bad) = .ok d := e
      split at e
      · rename_i ns en
        split at e
        · rename_i hl
          cases e
          obtain ⟨a, l, rfl, ha, r⟩ := item_dic hx
          cases ha with
          | k rd p =>
            refine .inl (.inr ⟨a, _, ns, rfl, rd, keys_int r p en, Nat.le_of_ble_eq_true hl, fun ys p h1 h2 hp => ?_⟩)
            have : ys = sortI ns := sorted_one (h1.trans (sortI_perm ns).symm) h2 (sortI_sorted ns)
            rw [this]
            exact q _ _ (g.newL (.ofInts _) hp)
        · cases e
      · cases e
  | _ => cases e
end QE
namespace QE
open PySem L2 PySem.Spec PyProof.Rows
section
variable {P : PD} {N : List Str} {sc : Scope} {Φ : Calls} {Mu : Muts} {W : Nat} {K : PySem.W.Frag} {fnA : FA} {EX : EC} {Wx : WX} {X : Cx} {x : Str} {p pos pos' : Pos}
theorem s_raise0 (hX : XOk P N sc Φ Mu K fnA EX Wx X) (hh : P.hot = false) (hg : Gl X x) (hd : (x == ("__debug__" : Str)) = false) (hy : (x, none) ∈ P.excs) :
    PS X (.Raise (some (.Call (.Name x p) [] [] pos)) none pos') (TSt Φ Mu W K fnA EX Wx (.raise (nm x) [])) := by
  have hm := (hX.excs.row _ hy).gl
  have T : Exc0 K (He.ga K x) := (hX.excs.row _ hy).made
  rw [hX.K] at T hm
  refine weakS (ps_raise (hX.calm hh) hX.tk (pmk_exc0 T hg hm hd)) fun D0 σ H q => ?_
  obtain ⟨C, F, ρ, hC, st, k⟩ := q
  have k : ∀ σ', ErrP EX Wx C σ' (nm x) .non := k
  refine k σ _ _ H st.good.ext ?_
  rw [hX.ex]
  exact ⟨(x, none), hy, rfl, by rw [hX.K], rfl, rfl⟩
theorem fv_of {C : RC} {O : List Addr} {H : Hp} {v : V} {d : D} (h : ItemOk C O H (v, d)) (hf : flat d = true) : fv d = some v := by
  cases d with
  | non => cases (show Rep C O H v .non from h); rfl
  | bl b => cases (show Rep C O H v (.bl b) from h); rfl
  | int i => cases (show Rep C O H v (.int i) from h); rfl
  | str s => cases (show Rep C O H v (.str s) from h); rfl
  | _ => cases hf
theorem s_raise1 {f : Str} {e : Expr} {ie : IE} (hX : XOk P N sc Φ Mu K fnA EX Wx X) (hh : P.hot = false) (hg : Gl X x) (hd : (x == ("__debug__" : Str)) = false) (hy : (x, some f) ∈ P.excs) (hsup : ("super" : Str) ∈ P.free) (he : EOk Φ Mu K fnA EX Wx X e ie) (hs : starEach [e] X.env = [(false, eval e X.env)]) :
    PS X (.Raise (some (.Call (.Name x p) [e] [] pos)) none pos') (TSt Φ Mu W K fnA EX Wx (.raise (nm x) [ie])) := by
  have hm := (hX.excs.row _ hy).gl
  have T : Exc1 K X.prog (He.ga K x) f := (hX.excs.row _ hy).made
  rw [hX.K] at T hm
  refine weakS (ps_raise (hX.calm hh) hX.tk (pmk_exc1 T (hX.room hh) (hX.mg0 _ hsup) hg hm he.v hs hd)) fun D0 σ H q => ?_
  obtain ⟨C, F, ρ, hC, st, k⟩ := q
  have k : post ((evs Φ Mu [ie] ρ).bind fun r => match r.1 with
    | [] => .err (nm x) .non
    | [x'] => if flat x' then .err (nm x) x' else .bad
    | _ => .bad) (fwP C F D0) (fun c x => ∀ σ', ErrP EX Wx C σ' c x) := k
  have e1 : evs Φ Mu [ie] ρ = (ev Φ Mu ie ρ).bind fun r => (shareR r.1).bind fun d' => .ok ([d'], r.2) := rfl
  rw [e1] at k
  refine ⟨C, F, ρ, hC, st, ?_⟩
  cases e2 : ev Φ Mu ie ρ with
  | bad => rw [e2] at k; exact k.elim
  | err c y => rw [e2] at k; exact (show ∀ σ', ErrP EX Wx C σ' c y from k) σ
  | ok r =>
    obtain ⟨d, ρ1⟩ := r
    rw [e2] at k
    intro v H1 s1
    refine ⟨v, rfl, fun dx hdx => ?_⟩
    have k : post (((shareR d).bind fun d' => .ok ([d'], ρ1)).bind fun r => match r.1 with
      | [] => .err (nm x) .non
      | [x'] => if flat x' then .err (nm x) x' else .bad
      | _ => .bad) (fwP C F D0) (fun c x => ∀ σ', ErrP EX Wx C σ' c x) := k
    by_cases hM : isM d = true
    · have : shareR d = .bad := by unfold shareR; rw [if_pos hM]
      rw [this] at k; exact k.elim
    · have hS : shareR d = .ok (share d) := by unfold shareR; rw [if_neg hM]
      rw [hS] at k
      have k : post (if flat (share d) then .err (nm x) (share d) else .bad) (fwP C F D0) (fun c x => ∀ σ', ErrP EX Wx C σ' c x) := k
      by_cases hf : flat (share d) = true
      · rw [if_pos hf] at k
        have hd' : flat d = true := by
          cases d with
          | lst f xs => cases f <;> cases hf
          | dic f t xs => cases f <;> cases hf
          | _ => exact hf
        have hsd : share d = d := share_of (by cases d <;> first | trivial | cases hd')
        rw [hsd] at k
        have g := s1.good
        have hv := fv_of g.head hd'
        have k : ∀ σ', ErrP EX Wx C σ' (nm x) d := k
        refine k σ _ _ _ (g.ext.keepS (KeepS.new hdx)) ?_
        rw [hX.ex]
        exact ⟨(x, some f), hy, rfl, by rw [hX.K], dx, v, rfl, hv, upd_same⟩
      · rw [if_neg hf] at k; exact k.elim
end
end QE
namespace PySem.W
open PySem PySem.Spec PySem.Calls PyProof.Rows
section
variable {prog : Program} {w : World} {A : Around} {E : Value → Shared → Prop} {s : Shared} {K : Frag} {x D : Addr} {ox : Obj} {od : Option Obj}
theorem findObj_dataO {C : Addr} {name : Str} {a g : Value} (hc : (clsIn K C).isSome = true) (ha : findIn K (.ref C) name = some (some a)) (hg : specialIn K a "__get__" = some (some g)) (ht : takesIn K a = some true) : findObj K C od name = some (.bind g a) := by
  obtain ⟨cd, hc⟩ := Option.isSome_iff_exists.mp hc
  unfold findObj
  rw [hc, Option.bind_some, ha, Option.bind_some]
  simp [hg, ht]
theorem kin_classO {Q : Option Value → Shared → Prop} (hga : findIn K (.ref D) "__getattribute__" = some (some (.builtin "BaseException.__getattribute__"))) (hgt : findIn K (.ref D) "__getattr__" = some none) (hsub : subIn K (.ref D) (.type "BaseException") = some true)
    (hdct : hasDictIn K D = true) (ha : findIn K (.ref D) "__class__" = some (some (.builtin "object.__class__")))
    (hn : specialIn K (.builtin "object.__class__") "__get__" = some (some (.builtin "getset_descriptor.__get__"))) (htk : takesIn K (.builtin "object.__class__") = some true) (hm : mroIn K D (.type "object") = some true)
    (X : K.In s.heap) (I : InstAt s.heap x ox D od) (h : Q (some (.ref D)) { s with toks := s.toks + 1 }) : wpAny (model prog w) A (getAttr? (.ref x) "__class__") Q E s := by
  have hf : findObj K D od "__class__" = some (.bind (.builtin "getset_descriptor.__get__") (.builtin "object.__class__")) := findObj_dataO (by obtain ⟨cd, hc, _⟩ := any_some hdct; rw [hc]; rfl) ha hn htk
  obtain ⟨hp, g, d, t, os⟩ := s
  have L0 := I.type (M := model prog w)
  have L1 := looks_findIn (M := model prog w) X hga
  have L2 := looks_findIn (M := model prog w) X hgt
  have L3 := looks_find (M := model prog w) X I hf
  have sub : Looks (model prog w) hp (isInstance (.ref x) (.type "BaseException")) true := L0.andThen (looks_subIn X hsub)
  have hx0 : (false && onTheHeap (Value.builtin "BaseException.__getattribute__")) = false := rfl
  have hx2 : (Value.builtin "BaseException.__getattribute__" == Value.builtin "object.__getattribute__") = false := by decide +kernel
  have hx1 : (onTheHeap (Value.ref D) && Value.builtin "BaseException.__getattribute__" == Value.builtin "object.__getattribute__") = false := by rw [hx2]; rfl
  unfold getAttr? getAttrBy? getAttrBy
  refine wpAny_bind (wpAny_mkText (wpAny_bind (wpAny_attempt (wpAny_holding (wpAny_bind (L0.at (wpAny_bind (L1.at ?_))))))))
  show wpAny _ _ (if (onTheHeap (Value.ref D) && Value.builtin "BaseException.__getattribute__" == Value.builtin "object.__getattribute__") = true then _ else _) _ _ _
  rw [hx1, if_neg Bool.false_ne_true]
  unfold getAttrByItsOwn hookBefore
  refine wpAny_bind ?_
  rw [if_pos (show onTheHeap (Value.ref D) = true from rfl)]
  refine L2.at ?_
  refine wpAny_bind (wpAny_attempt (wpAny_holding ?_))
  unfold callGetattribute
  rw [hx0, if_neg Bool.false_ne_true]
  unfold boundAndCalled
  rw [PySem.F.excAttr_ValueError.ga.bind (.ref x)]
  refine wpAny_bind (wpAny_pure ?_)
  show wpAny _ _ (call (.builtin "BaseException.__getattribute__") [.ref x, .str "__class__" t]) _ _ _
  refine wpAny_call (codeAny_call_builtin PySem.F.excAttr_ValueError.ga.plain PySem.F.entry_bexc_ga ?_)
  refine @check_slot (model prog w) _ _ ⟨hp, g, d, t + 1, os⟩ "BaseException.__getattribute__" "BaseException" "__getattribute__" (.ref x) [.str "__class__" t] [] _ (by decide +kernel) (by decide +kernel) sub (PySem.F.args_bexc_ga (.ref x) (.str "__class__" t)) ?_
  unfold Builtin.«object.__getattribute__»
  refine wpAny_bind (wpAny_of_eq (a := ((Value.ref x : Value), [Value.str "__class__" t])) (by first | rfl | (simp only [slotArgs]; rfl)) ?_)
  refine wpAny_bind (wpAny_pure (wpAny_bind (L0.at (wpAny_bind (L3.at ?_)))))
  show wpAny _ _ (holding [Value.builtin "object.__class__"] (call (.builtin "getset_descriptor.__get__") [.builtin "object.__class__", .ref x, .ref D]) >>= ret) _ _ _
  refine wpAny_bind (wpAny_holding (wpAny_call (class_get (s := ⟨hp, g, d, t + 1, os⟩) (ox := ox) (od := od) X I hm ?_)))
  refine wpAny_pure ?_
  show wpAny _ _ (handedOut (.ref D)) _ _ _
  rw [handedOut_of (v := .ref D) rfl]
  first
    | exact wpAny_pure (wpAny_pure h)
    | exact wpAny_pure h
    | exact wpAny_pure (wpAny_bind (wpAny_pure (wpAny_pure h)))
theorem kitx_excO (hga : findIn K (.ref D) "__getattribute__" = some (some (.builtin "BaseException.__getattribute__"))) (hgt : findIn K (.ref D) "__getattr__" = some none) (hsub : subIn K (.ref D) (.type "BaseException") = some true) (hdct : hasDictIn K D = true) (ha : findIn K (.ref D) "__class__" = some (some (.builtin "object.__class__")))
    (hn : specialIn K (.builtin "object.__class__") "__get__" = some (some (.builtin "getset_descriptor.__get__"))) (htk : takesIn K (.builtin "object.__class__") = some true) (hm : mroIn K D (.type "object") = some true) :
    KitX K (.ref x) (.ref D) (fun h => ∃ od, InstAt h x ox D od) where
  ty := fun _ _ _ ⟨_, I⟩ => I.type
  it := fun _ _ X _ => by
    obtain ⟨cdD, hcD, _⟩ := any_some hdct
    unfold clsIn at hcD
    split at hcD
    · rename_i c' d' cd' sl' ho
      intro A' Q' E' s' k q
      unfold isType loadHead
      exact wpAny_bind (wpAny_loadPart (k _ _ (X _ _ ho)) (wpAny_pure q))
    · cases hcD
  ne := fun h tp dd its n sl X htp => by
    obtain ⟨cdD, hcD, _⟩ := any_some hdct
    refine Bool.eq_false_iff.mpr fun q => ?_
    have e : D = tp := Value.ref.inj (beq_iff_eq.mp q)
    subst e
    unfold clsIn at hcD
    split at hcD
    · rename_i c' d' cd' sl' ho
      have z := (X _ _ ho).symm.trans htp
      cases z
    · cases hcD
  ca := fun X ⟨_, I⟩ k => kin_classO hga hgt hsub hdct ha hn htk hm X I k
end
end PySem.W
namespace QE
open PySem L2 PySem.Spec PyProof.Rows
def rIsO (K : PySem.W.Frag) (D a : Addr) (d : Option Addr) : List V → Hp → VK → Prop := fun xs H Q => (∀ dx, d = some dx → ∃ fs, H dx = some (.xd fs)) ∧ ∃ (c : V) (cv : Value) (b : Bool), xs = [.ref a, c] ∧ (∀ u, RelV c u → u = cv) ∧ PySem.W.kitOne K (.ref D) cv = some b ∧ Q (.bl b) H
theorem call_isO {X : Cx} {a D : Addr} {d : Option Addr} {oe : Obj} {pn : List (Addr × Obj)} (C : ExcC X.K D) (hz : Zc (.ref D) d oe) (hf : ∃ vs, oe.data = .fields vs) : CallR (X.suite a ((a, oe) :: pn)) (.builtin "isinstance") (rIsO X.K D a d) := by
  intro pins s σ H xs us Q I r h
  obtain ⟨hdx, c, cv, b, rfl, hcv, e, q⟩ := h
  cases r with
  | cons rx rr =>
    cases rr with
    | cons rt rr =>
      cases rr
      cases rx
      have ec := hcv _ rt
      subst ec
      obtain ⟨hget, _⟩ := I.pin (a, oe) (List.mem_append.mpr (.inl List.mem_cons_self))
      obtain ⟨vs, hv⟩ := hf
      have J : ∃ od, PySem.W.InstAt s.heap a oe D od := by
        obtain ⟨oc, odd, oda, osl⟩ := oe
        obtain ⟨h1, h2⟩ := hz
        dsimp only at h1 h2 hv
        subst h1 h2 hv
        cases odd with
        | none => exact ⟨none, hget, rfl, rfl, trivial⟩
        | some dx =>
          obtain ⟨fs, hx⟩ := hdx dx rfl
          have hx' : ObjOk X.prog X.w H s.heap dx (.xd fs) := I.hok dx _ hx
          obtain ⟨mA, ⟨o, es, ep, ho, _⟩, _⟩ := hx'
          exact ⟨some o, hget, rfl, rfl, ho⟩
      exact PySem.W.kia_one (PySem.W.kitx_excO C.hg C.hk C.hs C.hd C.ha C.hn C.ht C.hm) I.kIn J e (fun z => nomatch z) fun tk => ⟨.bl b, H, I.kept (t' := tk) fun _ _ z => z, rfl, q⟩
end QE
namespace QE
open PySem L2 PySem.Spec PyProof.Rows
section
variable {P : PD} {N : List Str} {sc : Scope} {Φ : Calls} {Mu : Muts} {K : PySem.W.Frag} {fnA : FA} {EX : EC} {Wx : WX} {X : Cx} {x y : Str} {i : Nat} {p1 p2 p3 pos : Pos}
theorem hot_at (hX : XOk P N sc Φ Mu K fnA EX Wx X) {C : RC} {F : List (V × D)} {σ : L2.St} {ρ : Env} {H : Hp} {c : Nat} {xx : D} (hC : CtxOk K fnA C) (st : StOk C F σ ρ H) (e : getS ρ i = some (.exc c xx))
    {a : Addr} {cls : Value} {d : Option Addr} (ht : ∀ a' c x H, fnA.ex a' c x H → a' = a ∧ EX.exc c x cls d H) : σ[i]? = some (some (.ref a)) ∧ ∃ z ∈ P.excs, nm z.1 = c ∧ exRow K z xx cls d H := by
  obtain ⟨v, h1, g, _⟩ := st.at e
  have h : Rep C (roots ((v, D.exc c xx) :: (F ++ sl σ (setS ρ i none)))) H v (.exc c xx) := g.head
  cases h with
  | exc h =>
    have h := h
    unfold RC.exA at h
    rw [hC.fnA] at h
    obtain ⟨rfl, q⟩ := ht _ _ _ _ h
    rw [hX.ex] at q
    exact ⟨h1, q⟩
theorem xd_of {z : Str × Option Str} {xx : D} {cls : Value} {d : Option Addr} {H : Hp} (h : exRow K z xx cls d H) : ∀ dx, d = some dx → ∃ fs, H dx = some (.xd fs) := by
  intro dx e
  obtain ⟨_, h⟩ := h
  obtain ⟨n, o⟩ := z
  cases o with
  | none =>
    have h : xx = .non ∧ d = none := h
    rw [h.2] at e; cases e
  | some f =>
    obtain ⟨dx', v, e', _, hx⟩ := h
    rw [e'] at e; cases e
    exact ⟨_, hx⟩
theorem e_exIs_ {cv : Value} {bf : Nat → Bool} {te : V} (hX : XOk P N sc Φ Mu K fnA EX Wx X) (hh : P.hot = true) (hg : Gl X "isinstance") (hm : X.mg "isinstance" = none) (hN : X.N[i]? = some x) (hv : Vis X.env.scope x) (hd : (x == ("__debug__" : Str)) = false) (hcd : (x == ("__classdict__" : Str)) = false)
    (hcls : PE X (.Name y p3) (tC te)) (hcv : ∀ u, RelV te u → u = cv) (hk : ∀ z ∈ P.excs, PySem.W.kitOne K (.ref (He.ga K z.1)) cv = some (bf (nm z.1))) {ie : IE} (hev : ∀ ρ, ev Φ Mu ie ρ = match getS ρ i with
      | some (.exc c _) => .ok (.bl (bf c), ρ)
      | _ => .bad) (hvo : varOf ie = none) : EOk Φ Mu K fnA EX Wx X (.Call (.Name "isinstance" p1) [.Name x p2, .Name y p3] [] pos) ie := by
  refine EOk.of ⟨fun pins s σ H Q I q => ?_⟩ hvo
  obtain ⟨C, F, ρ, hC, st, k⟩ := q
  rw [hev] at k
  obtain ⟨X0, a, oe, pn, cls, d, rfl, hz, hf, ht⟩ := hX.hotx hh
  cases e1 : getS ρ i with
  | none => rw [e1] at k; exact k.elim
  | some dv =>
    rw [e1] at k
    cases dv with
    | exc c xx =>
      obtain ⟨hσ, z, hzm, hc, hr⟩ := hot_at hX hC st e1 ht
      obtain ⟨hcl, hr2⟩ := id hr
      subst hcl
      have hE : ExcC K (He.ga K z.1) := (hX.excs.row z hzm).cc
      rw [hX.K] at hE
      have hkk := hk z hzm
      rw [hc, hX.K] at hkk
      have k : ∀ v H', StOk C ((v, .bl (bf c)) :: F) σ ρ H' → Q v H' := k
      have hz' : Zc (.ref (He.ga X0.K z.1)) d oe := by
        have := hz
        rw [hX.K] at this
        exact this
      refine (pe_callB (call_isO (X := X0) (D := He.ga X0.K z.1) (pn := pn) hE hz' hf) hg hm (by decide +kernel) (pa_cons (pe_var hN hv hd hcd) (pa_cons hcls pa_nil)) (by decide) (by decide)).run pins s σ H Q I ?_
      refine ⟨.ref a, hσ, ?_⟩
      refine (show (tCons (tC te) tNil) σ H (fun xs H2 => rIsO X0.K (He.ga X0.K z.1) a d (V.ref a :: xs) H2 Q) from ?_)
      exact ⟨xd_of hr, te, cv, bf c, rfl, hcv, hkk, k _ _ ⟨st.ok, st.good.add (.bl _)⟩⟩
    | _ => exact k.elim
theorem e_exF_ {f : Str} (hX : XOk P N sc Φ Mu K fnA EX Wx X) (hh : P.hot = true) (hN : X.N[i]? = some x) (hv : Vis X.env.scope x) (hd : (x == ("__debug__" : Str)) = false) (hcd : (x == ("__classdict__" : Str)) = false) (hf0 : attributeBase (.Name x p2) f X.env (eval (.Name x p2) X.env) = eval (.Name x p2) X.env) {cs : List Nat}
    (hcs : ∀ c, memN c cs = true → ∀ z ∈ P.excs, nm z.1 = c → z.2 = some f) : EOk Φ Mu K fnA EX Wx X (.Attribute (.Name x p2) f pos) (.exF i cs) := by
  refine EOk.of ⟨fun pins s σ H Q I q => ?_⟩ rfl
  obtain ⟨C, F, ρ, hC, st, k⟩ := q
  have k : post (match getS ρ i with
    | some (.exc c x) => if memN c cs && flat x then .ok (x, ρ) else .bad
    | _ => .bad) (fun r => ∀ v H', StOk C ((v, r.1) :: F) σ r.2 H' → Q v H') (ErrP EX Wx C σ) := k
  obtain ⟨X0, a, oe, pn, cls, d, rfl, hz, hf, ht⟩ := hX.hotx hh
  cases e1 : getS ρ i with
  | none => rw [e1] at k; exact k.elim
  | some dv =>
    rw [e1] at k
    cases dv with
    | exc c xx =>
      simp only at k
      split at k
      · rename_i hb
        rw [Bool.and_eq_true] at hb
        obtain ⟨hσ, z, hzm, hc, hr⟩ := hot_at hX hC st e1 ht
        have hz2 := hcs c hb.1 z hzm hc
        obtain ⟨hcl, hr2⟩ := id hr
        subst hcl
        rw [hz2] at hr2
        obtain ⟨dx, v, hd2, hfv, hx⟩ := hr2
        obtain ⟨hXf, hno⟩ := (hX.excs.row z hzm).fld f hz2
        rw [hX.K] at hXf hno
        have k : ∀ v H', StOk C ((v, xx) :: F) σ ρ H' → Q v H' := k
        have hz' : Zc (.ref (He.ga X0.K z.1)) d oe := by
          have := hz
          rw [hX.K] at this
          exact this
        refine (pe_xf (X := X0) (cls := .ref (He.ga X0.K z.1)) (d := d) hXf hno hz' hf (pe_var hN hv hd hcd) hf0).run pins s σ H Q I ?_
        refine ⟨.ref a, hσ, rfl, rfl, dx, [(f, v)], v, hd2, hx, by simp [List.lookup], k _ _ ⟨st.ok, st.good.add ?_⟩⟩
        cases xx with
        | non => cases hfv; exact .non
        | bl b => cases hfv; exact .bl b
        | int n => cases hfv; exact .int n
        | str n => cases hfv; exact .str n
        | _ => cases hfv
      · exact k.elim
    | _ => exact k.elim
end
end QE
namespace QST
open PySem L2 PySem.Spec PyProof.Rows
def firsts (l : List Str) : List Str := l.foldl (fun s x => if x ∈ s then s else s ++ [x]) []
def dcS (l : List Str) : Nat := (firsts l).length
theorem firsts_snoc (l : List Str) (x : Str) : firsts (l ++ [x]) = if x ∈ firsts l then firsts l else firsts l ++ [x] := by unfold firsts; rw [List.foldl_append]; rfl
theorem snocS {P : List Str → Prop} (h0 : P []) (h1 : ∀ l x, P l → P (l ++ [x])) (l : List Str) : P l := by
  rw [← List.reverse_reverse l]
  induction l.reverse with
  | nil => exact h0
  | cons x r ih => rw [List.reverse_cons]; exact h1 _ _ ih
theorem firsts_mem (l : List Str) (y : Str) : y ∈ firsts l ↔ y ∈ l := by
  refine snocS (P := fun l => y ∈ firsts l ↔ y ∈ l) Iff.rfl (fun l x ih => ?_) l
  rw [firsts_snoc]
  by_cases h : x ∈ firsts l
  · rw [if_pos h, ih, List.mem_append]
    constructor
    · exact .inl
    · rintro (z | z)
      · exact z
      · rw [List.mem_singleton.mp z]
        -- x is known
        have hx : x ∈ firsts l := h
        exact (snocS (P := fun l => ∀ y, y ∈ firsts l ↔ y ∈ l) (fun _ => Iff.rfl) (fun l x ih y => by
          rw [firsts_snoc, List.mem_append, List.mem_singleton]
          split
          · rename_i hh
            rw [ih y]
            constructor
            · exact .inl
            · rintro (z | z)
              · exact z
              · rw [z]; exact (ih x).mp hh
          · rw [List.mem_append, List.mem_singleton, ih y]) l x).mp hx
  · rw [if_neg h, List.mem_append, List.mem_append, ih]
theorem dcS_snoc (l : List Str) (x : Str) : dcS (l ++ [x]) = if x ∈ l then dcS l else dcS l + 1 := by
  unfold dcS
  rw [firsts_snoc]
  by_cases h : x ∈ l
  · rw [if_pos ((firsts_mem l x).mpr h), if_pos h]
  · rw [if_neg (fun z => h ((firsts_mem l x).mp z)), if_neg h, List.length_append, List.length_singleton]
theorem dcS_le (l : List Str) : dcS l ≤ l.length := by
  refine snocS (P := fun l => dcS l ≤ l.length) (Nat.le_refl _) (fun l x ih => ?_) l
  rw [dcS_snoc, List.length_append, List.length_singleton]
  split <;> omega
theorem setOf_at {P : Program} {w : World} {h h' : Heap} {a : Addr} {S : Str → Bool} {n : Nat} (hS : h.SetOf (strKind P w) a S n) (k : ∀ o, h.get? a = some o → h'.get? a = some o) : h'.SetOf (strKind P w) a S n := by
  obtain ⟨o, es, ep, t, ho, rest⟩ := hS
  exact ⟨o, es, ep, t, k o ho, rest⟩
section
variable {P : Program} {w : World} {A : Around}
theorem set_update_strs {I : Addr} {fp wr : List Addr} {G : Array GenState → Array GenState → Prop} {n : Nat} {Pv : Nat → Value → Prop} {St : Nat → Shared → Prop} {R : Result → Shared → Prop}
    (W : WalksS P w A.in1 I fp wr G n Pv St) (S : Addr) (hSf : S ∉ fp) (ns : List Str) (hn : n = ns.length) (hb : ns.length + 1 < scanBound) (hval : ∀ i v, Pv i v → ∃ k t, ns[i]? = some k ∧ v = .str k t) :
    ∀ (k i : Nat) (s : Shared), n - i = k → i ≤ n → St i s → s.heap.SetOf (strKind P w) S (fun j => decide (j ∈ ns.take i)) (dcS (ns.take i)) →
      (∀ s', Moved (S :: wr) G s s' → s'.heap.SetOf (strKind P w) S (fun j => decide (j ∈ ns)) (dcS ns) → R (.ok (.ret .none)) s') →
      codeAny (model P w) A (.builtin "set.update.loop" ⟨[.ref S, .ref I], []⟩) R s := by
  have out : S ∉ wr := fun h => hSf (W.sub _ h)
  have sub : ∀ b ∈ wr, b ∈ S :: wr := fun b hb => List.mem_cons_of_mem _ hb
  intro k
  induction k with
  | zero =>
    intro i s hk hi hst hS hR
    obtain rfl : i = n := by omega
    refine codeAny_builtin F.entry_set_update_loop ?_
    rw [Around.under_plainId F.plain_set_update_loop _]
    show wpAny _ A.in1 (pyNext (.ref I) >>= _) _ _ s
    refine wpAny_bind (W.done s _ _ hst fun s' mv => ?_)
    show wpAny _ A.in1 (ret Value.none) _ _ s'
    rw [List.take_of_length_le (show ns.length ≤ i by omega)] at hS
    exact wpAny_pure (hR s' (mv.mono sub) (setOf_at hS fun o e => mv.heap S o out e))
  | succ k ih =>
    intro i s hk hi hst hS hR
    have lt : i < n := by omega
    refine codeAny_builtin F.entry_set_update_loop ?_
    rw [Around.under_plainId F.plain_set_update_loop _]
    show wpAny _ A.in1 (pyNext (.ref I) >>= _) _ _ s
    refine wpAny_bind (W.item i s _ _ lt hst fun v s' hP hst' mv => ?_)
    obtain ⟨z, t, hz, rfl⟩ := hval i v hP
    have hS' := setOf_at (h' := s'.heap) hS fun o e => mv.heap S o out e
    show wpAny _ A.in1 (holding [Value.str z t] (setAdd S (.str z t)) >>= _) _ _ s'
    refine wpAny_bind (wpAny_holding ?_)
    unfold setAdd
    refine wpAny_holding ?_
    refine wpAny_bind ((strKind P w).pyHash (k := z) (strKind_is _ _ _ _) ?_)
    have dl := dcS_le (ns.take i)
    rw [List.length_take] at dl
    refine wpAny_setAddHashed_of (knd := strKind P w) (s := { s' with toks := s'.toks + 1 }) (strKind_is _ _ _ _) rfl hS' (by omega) fun h' sb hS2 => ?_
    have tk : ns.take (i + 1) = ns.take i ++ [z] := by rw [List.take_add_one, hz]; rfl
    have hS3 : h'.SetOf (strKind P w) S (fun j => decide (j ∈ ns.take (i + 1))) (dcS (ns.take (i + 1))) := SetOf_congr hS2 (fun j => by rw [tk]; simp [List.mem_append]) (by
      rw [tk, dcS_snoc]
      by_cases c : z ∈ ns.take i
      · rw [if_pos c, if_pos (decide_eq_true c)]
      · rw [if_neg c, if_neg (by rw [decide_eq_true_eq]; exact c)])
    refine wpAny_pure ⟨plainId_quiet F.plain_set_update_loop _, ih (i + 1) _ (by omega) lt (W.frame _ s' _ _ hst' (Nat.le_succ _) fun b hb o e => ?_) hS3 fun s'' mv2 hS'' => ?_⟩
    · rw [sb.2 b (fun h : b = S => hSf (by rw [← h]; exact hb))]; exact e
    · refine hR s'' (Moved.trans W.gtrans ((mv.mono sub).then_heap (Nat.le_succ _) fun b o hb e => ?_) mv2) hS''
      rw [sb.2 b (fun h : b = S => hb (by rw [h]; exact List.mem_cons_self))]; exact e
end
section
variable {P : Program} {w : World} {A : Around} {E : Value → Shared → Prop} {s : Shared}
theorem eset_typeT {h : Heap} {s0 : Shared} (e : s0.heap = h.push (QS.eSet w)) : s0.TypeIs (.ref h.objs.size) "set" := ⟨_, by rw [e]; exact Heap.get?_push_size _ rfl, rfl⟩
def UpdT (P : Program) (w : World) (s : Shared) (ns : List Str) (r : Value) (s₂ : Shared) : Prop := r = .none ∧ ∃ h' tk, s₂ = { s with heap := h', toks := tk } ∧ h'.SetOf (strKind P w) s.heap.objs.size (fun j => decide (j ∈ ns)) (dcS ns) ∧ (∀ b o, s.heap.get? b = some o → h'.get? b = some o)
theorem call_setT {l : Addr} {xs : Array Value} (ns : List Str) {Q : Value → Shared → Prop} (hh : A.handled = none) (hl : s.heap.IsList l xs) (hi : StrsAre xs.toList ns) (hb : ns.length + 1 < scanBound)
    (q : ∀ (h' : Heap) (tk : Nat), h'.SetOf (strKind P w) s.heap.objs.size (fun j => decide (j ∈ ns)) (dcS ns) → (∀ b o, s.heap.get? b = some o → h'.get? b = some o) → Q (.ref s.heap.objs.size) { s with heap := h', toks := tk }) :
    wpAny (model P w) A (call (.type "set") [.ref l]) Q E s := by
  have hsz : xs.size = ns.length := (Array.length_toList).symm.trans (StrsAre.len_eq hi)
  obtain ⟨c, tl, m1⟩ := F.called_set.mro
  have m2 := F.called_set.made
  have m3 := F.called_set.sub
  refine wpAny_call (codeAny_of_tree ?_)
  show wpAny _ _ (callAny (.type "set") _) _ _ _
  refine wpAny_pure ⟨Code.quiet_builtin _ (by decide +kernel), codeAny_builtin F.entry_type_call ?_⟩
  rw [Around.under_plain (weight_type_call_type "set" [.ref l] []) rfl]
  have n1 := F.called_set.notType
  have n2 := F.called_set.canCreate
  have n3 := F.typeCall_set_1 (.ref l)
  repeat (any_goals (first | assumption | wp_step))
  refine codeAny_mono (code_set_led1 (.ref l) (E := E) (Q₁ := fun u s₁ => u = .ref s.heap.objs.size ∧ s₁ = { s with heap := s.heap.push (QS.eSet w) }) ⟨rfl, rfl⟩) fun r s₁ k => ?_
  cases r with
  | error e => exact k
  | ok fl =>
    cases fl with
    | ret u =>
      obtain ⟨rfl, rfl⟩ := k
      have at0 : (s.heap.push (QS.eSet w)).get? s.heap.objs.size = some (QS.eSet w) := Heap.get?_push_size _ rfl
      have ty : Shared.TypeIs { s with heap := s.heap.push (QS.eSet w) } (.ref s.heap.objs.size) "set" := eset_typeT (w := w) rfl
      have i1 := F.called_set.init.lookup
      have i2 := F.called_set.init.bind (.ref s.heap.objs.size)
      repeat (any_goals (first | assumption | wp_step))
      refine codeAny_mono (codeAny_call_builtin (R := wants (UpdT P w s ns) E) F.called_set.init.plain F.entry_set_init (check_set_init_1 ty ?_)) fun r₂ s₂ k₂ => ?_
      · obtain ⟨⟨oc, od, dt, os⟩, ho, hc, nl, hd⟩ := hl
        simp only at hc hd
        subst hc; subst hd
        have ho' : (s.heap.push (QS.eSet w)).get? l = some { cls := .type "list", dict := od, data := .seq xs nl, slots := os } := Heap.get?_push_of_some _ ho
        have b1 := F.sub_list_set
        have b2 := F.sub_list_frozenset
        have b3 : (Value.type "list" == Value.type "dict") = false := by decide
        have hl1 : (s.heap.push (QS.eSet w)).IsList l xs := ⟨_, ho', rfl, nl, rfl⟩
        unfold Builtin.«set.__init__» noKeywords Builtin.Frozenset.updateFrom
        generalize hPI : pyIter = PI
        wp_walk
        subst hPI
        refine wpAny_pyIter_list hl1 ?_
        refine wpAny_bind (wpAny_runValue ?_)
        have lt : l < s.heap.objs.size := Heap.lt_size ho
        have h3 : A.in1.in1.in1.handled = none := by simp [hh]
        have ne1 : l ≠ (s.heap.push (QS.eSet w)).objs.size := by
          rw [Heap.size_push]
          exact Nat.ne_of_lt (Nat.lt_succ_of_lt lt)
        have nf : s.heap.objs.size ∉ [(s.heap.push (QS.eSet w)).objs.size, l] := by
          rw [Heap.size_push]
          intro z
          rcases List.mem_cons.mp z with e | z
          · exact Nat.ne_of_lt (Nat.lt_succ_self _) e
          · exact Nat.ne_of_gt lt (List.mem_singleton.mp z)
        have hv : ∀ (i : Nat) (v : Value), xs[i]? = some v → ∃ k t, ns[i]? = some k ∧ v = .str k t := fun i v e => by
          have lt2 : i < ns.length := by rw [← hsz]; exact (Array.getElem?_eq_some_iff.mp e).1
          obtain ⟨t, e2⟩ := SS.strs_at hi i v (by rw [Array.getElem?_toList]; exact e)
          refine ⟨ns[i], t, List.getElem?_eq_getElem lt2, ?_⟩
          rw [e2, List.getD_eq_getElem?_getD, List.getElem?_eq_getElem lt2]
          rfl
        refine set_update_strs ((Walks.list h3 _ l ne1 xs).toS) s.heap.objs.size nf ns hsz hb hv (xs.size - 0) 0 _ (by omega) (Nat.zero_le _) ⟨⟨_, Heap.get?_push_size _ rfl, rfl, rfl⟩, (hl1.push _)⟩ ?c0 ?c1
        case c0 => exact SetOf_congr ((setObjOf_fresh (knd := strKind P w) (!w.params.followText "set-order")).setOf (Heap.get?_push_of_some _ at0) (by decide)) (fun x => by simp) rfl
        case c1 =>
          rintro ⟨h', g', d', tk', os'⟩ mv new
          obtain rfl : g' = s.gens := mv.gens
          obtain rfl : d' = s.drawn := mv.drawn
          obtain rfl : os' = s.os := mv.os
          show wpAny _ _ _ _ _ _
          refine wpAny_pure ?_
          show wpAny _ _ (ret Value.none) _ _ _
          refine wpAny_pure ⟨rfl, h', tk', rfl, new, fun b o e => ?_⟩
          have lb : b < s.heap.objs.size := Heap.lt_size e
          refine mv.heap b o (fun z => ?_) (Heap.get?_push_of_some _ (Heap.get?_push_of_some _ e))
          rcases List.mem_cons.mp z with e1 | z
          · exact Nat.ne_of_lt lb e1
          · rw [List.mem_singleton, Heap.size_push] at z
            exact Nat.ne_of_lt (Nat.lt_succ_of_lt lb) z
      · cases r₂ with
        | error e => exact k₂
        | ok fl₂ =>
          cases fl₂ with
          | ret r =>
            obtain ⟨rfl, h', tk, rfl, new, keep⟩ := k₂
            repeat (any_goals (first | assumption | wp_step))
            exact q _ _ new keep
          | _ => exact k₂.elim
    | _ => exact k.elim
end
section
variable {X : Cx}
def tLenT (K : PySem.W.Frag) (ta : TE) : TE := fun σ H Q => ta σ H fun x H1 => ∃ (l : Addr) (xs : List Str), x = .ref l ∧ SqL K H1 l (xs.map V.str) ∧ xs.length < 4095 ∧ Q (.int (dcS xs : Nat)) H1
theorem pe_lenT {a : Expr} {ta : TE} {p p2 q pos : Pos} (hc : X.calm = true) (hg : Gl X "len") (hm : X.mg "len" = none) (hg2 : Gl X "set") (hm2 : X.mg "set" = none) (ha : PE X a ta)
    (na : starEach [a] X.env = (false, eval a X.env) :: starEach [] X.env := by rfl) : PE X (.Call (.Name "len" p) [.Call (.Name "set" p2) [a] [] q] [] pos) (tLenT X.K ta) := by
  refine ⟨fun pins s σ H Q I h => ?_⟩
  refine Call_ (ld_blt I hg hm boot_len ?_)
  refine PyProof.Rows.callWith_builtin1 (PyProof.Rows.args_cons ?_ rfl) rfl rfl
  refine Call_ (ld_blt I hg2 hm2 boot_set ?_)
  refine PyProof.Rows.callWith_type1 (PyProof.Rows.args_cons (thn (ha.run pins s σ H _ I h) fun v s1 ⟨x, H1, I1, r1, q1⟩ => PyProof.Rows.args_nil ?_) na) na rfl
  obtain ⟨l, xs, rfl, hq, hb, q1⟩ := q1
  cases r1
  obtain ⟨its, r, pl, _⟩ := I1.list hq
  refine call_setT xs (I1.ok.hd hc) pl.isList (strsAre_of r) (by unfold scanBound; omega) fun h' tk hS keep => ?_
  obtain ⟨o, es, ep, t, ho, ex, hd, _, _, _, hf, hn⟩ := hS
  have I2 : Inv X pins σ H1 { s1 with heap := h', toks := tk } := I1.kept fun b o e => keep b o e
  have dl := dcS_le xs
  exact PyProof.Rows.args_nil (call_len_set ho ex hd hf (by rw [hn]; omega) ⟨.int (dcS xs : Nat), H1, I2.tok _, ⟨_, by rw [hn]⟩, q1⟩)
end
end QST
namespace QE
open PySem L2 PySem.Spec PyProof.Rows
section
variable {Φ : Calls} {Mu : Muts} {K : PySem.W.Frag} {fnA : FA} {EX : EC} {Wx : WX} {X : Cx} {a b : Expr} {ia ib : IE} {pf ps p2 pos : Pos}
theorem rangeL_ints : ∀ (n : Nat) (lo : Int), rangeL lo n = ((List.range n).map fun i : Nat => lo + (i : Int)).map D.int
  | 0, _ => rfl
  | n + 1, lo => by
    show D.int lo :: rangeL (lo + 1) n = _
    rw [rangeL_ints n (lo + 1), List.range_succ_eq_map, List.map_cons, List.map_cons, List.map_map, List.map_map, List.map_map]
    have h0 : lo + ((0 : Nat) : Int) = lo := by omega
    rw [h0]
    refine congrArg (_ :: ·) (List.map_congr_left fun i _ => ?_)
    show D.int (lo + 1 + (i : Int)) = D.int (lo + ((i + 1 : Nat) : Int))
    rw [show lo + 1 + (i : Int) = lo + ((i + 1 : Nat) : Int) by omega]
theorem rgV_ints (i j : Int) : rgV i j = ((List.range (j - i).toNat).map fun k : Nat => i + (k : Int)).map V.int := by
  unfold rgV
  rw [List.map_map]; rfl
def rRgL (x y : V) (H : Hp) (Q : VK) : Prop := ∃ i j, x = .int i ∧ y = .int j ∧ RgOk i j ∧ ∀ q, H q = none → Q (.ref q) (upd H q (.lst (rgV i j)))
def rRgT (x y : V) (H : Hp) (Q : VK) : Prop := ∃ i j, x = .int i ∧ y = .int j ∧ RgOk i j ∧ ∀ q, H q = none → Q (.ref q) (upd H q (.tup (rgV i j)))
def rRgL1 (x : V) (H : Hp) (Q : VK) : Prop := ∃ n, x = .int n ∧ RgOk 0 n ∧ ∀ q, H q = none → Q (.ref q) (upd H q (.lst (rgV 0 n)))
def rRgT1 (x : V) (H : Hp) (Q : VK) : Prop := ∃ n, x = .int n ∧ RgOk 0 n ∧ ∀ q, H q = none → Q (.ref q) (upd H q (.tup (rgV 0 n)))
theorem rg_ok {a b : Int} (h : (decide (-1000000 ≤ a) && decide (a ≤ 1000000) && decide (-1000000 ≤ b) && decide (b ≤ 1000000)) = true) : RgOk a b := by
  simp only [Bool.and_eq_true, decide_eq_true_eq] at h
  obtain ⟨⟨⟨h1, h2⟩, h3⟩, h4⟩ := h
  have e : (2 : Int) ^ 62 = 4611686018427387904 := rfl
  exact ⟨by omega, by omega, by omega, by omega, by omega⟩
theorem rg_ok1 {b : Int} (h : (decide (-1000000 ≤ b) && decide (b ≤ 1000000)) = true) : RgOk 0 b := by
  simp only [Bool.and_eq_true, decide_eq_true_eq] at h
  obtain ⟨h3, h4⟩ := h
  have e : (2 : Int) ^ 62 = 4611686018427387904 := rfl
  exact ⟨by omega, by omega, by omega, by omega, by omega⟩
theorem listRange2_ok : R2ok X rRgL .listRange2 := by
  intro C its H x y dx dy d Q hK g hx hy e q
  cases dx <;> first | cases e | (cases dy <;> first | cases e | skip)
  rename_i i j
  have e : (if decide (-1000000 ≤ i) && decide (i ≤ 1000000) && decide (-1000000 ≤ j) && decide (j ≤ 1000000) then Res.ok (D.lst .own (rangeL i (j - i).toNat)) else .bad) = .ok d := e
  split at e
  · rename_i h
    cases e
    refine ⟨i, j, item_int hx, item_int hy, rg_ok h, fun p hp => ?_⟩
    have := g.newL (RepL.ofInts (C := C) (O := roots its) (H := H) ((List.range (j - i).toNat).map fun k : Nat => i + (k : Int))) hp
    rw [← rangeL_ints, ← rgV_ints] at this
    exact q _ _ this
  · cases e
theorem tupRange2_ok : R2ok X rRgT .tupRange2 := by
  intro C its H x y dx dy d Q hK g hx hy e q
  cases dx <;> first | cases e | (cases dy <;> first | cases e | skip)
  rename_i i j
  have e : (if decide (-1000000 ≤ i) && decide (i ≤ 1000000) && decide (-1000000 ≤ j) && decide (j ≤ 1000000) then Res.ok (D.tup (rangeL i (j - i).toNat)) else .bad) = .ok d := e
  split at e
  · rename_i h
    cases e
    refine ⟨i, j, item_int hx, item_int hy, rg_ok h, fun p hp => ?_⟩
    have := g.newT (RepL.ofInts (C := C) (O := roots its) (H := H) ((List.range (j - i).toNat).map fun k : Nat => i + (k : Int))) hp
    rw [← rangeL_ints, ← rgV_ints] at this
    exact q _ _ this
  · cases e
theorem listRange1_ok : R1ok X rRgL1 .listRange1 := by
  intro C its H x dx d Q hK g hx e q
  cases dx <;> first | cases e | skip
  rename_i j
  have e : (if decide (-1000000 ≤ j) && decide (j ≤ 1000000) then Res.ok (D.lst .own (rangeL 0 j.toNat)) else .bad) = .ok d := e
  split at e
  · rename_i h
    cases e
    refine ⟨j, item_int hx, rg_ok1 h, fun p hp => ?_⟩
    have := g.newL (RepL.ofInts (C := C) (O := roots its) (H := H) ((List.range (j - 0).toNat).map fun k : Nat => 0 + (k : Int))) hp
    rw [← rangeL_ints, ← rgV_ints, Int.sub_zero] at this
    exact q _ _ this
  · cases e
theorem tupRange1_ok : R1ok X rRgT1 .tupRange1 := by
  intro C its H x dx d Q hK g hx e q
  cases dx <;> first | cases e | skip
  rename_i j
  have e : (if decide (-1000000 ≤ j) && decide (j ≤ 1000000) then Res.ok (D.tup (rangeL 0 j.toNat)) else .bad) = .ok d := e
  split at e
  · rename_i h
    cases e
    refine ⟨j, item_int hx, rg_ok1 h, fun p hp => ?_⟩
    have := g.newT (RepL.ofInts (C := C) (O := roots its) (H := H) ((List.range (j - 0).toNat).map fun k : Nat => 0 + (k : Int))) hp
    rw [← rangeL_ints, ← rgV_ints, Int.sub_zero] at this
    exact q _ _ this
  · cases e
theorem no_stars (hs : plainEs [a] = true) (env : PySem.Env) (p : Pos) : (backTo p (starEach [a] env)).any (·.1) = false := by
  rw [plain_star hs]; rfl
theorem e_listRange2 (hc : X.calm = true) (hK : K = X.K) (hg : Gl X "list") (hm : X.mg "list" = none) (hg2 : Gl X "range") (hm2 : X.mg "range" = none) (hs : notStar a = true) (hs2 : notStar b = true) (ha : EOk Φ Mu K fnA EX Wx X a ia) (hb : EOk Φ Mu K fnA EX Wx X b ib) :
    EOk Φ Mu K fnA EX Wx X (.Call (.Name "list" pf) [.Call (.Name "range" ps) [a, b] [] p2] [] pos) (.pr .listRange2 [ia, ib]) :=
  EOk.of (weakE (pe_listRg hc hg hm (prg_2 hg2 hm2 ha.o hb.o (plain_star (by simp [plainEs, hs, hs2]) _) (plain_star (plain1 hs2) _) (no_stars (plain1 hs2) _ _))) (pr2 listRange2_ok hK ha hb)) rfl
theorem e_tupRange2 (hc : X.calm = true) (hK : K = X.K) (hg : Gl X "tuple") (hm : X.mg "tuple" = none) (hg2 : Gl X "range") (hm2 : X.mg "range" = none) (hs : notStar a = true) (hs2 : notStar b = true) (ha : EOk Φ Mu K fnA EX Wx X a ia) (hb : EOk Φ Mu K fnA EX Wx X b ib) :
    EOk Φ Mu K fnA EX Wx X (.Call (.Name "tuple" pf) [.Call (.Name "range" ps) [a, b] [] p2] [] pos) (.pr .tupRange2 [ia, ib]) :=
  EOk.of (weakE (pe_tupRg hc hg hm (prg_2 hg2 hm2 ha.o hb.o (plain_star (by simp [plainEs, hs, hs2]) _) (plain_star (plain1 hs2) _) (no_stars (plain1 hs2) _ _))) (pr2 tupRange2_ok hK ha hb)) rfl
theorem e_listRange1 (hc : X.calm = true) (hK : K = X.K) (hg : Gl X "list") (hm : X.mg "list" = none) (hg2 : Gl X "range") (hm2 : X.mg "range" = none) (hs : notStar a = true) (ha : EOk Φ Mu K fnA EX Wx X a ia) :
    EOk Φ Mu K fnA EX Wx X (.Call (.Name "list" pf) [.Call (.Name "range" ps) [a] [] p2] [] pos) (.pr .listRange1 [ia]) :=
  EOk.of (weakE (pe_listRg hc hg hm (prg_1 hg2 hm2 ha.o (plain_star (plain1 hs) _))) (fun σ H Q q => by
    have h := pr1 (X := X) (r := rRgL1) listRange1_ok hK ha σ H Q q
    exact h)) rfl
theorem e_tupRange1 (hc : X.calm = true) (hK : K = X.K) (hg : Gl X "tuple") (hm : X.mg "tuple" = none) (hg2 : Gl X "range") (hm2 : X.mg "range" = none) (hs : notStar a = true) (ha : EOk Φ Mu K fnA EX Wx X a ia) :
    EOk Φ Mu K fnA EX Wx X (.Call (.Name "tuple" pf) [.Call (.Name "range" ps) [a] [] p2] [] pos) (.pr .tupRange1 [ia]) :=
  EOk.of (weakE (pe_tupRg hc hg hm (prg_1 hg2 hm2 ha.o (plain_star (plain1 hs) _))) (fun σ H Q q => by
    have h := pr1 (X := X) (r := rRgT1) tupRange1_ok hK ha σ H Q q
    exact h)) rfl
def strOf (l : List Nat) : Str := ⟨l.toArray⟩
theorem strOf_inj {a b : List Nat} (h : strOf a = strOf b) : a = b := by
  have h : a.toArray = b.toArray := Str.mk.inj h
  exact congrArg Array.toList h
theorem mem_strOf {x : List Nat} {l : List (List Nat)} : strOf x ∈ l.map strOf ↔ x ∈ l := by
  rw [List.mem_map]
  exact ⟨fun ⟨y, hy, e⟩ => strOf_inj e ▸ hy, fun h => ⟨x, h, rfl⟩⟩
theorem firsts_map (l : List (List Nat)) : QST.firsts (l.map strOf) = (firstsN l).map strOf := by
  have key : ∀ (l acc : List (List Nat)), (l.map strOf).foldl (fun s x => if x ∈ s then s else s ++ [x]) (acc.map strOf) = (l.foldl (fun s x => if x ∈ s then s else s ++ [x]) acc).map strOf := by
    intro l
    induction l with
    | nil => intro acc; rfl
    | cons x r ih =>
      intro acc
      rw [List.map_cons, List.foldl_cons, List.foldl_cons]
      by_cases h : x ∈ acc
      · rw [if_pos (mem_strOf.mpr h), if_pos h, ih]
      · rw [if_neg (fun z => h (mem_strOf.mp z)), if_neg h]
        have := ih (acc ++ [x])
        rwa [List.map_append, List.map_singleton] at this
  exact key l []
theorem dcS_map (l : List (List Nat)) : QST.dcS (l.map strOf) = dcN l := by
  unfold QST.dcS dcN
  rw [firsts_map, List.length_map]
theorem lenSet_ok : R1ok X (fun x H Q => ∃ (l : Addr) (xs : List Str), x = V.ref l ∧ SqL X.K H l (xs.map V.str) ∧ xs.length < 4095 ∧ Q (.int (QST.dcS xs : Nat)) H) .lenSet := by
  intro C its H x dx d Q hK g hx e q
  cases dx with
  | lst f s =>
    obtain ⟨a, vs, rfl, ha, r⟩ := item_lst hx
    have e : (match strsD s with
      | some r => if Nat.blt r.length 4095 then Res.ok (D.int (dcN r : Nat)) else .bad
      | none => .bad) = .ok d := e
    split at e
    · rename_i ns en
      split at e
      · rename_i c
        cases e
        have ev := r.strsD en
        rw [ev] at ha
        refine ⟨a, ns.map strOf, rfl, .inl ha, by rw [List.length_map]; exact Nat.blt_eq.mp c, ?_⟩
        rw [dcS_map]
        exact q _ _ (g.int _)
      · cases e
    · cases e
  | _ => cases e
theorem e_lenSet (hc : X.calm = true) (hK : K = X.K) (hg : Gl X "len") (hm : X.mg "len" = none) (hg2 : Gl X "set") (hm2 : X.mg "set" = none) (hs : notStar a = true) (ha : EOk Φ Mu K fnA EX Wx X a ia) :
    EOk Φ Mu K fnA EX Wx X (.Call (.Name "len" pf) [.Call (.Name "set" ps) [a] [] p2] [] pos) (.pr .lenSet [ia]) :=
  EOk.of (weakE (QST.pe_lenT hc hg hm hg2 hm2 ha.o (plain_star (plain1 hs) _)) (fun σ H Q q => by
    have h := pr1 (X := X) lenSet_ok hK ha σ H Q q
    exact h)) rfl
end
end QE
namespace QE
open PySem L2 PySem.Spec PyProof.Rows

theorem z3_type (a b c : Value) : checkTypeCall "zip" ⟨[a, b, c], []⟩ = pure () := by kernel_rfl
theorem z3_new (a b c : Value) : checkBuiltinCall "zip.__new__" ⟨[.type "zip", a, b, c], []⟩ = pure () := by kernel_rfl
theorem z3_init (x a b c : Value) : argsOk "object.__init__" ⟨[x, a, b, c], []⟩ := by
  unfold argsOk
  rw [signature?_of (id := "object.__init__") (n := "__init__".toList.reverse) (o := "object".toList.reverse) (by kernel_rfl) F.owner_object]
  kernel_rfl
abbrev lit (l : Addr) : Obj := { cls := .type "list_iterator", data := .fields #[.ref l, .int 0 0] }
abbrev g1 (h : Heap) (a : Addr) : Heap := h.push (lit a)
abbrev g2 (h : Heap) (a b : Addr) : Heap := (g1 h a).push (lit b)
abbrev g3 (h : Heap) (a b c : Addr) : Heap := (g2 h a b).push (lit c)
abbrev g4 (h : Heap) (a b c : Addr) : Heap := (g3 h a b c).push { cls := .type "tuple", data := .seq #[.ref h.objs.size, .ref (g1 h a).objs.size, .ref (g2 h a b).objs.size] }
abbrev g5 (h : Heap) (a b c : Addr) : Heap := (g4 h a b c).push { cls := .type "tuple", data := .seq #[.none, .none, .none] }
abbrev g6 (h : Heap) (a b c : Addr) : Heap := (g5 h a b c).push { cls := .type "zip", data := .fields #[.none, .bool false, .bool false, .ref (g3 h a b c).objs.size, .ref (g4 h a b c).objs.size] }
theorem z3_meets (a b c : Addr) (xs ys zs : Array Value) :
    Meets (Builtin.«zip.__new__» ⟨[.type "zip", .ref a, .ref b, .ref c], []⟩) fun _ R s => s.heap.IsList a xs ∧ s.heap.IsList b ys ∧ s.heap.IsList c zs ∧ R (.ok (.ret (.ref (g5 s.heap a b c).objs.size))) { s with heap := g6 s.heap a b c } :=
  .of_wp fun prog w A R s h => by
    obtain ⟨hp, g, d, tk, os⟩ := s
    obtain ⟨h1, h2, h3, h⟩ := h
    have hsub := sub_zip
    have l1 : Heap.IsList (Shared.heap ⟨hp, g, d, tk, os⟩) a xs := h1
    have l2 : Heap.IsList (Shared.heap ⟨hp.push (lit a), g, d, tk, os⟩) b ys := Heap.IsList.push h2 _
    have l3 : Heap.IsList (Shared.heap ⟨(hp.push (lit a)).push (lit b), g, d, tk, os⟩) c zs := Heap.IsList.push (Heap.IsList.push h3 _) _
    wp_walk using wpAny_pyIter_list l1, wpAny_pyIter_list l2, wpAny_pyIter_list l3
    exact ⟨_, rfl, h⟩
section
variable {prog : Program} {w : World} {A : Around} {E : Value → Shared → Prop} {s : Shared}
theorem z3_call {a b c : Addr} {xs ys zs : Array Value} {Q : Value → Shared → Prop} (h1 : s.heap.IsList a xs) (h2 : s.heap.IsList b ys) (h3 : s.heap.IsList c zs)
    (h : ∀ h', IsZip h' (s.heap.objs.size + 5) (s.heap.objs.size + 3) (s.heap.objs.size + 4) .none → IsTupOf3 h' (s.heap.objs.size + 3) (.ref s.heap.objs.size) (.ref (s.heap.objs.size + 1)) (.ref (s.heap.objs.size + 2)) →
      IsTupOf3 h' (s.heap.objs.size + 4) .none .none .none → h'.IsListIter s.heap.objs.size a 0 → h'.IsListIter (s.heap.objs.size + 1) b 0 → h'.IsListIter (s.heap.objs.size + 2) c 0 →
      (∀ d o, s.heap.get? d = some o → h'.get? d = some o) → Q (.ref (s.heap.objs.size + 5)) { s with heap := h' }) :
    wpAny (model prog w) A (PySem.call (.type "zip") [.ref a, .ref b, .ref c]) Q E s := by
  refine callType_new F.called_zip (by decide) (z3_type _ _ _) (z3_new _ _ _) (fun obj => z3_init obj _ _ _) F.entry_zip_new (z3_meets a b c xs ys zs) ⟨h1, h2, h3, ?_⟩
  have z1 : (g1 s.heap a).objs.size = s.heap.objs.size + 1 := Heap.size_push ..
  have z2 : (g2 s.heap a b).objs.size = s.heap.objs.size + 2 := by rw [Heap.size_push, z1]
  have z3 : (g3 s.heap a b c).objs.size = s.heap.objs.size + 3 := by rw [Heap.size_push, z2]
  have z4 : (g4 s.heap a b c).objs.size = s.heap.objs.size + 4 := by rw [Heap.size_push, z3]
  have z5 : (g5 s.heap a b c).objs.size = s.heap.objs.size + 5 := by rw [Heap.size_push, z4]
  have up {h : Heap} {p : Addr} {o u : Obj} (e : h.get? p = some o) : (h.push u).get? p = some o := Heap.get?_push_of_some _ e
  have e6 : (g6 s.heap a b c).get? (g5 s.heap a b c).objs.size = some _ := Heap.get?_push_size _ rfl
  have e5 : (g6 s.heap a b c).get? (g4 s.heap a b c).objs.size = some _ := up (Heap.get?_push_size _ rfl)
  have e4 : (g6 s.heap a b c).get? (g3 s.heap a b c).objs.size = some _ := up (up (Heap.get?_push_size _ rfl))
  have e3 : (g6 s.heap a b c).get? (g2 s.heap a b).objs.size = some _ := up (up (up (Heap.get?_push_size _ rfl)))
  have e2 : (g6 s.heap a b c).get? (g1 s.heap a).objs.size = some _ := up (up (up (up (Heap.get?_push_size _ rfl))))
  have e1 : (g6 s.heap a b c).get? s.heap.objs.size = some _ := up (up (up (up (up (Heap.get?_push_size _ rfl)))))
  show _ ∧ _
  rw [z3, z4, z5] at e6
  rw [z4] at e5
  rw [z1, z2, z3] at e4
  rw [z2] at e3
  rw [z1] at e2
  rw [z5]
  exact ⟨⟨_, e6, rfl⟩, h _ e6 e4 e5 ⟨_, e1, rfl, rfl⟩ ⟨_, e2, rfl, rfl⟩ ⟨_, e3, rfl, rfl⟩ fun d o x => up (up (up (up (up (up x)))))⟩
end
def It3 (K : PySem.W.Frag) (a b c : Addr) : L2.It :=
  ⟨fun i H => ∃ (xs ys zs : List V) (x y z : V), SqL K H a xs ∧ SqL K H b ys ∧ SqL K H c zs ∧ xs[i]? = some x ∧ ys[i]? = some y ∧ zs[i]? = some z,
    fun i H v H' => ∃ T x y z, v = .ref T ∧ H T = none ∧ H' = upd H T (.tup [x, y, z]) ∧ (∀ xs, SqL K H a xs → xs[i]? = some x) ∧ (∀ ys, SqL K H b ys → ys[i]? = some y) ∧ ∀ zs, SqL K H c zs → zs[i]? = some z,
    fun i H => ∃ xs ys zs : List V, SqL K H a xs ∧ SqL K H b ys ∧ SqL K H c zs ∧ i = min (min xs.length ys.length) zs.length⟩
structure Apart3 (z TI TO i1 i2 i3 a b c : Addr) : Prop where
  s : ZipSep3 z TI TO i1 i2 i3 [i1, a] [i2, b] [i3, c]
  a1 : a ≠ i1
  b2 : b ≠ i2
  c3 : c ≠ i3
theorem apart3 (n a b c : Nat) (ha : a < n) (hb : b < n) (hc : c < n) : Apart3 (n + 5) (n + 3) (n + 4) n (n + 1) (n + 2) a b c := by
  refine ⟨⟨?_, ?_, ?_, ?_, ?_, ?_, ?_, ?_, ?_, ?_, ?_, ?_, ?_, ?_, ?_, ?_, ?_, ?_, ?_, ?_, ?_⟩, ?_, ?_, ?_⟩ <;> (first | (intro e; (try simp only [List.mem_cons, List.not_mem_nil, or_false] at e); (first | (rcases e with e | e <;> exact absurd (show (_ : Nat) = _ from e) (by omega)) | exact absurd (show (_ : Nat) = _ from e) (by omega))) | simp)
theorem turn_3 {P : Program} {w : World} {K : PySem.W.Frag} {elts : List Expr} {kk : Nat} {tpos : Pos} {a b c z TI TO i1 i2 i3 : Addr} (D : Apart3 z TI TO i1 i2 i3 a b c) :
    Turn P w K (.Tuple elts kk tpos) (It3 K a b c) [z, TI, TO, i1, i2, i3] z fun i h => IsZip h z TI TO .none ∧ IsTupOf3 h TI (.ref i1) (.ref i2) (.ref i3) ∧ (∃ x y u, IsTupOf3 h TO x y u) ∧ h.IsListIter i1 a i ∧ h.IsListIter i2 b i ∧ h.IsListIter i3 c i where
  mem := by simp
  obj := fun i h st q hq => by
    obtain ⟨hz, hTI, ⟨x, y, u, hTO⟩, ⟨o1, e1, _, d1⟩, ⟨o2, e2, _, d2⟩, ⟨o3, e3, _, d3⟩⟩ := st
    simp only [List.mem_cons, List.not_mem_nil, or_false] at hq
    rcases hq with rfl | rfl | rfl | rfl | rfl | rfl
    · exact ⟨_, hz, fun v e => nomatch e⟩
    · exact ⟨_, hTI, fun v e => nomatch e⟩
    · exact ⟨_, hTO, fun v e => nomatch e⟩
    · exact ⟨o1, e1, fun v e => by rw [d1] at e; cases e⟩
    · exact ⟨o2, e2, fun v e => by rw [d2] at e; cases e⟩
    · exact ⟨o3, e3, fun v e => by rw [d3] at e; cases e⟩
  keep := fun i h h' st k => by
    obtain ⟨hz, hTI, ⟨x, y, u, hTO⟩, p1, p2, p3⟩ := st
    exact ⟨k _ (by simp) _ hz, k _ (by simp) _ hTI, ⟨x, y, u, k _ (by simp) _ hTO⟩, p1.at fun o q => k _ (by simp) o q, p2.at fun o q => k _ (by simp) o q, p3.at fun o q => k _ (by simp) o q⟩
  item := by
    intro X hP hw hK hc i pins s σ H E I hf st hg
    subst hP hw hK
    obtain ⟨hz, hTI, ⟨x0, y0, u0, hTO⟩, p1, p2, p3⟩ := st
    obtain ⟨xs, ys, zs, x, y, u, qx, qy, qz, ex, ey, ez⟩ := hg
    obtain ⟨js, rv, j1, _⟩ := I.list qx
    obtain ⟨ks, rw', j2, _⟩ := I.list qy
    obtain ⟨ls, ru, j3, _⟩ := I.list qz
    obtain ⟨vx, vx1, vx2⟩ := rv.get ex
    obtain ⟨vy, vy1, vy2⟩ := rw'.get ey
    obtain ⟨vz, vz1, vz2⟩ := ru.get ez
    have hh := I.ok.hd hc
    have D1 := Draws.list (prog := X.prog) (w := X.w) (A := X.A.in1) hh i1 a D.a1 js.toArray
    have D2 := Draws.list (prog := X.prog) (w := X.w) (A := X.A.in1) hh i2 b D.b2 ks.toArray
    have D3 := Draws.list (prog := X.prog) (w := X.w) (A := X.A.in1) hh i3 c D.c3 ls.toArray
    have lt {l : List Value} {v : Value} (h : l[i]? = some v) : i < l.toArray.size := by
      have := (List.getElem?_eq_some_iff.mp h).1
      simpa using this
    have one {l : List Value} {v v' : Value} (h : l[i]? = some v) (h' : l.toArray[i]? = some v') : v' = v := by
      have h2 : l.toArray[i]? = some v := by simpa using h
      rw [h2] at h'; exact (Option.some.inj h').symm
    have hzl : z < s.heap.objs.size := Heap.lt_size hz
    refine wpAny_pyNext_zipD3_item D.s D1 D2 D3 hz hTI hTO ⟨p1, j1.isList⟩ ⟨p2, j2.isList⟩ ⟨p3, j3.isList⟩ (lt vx1) (lt vy1) (lt vz1) fun w1 w2 w3 h' tk m1 m2 m3 z' TO' st1 st2 st3 hT hsz hk => ?_
    have r1 := one vx1 m1
    have r2 := one vy1 m2
    have r3 := one vz1 m3
    subst r1 r2 r3
    refine ⟨_, rfl, wpAny_letOwnedTupleGo_zip (s := { s with heap := h', toks := tk }) z' fun h'' z'' sb => ?_⟩
    have hT2 : h''.get? s.heap.objs.size = some { cls := .type "tuple", data := .seq #[w1, w2, w3] } := (sb.2 _ (Nat.ne_of_gt hzl)).trans hT
    have new : ObjOk X.prog X.w (upd H s.heap.objs.size (.tup [x, y, u])) h'' s.heap.objs.size (.tup [x, y, u]) :=
      ⟨by show 3 ≤ sizeLine; decide, [w1, w2, w3], .cons vx2 (.cons vy2 (.cons vz2 .nil)), ⟨_, hT2, rfl, _, rfl⟩⟩
    have I1 : Inv X pins σ (upd H s.heap.objs.size (.tup [x, y, u])) { s with heap := h'', toks := tk } :=
      I.turnedNew (ch := [z, TI, TO, i1, i2, i3]) (fun d o hb q => by
        simp only [List.mem_cons, List.not_mem_nil, or_false, not_or] at hb
        exact (sb.2 d hb.1).trans (hk d o hb.1 hb.2.2.1 hb.2.2.2.1 hb.2.2.2.2.1 hb.2.2.2.2.2 q)) hf (Nat.le_refl _) new
    have zi {i' l : Addr} (h : z ∉ [i', l]) : i' ≠ z := fun e => h (by rw [e]; simp)
    refine ⟨.ref s.heap.objs.size, _, I1, rfl, ⟨_, x, y, u, rfl, I.hok.fresh (Nat.le_refl _), rfl, fun l hl => by rw [I.list_inj hl qx]; exact ex, fun l hl => by rw [I.list_inj hl qy]; exact ey, fun l hl => by rw [I.list_inj hl qz]; exact ez⟩, ⟨z'', ?_, ⟨w1, w2, w3, ?_⟩, ?_, ?_, ?_⟩, fun d hd => ?_⟩
    · exact (sb.2 _ D.s.TIz).trans (hk _ _ D.s.TIz D.s.TITO D.s.TIi1 D.s.TIi2 D.s.TIi3 hTI)
    · exact (sb.2 _ D.s.TOz).trans TO'
    · exact st1.1.at fun o q => (sb.2 _ (zi D.s.zf1)).trans q
    · exact st2.1.at fun o q => (sb.2 _ (zi D.s.zf2)).trans q
    · exact st3.1.at fun o q => (sb.2 _ (zi D.s.zf3)).trans q
    · have hlt : d < s.heap.objs.size := by
        simp only [List.mem_cons, List.not_mem_nil, or_false] at hd
        rcases hd with rfl | rfl | rfl | rfl | rfl | rfl
        · exact hzl
        · exact Heap.lt_size hTI
        · exact Heap.lt_size hTO
        · obtain ⟨_, e, _⟩ := p1; exact Heap.lt_size e
        · obtain ⟨_, e, _⟩ := p2; exact Heap.lt_size e
        · obtain ⟨_, e, _⟩ := p3; exact Heap.lt_size e
      rw [upd_ne (Nat.ne_of_lt hlt)]
      exact (hf d hd).1
  done := by
    intro X hP hw hK hc i pins s σ H E I hf st hg
    subst hP hw hK
    obtain ⟨hz, hTI, ⟨x0, y0, u0, hTO⟩, p1, p2, p3⟩ := st
    obtain ⟨xs, ys, zs, qx, qy, qz, hend⟩ := hg
    obtain ⟨js, rv, j1, _⟩ := I.list qx
    obtain ⟨ks, rw', j2, _⟩ := I.list qy
    obtain ⟨ls, ru, j3, _⟩ := I.list qz
    have hh := I.ok.hd hc
    have D1 := Draws.list (prog := X.prog) (w := X.w) (A := X.A.in1) hh i1 a D.a1 js.toArray
    have D2 := Draws.list (prog := X.prog) (w := X.w) (A := X.A.in1) hh i2 b D.b2 ks.toArray
    have D3 := Draws.list (prog := X.prog) (w := X.w) (A := X.A.in1) hh i3 c D.c3 ls.toArray
    have n1 : js.toArray.size = xs.length := by rw [List.size_toArray]; exact rv.length.symm
    have n2 : ks.toArray.size = ys.length := by rw [List.size_toArray]; exact rw'.length.symm
    have n3 : ls.toArray.size = zs.length := by rw [List.size_toArray]; exact ru.length.symm
    refine wpAny_pyNext_zipD3_end D.s D1 D2 D3 hz hTI hTO ⟨p1, j1.isList⟩ ⟨p2, j2.isList⟩ ⟨p3, j3.isList⟩ (by omega) (by omega) (by omega) (by omega) fun h' tk hk => ⟨rfl, I.turnedL (ch := [z, TI, TO, i1, i2, i3]) (fun d o hb q => ?_) hf⟩
    simp only [List.mem_cons, List.not_mem_nil, or_false, not_or] at hb
    exact hk d o hb.1 hb.2.2.1 hb.2.2.2.1 hb.2.2.2.2.1 hb.2.2.2.2.2 q
  self := fun A i s Q E st h => wpAny_pyIter_zip st.1 h
end QE
namespace QE
open PySem L2 PySem.Spec PyProof.Rows

theorem zip_len0 : typeLookup (.type "zip") "__len__" = pure none := am_miss_of_fast (by decide +kernel)
theorem zip_hint0 : typeLookup (.type "zip") "__length_hint__" = pure none := am_miss_of_fast (by decide +kernel)
structure ZT (S z TI TO i1 i2 a b : Addr) (i : Nat) (h : Heap) : Prop where
  ti : IsPair h TI (.ref i1) (.ref i2)
  l1 : h.IsListIter i1 a i
  l2 : h.IsListIter i2 b i
  st : (IsZip h z TI TO .none ∧ ∃ x y, IsPair h TO x y) ∨ ∃ T f o, IsZipHeld h z TI TO T f ∧ h.get? T = some o ∧ T ∉ [S, z, TI, TO, i1, i2]
section
variable {prog : Program} {w : World} {A : Around} {E : Value → Shared → Prop} {s : Shared} {S z TI TO i1 i2 a b : Addr} {i : Nat}
theorem ZT.keep {h h' : Heap} (t : ZT S z TI TO i1 i2 a b i h) (k : ∀ c o, c ≠ S → h.get? c = some o → h'.get? c = some o) (hS : S ∉ [z, TI, TO, i1, i2]) : ZT S z TI TO i1 i2 a b i h' := by
  simp only [List.mem_cons, List.not_mem_nil, or_false, not_or] at hS
  obtain ⟨n1, n2, n3, n4, n5⟩ := hS
  refine ⟨k _ _ (Ne.symm n2) t.ti, t.l1.at fun o e => k _ o (Ne.symm n4) e, t.l2.at fun o e => k _ o (Ne.symm n5) e, ?_⟩
  rcases t.st with ⟨p, x, y, q⟩ | ⟨T, f, o, p, q, r⟩
  · exact .inl ⟨k _ _ (Ne.symm n1) p, x, y, k _ _ (Ne.symm n3) q⟩
  · exact .inr ⟨T, f, o, k _ _ (Ne.symm n1) p, k _ _ (fun e => r (by rw [e]; simp)) q, r⟩
theorem zt_item {xs ys : Array Value} {x y : Value} {Q : Option Value → Shared → Prop} (D : ZipApart z TI TO i1 i2 a b) (t : ZT S z TI TO i1 i2 a b i s.heap) (ha : s.heap.IsList a xs) (hb : s.heap.IsList b ys) (hx : xs[i]? = some x) (hy : ys[i]? = some y) (low : ∀ c ∈ [S, z, TI, TO, i1, i2], c < s.heap.objs.size)
    (hQ : ∀ h', ZT S z TI TO i1 i2 a b (i + 1) h' → IsPair h' s.heap.objs.size x y → h'.objs.size = s.heap.objs.size + 1 → (∀ c o, c ∉ [z, TO, i1, i2] → s.heap.get? c = some o → h'.get? c = some o) → Q (some (.ref s.heap.objs.size)) { s with heap := h' }) :
    wpAny (model prog w) A (pyNext (.ref z)) Q E s := by
  have fresh : s.heap.objs.size ∉ [S, z, TI, TO, i1, i2] := fun e => Nat.lt_irrefl _ (low _ e)
  rcases t.st with ⟨p, u, v, q⟩ | ⟨T, f, o, p, q, r⟩
  · refine wpAny_pyNext_zip_item D p t.ti q t.l1 t.l2 ha hb hx hy fun h' z' to' m1 m2 hT hsz k => ?_
    have ti' := k _ _ D.TIz D.TITO D.TIi1 D.TIi2 t.ti
    exact hQ h' ⟨ti', m1, m2, .inr ⟨_, false, _, z', hT, fresh⟩⟩ hT hsz fun c o hc e => by
      simp only [List.mem_cons, List.not_mem_nil, or_false, not_or] at hc
      exact k c o hc.1 hc.2.1 hc.2.2.1 hc.2.2.2 e
  · refine wpAny_pyNext_zip_item_held D p q t.ti t.l1 t.l2 ha hb hx hy fun h' z' m1 m2 hT hsz k => ?_
    have ti' := k _ _ D.TIz D.TIi1 D.TIi2 t.ti
    have r' := r
    simp only [List.mem_cons, List.not_mem_nil, or_false, not_or] at r'
    exact hQ h' ⟨ti', m1, m2, .inr ⟨T, true, o, z', k _ _ r'.2.1 r'.2.2.2.2.1 r'.2.2.2.2.2 q, r⟩⟩ hT hsz fun c o hc e => by
      simp only [List.mem_cons, List.not_mem_nil, or_false, not_or] at hc
      exact k c o hc.1 hc.2.2.1 hc.2.2.2 e
theorem zt_end {xs ys : Array Value} {Q : Option Value → Shared → Prop} (hh : A.handled = none) (D : ZipApart z TI TO i1 i2 a b) (t : ZT S z TI TO i1 i2 a b i s.heap) (ha : s.heap.IsList a xs) (hb : s.heap.IsList b ys) (he : xs[i]? = none ∨ ys[i]? = none)
    (hQ : ∀ h', (∀ c o, c ∉ [z, TO, i1, i2] → s.heap.get? c = some o → h'.get? c = some o) → Q none { s with heap := h' }) : wpAny (model prog w) A (pyNext (.ref z)) Q E s := by
  rcases t.st with ⟨p, u, v, q⟩ | ⟨T, f, o, p, q, r⟩
  · refine wpAny_pyNext_zip_end hh D p t.ti q t.l1 t.l2 ha hb he fun h' k => hQ h' fun c o hc e => ?_
    simp only [List.mem_cons, List.not_mem_nil, or_false, not_or] at hc
    exact k c o hc.1 hc.2.1 hc.2.2.1 hc.2.2.2 e
  · refine wpAny_pyNext_zip_end_held hh D p q t.ti t.l1 t.l2 ha hb he fun h' k => hQ h' fun c o hc e => ?_
    simp only [List.mem_cons, List.not_mem_nil, or_false, not_or] at hc
    exact k c o hc.1 hc.2.2.1 hc.2.2.2 e
theorem zip_hint {TI TO : Addr} {f0 : Value} {Q : Bool → Shared → Prop} (hz : IsZip s.heap z TI TO f0) (h : Q true s) : wpAny (model prog w) A (Builtin.List.listLengthHint (.ref z)) Q E s := by
  have hT : s.TypeIs (.ref z) "zip" := ⟨_, hz, rfl⟩
  unfold Builtin.List.listLengthHint
  refine wpAny_bind (wpAny_specialOf hT zip_len0 ?_)
  refine wpAny_bind (wpAny_specialOf hT zip_hint0 ?_)
  exact wpAny_pure h
end
theorem Keep.sql {K : PySem.W.Frag} {H H' : Hp} (k : Keep [] H H') {a : Addr} {vs : List V} (h : SqL K H a vs) : SqL K H' a vs := by
  rcases h with h | h
  · exact .inl (k.rd (fun z => nomatch z) nt_lst h)
  · exact .inr h
def Kept (H : Hp) (xs ys : List V) (ts : List Addr) : Prop := ∀ (j : Nat) (t : Addr), ts[j]? = some t → ∃ x y, xs[j]? = some x ∧ ys[j]? = some y ∧ H t = some (.tup [x, y])
section
variable {X : Cx} {A : Around} {pins : List (Addr × Obj)} {σ : L2.St} {S z TI TO i1 i2 a b : Addr} {xs ys : List V}
theorem zl_loop {R : Result → Shared → Prop} (hh : A.handled = none) (D : ZipApart z TI TO i1 i2 a b) (hS : S ∉ [z, TI, TO, i1, i2]) (res : Value) (hn : min xs.length ys.length ≤ sizeLine) :
    ∀ (k i : Nat) (H : Hp) (s : Shared) (c : Nat) (acc : Array Value) (ts : List Addr), min xs.length ys.length - i = k → i ≤ min xs.length ys.length → Inv X pins σ H s → (∀ q ∈ [S, z, TI, TO, i1, i2], FpOk X pins H q ∧ q < s.heap.objs.size) → SqL X.K H a xs → SqL X.K H b ys → ZT S z TI TO i1 i2 a b i s.heap →
      s.heap.get? S = some { cls := .type "list", dict := none, data := .seq acc c, slots := #[] } → acc.toList = ts.map Value.ref → ts.length = i → Kept H xs ys ts →
      (∀ (H' : Hp) (s' : Shared) (c' : Nat) (ts' : List Addr), Inv X pins σ H' s' → (∀ d o, H d = some o → H' d = some o) → FpOk X pins H' S → ts'.length = min xs.length ys.length → Kept H' xs ys ts' → s'.heap.get? S = some { cls := .type "list", dict := none, data := .seq (ts'.map Value.ref).toArray c', slots := #[] } → R (.ok (.ret res)) s') →
      codeAny (model X.prog X.w) A (.builtin "list.extend.loop" ⟨[.ref S, .ref z, res], []⟩) R s := by
  intro k
  induction k with
  | zero =>
    intro i H s c acc ts hk hi I hf qa qb zt sS hacc hlen kp hR
    obtain ⟨us, rv, p1, _⟩ := I.list qa
    obtain ⟨vs, rw', p2, _⟩ := I.list qb
    have e1 := rv.length
    have e2 := rw'.length
    refine codeAny_builtin PySem.F.entry_extend_loop ?_; rw [Around.under_plainId PySem.F.plain_extend_loop]
    refine wpAny_bind (zt_end (A := A.in1) hh D zt p1.isList p2.isList ?_ fun h' kk => ?_)
    · by_cases q : xs.length ≤ ys.length
      · exact .inl (by simp; omega)
      · exact .inr (by simp; omega)
    · have I' : Inv X pins σ H { s with heap := h', toks := s.toks } := I.turnedL (ch := [z, TO, i1, i2]) (fun d o hd e => kk d o hd e) fun q hq => (hf q (by
        simp only [List.mem_cons, List.not_mem_nil, or_false] at hq ⊢
        rcases hq with e | e | e | e <;> simp [e])).1
      have sS' := kk S _ (fun e => hS (by
        simp only [List.mem_cons, List.not_mem_nil, or_false] at e ⊢
        rcases e with e | e | e | e <;> simp [e])) sS
      have ea : acc = (ts.map Value.ref).toArray := by rw [← hacc]
      rw [ea] at sS'
      exact wpAny_pure (hR H _ c ts I' (fun _ _ e => e) (hf S (by simp)).1 (by omega) kp sS')
  | succ k ih =>
    intro i H s c acc ts hk hi I hf qa qb zt sS hacc hlen kp hR
    obtain ⟨us, rv, p1, _⟩ := I.list qa
    obtain ⟨vs, rw', p2, _⟩ := I.list qb
    have e1 := rv.length
    have e2 := rw'.length
    obtain ⟨x, hx⟩ := getElem_of_lt (xs := xs) (i := i) (by omega)
    obtain ⟨y, hy⟩ := getElem_of_lt (xs := ys) (i := i) (by omega)
    obtain ⟨u, u1, u2⟩ := rv.get hx
    obtain ⟨v, v1, v2⟩ := rw'.get hy
    have hsz : acc.size = i := by rw [← Array.length_toList, hacc, List.length_map, hlen]
    refine codeAny_builtin PySem.F.entry_extend_loop ?_; rw [Around.under_plainId PySem.F.plain_extend_loop]
    refine wpAny_bind (zt_item (A := A.in1) D zt p1.isList p2.isList (x := u) (y := v) (by simpa using u1) (by simpa using v1) (fun q hq => (hf q hq).2) fun h' zt' hT hsz' kk => ?_)
    have nS : S ∉ [z, TO, i1, i2] := fun e => hS (by
      simp only [List.mem_cons, List.not_mem_nil, or_false] at e ⊢
      rcases e with e | e | e | e <;> simp [e])
    have sS' := kk S _ nS sS
    have sub : ∀ q ∈ [z, TO, i1, i2], q ∈ [S, z, TI, TO, i1, i2] := fun q hq => by
      simp only [List.mem_cons, List.not_mem_nil, or_false] at hq ⊢
      rcases hq with e | e | e | e <;> simp [e]
    have new : ObjOk X.prog X.w (upd H s.heap.objs.size (.tup [x, y])) h' s.heap.objs.size (.tup [x, y]) := ⟨by show 2 ≤ sizeLine; decide, [u, v], .cons u2 (.cons v2 .nil), ⟨_, hT, rfl, _, rfl⟩⟩
    have I1 : Inv X pins σ (upd H s.heap.objs.size (.tup [x, y])) { s with heap := h', toks := s.toks } := I.turnedNew (ch := [z, TO, i1, i2]) (fun d o hd e => kk d o hd e) (fun q hq => (hf q (sub q hq)).1) (Nat.le_refl _) new
    have fresh := I.hok.fresh (Nat.le_refl s.heap.objs.size)
    have hf1 : ∀ q ∈ [S, z, TI, TO, i1, i2], FpOk X pins (upd H s.heap.objs.size (.tup [x, y])) q ∧ q < s.heap.objs.size := fun q hq => by
      obtain ⟨⟨f1, f2⟩, f3⟩ := hf q hq
      exact ⟨⟨by rw [upd_ne (Nat.ne_of_lt f3)]; exact f1, f2⟩, f3⟩
    refine wpAny_bind ?_
    refine wpAny_updateSeq (s := { s with heap := h' }) sS' rfl ?_ (by rw [hsz]; omega) (by show (acc.push _).size ≤ sizeLine + 1; rw [Array.size_push, hsz]; omega)
    have up : ∀ d o, d ≠ S → h'.get? d = some o → (h'.update S (Obj.mapSeq (·.push (Value.ref s.heap.objs.size)))).get? d = some o := fun d o hd e => (Heap.get?_update_other _ _ (Ne.symm hd)).trans e
    have I2 : Inv X pins σ (upd H s.heap.objs.size (.tup [x, y])) { s with heap := h'.update S (Obj.mapSeq (·.push (Value.ref s.heap.objs.size))), toks := s.toks } := Inv.turnedL (s := { s with heap := h', toks := s.toks }) (t' := s.toks) I1 (ch := [S]) (fun d o hd e => up d o (fun q => hd (by simp [q])) e) fun q hq => (hf1 q (by
      rw [List.mem_singleton] at hq; simp [hq])).1
    have ext : ∀ d o, H d = some o → upd H s.heap.objs.size (.tup [x, y]) d = some o := fun d o e => by rw [upd_ne (ne_of_none e fresh)]; exact e
    have qa' : SqL X.K (upd H s.heap.objs.size (.tup [x, y])) a xs := Keep.sql (Keep.new fresh) qa
    have qb' : SqL X.K (upd H s.heap.objs.size (.tup [x, y])) b ys := Keep.sql (Keep.new fresh) qb
    have big : s.heap.objs.size < (h'.update S (Obj.mapSeq (·.push (Value.ref s.heap.objs.size)))).objs.size := by
      have l : s.heap.objs.size ≠ S := Nat.ne_of_gt (hf S (by simp)).2
      exact Heap.lt_size (up _ _ l hT)
    refine wpAny_pure ⟨plainId_quiet PySem.F.plain_extend_loop _, ih (i + 1) _ _ _ (acc.push (Value.ref s.heap.objs.size)) (ts ++ [s.heap.objs.size]) (by omega) (by omega) I2 (fun q hq => ⟨(hf1 q hq).1, Nat.lt_trans (hf1 q hq).2 big⟩) qa' qb' (zt'.keep (fun d o hd e => up d o hd e) hS) (Heap.get?_update_self _ sS' rfl) (by rw [Array.toList_push, hacc, List.map_append]; rfl) (by rw [List.length_append, hlen]; rfl) (fun j t hj => ?_) fun H' s' c' ts' J1 J2 J3 J4 J5 J6 => hR H' s' c' ts' J1 (fun d o e => J2 d o (ext d o e)) J3 J4 J5 J6⟩
    by_cases q : j < ts.length
    · rw [List.getElem?_append_left q] at hj
      obtain ⟨x', y', a1, a2, a3⟩ := kp j t hj
      exact ⟨x', y', a1, a2, ext _ _ a3⟩
    · have l2 : j = ts.length := by
        have := (List.getElem?_eq_some_iff.mp hj).1
        rw [List.length_append, List.length_singleton] at this
        omega
      subst l2
      rw [List.getElem?_append_right (Nat.le_refl _), Nat.sub_self] at hj
      cases hj
      rw [hlen]
      exact ⟨x, y, hx, hy, upd_same⟩
theorem zl_extend {R : Result → Shared → Prop} {H : Hp} {s : Shared} (hh : A.handled = none) (D : ZipApart z TI TO i1 i2 a b) (hS : S ∉ [z, TI, TO, i1, i2]) (res : Value) (hn : min xs.length ys.length ≤ sizeLine)
    (I : Inv X pins σ H s) (hf : ∀ q ∈ [S, z, TI, TO, i1, i2], FpOk X pins H q ∧ q < s.heap.objs.size) (qa : SqL X.K H a xs) (qb : SqL X.K H b ys) (hz : IsZip s.heap z TI TO .none) (hTI : IsPair s.heap TI (.ref i1) (.ref i2)) (hTO : ∃ x y, IsPair s.heap TO x y) (h1 : s.heap.IsListIter i1 a 0) (h2 : s.heap.IsListIter i2 b 0)
    {c0 : Nat} (sS : s.heap.get? S = some { cls := .type "list", dict := none, data := .seq #[] c0, slots := #[] })
    (hR : ∀ (H' : Hp) (s' : Shared) (c' : Nat) (ts' : List Addr), Inv X pins σ H' s' → (∀ d o, H d = some o → H' d = some o) → FpOk X pins H' S → ts'.length = min xs.length ys.length → Kept H' xs ys ts' → s'.heap.get? S = some { cls := .type "list", dict := none, data := .seq (ts'.map Value.ref).toArray c', slots := #[] } → R (.ok (.ret res)) s') :
    wpAny (model X.prog X.w) A.in1 (Builtin.List.listExtendWith (.ref S) (.ref z) res)
      (fun fin s' => match fin with | .done f => R (.ok f) s' | .again c' => c'.quiet = true ∧ codeAny (model X.prog X.w) A c' R s') (fun e s' => R (.error e) s') s := by
  have nSz : S ≠ z := fun e => hS (by rw [e]; simp)
  have hT : s.TypeIs (.ref z) "zip" := ⟨_, hz, rfl⟩
  unfold Builtin.List.listExtendWith
  refine wpAny_bind (wpAny_typeOf (T := "zip") hT ?_)
  simp only [show Builtin.List.listSameRef (.ref S) (.ref z) = false by simp [Builtin.List.listSameRef, nSz], show (Value.type "zip" == Value.type "list") = false by decide, show (Value.type "zip" == Value.type "tuple") = false by decide, Bool.or_false, Bool.false_eq_true, if_false]
  refine wpAny_bind (wpAny_pyIter_zip hz ?_)
  refine wpAny_bind (wpAny_holding (zip_hint hz ?_))
  refine wpAny_ite_split (fun _ => ?_) fun q => absurd (by rfl) q
  refine wpAny_bind (wpAny_rule ?_)
  refine wpAny_bind ?_
  show wpAny _ _ (updateSeq S (·.push .none) >>= fun _ => updateSeq S (·.pop)) _ _ _
  refine wpAny_bind (wpAny_updateSeq sS rfl ?_)
  have s2 := Heap.get?_update_self (Obj.mapSeq (·.push Value.none)) sS rfl
  refine wpAny_updateSeq (hz := by seq_fits) s2 rfl ?_
  have s3 := Heap.get?_update_self (Obj.mapSeq (·.pop)) s2 rfl
  generalize hG : ((s.heap.update S (Obj.mapSeq (·.push Value.none))).update S (Obj.mapSeq (·.pop))) = G at s3
  have oth : ∀ d o, d ≠ S → s.heap.get? d = some o → G.get? d = some o := fun d o hd e => by
    rw [← hG, Heap.get?_update_other _ _ (Ne.symm hd), Heap.get?_update_other _ _ (Ne.symm hd)]; exact e
  have I2 : Inv X pins σ H { s with heap := G, toks := s.toks } := I.turnedL (ch := [S]) (fun d o hd e => oth d o (fun q => hd (by simp [q])) e) fun q hq => (hf q (by rw [List.mem_singleton] at hq; simp [hq])).1
  have ne : ∀ {q : Addr}, q ∈ [z, TI, TO, i1, i2] → q ≠ S := fun hq e => hS (e ▸ hq)
  obtain ⟨u, v, hTO⟩ := hTO
  have zt : ZT S z TI TO i1 i2 a b 0 G := ⟨oth _ _ (ne (by simp)) hTI, h1.at fun o e => oth _ o (ne (by simp)) e, h2.at fun o e => oth _ o (ne (by simp)) e, .inl ⟨oth _ _ (ne (by simp)) hz, u, v, oth _ _ (ne (by simp)) hTO⟩⟩
  have low : ∀ q ∈ [S, z, TI, TO, i1, i2], FpOk X pins H q ∧ q < G.objs.size := fun q hq => by
    refine ⟨(hf q hq).1, ?_⟩
    by_cases e : q = S
    · rw [e]; exact Heap.lt_size s3
    · have lt := (hf q hq).2
      have : ∃ o, s.heap.get? q = some o := by
        simp only [List.mem_cons, List.not_mem_nil, or_false] at hq
        rcases hq with q1 | q1 | q1 | q1 | q1 | q1
        · exact absurd q1 e
        · rw [q1]; exact ⟨_, hz⟩
        · rw [q1]; exact ⟨_, hTI⟩
        · rw [q1]; exact ⟨_, hTO⟩
        · rw [q1]; obtain ⟨o, w, _⟩ := h1; exact ⟨o, w⟩
        · rw [q1]; obtain ⟨o, w, _⟩ := h2; exact ⟨o, w⟩
      obtain ⟨o, w⟩ := this
      exact Heap.lt_size (oth q o e w)
  refine wpAny_pure ⟨plainId_quiet PySem.F.plain_extend_loop _, zl_loop hh D hS res hn _ 0 H { s with heap := G } _ #[] [] (Nat.sub_zero _) (Nat.zero_le _) I2 low qa qb zt s3 rfl rfl (fun j t hj => by simp at hj) fun H' s' c' ts' J1 J2 J3 J4 J5 J6 => hR H' s' c' ts' J1 J2 J3 J4 J5 J6⟩
end
end QE
namespace QE
open PySem L2 PySem.Spec PyProof.Rows

theorem Inv_adopt {X : Cx} {pins : List (Addr × Obj)} {σ : L2.St} {H : Hp} {s : Shared} {a : Addr} {o : HO} (I : Inv X pins σ H s) (hf : FpOk X pins H a) (new : ObjOk X.prog X.w (upd H a o) s.heap a o) : Inv X pins σ (upd H a o) s := by
  obtain ⟨f1, f2, f3, f4, f5, f6⟩ := hf
  refine I.call (h' := s.heap) (g' := s.gens) (t' := s.toks) (d' := s.drawn) (ch := [a]) ⟨fun b u e _ _ _ => e, fun b u e _ _ _ => ⟨u.slots, e⟩, fun b u _ n hb => ?_, fun b u e _ => ⟨u, e⟩, fun b xs e => ?_, fun b w u e => ?_, fun b ps e => ⟨#[], ?_⟩⟩ (fun b u e => by
    by_cases hb : b = a
    · subst hb; rw [upd_same] at e; cases e; exact new
    · rw [upd_ne hb] at e
      exact (I.hok b u e).stay (fun c v _ q => q) (fun c q => by rw [upd_ne (ne_of_none q f1)]; exact q) fun c xs q => by rw [upd_ne (ne_of_none q f1)]; exact q) I.bare fun b hb => ?_
  · rw [upd_ne (fun z => hb (by simp [z]))]; exact n
  · rw [upd_ne (ne_of_none e f1)]; exact e
  · rw [upd_ne (ne_of_none e f1)]; exact e
  · rw [upd_ne (ne_of_none e f1), e]; simp
  · rw [List.mem_singleton] at hb; subst hb; exact ⟨f4, f2, f5, f6⟩
theorem two_refs {a b : Addr} {us : List Value} (r : Vals [.ref a, .ref b] us) : us = [.ref a, .ref b] := by
  cases r with
  | cons r1 r2 => cases r2 with
    | cons r3 r4 => cases r4; rw [show _ = Value.ref a from r1, show _ = Value.ref b from r3]
theorem vals_refs : ∀ ts : List Addr, Vals (ts.map V.ref) (ts.map Value.ref)
  | [] => .nil
  | _ :: r => .cons rfl (vals_refs r)
def tLZ (K : PySem.W.Frag) (ta : TA) : TE := fun σ H Q => ta σ H fun vs H1 => ∃ a b xs ys, vs = [.ref a, .ref b] ∧ SqL K H1 a xs ∧ SqL K H1 b ys ∧
  ∀ (H2 : Hp) (S : Addr) (ts : List Addr), (∀ d o, H1 d = some o → H2 d = some o) → H2 S = none → ts.length = min xs.length ys.length → Kept H2 xs ys ts → Q (.ref S) (upd H2 S (.lst (ts.map V.ref)))
section
variable {X : Cx} {e e2 : Expr} {ta : TA} {p p2 q2 pos : Pos}
theorem pe_listZip (hc : X.calm = true) (hg : Gl X "list") (hm : X.mg "list" = none) (hgz : Gl X "zip") (hmz : X.mg "zip" = none) (ha : PA X [e, e2] ta)
    (hs : starEach [e, e2] X.env = (false, eval e X.env) :: starEach [e2] X.env) (hpl : (backTo q2 (starEach [e2] X.env)).any (·.1) = false)
    (na : starEach [Expr.Call (.Name "zip" p2) [e, e2] [] q2] X.env = (false, eval (.Call (.Name "zip" p2) [e, e2] [] q2) X.env) :: starEach [] X.env) :
    PE X (.Call (.Name "list" p) [.Call (.Name "zip" p2) [e, e2] [] q2] [] pos) (tLZ X.K ta) := by
  refine ⟨fun pins s σ H Q I h => ?_⟩
  have inner : wpAny (model X.prog X.w) X.A (eval (.Call (.Name "zip" p2) [e, e2] [] q2) X.env) (fun x s' => ∃ z TI TO i1 i2 a b xs ys H1, x = .ref z ∧ Inv X pins σ H1 s' ∧ ZipApart z TI TO i1 i2 a b ∧ IsZip s'.heap z TI TO .none ∧ IsPair s'.heap TI (.ref i1) (.ref i2) ∧ (∃ u v, IsPair s'.heap TO u v) ∧ s'.heap.IsListIter i1 a 0 ∧ s'.heap.IsListIter i2 b 0 ∧ SqL X.K H1 a xs ∧ SqL X.K H1 b ys ∧ min xs.length ys.length ≤ sizeLine ∧ (∀ q ∈ [z, TI, TO, i1, i2], FpOk X pins H1 q ∧ q < s'.heap.objs.size) ∧
      ∀ (H2 : Hp) (S : Addr) (ts : List Addr), (∀ d o, H1 d = some o → H2 d = some o) → H2 S = none → ts.length = min xs.length ys.length → Kept H2 xs ys ts → Q (.ref S) (upd H2 S (.lst (ts.map V.ref)))) X.xe s := by
    refine Call_ (ld_blt I hgz hmz PyProof.Rows.boot_zip (PyProof.Rows.callWith_type1 (thn (ha.run q2 pins s σ H _ I h) fun us s1 ⟨vs, H1, I1, r1, q1⟩ => ?_) hs hpl))
    obtain ⟨a, b, xs, ys, ex, qa, qb, q⟩ := q1
    subst ex
    have eu := two_refs r1
    subst eu
    · obtain ⟨us', rv, p1, hn0⟩ := I1.list qa
      have hn : min xs.length ys.length ≤ sizeLine := Nat.le_trans (Nat.min_le_left _ _) hn0
      obtain ⟨vs', rw', p2', _⟩ := I1.list qb
      refine call_zip_2 p1.isList p2'.isList fun h' hz hTI hTO h1 h2 hsz hk => ?_
      have I2 : Inv X pins σ H1 { s1 with heap := h' } := I1.kept (t' := s1.toks) hk
      refine ⟨s1.heap.objs.size + 4, s1.heap.objs.size + 2, s1.heap.objs.size + 3, s1.heap.objs.size, s1.heap.objs.size + 1, a, b, xs, ys, H1, rfl, I2, PySem.W.ktu_apart s1.heap.objs.size a b p1.lt p2'.lt, hz, hTI, ⟨_, _, hTO⟩, h1, h2, qa, qb, hn, fun c hc => ?_, q⟩
      have bnd : s1.heap.objs.size ≤ c ∧ c < s1.heap.objs.size + 5 := by
        simp only [List.mem_cons, List.not_mem_nil, or_false] at hc
        rcases hc with w | w | w | w | w <;> rw [w]
        · exact ⟨Nat.le_add_right _ _, Nat.add_lt_add_left (by decide) _⟩
        · exact ⟨Nat.le_add_right _ _, Nat.add_lt_add_left (by decide) _⟩
        · exact ⟨Nat.le_add_right _ _, Nat.add_lt_add_left (by decide) _⟩
        · exact ⟨Nat.le_refl _, Nat.lt_add_of_pos_right (by decide)⟩
        · exact ⟨Nat.le_add_right _ _, Nat.add_lt_add_left (by decide) _⟩
      exact ⟨I1.fpOk bnd.1 (I1.hok.fresh bnd.1), by show c < h'.objs.size; rw [hsz]; exact bnd.2⟩
  refine Call_ (ld_blt I hg hm boot_list (PyProof.Rows.callWith_type1 (args_cons (thn inner fun x s1 ⟨z, TI, TO, i1, i2, a, b, xs, ys, H1, ex, I1, D, hz, hTI, hTO, h1, h2, qa, qb, hn, hf, q⟩ => args_nil ?_) na) na))
  subst ex
  refine callType_codes (Q₁ := fun obj s₁ => obj = .ref s1.heap.objs.size ∧ s₁ = { s1 with heap := s1.heap.push { cls := .type "list", data := .seq #[] } }) PySem.F.called_list (PySem.F.typeCall_list_1 _) PySem.F.entry_list_init (code_list_new _ ⟨rfl, rfl⟩) fun obj s₁ h₁ => ?_
  obtain ⟨rfl, rfl⟩ := h₁
  have sS : (s1.heap.push { cls := .type "list", data := .seq #[] }).get? s1.heap.objs.size = some { cls := .type "list", data := .seq #[] } := Heap.get?_push_size _ rfl
  have nS : s1.heap.objs.size ∉ [z, TI, TO, i1, i2] := fun e => Nat.lt_irrefl _ (hf _ e).2
  have hh := I1.ok.hd hc
  have I2 : Inv X pins σ H1 { s1 with heap := s1.heap.push { cls := .type "list", data := .seq #[] }, toks := s1.toks } := I1.kept fun d o w => Heap.get?_push_of_some _ w
  have fS : FpOk X pins H1 s1.heap.objs.size := I1.fpOk (Nat.le_refl _) (I1.hok.fresh (Nat.le_refl _))
  refine ⟨⟨_, sS, rfl⟩, PySem.F.args_list_init_2 _ _, ?_⟩
  show wpAny _ _ (do let old ← Builtin.List.listItems (.ref s1.heap.objs.size); Builtin.List.listUpdate (.ref s1.heap.objs.size) (fun _ => #[]); letGo old.toList.reverse; Builtin.List.listExtendWith (.ref s1.heap.objs.size) (.ref z) .none) _ _ _
  refine wpAny_bind ?_
  unfold Builtin.List.listItems
  refine wpAny_bind (wpAny_seqItems (s := { s1 with heap := s1.heap.push { cls := .type "list", data := .seq #[] } }) sS rfl (wpAny_pure ?_))
  refine wpAny_bind (wpAny_updateSeq (s := { s1 with heap := s1.heap.push { cls := .type "list", data := .seq #[] } }) sS rfl ?_)
  have s2 := Heap.get?_update_self (Obj.mapSeq (fun _ => (#[] : Array Value))) sS rfl
  generalize hG : (s1.heap.push { cls := .type "list", data := .seq #[] }).update s1.heap.objs.size (Obj.mapSeq fun _ => (#[] : Array Value)) = G at s2
  have oth : ∀ d o, s1.heap.get? d = some o → G.get? d = some o := fun d o w => by
    have ne : d ≠ s1.heap.objs.size := Nat.ne_of_lt (Heap.lt_size w)
    rw [← hG, Heap.get?_update_other _ _ (Ne.symm ne)]
    exact Heap.get?_push_of_some _ w
  have I3 : Inv X pins σ H1 { s1 with heap := G, toks := s1.toks } := I1.kept fun d o w => oth d o w
  refine wpAny_bind (wpAny_letGo ?_)
  obtain ⟨u, v, hTO⟩ := hTO
  have up : ∀ {c : Addr}, c < s1.heap.objs.size → c < G.objs.size := fun {c} lt => Nat.lt_trans lt (Heap.lt_size s2)
  refine zl_extend (A := X.A.in1) (s := { s1 with heap := G }) hh D nS .none hn I3 (fun c hcm => ?_) qa qb (oth _ _ hz) (oth _ _ hTI) ⟨u, v, oth _ _ hTO⟩ (h1.at fun o w => oth _ o w) (h2.at fun o w => oth _ o w) s2 fun H' s' c' ts J1 J2 J3 J4 J5 J6 => ?_
  · rcases List.mem_cons.mp hcm with e | e
    · rw [e]; exact ⟨fS, Heap.lt_size s2⟩
    · exact ⟨(hf c e).1, up (hf c e).2⟩
  · refine ⟨rfl, .ref s1.heap.objs.size, _, Inv_adopt (o := .lst (ts.map V.ref)) J1 J3 ⟨?_, ts.map Value.ref, c', vals_refs ts, J6⟩, rfl, q H' _ ts J2 J3.1 J4 J5⟩
    rw [List.length_map, J4]
    exact hn
end
end QE
namespace QE
open PySem L2 PySem.Spec PyProof.Rows
def iZip3 (K : PySem.W.Frag) (ta : TA) : TI := fun σ H R => ta σ H fun vs H1 => ∃ a b c xs ys zs, vs = [.ref a, .ref b, .ref c] ∧ SqL K H1 a xs ∧ SqL K H1 b ys ∧ SqL K H1 c zs ∧ R (It3 K a b c) H1
theorem three_refs {a b c : Addr} {us : List Value} (r : Vals [.ref a, .ref b, .ref c] us) : us = [.ref a, .ref b, .ref c] := by
  cases r with
  | cons r1 r2 => cases r2 with
    | cons r3 r4 => cases r4 with
      | cons r5 r6 => cases r6; rw [show _ = Value.ref a from r1, show _ = Value.ref b from r3, show _ = Value.ref c from r5]
theorem pi_zip3 {X : Cx} {e e2 e3 : Expr} {ta : TA} {p pos tpos : Pos} {elts : List Expr} {kk : Nat} (hg : Gl X "zip") (hm : X.mg "zip" = none) (ha : PA X [e, e2, e3] ta)
    (hs : starEach [e, e2, e3] X.env = (false, eval e X.env) :: starEach [e2, e3] X.env) (hpl : (backTo pos (starEach [e2, e3] X.env)).any (·.1) = false) :
    PI X (.Tuple elts kk tpos) (.Call (.Name "zip" p) [e, e2, e3] [] pos) (iZip3 X.K ta) := by
  refine ⟨fun pins s σ H R I h => ?_⟩
  refine Call_ (ld_blt I hg hm PyProof.Rows.boot_zip (PyProof.Rows.callWith_type1 (thn (ha.run pos pins s σ H _ I h) fun us s1 ⟨vs, H1, I1, r1, q1⟩ => ?_) hs hpl))
  obtain ⟨a, b, c, xs, ys, zs, ex, qa, qb, qc, q⟩ := q1
  subst ex
  have eu := three_refs r1
  subst eu
  obtain ⟨us1, rv1, p1, _⟩ := I1.list qa
  obtain ⟨us2, rv2, p2, _⟩ := I1.list qb
  obtain ⟨us3, rv3, p3, _⟩ := I1.list qc
  have fresh6 : ∀ d, d ∈ [s1.heap.objs.size + 5, s1.heap.objs.size + 3, s1.heap.objs.size + 4, s1.heap.objs.size, s1.heap.objs.size + 1, s1.heap.objs.size + 2] → FpOk X pins H1 d := fun d hd => by
    have hle : s1.heap.objs.size ≤ d := by
      simp only [List.mem_cons, List.not_mem_nil, or_false] at hd
      rcases hd with w | w | w | w | w | w <;> rw [w]
      · exact Nat.le_add_right _ _
      · exact Nat.le_add_right _ _
      · exact Nat.le_add_right _ _
      · exact Nat.le_refl _
      · exact Nat.le_add_right _ _
      · exact Nat.le_add_right _ _
    exact I1.fpOk hle (I1.hok.fresh hle)
  refine z3_call p1.isList p2.isList p3.isList fun h' hz hTI hTO h1 h2 h3 hk => wpAny_pyIter_zip hz ?_
  have I2 : Inv X pins σ H1 { s1 with heap := h' } := I1.kept (t' := s1.toks) hk
  exact ⟨s1.heap.objs.size + 5, [s1.heap.objs.size + 5, s1.heap.objs.size + 3, s1.heap.objs.size + 4, s1.heap.objs.size, s1.heap.objs.size + 1, s1.heap.objs.size + 2], _, _, H1, rfl, I2, turn_3 (apart3 s1.heap.objs.size a b c p1.lt p2.lt p3.lt), ⟨hz, hTI, ⟨_, _, _, hTO⟩, h1, h2, h3⟩, fresh6, q⟩
section
variable {C : RC} {H : Hp} {K : PySem.W.Frag} {f f' f2 : Fl} {ds es fs : List D}
theorem zip3_len : ∀ (a b c : List D), (zip3D a b c).length = min (min a.length b.length) c.length
  | [], _, _ => by simp [zip3D]
  | _ :: _, [], _ => by simp [zip3D]
  | _ :: _, _ :: _, [] => by simp [zip3D]
  | _ :: a, _ :: b, _ :: c => by simp [zip3D, zip3_len a b c]
theorem zip3_nth : ∀ {a b c : List D} {i : Nat} {x y z : D}, nth a i = some x → nth b i = some y → nth c i = some z → nth (zip3D a b c) i = some (.tup [x, y, z])
  | [], _, _, i, _, _, _, h, _, _ => by cases i <;> cases h
  | _ :: _, [], _, i, _, _, _, _, h, _ => by cases i <;> cases h
  | _ :: _, _ :: _, [], i, _, _, _, _, _, h => by cases i <;> cases h
  | _ :: _, _ :: _, _ :: _, 0, _, _, _, h, k, l => by cases h; cases k; cases l; rfl
  | _ :: a, _ :: b, _ :: c, i + 1, _, _, _, h, k, l => zip3_nth (a := a) (b := b) (c := c) h k l
theorem it_zip3 (hK : C.K = K) {a b c : Addr} : ItRep C (It3 K a b c) [(.ref a, .lst f ds), (.ref b, .lst f' es), (.ref c, .lst f2 fs)] (zip3D ds es fs) := by
  have at_ : ∀ {H : Hp} {G : List (V × D)}, Good C ([(V.ref a, D.lst f ds), (V.ref b, D.lst f' es), (V.ref c, D.lst f2 fs)] ++ G) H → ∃ us vs ws, SqL K H a us ∧ SqL K H b vs ∧ SqL K H c ws ∧ RepL C (roots ([(V.ref a, D.lst f ds), (V.ref b, D.lst f' es), (V.ref c, D.lst f2 fs)] ++ G)) H us ds ∧ RepL C (roots ([(V.ref a, D.lst f ds), (V.ref b, D.lst f' es), (V.ref c, D.lst f2 fs)] ++ G)) H vs es ∧ RepL C (roots ([(V.ref a, D.lst f ds), (V.ref b, D.lst f' es), (V.ref c, D.lst f2 fs)] ++ G)) H ws fs := by
    intro H G g
    obtain ⟨a', us, e, r, rl⟩ := item_lst (g.ok _ List.mem_cons_self)
    cases e
    obtain ⟨b', vs, e, r2, rl2⟩ := item_lst (g.ok _ (List.mem_cons_of_mem _ List.mem_cons_self))
    cases e
    obtain ⟨c', ws, e, r3, rl3⟩ := item_lst (g.ok _ (List.mem_cons_of_mem _ (List.mem_cons_of_mem _ List.mem_cons_self)))
    cases e
    exact ⟨us, vs, ws, .inl r, .inl r2, .inl r3, rl, rl2, rl3⟩
  refine ⟨fun i H G g h => ?_, fun i H G g h => ?_, fun i H x H' G d g e y => ?_⟩
  · obtain ⟨us, vs, ws, q, q2, q3, rl, rl2, rl3⟩ := at_ g
    rw [zip3_len] at h
    obtain ⟨x, hx⟩ := getElem_of_lt (xs := us) (i := i) (by rw [rl.length]; omega)
    obtain ⟨y, hy⟩ := getElem_of_lt (xs := vs) (i := i) (by rw [rl2.length]; omega)
    obtain ⟨z, hz⟩ := getElem_of_lt (xs := ws) (i := i) (by rw [rl3.length]; omega)
    exact ⟨us, vs, ws, x, y, z, q, q2, q3, hx, hy, hz⟩
  · obtain ⟨us, vs, ws, q, q2, q3, rl, rl2, rl3⟩ := at_ g
    rw [zip3_len] at h
    exact ⟨us, vs, ws, q, q2, q3, by rw [rl.length, rl2.length, rl3.length]; omega⟩
  · obtain ⟨us, vs, ws, q, q2, q3, rl, rl2, rl3⟩ := at_ g
    obtain ⟨T, x1, y1, z1, rfl, hT, rfl, h1, h2, h3⟩ := y
    have hl := nth_lt e
    rw [zip3_len] at hl
    obtain ⟨d1, e1⟩ := nth_of_lt (xs := ds) (i := i) (by omega)
    obtain ⟨d2, e2⟩ := nth_of_lt (xs := es) (i := i) (by omega)
    obtain ⟨d3, e3⟩ := nth_of_lt (xs := fs) (i := i) (by omega)
    rw [zip3_nth e1 e2 e3] at e
    cases e
    obtain ⟨v1, hv1, r1⟩ := rl.get e1
    obtain ⟨v2, hv2, r2⟩ := rl2.get e2
    obtain ⟨v3, hv3, r3⟩ := rl3.get e3
    have w1 := h1 us q
    have w2 := h2 vs q2
    have w3 := h3 ws q3
    rw [hv1] at w1; cases w1
    rw [hv2] at w2; cases w2
    rw [hv3] at w3; cases w3
    exact ⟨trivial, g.newT (.cons r1 (.cons r2 (.cons r3 .nil))) hT⟩
end
section
variable {Φ : Calls} {Mu : Muts} {K : PySem.W.Frag} {fnA : FA} {EX : EC} {Wx : WX} {X : Cx} {a b : Expr} {ia ib : IE} {e e2 e3 : Expr} {ie ie2 ie3 : IE} {p p2 q2 pf pos : Pos}
theorem zip3_d {ds xs : List D} (h : itZip3 ds = some xs) : ∃ f f' f2 x y z, ds = [.lst f x, .lst f' y, .lst f2 z] ∧ xs = zip3D x y z := by
  unfold itZip3 at h
  split at h
  · cases h; exact ⟨_, _, _, _, _, _, rfl, rfl⟩
  · cases h
theorem i_zip3 {elts : List Expr} {kk : Nat} {tpos : Pos} (hK : K = X.K) (hg : Gl X "zip") (hm : X.mg "zip" = none) (hs : notStar e = true) (hs2 : notStar e2 = true) (hs3 : notStar e3 = true) (ha : EOk Φ Mu K fnA EX Wx X e ie) (hb : EOk Φ Mu K fnA EX Wx X e2 ie2) (hc : EOk Φ Mu K fnA EX Wx X e3 ie3) : PI X (.Tuple elts kk tpos) (.Call (.Name "zip" p) [e, e2, e3] [] pos) (TIt Φ Mu K fnA EX Wx .zip3 [ie, ie2, ie3]) := by
  have hp : plainEs [e, e2, e3] = true := by simp [plainEs, hs, hs2, hs3]
  refine weakI (pi_zip3 hg hm (pa_vs_cons ha (pa2 hs2 hs3 hb hc) (notStar_ne hs)) (plain_star hp _) (star_any (plain_cons hp).2 _ _)) fun σ H R q => ?_
  obtain ⟨C, F, ρ, hC, st, p⟩ := TVs_of q
  refine ⟨C, F, ρ, hC, st, post_mono p (fun r k => ?_) fun _ _ z => z⟩
  intro vs H' hl s
  obtain ⟨C', F', ρ', ds, xs, hC', hx, hl', s', k⟩ := k vs H' hl s
  obtain ⟨f, f', f2, x, y, z, rfl, rfl⟩ := zip3_d (show itZip3 ds = some xs from hx)
  match vs, hl' with
  | [u, v, w], _ =>
    obtain ⟨a, us, rfl, rd, _⟩ := item_lst s'.good.head
    obtain ⟨b, vs, rfl, rd2, _⟩ := item_lst (s'.good.ok (v, .lst f' y) (List.mem_cons_of_mem _ List.mem_cons_self))
    obtain ⟨c, ws, rfl, rd3, _⟩ := item_lst (s'.good.ok (w, .lst f2 z) (List.mem_cons_of_mem _ (List.mem_cons_of_mem _ List.mem_cons_self)))
    exact ⟨a, b, c, us, vs, ws, rfl, .inl rd, .inl rd2, .inl rd3, k _ _ H' s' (it_zip3 (hC'.K.trans hK))⟩
def rLZ (K : PySem.W.Frag) : List V → Hp → VK → Prop := fun vs H1 Q => ∃ a b xs ys, vs = [.ref a, .ref b] ∧ SqL K H1 a xs ∧ SqL K H1 b ys ∧
  ∀ (H2 : Hp) (S : Addr) (ts : List Addr), (∀ d o, H1 d = some o → H2 d = some o) → H2 S = none → ts.length = min xs.length ys.length → Kept H2 xs ys ts → Q (.ref S) (upd H2 S (.lst (ts.map V.ref)))
theorem rep_pairs {C : RC} {O : List Addr} {H : Hp} : ∀ {xs ys : List V} {ds es : List D} {ts : List Addr}, RepL C O H xs ds → RepL C O H ys es → ts.length = min xs.length ys.length → Kept H xs ys ts → RepL C O H (ts.map V.ref) (zipD ds es)
  | _, _, _, _, ts, .nil, _, hl, _ => by
    have e : ts = [] := List.length_eq_zero_iff.mp (by simpa using hl)
    subst e; exact .nil
  | _, _, _, _, ts, .cons r1 r2, .nil, hl, _ => by
    have e : ts = [] := List.length_eq_zero_iff.mp (by simpa using hl)
    subst e; exact .nil
  | _, _, _, _, [], .cons r1 r2, .cons r3 r4, hl, _ => by simp at hl
  | _, _, _, _, t :: ts, .cons r1 r2, .cons r3 r4, hl, k => by
    obtain ⟨x, y, e1, e2, e3⟩ := k 0 t rfl
    cases e1
    cases e2
    exact .cons (.tup e3 (.cons r1 (.cons r3 .nil))) (rep_pairs (ts := ts) r2 r4 (by simpa using hl) fun j u hj => k (j + 1) u hj)
theorem listZip_ok : CRok X (rLZ X.K) .listZip 2 := by
  intro C its H xs ds d Q hK g hl hp hd q
  obtain ⟨x, y, dx, dy, rfl, rfl, h1, h2⟩ := two hp hl
  cases dx <;> first | cases hd | (cases dy <;> first | cases hd | skip)
  obtain ⟨a, us, rfl, ra, la⟩ := item_lst h1
  obtain ⟨b, vs, rfl, rb, lb⟩ := item_lst h2
  refine ⟨a, b, us, vs, rfl, .inl ra, .inl rb, fun H2 S ts hk hS hlen kp => q _ _ ?_⟩
  have kk : Keep [] H H2 := .of hk
  have g2 : Good C its H2 := g.step0 ⟨hk⟩
  have la2 : RepL C (roots its) H2 us _ := la.keep kk (fun _ z => nomatch z) (fun b hb => .inl hb) g.ext.exs
  have lb2 : RepL C (roots its) H2 vs _ := lb.keep kk (fun _ z => nomatch z) (fun b hb => .inl hb) g.ext.exs
  exact g2.newL (rep_pairs la2 lb2 hlen kp) hS
theorem e_listZip (hc : X.calm = true) (hK : K = X.K) (hg : Gl X "list") (hm : X.mg "list" = none) (hg2 : Gl X "zip") (hm2 : X.mg "zip" = none) (hs : notStar a = true) (hs2 : notStar b = true) (ha : EOk Φ Mu K fnA EX Wx X a ia) (hb : EOk Φ Mu K fnA EX Wx X b ib) :
    EOk Φ Mu K fnA EX Wx X (.Call (.Name "list" pf) [.Call (.Name "zip" p2) [a, b] [] q2] [] pos) (.pr .listZip [ia, ib]) :=
  EOk.of (weakE (pe_listZip hc hg hm hg2 hm2 (pa_os_cons ha (pa_os_cons hb pa_os_nil (notStar_ne hs2)) (notStar_ne hs)) (plain_star (by simp [plainEs, hs, hs2]) _) (star_any (plain1 hs2) _ _) rfl) (fun σ H Q q => prn (X := X) (r := rLZ X.K) rfl listZip_ok hK σ H Q q)) rfl
end
end QE
namespace QE
open PySem L2 PySem.Spec PyProof.Rows
structure BltRow (x : Str) (n : Nat) (p : Pr) : Prop where
  ok : ∀ {Φ : Calls} {Mu : Muts} {K : PySem.W.Frag} {fnA : FA} {EX : EC} {Wx : WX} {X : Cx} {e : Expr} {es : List Expr} {ies : List IE} {pf pos : Pos}, X.calm = true → X.A.units + 200 < cLine → K = X.K → Gl X x → X.mg x = none → ies.length = n →
    PA X (e :: es) (TOs Φ Mu K fnA EX Wx ies) → plainEs (e :: es) = true → EOk Φ Mu K fnA EX Wx X (.Call (.Name x pf) (e :: es) [] pos) (.pr p ies)
theorem blt_row {x : Str} {id : String} {p : Pr} {n : Nat} (hc : ∀ X : Cx, X.calm = true → X.A.units + 200 < cLine → ∃ r, CallR X (.builtin id) r ∧ CRok X r p n) (hv : bootBuiltins x = some (.builtin id)) (h1 : x ≠ "__name__") (h2 : (x == ("__debug__" : Str)) = false) : BltRow x n p :=
  ⟨fun hcalm hu hK hg hm hn ha hp => by
    obtain ⟨r, c1, c2⟩ := hc _ hcalm hu
    exact e_blt c1 c2 hn hK hg hm hv ha h1 h2 (plain_star hp _) (star_any (plain_cons hp).2 _ _)⟩
theorem bty_row {x : Str} {T : String} {p : Pr} {n : Nat} (hc : ∀ X : Cx, X.calm = true → X.A.units + 200 < cLine → ∃ r, CallR X (.type T) r ∧ CRok X r p n) (hv : bootBuiltins x = some (.type T)) (h1 : x ≠ "__name__") (h2 : (x == ("__debug__" : Str)) = false) : BltRow x n p :=
  ⟨fun hcalm hu hK hg hm hn ha hp => by
    obtain ⟨r, c1, c2⟩ := hc _ hcalm hu
    exact e_bty c1 c2 hn hK hg hm hv ha h1 h2 (plain_star hp _) (star_any (plain_cons hp).2 _ _)⟩
theorem b_len : BltRow "len" 1 .len := blt_row (fun X h hu => ⟨_, call_lenAll, len_ok⟩) (by decide +kernel) (by decide) (by decide)
theorem b_abs : BltRow "abs" 1 .abs := blt_row (fun X h hu => ⟨_, call_abs, abs_ok⟩) (by decide +kernel) (by decide) (by decide)
theorem b_min2 : BltRow "min" 2 .min2 := blt_row (fun X h hu => ⟨_, call_min2 h, min2_ok⟩) (by decide +kernel) (by decide) (by decide)
theorem b_max2 : BltRow "max" 2 .max2 := blt_row (fun X h hu => ⟨_, call_max2 h, max2_ok⟩) (by decide +kernel) (by decide) (by decide)
theorem b_minL : BltRow "min" 1 .minL := blt_row (fun X h hu => ⟨_, call_minAll h hu, minL_ok⟩) (by decide +kernel) (by decide) (by decide)
theorem b_maxL : BltRow "max" 1 .maxL := blt_row (fun X h hu => ⟨_, call_maxAll h hu, maxL_ok⟩) (by decide +kernel) (by decide) (by decide)
theorem b_sum : BltRow "sum" 1 .sumL := blt_row (fun X h hu => ⟨_, call_sumAll h, sum_ok⟩) (by decide +kernel) (by decide) (by decide)
theorem b_any : BltRow "any" 1 .anyL := blt_row (fun X h hu => ⟨_, cr_any h, any_ok⟩) (by decide +kernel) (by decide) (by decide)
theorem b_all : BltRow "all" 1 .allL := blt_row (fun X h hu => ⟨_, cr_all h, all_ok⟩) (by decide +kernel) (by decide) (by decide)
theorem b_tuple : BltRow "tuple" 1 .tuple := bty_row (fun X h hu => ⟨_, call_tuple_of, tuple_ok⟩) (by decide +kernel) (by decide) (by decide)
theorem b_list : BltRow "list" 1 .list := bty_row (fun X h hu => ⟨_, call_list_of, list_ok⟩) (by decide +kernel) (by decide) (by decide)
theorem b_int : BltRow "int" 1 .int1 := bty_row (fun X h hu => ⟨_, call_int1, int1_ok⟩) (by decide +kernel) (by decide) (by decide)
theorem b_sorted : BltRow "sorted" 1 .sorted := blt_row (fun X h hu => ⟨_, call_sortedB h, sortB_ok⟩) (by decide +kernel) (by decide) (by decide)
def bltTab : List ((q : Str × Nat × Pr) ×' BltRow q.1 q.2.1 q.2.2) :=
  [⟨("len", 1, .len), b_len⟩, ⟨("abs", 1, .abs), b_abs⟩, ⟨("min", 2, .min2), b_min2⟩, ⟨("max", 2, .max2), b_max2⟩, ⟨("min", 1, .minL), b_minL⟩, ⟨("max", 1, .maxL), b_maxL⟩, ⟨("sum", 1, .sumL), b_sum⟩,
   ⟨("any", 1, .anyL), b_any⟩, ⟨("all", 1, .allL), b_all⟩, ⟨("tuple", 1, .tuple), b_tuple⟩, ⟨("list", 1, .list), b_list⟩, ⟨("int", 1, .int1), b_int⟩, ⟨("sorted", 1, .sorted), b_sorted⟩]
def bltIn : List ((q : Str × Nat × Pr) ×' BltRow q.1 q.2.1 q.2.2) → (x : Str) → (n : Nat) → Option { p : Pr // BltRow x n p }
  | [], _, _ => none
  | ⟨(y, m, p), h⟩ :: r, x, n => if e : y = x ∧ m = n then some ⟨p, e.1 ▸ e.2 ▸ h⟩ else bltIn r x n
def bltOf (x : Str) (n : Nat) : Option { p : Pr // BltRow x n p } := bltIn bltTab x n
structure MethRow (m : Str) (n : Nat) (p : Pr) : Prop where
  ok : ∀ X : Cx, X.calm = true → X.A.units + 200 < cLine → ∀ k, methOk p k = true → Nonempty (MRow X m p k n)
def methTab : List ((q : Str × Nat × Pr) ×' MethRow q.1 q.2.1 q.2.2) :=
  [⟨("count", 1, .count), ⟨fun X hc hu => rows_count (by omega)⟩⟩, ⟨("index", 1, .index), ⟨fun X hc hu => rows_index hc (by omega)⟩⟩, ⟨("join", 1, .join), ⟨fun X hc hu => rows_join⟩⟩,
   ⟨("get", 1, .get1), ⟨fun X hc hu => rows_get1 (by omega)⟩⟩, ⟨("get", 2, .get2), ⟨fun X hc hu => rows_get2 (by omega)⟩⟩]
def methIn : List ((q : Str × Nat × Pr) ×' MethRow q.1 q.2.1 q.2.2) → (x : Str) → (n : Nat) → Option { p : Pr // MethRow x n p }
  | [], _, _ => none
  | ⟨(y, m, p), h⟩ :: r, x, n => if e : y = x ∧ m = n then some ⟨p, e.1 ▸ e.2 ▸ h⟩ else methIn r x n
def methOf (x : Str) (n : Nat) : Option { p : Pr // MethRow x n p } := methIn methTab x n
structure ClRow (z : Str) (c : Cl) (n : String) : Prop where
  c : clN c = some n
  v : bootBuiltins z = some (.type n)
  a : z ≠ "__name__"
  b : (z == ("__debug__" : Str)) = false
abbrev ClQ (z : Str) := (q : Cl × String) ×' ClRow z q.1 q.2
def clOf (z : Str) : Option (ClQ z) :=
  if h : z = "int" then some ⟨(.int, "int"), by rw [h]; exact ⟨rfl, by decide +kernel, by decide, by decide⟩⟩
  else if h : z = "bool" then some ⟨(.bool, "bool"), by rw [h]; exact ⟨rfl, by decide +kernel, by decide, by decide⟩⟩
  else if h : z = "str" then some ⟨(.str, "str"), by rw [h]; exact ⟨rfl, by decide +kernel, by decide, by decide⟩⟩
  else if h : z = "tuple" then some ⟨(.tuple, "tuple"), by rw [h]; exact ⟨rfl, by decide +kernel, by decide, by decide⟩⟩
  else if h : z = "list" then some ⟨(.list, "list"), by rw [h]; exact ⟨rfl, by decide +kernel, by decide, by decide⟩⟩
  else if h : z = "dict" then some ⟨(.dict, "dict"), by rw [h]; exact ⟨rfl, by decide +kernel, by decide, by decide⟩⟩
  else none

section
variable {P : PD} {N : List Str}
abbrev CQ (P : PD) (N : List Str) (sc : Scope) (e : Expr) := { q : Cl × String // clN q.1 = some q.2 ∧ InX P N sc fun _ _ _ _ _ _ X => ClsOk X e q.2 }
def wCl (sc : Scope) : (e : Expr) → Option (CQ P N sc e)
  | .Name z p => if hg : isGlob sc z = true then if hz : z ∈ P.free then (clOf z).map fun q => ⟨q.1, q.2.c, fun _ _ _ _ _ _ _ hX => cls_of (hX.sc.gl hg) (hX.mg0 _ hz) q.2.v q.2.a q.2.b⟩ else none else none
  | _ => none
abbrev CQs (P : PD) (N : List Str) (sc : Scope) (es : List Expr) := { q : List Cl × List String // Paired (fun c u => clN c = some u) q.1 q.2 ∧ InX P N sc fun _ _ _ _ _ _ X => Paired (ClsOk X) es q.2 }
def wCls (sc : Scope) : (es : List Expr) → Option (CQs P N sc es)
  | [] => some ⟨([], []), .nil, fun _ _ _ _ _ _ _ _ => .nil⟩
  | e :: es => (wCl sc e).bind fun q => (wCls sc es).map fun qs => ⟨(q.1.1 :: qs.1.1, q.1.2 :: qs.1.2), .cons q.2.1 qs.2.1, fun _ _ _ _ _ _ _ hX => .cons (q.2.2 _ _ _ _ _ _ _ hX) (qs.2.2 _ _ _ _ _ _ _ hX)⟩
section
variable (R : Rec P N) (sc : Scope)
def wIsi (pf pos : Pos) (hg : isGlob sc "isinstance" = true) (hz : ("isinstance" : Str) ∈ P.free) : (args : List Expr) → Option (ES P N sc (.Call (.Name "isinstance" pf) args [] pos))
  | [a, .Tuple ts kt pt] => if hs : notStar a = true then (R.e sc a).bind fun ia => (wCls sc ts).bind fun q => if hl : q.1.2.length < 100 then some ⟨.isi q.1.1 ia.1, fun _ _ _ _ _ _ _ hX => e_isiT (hX.sc.gl hg) (hX.mg0 _ hz) (ia.2 _ _ _ _ _ _ _ hX) hs (q.2.2 _ _ _ _ _ _ _ hX) q.2.1 hl hX.K⟩ else none else none
  | [a, t] => if hs : notStar a = true then (R.e sc a).bind fun ia => (wCl sc t).map fun q => ⟨.isi [q.1.1] ia.1, fun _ _ _ _ _ _ _ hX => e_isi1 (hX.sc.gl hg) (hX.mg0 _ hz) (ia.2 _ _ _ _ _ _ _ hX) hs (q.2.2 _ _ _ _ _ _ _ hX) q.2.1 hX.K⟩ else none
  | _ => none
def excN : (l : List (Str × Option Str)) → (x : Str) → Option { f : Option Str // (x, f) ∈ l }
  | [], _ => none
  | (y, f) :: r, x => if e : y = x then some ⟨f, by rw [e]; exact List.mem_cons_self⟩ else (excN r x).map fun q => ⟨q.1, List.mem_cons_of_mem _ q.2⟩
def wIsiH (pf pos : Pos) (hg : isGlob sc "isinstance" = true) (hz : ("isinstance" : Str) ∈ P.free) (hh : P.hot = true) : (args : List Expr) → Option (ES P N sc (.Call (.Name "isinstance" pf) args [] pos))
  | [.Name x p2, .Name y p3] => if hv : visible sc x = true then if hn : plainName x = true then if hgy : isGlob sc y = true then if hny : plainName y = true then (wSlot N x).bind fun i =>
      match excN P.excs y with
      | some ⟨_, hy⟩ => some ⟨.exIs i.1 (some (nm y)), fun _ _ K _ _ _ _ hX => e_exIs_ (te := .ref (He.ga K y)) (cv := .ref (He.ga K y)) (bf := fun c => Nat.beq c (nm y)) hX hh (hX.sc.gl hg) (hX.mg0 _ hz) (by rw [hX.N]; exact i.2) (hX.sc.vis hv) (plainN hn).a (plainN hn).b
          (pe_glob (hX.sc.gl hgy) (hX.excs.row _ hy).gl rfl (plainN hny).a) (fun _ z => z) (fun z hz => (hX.excs.row z hz).kit _ hy) (fun _ => rfl) rfl⟩
      | none => if hy : y = "SayError" ∧ P.excs ≠ [] then some ⟨.exIs i.1 none, fun _ _ K _ _ _ _ hX => by
          obtain ⟨hy1, hy2⟩ := hy
          subst hy1
          exact e_exIs_ (te := .ref (He.ga K "SayError")) (cv := .ref (He.ga K "SayError")) (bf := fun _ => true) hX hh (hX.sc.gl hg) (hX.mg0 _ hz) (by rw [hX.N]; exact i.2) (hX.sc.vis hv) (plainN hn).a (plainN hn).b
            (pe_glob (hX.sc.gl hgy) (hX.excs.say hy2) rfl (plainN hny).a) (fun _ z => z) (fun z hz => (hX.excs.row z hz).kitS) (fun _ => rfl) rfl⟩
        else if hy : y = "ValueError" then if hvz : ("ValueError" : Str) ∈ P.free then some ⟨.exIs i.1 none, fun _ _ _ _ _ _ _ hX => by
          subst hy
          exact e_exIs_ (te := .ty "ValueError") (cv := .type "ValueError") (bf := fun _ => true) hX hh (hX.sc.gl hg) (hX.mg0 _ hz) (by rw [hX.N]; exact i.2) (hX.sc.vis hv) (plainN hn).a (plainN hn).b
            (cls_of (n := "ValueError") (hX.sc.gl hgy) (hX.mg0 _ hvz) (by decide +kernel) (by decide) (by decide)).pe (fun _ z => z) (fun z hz => (hX.excs.row z hz).kitV) (fun _ => rfl) rfl⟩ else none
        else none
    else none else none else none else none
  | _ => none
def exfCs (l : List (Str × Option Str)) (f : Str) : List Nat := l.filterMap fun z => if z.2 = some f then some (nm z.1) else none
theorem exf_ok {l : List (Str × Option Str)} {f : Str} (h : (l.all fun z => !memN (nm z.1) (exfCs l f) || decide (z.2 = some f)) = true) : ∀ c, memN c (exfCs l f) = true → ∀ z ∈ l, nm z.1 = c → z.2 = some f := by
  intro c hc z hz e
  have := List.all_eq_true.mp h z hz
  rw [e, hc] at this
  simpa using this
def wAttr (o : Expr) (f : Str) (pos : Pos) : Option (ES P N sc (.Attribute o f pos)) := match o with
  | .Name x p2 => if hh : P.hot = true then if hv : visible sc x = true then if hn : plainName x = true then if hcs : (P.excs.all fun z => !memN (nm z.1) (exfCs P.excs f) || decide (z.2 = some f)) = true then if hb : notSuper (.Name x p2) = true then
      (wSlot N x).map fun i => ⟨.exF i.1 (exfCs P.excs f), fun _ _ _ _ _ _ _ hX => e_exF_ hX hh (by rw [hX.N]; exact i.2) (hX.sc.vis hv) (plainN hn).a (plainN hn).b (base_of hb _ _ _) (exf_ok hcs)⟩
    else none else none else none else none else none
  | _ => none
def wCallN (f : Str) (pf : Pos) (e : Expr) (es : List Expr) (pos : Pos) : Option (ES P N sc (.Call (.Name f pf) (e :: es) [] pos)) :=
  if hg : isGlob sc f = true then if hp : plainEs (e :: es) = true then if hn : plainName f = true then
    if hf : f ∈ P.fns then (wOs R sc (e :: es)).map fun as => ⟨.call (nm f) as.1, fun _ _ _ _ _ _ _ hX => e_call (hX.fns _ hf) hX.tk hX.K (hX.sc.gl hg) (plainN hn).a (as.2 _ _ _ _ _ _ _ hX) hp⟩
    else if hz : f ∈ P.free then calmly P fun hh => (bltOf f (es.length + 1)).bind fun p => (wOs R sc (e :: es)).bind fun as => if hl : as.1.length = es.length + 1 then some ⟨.pr p.1 as.1, fun _ _ _ _ _ _ _ hX => p.2.ok (hX.calm hh) hX.hu hX.K (hX.sc.gl hg) (hX.mg0 _ hz) hl (as.2 _ _ _ _ _ _ _ hX) hp⟩ else none
    else none
  else none else none else none
def wCallM (o : Expr) (m : Str) (ap : Pos) (e : Expr) (es : List Expr) (pos : Pos) : Option (ES P N sc (.Call (.Attribute o m ap) (e :: es) [] pos)) :=
  if hb : notSuper o = true then if hp : plainEs (e :: es) = true then if hl : (e :: es).length < 25 then if hline : (ap.endLine == pos.line) = true then
    if hh : P.hot = false then (methOf m (es.length + 1)).bind fun p => (R.e sc o).bind fun io => (wOs R sc (e :: es)).bind fun as => if hn : as.1.length = es.length + 1 then
      some ⟨.meth p.1 io.1 as.1, fun _ _ _ _ _ _ _ hX => e_meth (p.2.ok _ (hX.calm hh) hX.hu) hn hX.K (io.2 _ _ _ _ _ _ _ hX) (as.2 _ _ _ _ _ _ _ hX) hb hp hl hline⟩ else none
    else (R.e sc o).bind fun io => (wOs R sc (e :: es)).bind fun as => if hn : as.1.length = 1 then
      if hm : m = "count" then some ⟨.meth .count io.1 as.1, fun _ _ _ _ _ _ _ hX => by rw [hm]; exact e_meth (rows_count (by have := hX.hu; omega)) hn hX.K (io.2 _ _ _ _ _ _ _ hX) (as.2 _ _ _ _ _ _ _ hX) hb hp hl hline⟩
      else if hm : m = "index" then some ⟨.meth .indexL io.1 as.1, fun _ _ _ _ _ _ _ hX => by rw [hm]; exact e_meth (rows_indexL (by have := hX.hu; omega)) hn hX.K (io.2 _ _ _ _ _ _ _ hX) (as.2 _ _ _ _ _ _ _ hX) hb hp hl hline⟩
      else none else none
  else none else none else none else none
def wNest (f g : Str) (pf pg p2 pos : Pos) (a : Expr) : Option (ES P N sc (.Call (.Name f pf) [.Call (.Name g pg) [a] [] p2] [] pos)) :=
  if hf : f = "sorted" ∧ g = "set" then (if h1 : isGlob sc "sorted" = true then if h2 : isGlob sc "set" = true then if z1 : ("sorted" : Str) ∈ P.free then if z2 : ("set" : Str) ∈ P.free then if hs : notStar a = true then
    calmly P fun hh => (R.e sc a).map fun ia => ⟨.pr .sortedSet [ia.1], fun _ _ _ _ _ _ _ hX => by rw [hf.1, hf.2]; exact e_sortedSet (hX.calm hh) hX.K (hX.sc.gl h1) (hX.mg0 _ z1) (hX.sc.gl h2) (hX.mg0 _ z2) hs (ia.2 _ _ _ _ _ _ _ hX)⟩
    else none else none else none else none else none)
  else if hf : f = "len" ∧ g = "set" then (if h1 : isGlob sc "len" = true then if h2 : isGlob sc "set" = true then if z1 : ("len" : Str) ∈ P.free then if z2 : ("set" : Str) ∈ P.free then if hs : notStar a = true then
    calmly P fun hh => (R.e sc a).map fun ia => ⟨.pr .lenSet [ia.1], fun _ _ _ _ _ _ _ hX => by rw [hf.1, hf.2]; exact e_lenSet (hX.calm hh) hX.K (hX.sc.gl h1) (hX.mg0 _ z1) (hX.sc.gl h2) (hX.mg0 _ z2) hs (ia.2 _ _ _ _ _ _ _ hX)⟩
    else none else none else none else none else none)
  else if hf : f = "list" ∧ g = "range" then (if h1 : isGlob sc "list" = true then if h2 : isGlob sc "range" = true then if z1 : ("list" : Str) ∈ P.free then if z2 : ("range" : Str) ∈ P.free then if hs : notStar a = true then
    calmly P fun hh => (R.e sc a).map fun ia => ⟨.pr .listRange1 [ia.1], fun _ _ _ _ _ _ _ hX => by rw [hf.1, hf.2]; exact e_listRange1 (hX.calm hh) hX.K (hX.sc.gl h1) (hX.mg0 _ z1) (hX.sc.gl h2) (hX.mg0 _ z2) hs (ia.2 _ _ _ _ _ _ _ hX)⟩
    else none else none else none else none else none)
  else if hf : f = "tuple" ∧ g = "range" then (if h1 : isGlob sc "tuple" = true then if h2 : isGlob sc "range" = true then if z1 : ("tuple" : Str) ∈ P.free then if z2 : ("range" : Str) ∈ P.free then if hs : notStar a = true then
    calmly P fun hh => (R.e sc a).map fun ia => ⟨.pr .tupRange1 [ia.1], fun _ _ _ _ _ _ _ hX => by rw [hf.1, hf.2]; exact e_tupRange1 (hX.calm hh) hX.K (hX.sc.gl h1) (hX.mg0 _ z1) (hX.sc.gl h2) (hX.mg0 _ z2) hs (ia.2 _ _ _ _ _ _ _ hX)⟩
    else none else none else none else none else none)
  else none
def wNest2 (f g : Str) (pf pg p2 pos : Pos) (a b : Expr) : Option (ES P N sc (.Call (.Name f pf) [.Call (.Name g pg) [a, b] [] p2] [] pos)) :=
  if hf : f = "list" ∧ g = "range" then (if h1 : isGlob sc "list" = true then if h2 : isGlob sc "range" = true then if z1 : ("list" : Str) ∈ P.free then if z2 : ("range" : Str) ∈ P.free then if hs : notStar a = true then if hs2 : notStar b = true then
    calmly P fun hh => (R.e sc a).bind fun ia => (R.e sc b).map fun ib => ⟨.pr .listRange2 [ia.1, ib.1], fun _ _ _ _ _ _ _ hX => by rw [hf.1, hf.2]; exact e_listRange2 (hX.calm hh) hX.K (hX.sc.gl h1) (hX.mg0 _ z1) (hX.sc.gl h2) (hX.mg0 _ z2) hs hs2 (ia.2 _ _ _ _ _ _ _ hX) (ib.2 _ _ _ _ _ _ _ hX)⟩
    else none else none else none else none else none else none)
  else if hf : f = "tuple" ∧ g = "range" then (if h1 : isGlob sc "tuple" = true then if h2 : isGlob sc "range" = true then if z1 : ("tuple" : Str) ∈ P.free then if z2 : ("range" : Str) ∈ P.free then if hs : notStar a = true then if hs2 : notStar b = true then
    calmly P fun hh => (R.e sc a).bind fun ia => (R.e sc b).map fun ib => ⟨.pr .tupRange2 [ia.1, ib.1], fun _ _ _ _ _ _ _ hX => by rw [hf.1, hf.2]; exact e_tupRange2 (hX.calm hh) hX.K (hX.sc.gl h1) (hX.mg0 _ z1) (hX.sc.gl h2) (hX.mg0 _ z2) hs hs2 (ia.2 _ _ _ _ _ _ _ hX) (ib.2 _ _ _ _ _ _ _ hX)⟩
    else none else none else none else none else none else none)
  else if hf : f = "list" ∧ g = "zip" then (if h1 : isGlob sc "list" = true then if h2 : isGlob sc "zip" = true then if z1 : ("list" : Str) ∈ P.free then if z2 : ("zip" : Str) ∈ P.free then if hs : notStar a = true then if hs2 : notStar b = true then
    calmly P fun hh => (R.e sc a).bind fun ia => (R.e sc b).map fun ib => ⟨.pr .listZip [ia.1, ib.1], fun _ _ _ _ _ _ _ hX => by rw [hf.1, hf.2]; exact e_listZip (hX.calm hh) hX.K (hX.sc.gl h1) (hX.mg0 _ z1) (hX.sc.gl h2) (hX.mg0 _ z2) hs hs2 (ia.2 _ _ _ _ _ _ _ hX) (ib.2 _ _ _ _ _ _ _ hX)⟩
    else none else none else none else none else none else none)
  else none
def orE' {e : Expr} (a : Option (ES P N sc e)) (b : Option (ES P N sc e)) : Option (ES P N sc e) := match a with
  | some q => some q
  | none => b
def wCall (pos : Pos) : (f : Expr) → (args : List Expr) → Option (ES P N sc (.Call f args [] pos))
  | .Name f pf, args => if h : f = "isinstance" then (if hg : isGlob sc "isinstance" = true then if hz : ("isinstance" : Str) ∈ P.free then if hh : P.hot = true then (wIsiH (P := P) (N := N) sc pf pos hg hz hh args).map fun q => ⟨q.1, by rw [h]; exact q.2⟩ else (wIsi R sc pf pos hg hz args).map fun q => ⟨q.1, by rw [h]; exact q.2⟩ else none else none)
      else match args with
      | [.Call (.Name g pg) [a] [] p2] => orE' sc (wNest R sc f g pf pg p2 pos a) (wCallN R sc f pf _ _ pos)
      | [.Call (.Name g pg) [a, b] [] p2] => orE' sc (wNest2 R sc f g pf pg p2 pos a b) (wCallN R sc f pf _ _ pos)
      | e :: es => wCallN R sc f pf e es pos
      | [] => none
  | .Attribute o m ap, e :: es => wCallM R sc o m ap e es pos
  | _, _ => none
end
def wTg (sc : Scope) : Nat → (e : Expr) → Option (GS' P N sc e)
  | 0, _ => none
  | n + 1, .Name x pos => if hk : (kindIs sc x .local || kindIs sc x .cell) = true then (wSlot N x).map fun i => ⟨.var i.1, fun _ _ _ _ _ _ _ hX => g_name hX.nd (by rw [hX.N]; exact i.2) (hX.sc.loc hk).1 (hX.sc.loc hk).2⟩ else none
  | n + 1, .Tuple es k pos => if hp : plainEs es = true then
      let rec go : (es : List Expr) → Option (GsS' P N sc es)
        | [] => some ⟨[], rfl, fun _ _ _ _ _ _ _ _ => gs_nil⟩
        | e :: es => if hs : notStar e = true then (wTg sc n e).bind fun t => (go es).map fun ts => ⟨t.1 :: ts.1, congrArg (· + 1) ts.2.1, fun _ _ _ _ _ _ _ hX => gs_cons hs (t.2 _ _ _ _ _ _ _ hX) (ts.2.2 _ _ _ _ _ _ _ hX)⟩ else none
      calmly P fun hh => (go es).map fun ts => ⟨.tup ts.1, fun _ _ _ _ _ _ _ hX => g_tup (hX.calm hh) hp ts.2.1 (ts.2.2 _ _ _ _ _ _ _ hX)⟩ else none
  | _, _ => none
section
variable (R : Rec P N) (sc : Scope)
def wItL (tg e : Expr) : Option (IS' P N sc tg e) := (R.e sc e).map fun ie => ⟨(.list, [ie.1]), fun _ _ _ _ _ _ _ hX => i_list hX.K (ie.2 _ _ _ _ _ _ _ hX)⟩
def wRange (tg : Expr) (p pos : Pos) (hg : isGlob sc "range" = true) (hz : ("range" : Str) ∈ P.free) : (args : List Expr) → Option (IS' P N sc tg (.Call (.Name "range" p) args [] pos))
  | [a] => if hs : notStar a = true then (R.e sc a).map fun ia => ⟨(.range1, [ia.1]), fun _ _ _ _ _ _ _ hX => i_range1 (hX.sc.gl hg) (hX.mg0 _ hz) hs (ia.2 _ _ _ _ _ _ _ hX)⟩ else none
  | [a, b] => if hs : notStar a = true then if hs2 : notStar b = true then (R.e sc a).bind fun ia => (R.e sc b).map fun ib => ⟨(.range2, [ia.1, ib.1]), fun _ _ _ _ _ _ _ hX => i_range2 (hX.sc.gl hg) (hX.mg0 _ hz) hs hs2 (ia.2 _ _ _ _ _ _ _ hX) (ib.2 _ _ _ _ _ _ _ hX)⟩ else none else none
  | [a, b, c] => if hs : notStar a = true then if hs2 : notStar b = true then if hs3 : notStar c = true then (R.e sc a).bind fun ia => (R.e sc b).bind fun ib => (R.e sc c).map fun ic => ⟨(.range3, [ia.1, ib.1, ic.1]), fun _ _ _ _ _ _ _ hX => i_range3 (hX.sc.gl hg) (hX.mg0 _ hz) hs hs2 hs3 (ia.2 _ _ _ _ _ _ _ hX) (ib.2 _ _ _ _ _ _ _ hX) (ic.2 _ _ _ _ _ _ _ hX)⟩ else none else none else none
  | _ => none
def wZip (elts : List Expr) (kk : Nat) (tp p pos : Pos) (hg : isGlob sc "zip" = true) (hz : ("zip" : Str) ∈ P.free) : (args : List Expr) → Option (IS' P N sc (.Tuple elts kk tp) (.Call (.Name "zip" p) args [] pos))
  | [a, b] => if hs : notStar a = true then if hs2 : notStar b = true then (R.e sc a).bind fun ia => (R.e sc b).map fun ib => ⟨(.zip, [ia.1, ib.1]), fun _ _ _ _ _ _ _ hX => i_zip hX.K (hX.sc.gl hg) (hX.mg0 _ hz) hs hs2 (ia.2 _ _ _ _ _ _ _ hX) (ib.2 _ _ _ _ _ _ _ hX)⟩ else none else none
  | [a, b, c] => if hs : notStar a = true then if hs2 : notStar b = true then if hs3 : notStar c = true then (R.e sc a).bind fun ia => (R.e sc b).bind fun ib => (R.e sc c).map fun ic => ⟨(.zip3, [ia.1, ib.1, ic.1]), fun _ _ _ _ _ _ _ hX => i_zip3 hX.K (hX.sc.gl hg) (hX.mg0 _ hz) hs hs2 hs3 (ia.2 _ _ _ _ _ _ _ hX) (ib.2 _ _ _ _ _ _ _ hX) (ic.2 _ _ _ _ _ _ _ hX)⟩ else none else none else none
  | _ => none
def wEnum (elts : List Expr) (kk : Nat) (tp p pos : Pos) (hg : isGlob sc "enumerate" = true) (hz : ("enumerate" : Str) ∈ P.free) : (args : List Expr) → Option (IS' P N sc (.Tuple elts kk tp) (.Call (.Name "enumerate" p) args [] pos))
  | [a] => if hs : notStar a = true then (R.e sc a).map fun ia => ⟨(.enum, [ia.1]), fun _ _ _ _ _ _ _ hX => i_enum hX.K (hX.sc.gl hg) (hX.mg0 _ hz) hs (ia.2 _ _ _ _ _ _ _ hX)⟩ else none
  | _ => none
def wItC (tg : Expr) (f : Str) (p pos : Pos) (args : List Expr) : Option (IS' P N sc tg (.Call (.Name f p) args [] pos)) :=
  if hf : f = "range" then (if hg : isGlob sc "range" = true then if hz : ("range" : Str) ∈ P.free then (wRange R sc tg p pos hg hz args).map fun q => ⟨q.1, by rw [hf]; exact q.2⟩ else none else none)
  else if hf : f = "zip" then (match tg with
    | .Tuple elts kk tp => if hg : isGlob sc "zip" = true then if hz : ("zip" : Str) ∈ P.free then (wZip R sc elts kk tp p pos hg hz args).map fun q => ⟨q.1, by rw [hf]; exact q.2⟩ else none else none
    | _ => none)
  else if hf : f = "enumerate" then (match tg with
    | .Tuple elts kk tp => if hg : isGlob sc "enumerate" = true then if hz : ("enumerate" : Str) ∈ P.free then (wEnum R sc elts kk tp p pos hg hz args).map fun q => ⟨q.1, by rw [hf]; exact q.2⟩ else none else none
    | _ => none)
  else wItL R sc tg _
def wIter (tg : Expr) : (e : Expr) → Option (IS' P N sc tg e)
  | .Call (.Name f p) args [] pos => wItC R sc tg f p pos args
  | e => wItL R sc tg e
structure CompW (P : PD) (N : List Str) (sc : Scope) (elt tg iter : Expr) (ifs : List Expr) (scope : Scope) where
  ielt : IE
  t : Tg
  it : It
  src : List IE
  iifs : List IE
  own : List (Str × Nat)
  nh : P.hot = false
  hi : InX P N sc fun Φ Mu K fnA EX Wx X => PI X tg iter (TIt Φ Mu K fnA EX Wx it src)
  ok : InX P N sc fun Φ Mu K fnA EX Wx X => BlkOk X.N X.env.scope scope own
  hg : InX P N sc fun Φ Mu K fnA EX Wx X => ∀ (s : Shared) (H : Hp) (C : Addr) (cl : List (Str × Addr)) (fp : List Addr), PG (X.blk s H scope (compEnvC scope cl C X.env) fp) tg (TGt t)
  ht : InX P N sc fun Φ Mu K fnA EX Wx X => ∀ (s : Shared) (H : Hp) (C : Addr) (cl : List (Str × Addr)) (fp : List Addr), PTs (X.blk s H scope (compEnvC scope cl C X.env) fp) ifs (TIf Φ Mu K fnA iifs)
  he : InX P N sc fun Φ Mu K fnA EX Wx X => ∀ (s : Shared) (H : Hp) (C : Addr) (cl : List (Str × Addr)) (fp : List Addr), PE (X.blk s H scope (compEnvC scope cl C X.env) fp) elt (TV Φ Mu K fnA EX noW ielt)
  hs : ∀ (env : PySem.Env) (x : Value), foldedSetIterable iter env x = pure x
  hn : (own.map (·.2)).Nodup
  htg : ∀ i ∈ tgs t, i ∈ own.map (·.2)
def wIfs (scope : Scope) : (ifs : List Expr) → Option { iifs : List IE // InX P N scope fun Φ Mu K fnA EX Wx X => PTs X ifs (TIf Φ Mu K fnA iifs) }
  | [] => some ⟨[], fun _ _ _ _ _ _ _ _ => if_nil⟩
  | [c] => (R.t scope c).map fun ic => ⟨[ic.1], fun _ _ _ _ _ _ _ hX => if_one (ic.2 _ _ _ _ _ _ _ hX)⟩
  | _ => none
def ownsOf (N : List Str) : List Str → Option (List (Str × Nat))
  | [] => some []
  | x :: r => (idxS x N 0).bind fun i => (ownsOf N r).map ((x, i) :: ·)
theorem tn_ok {P : PD} {scope : Scope} (h : (P.tolds.isEmpty || !decide (scope.names = P.tnames)) = true) : P.tolds ≠ [] → scope.names ≠ P.tnames := by
  intro h1 h2
  rw [h2] at h
  cases e : P.tolds with
  | nil => exact h1 e
  | cons a l => rw [e] at h; simp at h
def wComp (elt tg iter : Expr) (ifs : List Expr) (scope : Scope) : Option (CompW P N sc elt tg iter ifs scope) :=
  if ht' : (P.tolds.isEmpty || !decide (scope.names = P.tnames)) = true then have ht := tn_ok ht'
  if hs : notSet iter = true then calmly P fun hh => (wIter R sc tg iter).bind fun p => (ownsOf N (ownNames scope)).bind fun own => if hb : blkC N sc scope own = true then
    (wTg (P := P) scope 20 tg).bind fun t => (R.e scope elt).bind fun ie => (wIfs R scope ifs).bind fun iifs =>
    if hn : (own.map (·.2)).Nodup then if htg : ((tgs t.1).all fun i => (own.map (·.2)).contains i) = true then
      some { ielt := ie.1, t := t.1, it := p.1.1, src := p.1.2, iifs := iifs.1, own := own, nh := hh
             hi := p.2
             ok := fun _ _ _ _ _ _ _ hX => blk_ok hX.sc hX.N hb
             hg := fun _ _ _ _ _ _ _ hX s H C cl fp => t.2 _ _ _ _ _ _ _ (hX.blk hh ht (blk_ok hX.sc hX.N hb).kind s H C cl fp)
             ht := fun _ _ _ _ _ _ _ hX s H C cl fp => iifs.2 _ _ _ _ _ _ _ (hX.blk hh ht (blk_ok hX.sc hX.N hb).kind s H C cl fp)
             he := fun _ _ _ _ _ _ _ hX s H C cl fp => (ie.2 _ _ _ _ _ _ _ (hX.blk hh ht (blk_ok hX.sc hX.N hb).kind s H C cl fp)).v
             hs := fun env => folded_ok hs
             hn := hn
             htg := fun i hi => by have := List.all_eq_true.mp htg i hi; simpa using this }
    else none else none
  else none else none else none
def CompW.ie {elt tg iter : Expr} {ifs : List Expr} {scope : Scope} (w : CompW P N sc elt tg iter ifs scope) : IE := .comp (w.own.map (·.2)) w.ielt w.t w.it w.src w.iifs
theorem CompW.eok {elt tg iter : Expr} {ifs : List Expr} {scope : Scope} {lpos : Pos} (w : CompW P N sc elt tg iter ifs scope) : InX P N sc fun Φ Mu K fnA EX Wx X => EOk Φ Mu K fnA EX Wx X (.ListComp elt [⟨tg, iter, ifs, 0⟩] scope lpos) (CompW.ie sc w) := fun _ _ _ _ _ _ _ hX =>
  e_comp (hX.calm w.nh) hX.nd (w.hi _ _ _ _ _ _ _ hX) (w.ok _ _ _ _ _ _ _ hX) (w.hg _ _ _ _ _ _ _ hX) (w.ht _ _ _ _ _ _ _ hX) (w.he _ _ _ _ _ _ _ hX) (w.hs _) w.hn w.htg
def wLc (elt : Expr) (scope : Scope) (lpos : Pos) : (gs : List Comprehension) → Option (ES P N sc (.ListComp elt gs scope lpos))
  | [⟨tg, iter, ifs, 0⟩] => (wComp R sc elt tg iter ifs scope).map fun w => ⟨CompW.ie sc w, w.eok sc⟩
  | _ => none
def wDict (tk : Bool) (pos : Pos) : (ks : List (Option Expr)) → (vs : List Expr) → Option (ES P N sc (.Dict ks vs pos))
  | [], [] => if tk then some ⟨.dic true [], fun _ _ _ _ _ _ _ _ => e_dic0t⟩ else some ⟨.dic false [], fun _ _ _ _ _ _ _ _ => e_dic0⟩
  | [some (.Constant (.int i) _ _)], [.Constant (.int j) _ _] => if tk then none else some ⟨.dic false [.lit (.int i), .lit (.int j)], fun _ _ _ _ _ _ _ _ => e_dic1⟩
  | _, _ => none
theorem lam_sc {sc scope : Scope} {N ps : List Str} {X : Cx} (s : ScOk sc X) (hN : X.N = N) (h : lamTB N sc scope ps = true) : LamT X.N X.env.scope scope ps := by
  have L := lamT_by h
  rw [hN]
  refine ⟨L.kind, L.co, L.gen, L.own, fun y hy e => ?_, L.par⟩
  rcases L.free y hy e with z | z
  · exact .inl (s.keep _ _ (by decide) z)
  · rcases s.free _ z with q | q
    · exact .inr q
    · exact .inl q
theorem XOk.lam {sc scope : Scope} {Φ : Calls} {Mu : Muts} {K : PySem.W.Frag} {fnA : FA} {EX : EC} {Wx : WX} {X : Cx} (h : XOk P N sc Φ Mu K fnA EX Wx X) (hh : P.hot = false) {ps : List Str} (L : LamT X.N X.env.scope scope ps) {k : Nat} (hF : ∀ x ∈ P.fns, FnAtK k Φ Mu fnA EX X x (nm x))
    (A : Around) (outer : List PySem.Env) (s : Shared) (H : Hp) (E : XK) (f c' : Addr) (hr : Room (k + 2) (A.deeper (LamX.lamEnv X scope s.heap.objs.size f c'))) : XOk (noT P) N scope Φ Mu K fnA EX (WXE E) (LamX.lamCx X A outer s H E scope f c') where
  ex := h.ex
  excs := h.excs
  room := fun _ => hr.mono (by omega)
  hotx := fun z => by
    have z : P.hot = true := z
    rw [hh] at z; cases z
  lv := fun z => absurd rfl z
  sc := ⟨L.kind, fun _ _ _ z => z, fun _ z => .inl z, fun x z => absurd rfl (L.own _ (PySem.mem_of_lookup z)).1⟩
  N := h.N
  nd := h.nd
  K := h.K
  calm := fun _ => rfl
  hu := by have := hr.un; show (A.deeper _).units + 200 < cLine; omega
  mg0 := h.mg0
  fns := fun x hx => by
    obtain ⟨fa, fd, qs, F, _, hm, hk, hb, hfa, hlen⟩ := (hF x hx).ex
    exact ⟨k, ⟨fa, fd, qs, F, hr, hm, hk, hb, hfa, hlen⟩⟩
  consts := h.consts
  tk := takes_of rfl rfl rfl rfl
theorem pe_callVar {X : Cx} {k i : Nat} {fa : Addr} {fd : FuncData} {ps : List Str} {sp : Sp} {E : L2.St → XK} {y : Str} {p pos : Pos} {e : Expr} {es : List Expr} {t : TA} (F : FnOk X.prog X.w X.K X.mg X.base (L2.CX X.prog X.w) k fa fd ps sp) (hr : Room k X.A) (hN : X.N[i]? = some y) (hv : Vis X.env.scope y) (hd : (y == ("__debug__" : Str)) = false) (hcd : (y == ("__classdict__" : Str)) = false)
    (hk : PySem.W.keepIn X.K (.ref fa) = true) (hb : L2.Binds X.K fd ps []) (hx : ∀ σ, PassesAt (L2.CX X.prog X.w) X σ (E σ)) (ha : PA X (e :: es) t) (he : starEach (e :: es) X.env = (false, eval e X.env) :: starEach es X.env) (hpl : (backTo pos (starEach es X.env)).any (·.1) = false) :
    PE X (.Call (.Name y p) (e :: es) [] pos) (fun σ H Q => σ[i]? = some (some (.ref fa)) ∧ t σ H fun vs H1 => sp vs H1 Q (E σ)) := by
  refine ⟨fun pins s σ H Q I h => ?_⟩
  obtain ⟨hs, h⟩ := h
  refine wpAny_Call_Name_kw (thn ((pe_var (pos := p) (i := i) hN hv hd hcd).run pins s σ H (fun v H1 => v = .ref fa ∧ H1 = H) I ⟨.ref fa, hs, rfl, rfl⟩) fun u s1 ⟨v, H1, I1, r1, q1⟩ => ?_)
  obtain ⟨ev, eH⟩ := q1
  subst ev
  rw [eH] at I1
  obtain rfl : u = Value.ref fa := r1
  refine PySem.W.callWith_K (h₀ := X.base) I1.ok.mod.kin hk (thn (ha.run pos pins s1 σ H _ I1 h) fun us s2 ⟨vs, H2, I2, r, q⟩ => ⟨I2.kIn, ?_⟩) he hpl
  exact run_fnS F hr hb (hx σ) I2 r q
def wThunk (RT : Rec (noT P) N) (x : Str) (p : Pos) (params : Arguments) (body : Expr) (scope : Scope) (lpos pos : Pos) : Option (ES P N sc (.Call (.Name x p) [.Lambda params body scope lpos] [] pos)) :=
  if hx : x ∈ P.tolds then if hg : isGlob sc x = true then if hn : plainName x = true then if hpar : lamPB params = true then if hL : lamTB N sc scope (lamNames params) = true then if hnm : sc.names = P.tnames then calmly P fun hh =>
    match body with
    | .Call (.Name y py) (e :: es) [] bp => if hp : plainEs (e :: es) = true then if hy : plainName y = true then (wOs RT scope (e :: es)).bind fun as =>
        if hyf : y ∈ P.fns ∧ isGlob scope y = true then some ⟨.thunk (nm x) (.lit (.fn (nm y))) as.1, fun Φ Mu K fnA EX Wx X hX => by
          obtain ⟨hT, ⟨k, hF, hTd⟩, hfn⟩ := hX.lv (fun z => by rw [z] at hx; cases hx) hnm
          have L := lam_sc hX.sc hX.N hL
          obtain ⟨fa, fd, qs, F, hr0, hm, hk, hb, hfa, hlen⟩ := (hF y hyf.1).ex
          refine e_thunk (callee := fun _ n np => n = nm y ∧ np = qs.length) hT hX.K (hX.sc.gl hg) (plainN hn).a (hTd x hx) hpar L (fun A outer s H E f' c' hr => ?_) (fun C F σ ρ H n hC st ef => ?_)
          · have hX' := hX.lam hh L hF A outer s H E f' c' hr
            refine weakE (pe_callS (X := LamX.lamCx X A outer s H E scope f' c') F (hr.mono (by omega)) (hX'.sc.gl hyf.2) hm hk hb (fun σ => passAt hX'.tk σ) (as.2 _ _ _ _ _ _ _ hX') (plainN hy).a (plain_star hp _) (star_any (plain_cons hp).2 _ _)) fun σ H Q q => ?_
            obtain ⟨n, np, ⟨rfl, rfl⟩, q⟩ := q
            have eK : X.K = K := hX.K.symm
            rw [← eK] at q ⊢
            exact q
          · cases ef
            exact ⟨_, ⟨rfl, rfl⟩, hlen⟩⟩
        else if hv : visible scope y = true then (wSlot N y).map fun i => ⟨.thunk (nm x) (.var i.1) as.1, fun Φ Mu K fnA EX Wx X hX => by
          obtain ⟨hT, ⟨k, hF, hTd⟩, hfn⟩ := hX.lv (fun z => by rw [z] at hx; cases hx) hnm
          have L := lam_sc hX.sc hX.N hL
          refine e_thunk (callee := fun σ n np => ∃ w ∈ P.fns, n = nm w ∧ ∃ (fa : Addr) (fd : FuncData) (qs : List Str), np = qs.length ∧ σ[i.1]? = some (some (.ref fa)) ∧ FnOk X.prog X.w X.K X.mg X.base (L2.CX X.prog X.w) k fa fd qs (SpOf Φ Mu X.K fnA EX (nm w) qs.length) ∧ PySem.W.keepIn X.K (.ref fa) = true ∧ L2.Binds X.K fd qs [])
            hT hX.K (hX.sc.gl hg) (plainN hn).a (hTd x hx) hpar L (fun A outer s H E f' c' hr => ?_) (fun C F σ ρ H n hC st ef => ?_)
          · have hX' := hX.lam hh L hF A outer s H E f' c' hr
            refine ⟨fun pins s1 σ H1 Q I q => ?_⟩
            obtain ⟨n, np, ⟨w, hw, rfl, fa, fd, qs, rfl, hσ, F, hk, hb⟩, q⟩ := q
            have eK : X.K = K := hX.K.symm
            rw [← eK] at q
            refine (pe_callVar (X := LamX.lamCx X A outer s H E scope f' c') (i := i.1) F (hr.mono (by omega)) (by rw [hX'.N]; exact i.2) (hX'.sc.vis hv) (plainN hy).a (plainN hy).b hk hb (fun σ => passAt hX'.tk σ) (by
              have := as.2 _ _ _ _ _ _ _ hX'
              rw [← eK] at this
              exact this) (plain_star hp _) (star_any (plain_cons hp).2 _ _)).run pins s1 σ H1 Q I ⟨hσ, q⟩
          · have ef : (match getS ρ i.1 with
              | some (.fn n) => some n
              | _ => none) = some n := ef
            cases e1 : getS ρ i.1 with
            | none => rw [e1] at ef; cases ef
            | some d =>
              rw [e1] at ef
              cases d with
              | fn m =>
                cases ef
                obtain ⟨v, h1, gv, _⟩ := st.at e1
                have h : Rep C _ H v (.fn n) := gv.head
                cases h with
                | @fn a _ h =>
                  rw [hC.fnA] at h
                  obtain ⟨w, hw, rfl, hmw⟩ := hfn _ _ h
                  obtain ⟨fa, fd, qs, F, hr0, hm, hk, hb, hfa, hlen⟩ := (hF w hw).ex
                  rw [hm] at hmw
                  cases hmw
                  exact ⟨_, ⟨w, hw, rfl, _, fd, qs, rfl, h1, F, hk, hb⟩, hlen⟩
              | _ => cases ef⟩
        else none
      else none else none
    | _ => none
  else none else none else none else none else none else none
def stE (RT : Rec (noT P) N) (tk : Bool) : (e : Expr) → Option (ES P N sc e)
  | .Name x pos => wName sc x pos
  | .Constant c j pos => wConst sc c j pos
  | .BoolOp op vs pos => wBoolE R sc pos op vs
  | .UnaryOp op a pos => wUn R sc pos op a
  | .BinOp a op b pos => wBin R sc a op b pos
  | .IfExp c a b pos => (R.t sc c).bind fun ic => (R.e sc a).bind fun ia => (R.e sc b).map fun ib => ⟨.ite ic.1 ia.1 ib.1, fun _ _ _ _ _ _ _ hX => e_ite (ic.2 _ _ _ _ _ _ _ hX) (ia.2 _ _ _ _ _ _ _ hX) (ib.2 _ _ _ _ _ _ _ hX)⟩
  | .Compare a ops bs pos => (wCmp R sc a pos ops bs).map fun q => ⟨q.1, fun _ _ _ _ _ _ _ hX => (q.2 _ _ _ _ _ _ _ hX).1⟩
  | .Tuple es k pos => wTup R sc es k pos
  | .List es pos => wLst R sc es pos
  | .Dict ks vs pos => wDict sc tk pos ks vs
  | .Subscript o i pos => wSub R sc o pos i
  | .ListComp elt gs scope lpos => wLc R sc elt scope lpos gs
  | .Call (.Name x p) [.Lambda params body scope lpos] [] pos => wThunk sc RT x p params body scope lpos pos
  | .Call f args [] pos => wCall R sc pos f args
  | .Attribute o f pos => wAttr sc o f pos
  | _ => none
def tv? : Expr → Bool
  | .Name .. | .Call .. | .Constant .. => true
  | _ => false
theorem tv_ok {e : Expr} (h : tv? e = true) (env : PySem.Env) : ∀ whole, isTrue e env whole = (do let v ← whole; standAt e.pos; holding [v] (truthy v)) := by
  intro whole
  cases e <;> first | (cases h; done) | rfl
def stT (RT : Rec (noT P) N) (tk : Bool) : (e : Expr) → Option (TS' P N sc e)
  | .BoolOp op vs pos => wBoolT R sc pos op vs
  | .UnaryOp .Not a pos => (R.t sc a).map fun ia => ⟨.not ia.1, fun _ _ _ _ _ _ _ hX => t_not (ia.2 _ _ _ _ _ _ _ hX)⟩
  | .Compare a ops bs pos => (wCmp R sc a pos ops bs).map fun q => ⟨q.1, fun _ _ _ _ _ _ _ hX => (q.2 _ _ _ _ _ _ _ hX).2⟩
  | e => if h : tv? e = true then (stE R sc RT tk e).map fun q => ⟨q.1, fun _ _ _ _ _ _ _ hX => pt_of (q.2 _ _ _ _ _ _ _ hX).v (tv_ok h _)⟩ else none
end
variable (P N) in
def wRecN (tk : Bool) : Nat → Rec (noT P) N
  | 0 => ⟨fun _ _ => none, fun _ _ => none⟩
  | n + 1 => ⟨fun sc => stE (P := noT P) (wRecN tk n) sc (wRecN tk n) tk, fun sc => stT (P := noT P) (wRecN tk n) sc (wRecN tk n) tk⟩
variable (P N) in
def wRec (tk : Bool) : Nat → Rec P N
  | 0 => ⟨fun _ _ => none, fun _ _ => none⟩
  | n + 1 => ⟨fun sc => stE (wRec tk n) sc (wRecN P N tk 12) tk, fun sc => stT (wRec tk n) sc (wRecN P N tk 12) tk⟩
end
end QE
namespace QE
open PySem L2 PySem.Spec PyProof.Rows
section
variable {P : PD} {N : List Str}
theorem asg_sub {env : PySem.Env} {x : Str} {pos' spos : Pos} {k : Expr} (h : (match k with | .Slice .. => true | _ => false) = false) : ∀ v, assign (.Subscript (.Name x pos') k spos) env v = (do
      let ov ← holding [v] (eval (.Name x pos') env)
      let iv ← holding [v, ov] (eval k env)
      standAt spos
      holding [v, ov, iv] (PySem.setItem ov iv v)
      release [v, ov, iv] []) := by
  intro v
  cases k <;> first | (cases h; done) | rfl
structure RecS (P : PD) (N : List Str) (sc : Scope) where
  s : (s : Stmt) → SS' P N sc s
section
variable (R : Rec P N) (sc : Scope)
def sFail (s : Stmt) : SS' P N sc s := ⟨.fail, fun _ _ _ _ _ _ _ _ _ => s_fail⟩
def orFail {s : Stmt} (o : Option (SS' P N sc s)) : SS' P N sc s := match o with
  | some q => q
  | none => sFail sc s
def wSet (y : Str) (py : Pos) (e : Expr) (pos : Pos) : Option (SS' P N sc (.Assign [.Name y py] e pos)) :=
  if hk : (kindIs sc y .local || kindIs sc y .cell) = true then if hc : notComp e = true then
    (wSlot N y).bind fun i => (R.e sc e).map fun ie => ⟨.asg (.var i.1) ie.1, fun _ _ _ _ _ _ _ hX W => s_set hX.x.nd (by rw [hX.x.N]; exact i.2) (hX.x.sc.loc hk).1 (ie.2 _ _ _ _ _ _ _ hX.x) (swaps_not hc) (hX.x.sc.loc hk).2⟩
  else none else none
theorem kloc {sc : Scope} {X : Cx} {y : Str} {k : NameKind} (s : ScOk sc X) (h : kindIs sc y k = true) (hn : k ≠ .free) : X.env.scope.names.lookup y = some k := s.keep y k hn (kindIs_eq h)
def wSetLc (y : Str) (py : Pos) (elt : Expr) (gs : List Comprehension) (scope : Scope) (lpos pos : Pos) : Option (SS' P N sc (.Assign [.Name y py] (.ListComp elt gs scope lpos) pos)) := match gs with
  | [⟨tg, iter, ifs, 0⟩] => calmly P fun hh => (wSlot N y).bind fun i => (wComp R sc elt tg iter ifs scope).bind fun w =>
    if hk : kindIs sc y .cell = true then some ⟨.asg (.var i.1) (CompW.ie sc w), fun _ _ _ _ _ _ _ hX W =>
      s_set hX.x.nd (by rw [hX.x.N]; exact i.2) (.inr (kloc hX.x.sc hk (by decide))) (w.eok sc _ _ _ _ _ _ _ hX.x) (sw_cell (kloc hX.x.sc hk (by decide))) (.inl (hX.x.sc.fn _ (kindIs_eq hk)))⟩
    else if hk : kindIs sc y .local = true then match hb : swapB y py scope lpos with
      | true => some ⟨.asg (.var i.1) (CompW.ie sc w), fun _ _ _ _ _ _ _ hX W =>
        s_setLc (hX.x.calm hh) hX.x.nd (by rw [hX.x.N]; exact i.2) (kloc hX.x.sc hk (by decide)) (by rw [sw_loc hX.x.sc.kind (kloc hX.x.sc hk (by decide)), hb]) (w.hi _ _ _ _ _ _ _ hX.x) (w.ok _ _ _ _ _ _ _ hX.x) (w.hg _ _ _ _ _ _ _ hX.x) (w.ht _ _ _ _ _ _ _ hX.x) (w.he _ _ _ _ _ _ _ hX.x) (w.hs _) w.hn w.htg⟩
      | false => some ⟨.asg (.var i.1) (CompW.ie sc w), fun _ _ _ _ _ _ _ hX W =>
        s_set hX.x.nd (by rw [hX.x.N]; exact i.2) (.inl (kloc hX.x.sc hk (by decide))) (w.eok sc _ _ _ _ _ _ _ hX.x) (by rw [sw_loc hX.x.sc.kind (kloc hX.x.sc hk (by decide)), hb]) (.inr (kloc hX.x.sc hk (by decide)))⟩
    else none
  | _ => none
def wSetSub (x : Str) (xp : Pos) (k : Expr) (spos : Pos) (e : Expr) (pos : Pos) : Option (SS' P N sc (.Assign [.Subscript (.Name x xp) k spos] e pos)) :=
  if hn : plainName x = true then if hv : visible sc x = true then if hk : (match k with | .Slice .. => true | _ => false) = false then
    (wSlot N x).bind fun i => (R.e sc e).bind fun ie => (R.e sc k).map fun ik => ⟨.setS i.1 [] ik.1 ie.1, fun _ _ _ _ _ _ _ hX W =>
      s_setS (by have := hX.x.hu; omega) (by rw [hX.x.N]; exact i.2) (hX.x.sc.vis hv) (plainN hn).a (plainN hn).b (ie.2 _ _ _ _ _ _ _ hX.x) (ik.2 _ _ _ _ _ _ _ hX.x) (asg_sub hk)⟩
  else none else none else none
def allLoc (sc : Scope) : List Str → Bool
  | [] => true
  | x :: r => kindIs sc x .local && allLoc sc r
def wPar2 (x y : Str) (px py pt : Pos) (kt : Nat) (a b : Expr) (k2 : Nat) (pt2 pos : Pos) : Option (SS' P N sc (.Assign [.Tuple [.Name x px, .Name y py] kt pt] (.Tuple [a, b] k2 pt2) pos)) :=
  if hx : kindIs sc x .local = true then if hy : kindIs sc y .local = true then if hl : (py.line == px.line) = true then if hd : ([x, y].eraseDups.length != 2) = false then if hs : plainEs [a, b] = true then
    if hf : [a, b].all (foldedForSure 8) = false then if hc : [a, b].all (constantsAlone 8) = false then
      calmly P fun hh => (wSlot N x).bind fun i => (wSlot N y).bind fun j => (R.e sc a).bind fun ia => (R.e sc b).bind fun ib => if hij : i.1 ≠ j.1 then some ⟨.par [.var i.1, .var j.1] [ia.1, ib.1], fun _ _ _ _ _ _ _ hX W =>
        s_par2 (hX.x.calm hh) hX.x.nd (by rw [hX.x.N]; exact i.2) (by rw [hX.x.N]; exact j.2) hij (kloc hX.x.sc hx (by decide)) (kloc hX.x.sc hy (by decide)) (ia.2 _ _ _ _ _ _ _ hX.x) (ib.2 _ _ _ _ _ _ _ hX.x) (plain_cons hs).1 (plain_cons (plain_cons hs).2).1
          (st_two hX.x.sc.kind (kloc hX.x.sc hx (by decide)) (kloc hX.x.sc hy (by decide)) hl hd hs hf hc)⟩ else none
    else none else none
  else none else none else none else none else none
def wPar3 (x y z : Str) (px py pz pt : Pos) (kt : Nat) (a b c : Expr) (k2 : Nat) (pt2 pos : Pos) : Option (SS' P N sc (.Assign [.Tuple [.Name x px, .Name y py, .Name z pz] kt pt] (.Tuple [a, b, c] k2 pt2) pos)) :=
  if hx : kindIs sc x .local = true then if hy : kindIs sc y .local = true then if hz : kindIs sc z .local = true then if hl : (py.line == px.line) = true then if hl2 : (pz.line == px.line) = true then if hd : ([x, y, z].eraseDups.length != 3) = false then if hs : plainEs [a, b, c] = true then
    if hf : [a, b, c].all (foldedForSure 8) = false then if hc : [a, b, c].all (constantsAlone 8) = false then
      calmly P fun hh => (wSlot N x).bind fun i => (wSlot N y).bind fun j => (wSlot N z).bind fun l => (R.e sc a).bind fun ia => (R.e sc b).bind fun ib => (R.e sc c).bind fun ic => if hij : i.1 ≠ j.1 then if hil : i.1 ≠ l.1 then if hjl : j.1 ≠ l.1 then some ⟨.par [.var i.1, .var j.1, .var l.1] [ia.1, ib.1, ic.1], fun _ _ _ _ _ _ _ hX W =>
        s_par3 (hX.x.calm hh) hX.x.nd (by rw [hX.x.N]; exact i.2) (by rw [hX.x.N]; exact j.2) (by rw [hX.x.N]; exact l.2) hij hil hjl (kloc hX.x.sc hx (by decide)) (kloc hX.x.sc hy (by decide)) (kloc hX.x.sc hz (by decide)) (ia.2 _ _ _ _ _ _ _ hX.x) (ib.2 _ _ _ _ _ _ _ hX.x) (ic.2 _ _ _ _ _ _ _ hX.x)
          (plain_cons hs).1 (plain_cons (plain_cons hs).2).1 (plain_cons (plain_cons (plain_cons hs).2).2).1
          (st_three hX.x.sc.kind (kloc hX.x.sc hx (by decide)) (kloc hX.x.sc hy (by decide)) (kloc hX.x.sc hz (by decide)) hl hl2 hd hs hf hc)⟩ else none else none else none
    else none else none
  else none else none else none else none else none else none else none
def wAsgT1 (ts : List Expr) (kt : Nat) (pt : Pos) (e : Expr) (pos : Pos) : Option (SS' P N sc (.Assign [.Tuple ts kt pt] e pos)) :=
  if ht : notTup e = true then (wTg (P := P) (N := N) sc 20 (.Tuple ts kt pt)).bind fun t => match t with
    | ⟨.tup tt, ht2⟩ => (R.e sc e).map fun ie => ⟨.asg (.tup tt) ie.1, fun _ _ _ _ _ _ _ hX W => s_asgT (stores_tup ht) (ht2 _ _ _ _ _ _ _ hX.x) (ie.2 _ _ _ _ _ _ _ hX.x)⟩
    | ⟨.var _, _⟩ => none
  else none
def wAsgT2 (ts : List Expr) (kt : Nat) (pt : Pos) (es : List Expr) (k2 : Nat) (p2 pos : Pos) : Option (SS' P N sc (.Assign [.Tuple ts kt pt] (.Tuple es k2 p2) pos)) :=
  if ht : es.all (foldedForSure 8) = true then (wTg (P := P) (N := N) sc 20 (.Tuple ts kt pt)).bind fun t => match t with
    | ⟨.tup tt, ht2⟩ => (R.e sc (.Tuple es k2 p2)).map fun ie => ⟨.asg (.tup tt) ie.1, fun _ _ _ _ _ _ _ hX W => s_asgT (st_folded ht) (ht2 _ _ _ _ _ _ _ hX.x) (ie.2 _ _ _ _ _ _ _ hX.x)⟩
    | ⟨.var _, _⟩ => none
  else none
abbrev PsS' (P : PD) (N : List Str) (sc : Scope) (es : List Expr) := { ts : List Tg // es.length = ts.length ∧ InX P N sc fun Φ Mu K fnA EX Wx X => PGs X es (TPs ts) }
def wPs : (es : List Expr) → Option (PsS' P N sc es)
  | [] => some ⟨[], rfl, fun _ _ _ _ _ _ _ _ => p_nil⟩
  | .Name x pos :: es => if hk : (kindIs sc x .local || kindIs sc x .cell) = true then (wSlot N x).bind fun i => (wPs es).map fun ts => ⟨.var i.1 :: ts.1, congrArg (· + 1) ts.2.1, fun _ _ _ _ _ _ _ hX => p_cons hX.nd (by rw [hX.N]; exact i.2) (hX.sc.loc hk).1 (hX.sc.loc hk).2 (ts.2.2 _ _ _ _ _ _ _ hX)⟩ else none
  | _ => none
def wParEs : (es : List Expr) → Option { ies : List IE // InX P N sc fun Φ Mu K fnA EX Wx X => PA X es (TPar Φ Mu K fnA EX Wx ies) }
  | [] => some ⟨[], fun _ _ _ _ _ _ _ _ => pa_par_nil⟩
  | e :: es => if hs : notStar e = true then (R.e sc e).bind fun ie => (wParEs es).map fun ies => ⟨ie.1 :: ies.1, fun _ _ _ _ _ _ _ hX => pa_par_cons (ie.2 _ _ _ _ _ _ _ hX) (ies.2 _ _ _ _ _ _ _ hX) hs⟩ else none
def findCell (sc : Scope) : (ts : List Expr) → Option { y : Str × Pos // Expr.Name y.1 y.2 ∈ ts ∧ kindIs sc y.1 .cell = true }
  | [] => none
  | .Name y py :: r => if h : kindIs sc y .cell = true then some ⟨(y, py), List.mem_cons_self, h⟩ else (findCell sc r).map fun q => ⟨q.1, List.mem_cons_of_mem _ q.2.1, q.2.2⟩
  | _ :: r => (findCell sc r).map fun q => ⟨q.1, List.mem_cons_of_mem _ q.2.1, q.2.2⟩
def wParT (ts : List Expr) (kt : Nat) (pt : Pos) (es : List Expr) (k2 : Nat) (p2 pos : Pos) : Option (SS' P N sc (.Assign [.Tuple ts kt pt] (.Tuple es k2 p2) pos)) :=
  calmly P fun hh => (findCell sc ts).bind fun y => if hp : plainEs ts = true then (wPs sc ts).bind fun q => if hm : q.1.length ≤ sizeLine then (wParEs R sc es).map fun ies =>
    ⟨.par q.1 ies.1, fun _ _ _ _ _ _ _ hX W => s_parT (hX.x.calm hh) (st_cell y.2.1 (kloc hX.x.sc y.2.2 (by decide))) (q.2.2 _ _ _ _ _ _ _ hX.x) hp q.2.1 hm (ies.2 _ _ _ _ _ _ _ hX.x)⟩ else none else none
def wParM (ts : List Expr) (kt : Nat) (pt : Pos) (es : List Expr) (k2 : Nat) (p2 pos : Pos) : Option (SS' P N sc (.Assign [.Tuple ts kt pt] (.Tuple es k2 p2) pos)) :=
  if hl : (ts.length == 2 || ts.length == 3) = false then if hp : plainEs ts = true then calmly P fun hh => (wPs sc ts).bind fun q => if hm : q.1.length ≤ sizeLine then (wParEs R sc es).map fun ies =>
    ⟨.par q.1 ies.1, fun _ _ _ _ _ _ _ hX W => s_parT (hX.x.calm hh) (st_many hl) (q.2.2 _ _ _ _ _ _ _ hX.x) hp q.2.1 hm (ies.2 _ _ _ _ _ _ _ hX.x)⟩ else none else none else none
def orElse' {s : Stmt} (a b : Option (SS' P N sc s)) : Option (SS' P N sc s) := match a with
  | some q => some q
  | none => b
def wTT (ts : List Expr) (kt : Nat) (pt : Pos) (es : List Expr) (k2 : Nat) (p2 pos : Pos) : Option (SS' P N sc (.Assign [.Tuple ts kt pt] (.Tuple es k2 p2) pos)) := orElse' sc (wParT R sc ts kt pt es k2 p2 pos) (orElse' sc (wAsgT2 R sc ts kt pt es k2 p2 pos) (wParM R sc ts kt pt es k2 p2 pos))
def wAssign (pos : Pos) : (t : Expr) → (e : Expr) → Option (SS' P N sc (.Assign [t] e pos))
  | .Name y py, .ListComp elt gs scope lpos => wSetLc R sc y py elt gs scope lpos pos
  | .Name y py, e => wSet R sc y py e pos
  | .Subscript (.Name x xp) k spos, e => wSetSub R sc x xp k spos e pos
  | .Tuple [.Name x px, .Name y py] kt pt, .Tuple [a, b] k2 pt2 => orElse' sc (wPar2 R sc x y px py pt kt a b k2 pt2 pos) (wTT R sc _ kt pt _ k2 pt2 pos)
  | .Tuple [.Name x px, .Name y py, .Name z pz] kt pt, .Tuple [a, b, c] k2 pt2 => orElse' sc (wPar3 R sc x y z px py pz pt kt a b c k2 pt2 pos) (wTT R sc _ kt pt _ k2 pt2 pos)
  | .Tuple ts kt pt, .Tuple es k2 p2 => wTT R sc ts kt pt es k2 p2 pos
  | .Tuple ts kt pt, e => wAsgT1 R sc ts kt pt e pos
  | _, _ => none
theorem aug_store {k : Expr} (h : (match k with | .Slice .. => true | _ => false) = false) : ∀ ov iv new, augStore k ov iv new = (do holding [new, ov, iv] (PySem.setItem ov iv new); release [new, ov, iv] []; pure .next) := by
  intro ov iv new
  cases k <;> first | (cases h; done) | rfl
def wAug (pos : Pos) (op : Operator) (e : Expr) : (t : Expr) → Option (SS' P N sc (.AugAssign t op e pos))
  | .Name y py => if hk : (kindIs sc y .local || kindIs sc y .cell) = true then match ho : augP op with
    | none => none
    | some p => (wSlot N y).bind fun i => (R.e sc e).map fun ie => ⟨.aug i.1 p ie.1, fun _ _ _ _ _ _ _ hX W => s_aug hX.x.nd (by rw [hX.x.N]; exact i.2) (hX.x.sc.loc hk).1 (hX.x.sc.loc hk).2 (ie.2 _ _ _ _ _ _ _ hX.x) ho⟩ else none
  | .Subscript (.Name x xp) k tp => if hn : plainName x = true then if hv : visible sc x = true then if hk : (match k with | .Slice .. => true | _ => false) = false then match ho : augP op with
    | none => none
    | some p => (wSlot N x).bind fun i => (R.e sc e).bind fun ie => (R.e sc k).map fun ik => ⟨.augS i.1 [] ik.1 p ie.1, fun _ _ _ _ _ _ _ hX W =>
        s_augS (by have := hX.x.hu; omega) (by rw [hX.x.N]; exact i.2) (hX.x.sc.vis hv) (plainN hn).a (plainN hn).b hX.x.K (ie.2 _ _ _ _ _ _ _ hX.x) (ik.2 _ _ _ _ _ _ _ hX.x) ho (aug_store hk)⟩
    else none else none else none
  | _ => none
def wApp (x : Str) (xp ap cp : Pos) (e : Expr) (pos : Pos) : Option (SS' P N sc (.Expr (.Call (.Attribute (.Name x xp) "append" ap) [e] [] cp) pos)) :=
  if hn : plainName x = true then if hv : visible sc x = true then if hs : notStar e = true then if hl : (ap.endLine == cp.line) = true then
    (wSlot N x).bind fun i => (R.e sc e).map fun ie => ⟨.app i.1 [] ie.1, fun _ _ _ _ _ _ _ hX W => s_app (by rw [hX.x.N]; exact i.2) (hX.x.sc.vis hv) (plainN hn).a (plainN hn).b hX.x.K (ie.2 _ _ _ _ _ _ _ hX.x) hs hl⟩
  else none else none else none else none
def wExt (x : Str) (xp ap cp : Pos) (e : Expr) (pos : Pos) : Option (SS' P N sc (.Expr (.Call (.Attribute (.Name x xp) "extend" ap) [e] [] cp) pos)) :=
  if hn : plainName x = true then if hv : visible sc x = true then if hs : notStar e = true then if hl : (ap.endLine == cp.line) = true then
    (wSlot N x).bind fun i => (R.e sc e).map fun ie => ⟨.ext i.1 [] ie.1, fun _ _ _ _ _ _ _ hX W => s_ext (by rw [hX.x.N]; exact i.2) (hX.x.sc.vis hv) (plainN hn).a (plainN hn).b hX.x.K (ie.2 _ _ _ _ _ _ _ hX.x) hs hl⟩
  else none else none else none else none
def wExprS (pos : Pos) : (e : Expr) → Option (SS' P N sc (.Expr e pos))
  | .Call (.Attribute (.Name x xp) m ap) [a] [] cp => if hm : m = "append" then (wApp R sc x xp ap cp a pos).map fun q => ⟨q.1, by rw [hm]; exact q.2⟩ else if hm : m = "extend" then (wExt R sc x xp ap cp a pos).map fun q => ⟨q.1, by rw [hm]; exact q.2⟩ else none
  | e => if hc : notComp e = true then (R.e sc e).map fun ie => ⟨.expr ie.1, fun _ _ _ _ _ _ _ hX W => s_expr (ie.2 _ _ _ _ _ _ _ hX.x) (swaps_not hc)⟩ else none
variable (S : RecS P N sc)
def wSs : (ss : List Stmt) → SsS' P N sc ss
  | [] => ⟨[], fun _ _ _ _ _ _ _ _ _ => ss_nil⟩
  | s :: r => let q := S.s s; let qs := wSs r; ⟨q.1 :: qs.1, fun _ _ _ _ _ _ _ hX W => ss_cons (q.2 _ _ _ _ _ _ _ hX W) (qs.2 _ _ _ _ _ _ _ hX W)⟩
def wFor (tg iter : Expr) (body : List Stmt) (pos : Pos) : Option (SS' P N sc (.For tg iter body [] pos)) :=
  if hs : notSet iter = true then calmly P fun hh => (wIter R sc tg iter).bind fun p => (wTg (P := P) (N := N) sc 20 tg).map fun t => let b := wSs sc S body
    ⟨.for_ t.1 p.1.1 p.1.2 b.1, fun _ _ _ _ _ _ _ hX W => s_for hX.pass (hX.x.calm hh) (p.2 _ _ _ _ _ _ _ hX.x) (t.2 _ _ _ _ _ _ _ hX.x) (b.2 _ _ _ _ _ _ _ hX W) (folded_ok hs)⟩
  else none
def excF : (l : List (Str × Option Str)) → (x : Str) → Option { f : Option Str // (x, f) ∈ l }
  | [], _ => none
  | (y, f) :: r, x => if e : y = x then some ⟨f, by rw [e]; exact List.mem_cons_self⟩ else (excF r x).map fun q => ⟨q.1, List.mem_cons_of_mem _ q.2⟩
def wRaise (x : Str) (p pos pos' : Pos) : (args : List Expr) → Option (SS' P N sc (.Raise (some (.Call (.Name x p) args [] pos)) none pos'))
  | [] => if hg : isGlob sc x = true then if hn : plainName x = true then calmly P fun hh => match excF P.excs x with
    | some ⟨none, hy⟩ => some ⟨.raise (nm x) [], fun _ _ _ _ _ _ _ hX W => s_raise0 hX.x hh (hX.x.sc.gl hg) (plainN hn).a hy⟩
    | _ => none else none else none
  | [e] => if hg : isGlob sc x = true then if hn : plainName x = true then if hs : notStar e = true then if hsu : ("super" : Str) ∈ P.free then calmly P fun hh => match excF P.excs x with
    | some ⟨some f, hy⟩ => (R.e sc e).map fun ie => ⟨.raise (nm x) [ie.1], fun _ _ _ _ _ _ _ hX W => s_raise1 hX.x hh (hX.x.sc.gl hg) (plainN hn).a hy hsu (ie.2 _ _ _ _ _ _ _ hX.x) (star_free (notStar_ne hs))⟩
    | _ => none else none else none else none else none
  | _ => none
def stS : (s : Stmt) → SS' P N sc s
  | .Assign [t] e pos => orFail sc (wAssign R sc pos t e)
  | .AugAssign t op e pos => orFail sc (wAug R sc pos op e t)
  | .Expr e pos => orFail sc (wExprS R sc pos e)
  | .Return (some e) pos => orFail sc ((R.e sc e).map fun ie => ⟨.ret ie.1, fun _ _ _ _ _ _ _ hX W => s_ret (ie.2 _ _ _ _ _ _ _ hX.x)⟩)
  | .Return none pos => ⟨.ret (.lit .non), fun _ _ _ _ _ _ _ _ _ => s_retN⟩
  | .If c a b pos => orFail sc ((R.t sc c).map fun ic => let qa := wSs sc S a; let qb := wSs sc S b
      ⟨.iff ic.1 qa.1 qb.1, fun _ _ _ _ _ _ _ hX W => s_if (ic.2 _ _ _ _ _ _ _ hX.x) (qa.2 _ _ _ _ _ _ _ hX W) (qb.2 _ _ _ _ _ _ _ hX W)⟩)
  | .For tg iter body [] pos => orFail sc (wFor R sc S tg iter body pos)
  | .Raise (some (.Call (.Name x p) args [] pos)) none pos' => orFail sc (wRaise R sc x p pos pos' args)
  | .While c body [] pos => orFail sc ((R.t sc c).map fun ic => let q := wSs sc S body
      ⟨.while_ ic.1 q.1, fun _ _ _ _ _ _ _ hX W => s_while hX.pass (ic.2 _ _ _ _ _ _ _ hX.x) (q.2 _ _ _ _ _ _ _ hX W)⟩)
  | .Pass pos => ⟨.pass, fun _ _ _ _ _ _ _ _ _ => s_pass⟩
  | s => sFail sc s
end
def wRecS (R : Rec P N) (sc : Scope) : Nat → RecS P N sc
  | 0 => ⟨fun s => sFail sc s⟩
  | n + 1 => ⟨fun s => stS R sc (wRecS R sc n) s⟩
variable (P N) in
def wBody (tk : Bool) (sc : Scope) (body : List Stmt) : SsS' P N sc body := wSs sc (wRecS (wRec P N tk 60) sc 30) body
end
end QE
namespace QE
open PySem L2 PySem.Spec PyProof.Rows
def nameOf : Stmt → Str
  | .FunctionDef n _ _ _ _ _ _ _ _ _ => n
  | _ => "?"
def psOf (s : Stmt) : List Str := (defArgs s).args.map (·.arg)
def nsOf (s : Stmt) : List Str := namesOf (psOf s) (defScope s) (defBody s)
def defD (s : Stmt) : He.DefD := ⟨(nameOf s, none), nameOf s, nameOf s, defArgs s, defBody s, defScope s, [], []⟩
def fnScB (N ps : List Str) (sc : Scope) : Bool := (match sc.kind with | .function => true | _ => false) && !sc.isCoroutine && !sc.isGenerator && decide N.Nodup && decide (N.take ps.length = ps) &&
  (ps.all fun x => kindIs sc x .local || kindIs sc x .cell) && sc.names.all fun y => y.2 != .free
theorem fnSc_of {N ps : List Str} {sc : Scope} (h : fnScB N ps sc = true) : FnScope N ps sc := by
  unfold fnScB at h
  simp only [Bool.and_eq_true, List.all_eq_true, decide_eq_true_eq, Bool.not_eq_true'] at h
  obtain ⟨⟨⟨⟨⟨⟨h1, h2⟩, h3⟩, h4⟩, h5⟩, h6⟩, h7⟩ := h
  refine ⟨?_, h2, h3, h4, h5, fun x hx => ?_, fun y hy => ?_⟩
  · split at h1
    · assumption
    · cases h1
  · rcases Bool.or_eq_true_iff.mp (h6 x hx) with z | z
    · exact .inl (kindIs_eq z)
    · exact .inr (kindIs_eq z)
  · have := h7 y hy
    intro e
    rw [e] at this
    exact absurd this (by decide)
def BindOk (s : Stmt) : Prop := ∀ (kV doc pm : Value) (an : Option Addr) (cdv ct : Value) (us : List Value), us.length = (psOf s).length → bindArgs (PySem.W.fnOf (nameOf s) (nameOf s) (defArgs s) (defBody s) (defScope s) .none kV doc pm an cdv ct) ⟨us, []⟩ = pure ((psOf s).zip us)
section
variable (P0 : PD) (tks : Str → Bool) (muts : Str → Option Nat)
def fdOf (s : Stmt) : FD := ⟨(psOf s).length, (nsOf s).length, muts (nameOf s), (wBody P0 (nsOf s) (tks (nameOf s)) (defScope s) (defBody s)).1⟩
def tabOf (ss : List Stmt) : List (Nat × FD) := ss.map fun s => (nm (nameOf s), fdOf P0 tks muts s)
variable {P0 tks muts}
theorem lookF_tab : ∀ {ss : List Stmt} {s : Stmt}, (ss.map fun s => nm (nameOf s)).Nodup → s ∈ ss → lookF (tabOf P0 tks muts ss) (nm (nameOf s)) = some (fdOf P0 tks muts s)
  | [], _, _, h => by cases h
  | t :: r, s, hn, h => by
    rw [List.map_cons, List.nodup_cons] at hn
    show (if Nat.beq (nm (nameOf t)) (nm (nameOf s)) then some (fdOf P0 tks muts t) else lookF (tabOf P0 tks muts r) (nm (nameOf s))) = _
    rcases List.mem_cons.mp h with e | e
    · rw [e, if_pos (Nat.beq_refl _)]
    · have ne : nm (nameOf t) ≠ nm (nameOf s) := fun z => hn.1 (by rw [z]; exact List.mem_map_of_mem (f := fun s => nm (nameOf s)) e)
      rw [if_neg (fun z => ne (Nat.eq_of_beq_eq_true z))]
      exact lookF_tab hn.2 e
end
theorem call_len {T : List (Nat × FD)} {W n f : Nat} {fd : FD} (hl : lookF T f = some fd) (ds : List D) (h : call T W n f ds ≠ .bad) : ds.length = fd.np := by
  cases n with
  | zero => exact absurd rfl h
  | succ n =>
    rw [call_succ ds hl] at h
    split at h
    · rename_i hb
      rw [Bool.and_eq_true] at hb
      exact lenIs_len hb.1
    · exact absurd rfl h
structure TSh where
  a : Str
  fnd : Str
  cn : Str
  en : Str
  z : Str
  j : Nat
  ps : List Pos
  b₀ : Stmt
  rest : List Stmt
  i1 : Nat
  i2 : Nat
def toldShape (s : Stmt) : Option TSh := match defBody s with
  | [.Assign [.Name fnd p0] (.Constant (.str z) j p1) p2, .Try [.Expr (.Call (.Name a p3) [] [] p4) p5] [.ExceptHandler (some (.Name cn p6)) (some en) (b₀ :: rest) p7] [] [] p8, .Return (some (.Name f2 p9)) p10] =>
    if f2 = fnd then match idxS fnd (nsOf s) 0, idxS en (nsOf s) 0 with
      | some i1, some i2 => some ⟨a, fnd, cn, en, z, j, [p0, p1, p2, p3, p4, p5, p6, p7, p8, p9, p10], b₀, rest, i1, i2⟩
      | _, _ => none
    else none
  | _ => none
theorem toldShape_ok {s : Stmt} {h : TSh} (e : toldShape s = some h) : defBody s = bodyTold h.a h.fnd h.cn h.en h.z h.j (fun i => h.ps.getD i default) h.b₀ h.rest ∧ (nsOf s)[h.i1]? = some h.fnd ∧ (nsOf s)[h.i2]? = some h.en := by
  unfold toldShape at e
  split at e
  · rename_i hb
    split at e
    · rename_i e2
      split at e
      · rename_i i1 i2 e3 e4
        cases e
        subst e2
        exact ⟨hb, idx_at e3, idx_at e4⟩
      · cases e
    · cases e
  · cases e
def hotP (P : PD) : PD := { P with fns := [], tolds := [], hot := true }
def toldIss (P0 : PD) (s : Stmt) (h : TSh) : List IS := (wBody (hotP P0) (nsOf s) false (defScope s) (h.b₀ :: h.rest)).1
def toldFd (P0 : PD) (s : Stmt) : FD := match toldShape s with
  | some h => ⟨1, (nsOf s).length, none, isTold h.i1 h.i2 h.z (toldIss P0 s h)⟩
  | none => ⟨0, 0, none, []⟩
def toldB (s : Stmt) (h : TSh) : Bool := fnScB (nsOf s) [h.a] (defScope s) && decide (psOf s = [h.a]) && kindIs (defScope s) h.fnd .local && kindIs (defScope s) h.en .local && plainName h.a && plainName h.fnd && plainName h.cn && isGlob (defScope s) h.cn && decide (h.cn = "SayError") && decide (h.i1 ≠ h.i2 ∧ h.i1 ≠ 0 ∧ h.i2 ≠ 0) &&
  (match (nsOf s)[0]? with
    | some x => decide (x = h.a)
    | none => false) && (kindIs (defScope s) h.a .local || kindIs (defScope s) h.a .cell)
structure ToldB (s : Stmt) (h : TSh) : Prop where
  S : FnScope (nsOf s) [h.a] (defScope s)
  ps : psOf s = [h.a]
  l1 : (defScope s).names.lookup h.fnd = some .local
  l2 : (defScope s).names.lookup h.en = some .local
  pa : PlainN h.a
  pf : PlainN h.fnd
  pc : PlainN h.cn
  gl : (defScope s).names.lookup h.cn = some .globalImplicit
  cn : h.cn = "SayError"
  ne : h.i1 ≠ h.i2 ∧ h.i1 ≠ 0 ∧ h.i2 ≠ 0
  n0 : (nsOf s)[0]? = some h.a
  va : Vis (defScope s) h.a
theorem toldB_ok {s : Stmt} {h : TSh} (e : toldB s h = true) : ToldB s h := by
  unfold toldB at e
  simp only [Bool.and_eq_true, decide_eq_true_eq] at e
  obtain ⟨⟨⟨⟨⟨⟨⟨⟨⟨⟨⟨h1, h2⟩, h3⟩, h4⟩, h5⟩, h6⟩, h7⟩, h8⟩, h9⟩, h10⟩, h11⟩, h12⟩ := e
  refine ⟨fnSc_of h1, h2, kindIs_eq h3, kindIs_eq h4, plainN h5, plainN h6, plainN h7, kindIs_eq h8, h9, h10, ?_, ?_⟩
  · split at h11
    · rename_i x hx
      rw [hx, of_decide_eq_true h11]
    · cases h11
  · rcases Bool.or_eq_true_iff.mp h12 with z | z
    · exact .inl (kindIs_eq z)
    · exact .inr (.inl (kindIs_eq z))
def tabAll (P0 : PD) (tks : Str → Bool) (muts : Str → Option Nat) (ss tds : List Stmt) : List (Nat × FD) := tabOf P0 tks muts ss ++ tds.map fun s => (nm (nameOf s), toldFd P0 s)
theorem lookF_app : ∀ {A B : List (Nat × FD)} {f : Nat} {d : FD}, lookF A f = some d → lookF (A ++ B) f = some d
  | [], _, _, _, h => by cases h
  | (n, e) :: r, B, f, d, h => by
    have h : (if Nat.beq n f then some e else lookF r f) = some d := h
    show (if Nat.beq n f then some e else lookF (r ++ B) f) = some d
    split at h
    · rename_i c; rw [if_pos c]; exact h
    · rename_i c; rw [if_neg c]; exact lookF_app h
theorem lookF_app2 : ∀ {A B : List (Nat × FD)} {f : Nat}, (∀ p ∈ A, p.1 ≠ f) → lookF (A ++ B) f = lookF B f
  | [], _, _, _ => rfl
  | (n, e) :: r, B, f, h => by
    show (if Nat.beq n f then some e else lookF (r ++ B) f) = _
    rw [if_neg (fun z => h (n, e) List.mem_cons_self (Nat.eq_of_beq_eq_true z))]
    exact lookF_app2 fun p hp => h p (List.mem_cons_of_mem _ hp)
theorem lookF_told {P0 : PD} : ∀ {tds : List Stmt} {s : Stmt}, (tds.map fun s => nm (nameOf s)).Nodup → s ∈ tds → lookF (tds.map fun s => (nm (nameOf s), toldFd P0 s)) (nm (nameOf s)) = some (toldFd P0 s)
  | [], _, _, h => by cases h
  | t :: r, s, hn, h => by
    rw [List.map_cons, List.nodup_cons] at hn
    show (if Nat.beq (nm (nameOf t)) (nm (nameOf s)) then some (toldFd P0 t) else lookF (r.map fun s => (nm (nameOf s), toldFd P0 s)) (nm (nameOf s))) = _
    rcases List.mem_cons.mp h with e | e
    · rw [e, if_pos (Nat.beq_refl _)]
    · have ne : nm (nameOf t) ≠ nm (nameOf s) := fun z => hn.1 (by rw [z]; exact List.mem_map_of_mem (f := fun s => nm (nameOf s)) e)
      rw [if_neg (fun z => ne (Nat.eq_of_beq_eq_true z))]
      exact lookF_told hn.2 e
structure DefsAt (P0 : PD) (ss tds : List Stmt) (K : PySem.W.Frag) (mg : Str → Option Value) : Prop where
  fn : ∀ s ∈ ss ++ tds, ∃ fd, FunD K (nameOf s) (nameOf s) (defArgs s) (defBody s) (defScope s) [] [] (He.ga K (nameOf s)) fd
  glo : ∀ s ∈ ss ++ tds, mg (nameOf s) = some (.ref (He.ga K (nameOf s)))
  fns : ∀ x ∈ P0.fns, ∃ s ∈ ss, nameOf s = x
  sub : ∀ x, x ∈ P0.free → mg x = none
  consts : ∀ p ∈ P0.consts, ConstAt mg p.1 p.2
structure DefsX (P0 : PD) (ss tds : List Stmt) (K : PySem.W.Frag) (prog : Program) (mg : Str → Option Value) (base : Heap) : Prop where
  hot : P0.hot = false
  fns : P0.tolds ≠ [] → ∀ s ∈ ss, nameOf s ∈ P0.fns
  excs : ExcsOk K prog mg P0.excs
  say : P0.tolds ≠ [] → P0.excs ≠ []
  lam : P0.tolds ≠ [] → ∀ s ∈ ss, (defScope s).names = P0.tnames → ∀ fd, FunD K (nameOf s) (nameOf s) (defArgs s) (defBody s) (defScope s) [] [] (He.ga K (nameOf s)) fd →
    ∃ c Pt, fd.code = .ref c ∧ LamX.TabB base mg c Pt ∧ (Pt, nameOf s ++ ".<locals>." ++ "<lambda>") ∈ tabsK K ∧ ∀ p ∈ tabsK K, p.1 = Pt → p.2 = nameOf s ++ ".<locals>." ++ "<lambda>"
  tells : ∀ x ∈ P0.tolds, ∃ t ∈ tds, nameOf t = x
  td : ∀ t ∈ tds, ∃ h, toldShape t = some h ∧ toldB t h = true
def fnAt (ss : List Stmt) (K : PySem.W.Frag) : FA := ⟨fun f a => ∃ s ∈ ss, nm (nameOf s) = f ∧ a = He.ga K (nameOf s), fun _ _ _ _ => False⟩
theorem scOk_def {CX : CXT} {P : Program} {w : World} {K : PySem.W.Frag} {mg : Str → Option Value} {base : Heap} {N ps : List Str} {qual : Str} {scope : Scope} {f : Addr} {cd : Value} {A : Around} {outer : List PySem.Env} {s : Shared} {H : Hp} {E : XK} (S : FnScope N ps scope) : ScOk scope (cxOf CX P w K mg base N qual scope f cd A outer s H E) where
  kind := S.kind
  keep := fun _ _ _ h => h
  free := fun _ h => .inl h
  fn := fun _ _ => rfl
theorem exE_stay {K : PySem.W.Frag} {cs : List (Str × Option Str)} {c : Nat} {y : D} {cls : Value} {d : Option Addr} {H1 H2 : Hp} (h : (exE K cs).exc c y cls d H1) (st : Stay H1 H2) : (exE K cs).exc c y cls d H2 := by
  obtain ⟨z, hz, hn, hc, hr⟩ := h
  refine ⟨z, hz, hn, hc, ?_⟩
  obtain ⟨n, o⟩ := z
  cases o with
  | none => exact hr
  | some f =>
    obtain ⟨dx, v, h1, h2, h3⟩ := hr
    refine ⟨dx, v, h1, h2, ?_⟩
    rcases st _ _ h3 with q | q | ⟨ps, q⟩
    · exact q
    · exact q.elim
    · cases q
theorem told_nx {Φ : Calls} {M : Muts} {W i1 i2 : Nat} {z : Str} {iss : List IS} {ρ ρ' : Env} : exs Φ M W (isTold i1 i2 z iss) ρ ≠ .ok (.nx ρ') := by
  intro h
  unfold isTold at h
  rw [exs_consE, ex_asgL] at h
  have h : exs Φ M W [.try_ [.expr (.callv 0 [])] 0 (some i2) iss, .ret (.var i1)] (setS ρ i1 (some (.str (strL z)))) = .ok (.nx ρ') := h
  rw [exs_consE] at h
  cases e : ex Φ M W (.try_ [.expr (.callv 0 [])] 0 (some i2) iss) (setS ρ i1 (some (.str (strL z)))) with
  | bad => rw [e] at h; cases h
  | err c x => rw [e] at h; cases h
  | ok fw =>
    rw [e] at h
    cases fw with
    | rt d ρ4 => cases h
    | nx ρ4 =>
      have h : exs Φ M W [.ret (.var i1)] ρ4 = .ok (.nx ρ') := h
      rw [exs_consE, ex_retE] at h
      cases e2 : ev Φ M (.var i1) ρ4 with
      | bad => rw [e2] at h; cases h
      | err c x => rw [e2] at h; cases h
      | ok r => rw [e2] at h; cases h
section
variable {P : Program} {w : World} {K : PySem.W.Frag} {mg : Str → Option Value} {base : Heap} {P0 : PD} {tks : Str → Bool} {muts : Str → Option Nat} {ss tds : List Stmt} {W : Nat}
theorem tdAt (hA : DefsAt P0 ss tds K mg) (hD : DefsX P0 ss tds K P mg base) (hb : ∀ s ∈ tds, BindOk s) (hnd : ((ss ++ tds).map fun s => nm (nameOf s)).Nodup) (hne : P0.tolds ≠ []) {X : Cx} (e1 : X.prog = P) (e2 : X.K = K) (e3 : X.mg = mg) {n k : Nat} (hr : Room (k + 2) X.A) {x : Str} (hx : x ∈ P0.tolds) :
    TdAt (call (tabAll P0 tks muts ss tds) W n) (exE K P0.excs) X x k := by
  subst e1 e2 e3
  obtain ⟨t, ht, rfl⟩ := hD.tells x hx
  obtain ⟨h, hsh, hB⟩ := hD.td t ht
  have B := toldB_ok hB
  obtain ⟨hbody, hi1, hi2⟩ := toldShape_ok hsh
  obtain ⟨fd, F⟩ := hA.fn t (List.mem_append_right _ ht)
  have hbi := F.bindsN (hb t ht)
  obtain ⟨oc, od, dV, kV, doc, pm, an, cdv, ct, osl, rfl, lk, hcd, _, _⟩ := F.ex
  rw [B.ps] at hbi
  rw [hbody] at lk hbi
  have hlf : lookF (tabAll P0 tks muts ss tds) (nm (nameOf t)) = some (toldFd P0 t) := by
    rw [List.map_append, List.nodup_append] at hnd
    unfold tabAll
    rw [lookF_app2 fun p hp => ?_]
    · exact lookF_told hnd.2.1 ht
    · obtain ⟨s, hs, rfl⟩ := List.mem_map.mp hp
      exact hnd.2.2 _ (List.mem_map_of_mem (f := fun s => nm (nameOf s)) hs) _ (List.mem_map_of_mem (f := fun s => nm (nameOf s)) ht)
  have hfd : toldFd P0 t = ⟨1, (nsOf t).length, none, isTold h.i1 h.i2 h.z (toldIss P0 t h)⟩ := by
    unfold toldFd
    rw [hsh]
  have hlen : 0 < (nsOf t).length := by
    have := (List.getElem?_eq_some_iff.mp B.n0).1
    exact this
  refine ⟨⟨h.a, h.fnd, h.cn, h.en, h.z, h.j, fun i => h.ps.getD i default, h.b₀, h.rest, nsOf t, defScope t, He.ga X.K (nameOf t), He.ga X.K "SayError", defArgs t, dV, kV, doc, pm, cdv, ct, oc, an, od, osl, h.i1, h.i2, (nsOf t).length - 1, toldIss P0 t h, call (tabAll P0 tks muts ss tds) W (n - 1), mutsOf (tabAll P0 tks muts ss tds), W,
    hA.glo t (List.mem_append_right _ ht), F.kp, lk, hcd, hbi, B.ne.1, B.ne.2.1, B.ne.2.2, ?_⟩, hr⟩
  refine ⟨B.S, B.n0, hi1, hi2, by omega, B.va, B.l1, B.l2, ⟨B.pa.a, B.pa.b⟩, ⟨B.pf.a, B.pf.b⟩, B.pc.a, B.gl, ?_, ?_, fun c y cls d H1 H2 z st => exE_stay z st, ?_, ?_⟩
  · rw [B.cn]
    exact hD.excs.say (hD.say hne)
  · intro c y cls d H hex
    obtain ⟨z, hz, _, hc, _⟩ := hex
    rw [hc]
    exact (hD.excs.row z hz).exm
  · intro s H a oe cls d pn hz hf
    refine (wBody (hotP P0) (nsOf t) false (defScope t) (h.b₀ :: h.rest)).2 _ _ _ _ _ _ _ ⟨?_, PassesOwn.never⟩ W
    refine ⟨rfl, hD.excs, fun z => (nomatch z), fun _ => ⟨(tdCx X (nsOf t) (nameOf t) (defScope t) (He.ga X.K (nameOf t)) cdv s H).nox, a, oe, pn, cls, d, rfl, hz, hf, fun a' c x H z => z⟩, fun z => absurd rfl z, ?_, rfl, B.S.nd, rfl, fun z => (nomatch z), ?_, hA.sub, fun x hx => (nomatch hx), hA.consts, L2.takes0⟩
    · exact ⟨B.S.kind, fun _ _ _ h => h, fun _ h => .inl h, fun _ _ => rfl⟩
    · have := hr.un
      show X.A.units + 3 + 200 < cLine
      omega
  · intro dv d hΦ
    cases n with
    | zero => cases hΦ
    | succ m =>
      rw [call_succ [dv] hlf, hfd] at hΦ
      simp only at hΦ
      split at hΦ
      · have es : somes [dv] ++ none? ((nsOf t).length - 1) = some dv :: none? ((nsOf t).length - 1) := rfl
        rw [es] at hΦ
        show ∃ ρ', exs (call _ W m) _ W _ _ = _
        cases e : exs (call (tabAll P0 tks muts ss tds) W m) (mutsOf (tabAll P0 tks muts ss tds)) W (isTold h.i1 h.i2 h.z (toldIss P0 t h)) (some dv :: none? ((nsOf t).length - 1)) with
        | bad => rw [e] at hΦ; cases hΦ
        | err c x => rw [e] at hΦ; cases hΦ
        | ok fw =>
          rw [e] at hΦ
          cases fw with
          | nx ρ' => exact absurd e told_nx
          | rt v ρ' =>
            cases hΦ
            exact ⟨ρ', rfl⟩
      · cases hΦ
theorem defs_ok (hA : DefsAt P0 ss tds K mg) (hD : DefsX P0 ss tds K P mg base) (hb : ∀ s ∈ ss ++ tds, BindOk s) (hsc : ∀ s ∈ ss, fnScB (nsOf s) (psOf s) (defScope s) = true) (hnd : ((ss ++ tds).map fun s => nm (nameOf s)).Nodup) : ∀ n, ∀ s ∈ ss, ∀ fd, FunD K (nameOf s) (nameOf s) (defArgs s) (defBody s) (defScope s) [] [] (He.ga K (nameOf s)) fd →
    FnOk P w K mg base (L2.CX P w) (5 * n) (He.ga K (nameOf s)) fd (psOf s) (SpOf (call (tabAll P0 tks muts ss tds) W n) (mutsOf (tabAll P0 tks muts ss tds)) K (fnAt ss K) (exE K P0.excs) (nm (nameOf s)) (psOf s).length)
  | 0, s, hs, fd, F => ⟨fun vs H Q E h => h.1, fun A outer s' H args us vs Q E hr he hbt hv h => by
      obtain ⟨_, C, ds, _, _, _, _, p⟩ := h
      exact p.elim⟩
  | n + 1, s, hs, fd, F => by
    have S := fnSc_of (hsc s hs)
    have hnd0 : (ss.map fun s => nm (nameOf s)).Nodup := by
      rw [List.map_append, List.nodup_append] at hnd
      exact hnd.1
    have hl : lookF (tabAll P0 tks muts ss tds) (nm (nameOf s)) = some (fdOf P0 tks muts s) := lookF_app (lookF_tab (P0 := P0) (tks := tks) (muts := muts) hnd0 hs)
    have hlam : P0.tolds ≠ [] → (defScope s).names = P0.tnames → _ := fun h1 h2 => hD.lam h1 s hs h2 fd F
    obtain ⟨oc, od, dV, kV, doc, pm, an, cdv, ct, osl, rfl, lk, hcd, _, _⟩ := F.ex
    have e5 : 5 * (n + 1) = (5 * n + 4) + 1 := by omega
    rw [e5]
    have hok : ∀ t ∈ ss, ∀ fdt, FunD K (nameOf t) (nameOf t) (defArgs t) (defBody t) (defScope t) [] [] (He.ga K (nameOf t)) fdt → FnOk P w K mg base (L2.CX P w) (5 * n) (He.ga K (nameOf t)) fdt (psOf t) (SpOf (call (tabAll P0 tks muts ss tds) W n) (mutsOf (tabAll P0 tks muts ss tds)) K (fnAt ss K) (exE K P0.excs) (nm (nameOf t)) (psOf t).length) :=
      fun t ht fdt Ft => defs_ok hA hD hb hsc hnd n t ht fdt Ft
    have hfn : ∀ x ∈ P0.fns, ∀ X : Cx, X.prog = P → X.w = w → X.K = K → X.mg = mg → X.base = base → Room (5 * n + 2) X.A → FnAtK (5 * n) (call (tabAll P0 tks muts ss tds) W n) (mutsOf (tabAll P0 tks muts ss tds)) (fnAt ss K) (exE K P0.excs) X x (nm x) := by
      intro x hx X q1 q2 q3 q4 q5 hr
      subst q1 q2 q3 q4 q5
      obtain ⟨t, ht, e⟩ := hA.fns x hx
      obtain ⟨fdt, Ft⟩ := hA.fn t (List.mem_append_left _ ht)
      refine ⟨He.ga X.K (nameOf t), fdt, psOf t, ?_, hr, ?_, Ft.kp, Ft.bindsN (hb t (List.mem_append_left _ ht)), ?_, fun ds hds => ?_⟩
      · rw [← e]; exact hok t ht fdt Ft
      · rw [← e]; exact hA.glo t (List.mem_append_left _ ht)
      · exact ⟨t, ht, by rw [e], rfl⟩
      · rw [← e] at hds
        exact call_len (lookF_app (lookF_tab (P0 := P0) (tks := tks) (muts := muts) hnd0 ht)) ds hds
    refine fn_of lk hcd S (fun vs H Q E h => h.1) fun A outer s' H vs Q E hr h => ⟨_, ?_, entry hl rfl h⟩
    refine (wBody P0 (nsOf s) (tks (nameOf s)) (defScope s) (defBody s)).2 _ _ _ _ _ _ _ ⟨?_, ?_⟩ W
    · refine ⟨rfl, hD.excs, fun _ => hr.mono (by omega), fun z => (Bool.false_ne_true (hD.hot.symm.trans z)).elim, fun z1 z2 => ?_, scOk_def S, rfl, S.nd, rfl, fun _ => rfl, ?_, hA.sub, fun x hx => ?_, hA.consts, ?_⟩
      · refine ⟨?_, ⟨5 * n, fun x hx => hfn x hx _ rfl rfl rfl rfl rfl (hr.mono (by omega)), fun x hx => ?_⟩, fun m a hm => ?_⟩
        · obtain ⟨c, Pt, q1, q2, q3, q4⟩ := hlam z1 z2
          exact ⟨c, Pt, q2, q1, q3, q4⟩
        · exact tdAt hA hD (fun s hs => hb s (List.mem_append_right _ hs)) hnd z1 rfl rfl rfl hr hx
        · obtain ⟨t, ht, q1, q2⟩ := hm
          exact ⟨nameOf t, hD.fns z1 t ht, q1.symm, by rw [q2]; exact hA.glo t (List.mem_append_left _ ht)⟩
      · have := hr.un
        show (A.deeper _).units + 200 < cLine
        omega
      · exact ⟨_, hfn x hx _ rfl rfl rfl rfl rfl (hr.mono (by omega))⟩
      · exact takes_of rfl rfl rfl rfl
    · exact passes_of rfl
end
theorem repL_ints {C : RC} {O : List Addr} {H : Hp} (ns : List Int) : RepL C O H (ns.map V.int) (ns.map D.int) := .ofInts ns
theorem law_sp {Φ : Calls} {Mu : Muts} {K : PySem.W.Frag} {ss : List Stmt} {EX : EC} {f : Nat} (hM : Mu f = none) (h : ∀ ns : List Int, ns.length ≤ 63 → Φ f [.lst .old (ns.map .int)] = .ok (.bl true, [])) :
    ∀ (H : Hp) (a : Addr) (ns : List Int), (∀ p ∈ tabsK K, LamX.TabS H p.1 p.2) → ns.length ≤ 63 → Rd H a (.lst (ns.map V.int)) → SpOf Φ Mu K (fnAt ss K) EX f 1 [.ref a] H (fun v _ => v = .bl true) fun _ _ _ => False := by
  intro H a ns hT hl hS
  refine ⟨rfl, ⟨K, fnAt ss K, H, fun b => b = a, none⟩, [.lst .old (ns.map .int)], ⟨rfl, rfl⟩, rfl, rfl, ?_, ?_⟩
  · refine ⟨List.nodup_nil, fun it hit => ?_, ?_⟩
    · have hit : it ∈ [((.ref a : V), D.lst .old (ns.map .int))] := hit
      rw [List.mem_singleton] at hit
      subst hit
      exact Rep.old hS (fun z => nomatch z) (.inl rfl) (.ofInts ns)
    · refine ⟨fun b o e _ _ => e, fun b e => e, fun b e => ?_, fun b e => (nomatch e), fun a c x H1 H2 e _ => e, hT⟩
      have e : b = a := e
      subst e
      exact ⟨rd_ne hS, fun z => nomatch z⟩
  · rw [h ns hl]
    intro v H' g
    exact item_bl g.head
def noLists (K : PySem.W.Frag) : Bool := K.all fun p => match p.2.cls with
  | .type c => c != "list"
  | _ => true
theorem noList_at : ∀ {K : PySem.W.Frag} {a : Addr} {o : Obj}, noLists K = true → K.lookup a = some o → o.cls ≠ .type "list"
  | [], _, _, _, h => by cases h
  | (b, u) :: r, a, o, hn, h => by
    have hn : ((match u.cls with
      | .type c => c != "list"
      | _ => true) && noLists r) = true := hn
    rw [Bool.and_eq_true] at hn
    rw [List.lookup_cons] at h
    split at h
    · cases h
      intro e
      rw [e] at hn
      exact absurd hn.1 (by decide)
    · exact noList_at hn.2 h
def isTabO (o : Obj) : Bool := match o with
  | ⟨.none, none, .fields _, _⟩ => true
  | _ => false
def emptyTab (o : Obj) : Bool := match o with
  | ⟨.none, none, .fields vs, sl⟩ => vs.toList.isEmpty && sl.toList.isEmpty
  | _ => false
theorem emptyTab_ok {o : Obj} (h : emptyTab o = true) : o = { cls := .none, data := .fields #[] } := by
  unfold emptyTab at h
  split at h
  · rename_i vs sl
    rw [Bool.and_eq_true] at h
    obtain ⟨l⟩ := vs
    obtain ⟨l2⟩ := sl
    have h1 : l = [] := by simpa using h.1
    have h2 : l2 = [] := by simpa using h.2
    subst h1 h2
    rfl
  · cases h
open He in
def KQ (n : Nat) (g : Addr → Option Obj) : PySem.W.Frag := frG g ((asD g n ++ [cStatics]).filter fun a => match g a with
  | some o => !isTabO o
  | none => true)
def codesK (K : PySem.W.Frag) : List (Addr × Addr) := K.filterMap fun p => (tabOf1 p.2).map fun q => (p.1, q.1)
def codeHdB (K : PySem.W.Frag) (c P : Addr) : Bool := match K.lookup c with
  | some ⟨.type t, _, .fields vs, _⟩ => decide (t = "code") && (match (vs[11]? : Option Value) with
      | some (.ref Q) => decide (Q = P)
      | _ => false) && (match vs.getD 11 .none with
      | .ref Q => decide (Q = P)
      | _ => false) && (match vs.getD 18 .none with
      | .str _ _ => true
      | _ => false) && (match vs.getD 7 .none with
      | .int _ _ => true
      | _ => false) && (match vs.getD 9 .none with
      | .bool _ => true
      | _ => false) && (match vs.getD 10 .none with
      | .int _ _ => true
      | _ => false) && decide (c ≠ P)
  | _ => false
theorem codeHdB_ok {K : PySem.W.Frag} {c P : Addr} {h : Heap} (X : K.In h) (e : codeHdB K c P = true) : PySem.W.CodeHd h c P := by
  unfold codeHdB at e
  split at e
  · rename_i t dd vs sl hl
    simp only [Bool.and_eq_true, decide_eq_true_eq] at e
    obtain ⟨⟨⟨⟨⟨⟨⟨rfl, e1⟩, e2⟩, e3⟩, e4⟩, e5⟩, e6⟩, e7⟩ := e
    split at e1
    · rename_i Q hQ
      have e1 := of_decide_eq_true e1
      subst e1
      split at e2
      · rename_i Q2 hQ2
        have e2 := of_decide_eq_true e2
        subst e2
        split at e3
        · rename_i f3 t3 h3
          split at e4
          · rename_i i4 t4 h4
            split at e5
            · rename_i b5 h5
              split at e6
              · rename_i i6 t6 h6
                exact ⟨_, vs, f3, t3, i4, t4, b5, i6, t6, X _ _ hl, rfl, rfl, hQ, hQ2, h3, h4, h5, h6, e7⟩
              · cases e6
            · cases e5
          · cases e4
        · cases e3
      · cases e2
    · cases e1
  · cases e
def tabsB (g : Addr → Option Obj) (K : PySem.W.Frag) : Bool := (codesK K).all fun p => (match g p.2 with
  | some o => emptyTab o
  | none => false) && (K.lookup p.2).isNone && codeHdB K p.1 p.2
def lamB (K : PySem.W.Frag) (lam : List Str) : Bool := lam.isEmpty || (decide ((tabsK K).map (·.1)).Nodup && lam.all fun x => match K.lookup (He.ga K x) with
  | some ⟨_, _, .func fd, _⟩ => (match fd.code with
    | .ref c => (match K.lookup c with
      | some o => (match tabOf1 o with
        | some q => decide (q.2 = x ++ ".<locals>." ++ "<lambda>")
        | none => false)
      | none => false)
    | _ => false)
  | _ => false)
def excCB (K : PySem.W.Frag) (C : Addr) : Bool := decide (PySem.W.findIn K (.ref C) "__getattribute__" = some (some (.builtin "BaseException.__getattribute__")) ∧ PySem.W.findIn K (.ref C) "__getattr__" = some none ∧ PySem.W.subIn K (.ref C) (.type "BaseException") = some true ∧ PySem.W.hasDictIn K C = true ∧
  PySem.W.findIn K (.ref C) "__class__" = some (some (.builtin "object.__class__")) ∧ PySem.W.specialIn K (.builtin "object.__class__") "__get__" = some (some (.builtin "getset_descriptor.__get__")) ∧ PySem.W.takesIn K (.builtin "object.__class__") = some true ∧ PySem.W.mroIn K C (.type "object") = some true)
theorem excCB_ok {K : PySem.W.Frag} {C : Addr} (h : excCB K C = true) : ExcC K C := by
  have h := of_decide_eq_true h
  exact ⟨h.1, h.2.1, h.2.2.1, h.2.2.2.1, h.2.2.2.2.1, h.2.2.2.2.2.1, h.2.2.2.2.2.2.1, h.2.2.2.2.2.2.2⟩
def excRowB (file : Str) (K : PySem.W.Frag) (cs : List (Str × Option Str)) (y : Str × Option Str) : Bool :=
  He.eqO (PySem.W.nsIn K mainGlobals y.1) (some (some (.ref (He.ga K y.1)))) && (match y.2 with
    | none => exc0B K (He.ga K y.1)
    | some f => exc1B file K (He.ga K y.1) f) && excCB K (He.ga K y.1) && (cs.all fun z => decide (PySem.W.kitOne K (.ref (He.ga K y.1)) (.ref (He.ga K z.1)) = some (Nat.beq (nm y.1) (nm z.1)))) &&
  decide (PySem.W.kitOne K (.ref (He.ga K y.1)) (.type "ValueError") = some true) && decide (PySem.W.kitOne K (.ref (He.ga K y.1)) (.ref (He.ga K "SayError")) = some true) && decide (PySem.W.exmOne K (.ref (He.ga K y.1)) (.ref (He.ga K "SayError")) = some true) && (match y.2 with
    | none => true
    | some f => xfB K (He.ga K y.1) && decide (PySem.W.findIn K (.ref (He.ga K y.1)) f = some none))
theorem excRowB_ok {file : Str} {K : PySem.W.Frag} {prog : Program} {mg : Str → Option Value} {h : Heap} {cs : List (Str × Option Str)} {y : Str × Option Str} (X : K.In h) (G : h.Ns mainGlobals mg) (hfile : ((prog.main.file : Str) == file) = true) (htop : (prog.main.scope.names.lookup ("super" : Str)).isSome = false) (e : excRowB file K cs y = true) : ExcRow K prog mg cs y := by
  unfold excRowB at e
  simp only [Bool.and_eq_true, decide_eq_true_eq, List.all_eq_true] at e
  obtain ⟨⟨⟨⟨⟨⟨⟨e1, e2⟩, e3⟩, e4⟩, e5⟩, e6⟩, e7⟩, e8⟩ := e
  obtain ⟨n, o⟩ := y
  refine ⟨He.glo_ok X G (x := n) e1, ?_, excCB_ok e3, e4, e5, e6, e7, fun f hf => ?_⟩
  · cases o with
    | none => exact exc0B_ok e2
    | some f => exact exc1B_ok hfile htop e2
  · cases hf
    simp only [Bool.and_eq_true, decide_eq_true_eq] at e8
    exact ⟨xfB_ok e8.1, e8.2⟩
def excsB (file : Str) (K : PySem.W.Frag) (cs : List (Str × Option Str)) : Bool := (cs.isEmpty || He.eqO (PySem.W.nsIn K mainGlobals "SayError") (some (some (.ref (He.ga K "SayError"))))) && cs.all fun y => excRowB file K cs y
theorem excsB_ok {file : Str} {K : PySem.W.Frag} {prog : Program} {mg : Str → Option Value} {h : Heap} {cs : List (Str × Option Str)} (X : K.In h) (G : h.Ns mainGlobals mg) (hfile : ((prog.main.file : Str) == file) = true) (htop : (prog.main.scope.names.lookup ("super" : Str)).isSome = false) (e : excsB file K cs = true) : ExcsOk K prog mg cs := by
  unfold excsB at e
  rw [Bool.and_eq_true] at e
  refine ⟨fun hne => ?_, fun y hy => excRowB_ok X G hfile htop (List.all_eq_true.mp e.2 y hy)⟩
  rcases Bool.or_eq_true_iff.mp e.1 with z | z
  · cases cs with
    | nil => exact absurd rfl hne
    | cons _ _ => cases z
  · exact He.glo_ok X G (x := "SayError") z
structure HkP where
  excs : List (Str × Option Str) := []
  file : Str := ""
  lam : List Str := []
def moreB (p : HkP) (g : Addr → Option Obj) (K : PySem.W.Frag) : Bool := noLists K && tabsB g K && lamB K p.lam && excsB p.file K p.excs
open He in
def obsQ (p : HkP) (n : Nat) (fa : List Fa) (fn : List DefD) (g : Addr → Option Obj) : AlD × Bool := (obsD fa fn (KQ n g), moreB p g (KQ n g))
open He in
def hookQ (p : HkP) (n : Nat) (fa : List Fa) (fn : List DefD) : PySem.W.Hook where
  α := AlD × Bool
  obs := fun s => obsQ p n fa fn s.heap.get?
  val := fun _ => (valD fn, true)
  says := fun _ h => ∃ (K : PySem.W.Frag), K.In h ∧ SaysD fa fn K ∧ noLists K = true ∧ lamB K p.lam = true ∧ excsB p.file K p.excs = true ∧ ∀ q ∈ codesK K, h.get? q.2 = some { cls := .none, data := .fields #[] } ∧ K.lookup q.2 = none ∧ codeHdB K q.1 q.2 = true
  of := fun w s e => by
    have e2 : moreB p s.heap.get? (KQ n s.heap.get?) = true := congrArg Prod.snd e
    unfold moreB at e2
    simp only [Bool.and_eq_true] at e2
    obtain ⟨⟨⟨e3, e4⟩, e5⟩, e6⟩ := e2
    refine ⟨KQ n s.heap.get?, frG_in, congrArg Prod.fst e, e3, e5, e6, fun q hq => ?_⟩
    have h := List.all_eq_true.mp e4 q hq
    simp only [Bool.and_eq_true] at h
    obtain ⟨⟨h1, h2⟩, h3⟩ := h
    refine ⟨?_, by simpa using h2, h3⟩
    split at h1
    · rename_i o ho
      rw [ho, emptyTab_ok h1]
    · cases h1
  keeps := fun _ _ _ ⟨K, hK, c1, c2, c3, c4, c5⟩ k => ⟨K, PySem.W.Frag.In.keeps hK k, c1, c2, c3, c4, fun q hq => ⟨k _ _ (c5 q hq).1, (c5 q hq).2⟩⟩
open He in
theorem obsQ_eq {p : HkP} {n : Nat} {fa : List Fa} {fn : List DefD} {g : Addr → Option Obj} {s : Shared} (h : ∀ a, g a = s.heap.get? a) : obsQ p n fa fn g = (hookQ p n fa fn).obs s := by
  have e : g = s.heap.get? := funext h
  rw [e] <;> rfl
def faOf (ss : List Stmt) (P0 : PD) : List He.Fa := (ss.map fun s => .glo (nameOf s)) ++ (P0.free.map .free) ++ P0.consts.map fun p => match p.2 with
  | .int i => .int p.1 i
  | .str z => .str p.1 ⟨z.toArray⟩
  | _ => .free "?"
def constB : D → Bool
  | .int _ | .str _ => true
  | _ => false
theorem defs_at {ss tds : List Stmt} {P0 : PD} {K : PySem.W.Frag} {h : Heap} {mg : Str → Option Value} (X : K.In h) (G : h.Ns mainGlobals mg) (c : He.SaysD (faOf (ss ++ tds) P0) ((ss ++ tds).map defD) K) (hf : ∀ x ∈ P0.fns, ∃ s ∈ ss, nameOf s = x) (hc : P0.consts.all (fun p => constB p.2) = true) : DefsAt P0 ss tds K mg where
  fn := fun s hs => c.defs (d := defD s) (List.mem_map_of_mem (f := defD) hs)
  glo := fun s hs => He.glo_ok X G (c.facts (List.mem_append_left _ (List.mem_append_left _ (List.mem_map_of_mem (f := fun s => He.Fa.glo (nameOf s)) hs))))
  fns := hf
  sub := fun x hx => He.free_ok X G (c.facts (List.mem_append_left _ (List.mem_append_right _ (List.mem_map_of_mem (f := He.Fa.free) hx))))
  consts := fun p hp => by
    have h1 := List.all_eq_true.mp hc p hp
    have h2 := c.facts (List.mem_append_right (((ss ++ tds).map fun s => He.Fa.glo (nameOf s)) ++ (P0.free.map He.Fa.free)) (List.mem_map_of_mem (f := fun p : Str × D => match p.2 with
      | .int i => He.Fa.int p.1 i
      | .str z => .str p.1 ⟨z.toArray⟩
      | _ => .free "?") hp))
    obtain ⟨x, d⟩ := p
    cases d with
    | int i =>
      obtain ⟨t, e⟩ := He.int_ok X G h2
      exact .inl ⟨i, t, rfl, e⟩
    | str z =>
      obtain ⟨t, e⟩ := He.str_ok X G h2
      exact .inr ⟨_, t, by simp [strL], e⟩
    | _ => cases h1
theorem nodup_fst {α β : Type} {l : List (α × β)} {p q : α × β} (h : (l.map (·.1)).Nodup) (hp : p ∈ l) (hq : q ∈ l) (e : p.1 = q.1) : p = q := by
  induction l with
  | nil => cases hp
  | cons a r ih =>
    rw [List.map_cons, List.nodup_cons] at h
    rcases List.mem_cons.mp hp with h1 | h1
    · rcases List.mem_cons.mp hq with h2 | h2
      · rw [h1, h2]
      · exact absurd (by rw [← h1, e]; exact List.mem_map_of_mem (f := (·.1)) h2) h.1
    · rcases List.mem_cons.mp hq with h2 | h2
      · exact absurd (by rw [← h2, ← e]; exact List.mem_map_of_mem (f := (·.1)) h1) h.1
      · exact ih h.2 h1 h2
theorem frag_mem : ∀ {K : PySem.W.Frag} {c : Addr} {o : Obj}, K.lookup c = some o → (c, o) ∈ K
  | [], _, _, h => by cases h
  | (b, u) :: r, c, o, h => by
    rw [List.lookup_cons] at h
    split at h
    · rename_i e
      cases h
      rw [eq_of_beq e]
      exact List.mem_cons_self
    · exact List.mem_cons_of_mem _ (frag_mem h)
theorem defs_x {ss tds : List Stmt} {P0 : PD} {K : PySem.W.Frag} {h base : Heap} {prog : Program} {mg : Str → Option Value} {p : HkP} (X : K.In h) (G : h.Ns mainGlobals mg) (hhot : P0.hot = false) (hfns : ∀ s ∈ ss, nameOf s ∈ P0.fns) (hex : p.excs = P0.excs) (hlm : P0.tolds ≠ [] → ∀ s ∈ ss, (defScope s).names = P0.tnames → nameOf s ∈ p.lam)
    (hfile : P0.excs ≠ [] → ((prog.main.file : Str) == p.file) = true) (htop : (prog.main.scope.names.lookup ("super" : Str)).isSome = false) (hsay : P0.tolds ≠ [] → P0.excs ≠ []) (htd : ∀ x ∈ P0.tolds, ∃ t ∈ tds, nameOf t = x) (htb : ∀ t ∈ tds, ∃ h, toldShape t = some h ∧ toldB t h = true)
    (hl : lamB K p.lam = true) (he : excsB p.file K p.excs = true) (TB : ∀ q ∈ codesK K, LamX.TabB base mg q.1 q.2) : DefsX P0 ss tds K prog mg base where
  hot := hhot
  fns := fun _ => hfns
  excs := by
    by_cases hn : P0.excs = []
    · rw [hn]
      exact ⟨fun z => absurd rfl z, fun y hy => nomatch hy⟩
    · have := excsB_ok X G (hfile hn) htop he
      rw [hex] at this
      exact this
  say := hsay
  lam := fun hne s hs hnm fd F => by
    have hx := hlm hne s hs hnm
    unfold lamB at hl
    rcases Bool.or_eq_true_iff.mp hl with z | z
    · rw [List.isEmpty_iff.mp z] at hx; cases hx
    · rw [Bool.and_eq_true] at z
      have hnd := of_decide_eq_true z.1
      have hy := List.all_eq_true.mp z.2 _ hx
      obtain ⟨oc, od, dV, kV, doc, pm, an, cdv, ct, osl, rfl, lk, hcd, _, _⟩ := F.ex
      rw [lk] at hy
      simp only at hy
      split at hy
      · rename_i c
        split at hy
        · rename_i o ho
          split at hy
          · rename_i q hq
            have hy := of_decide_eq_true hy
            have hm : (c, o) ∈ K := frag_mem ho
            have hmt : q ∈ tabsK K := List.mem_filterMap.mpr ⟨(c, o), hm, hq⟩
            have hmc : (c, q.1) ∈ codesK K := List.mem_filterMap.mpr ⟨(c, o), hm, by show (tabOf1 o).map _ = _; rw [hq]; rfl⟩
            refine ⟨c, q.1, rfl, TB _ hmc, by rw [← hy]; exact hmt, fun r hr e => ?_⟩
            rw [← hy, nodup_fst hnd hr hmt e]
          · cases hy
        · cases hy
      · cases hy
  tells := htd
  td := htb
open PySem.W PySem.Calls PyProof.Rows in
theorem law_walk {l : PySem.W.OpenLaw} {q : Program} {loose : List Str} {XP : (Str → Option Value) → Heap → Prop} {d : DefRec} {ss tds : List Stmt} {P0 : PD} {p : HkP} {tks : Str → Bool} {muts : Str → Option Nat} {W n : Nat} {sl : Stmt}
    (hn : l.most = some 63) (hdf : d.params.defaults = []) (hr : Room (5 * n) callerA) (hsl : sl ∈ ss) (hname : d.name = nameOf sl) {x : Str} (hps : psOf sl = [x])
    (hf : ∀ x ∈ P0.fns, ∃ s ∈ ss, nameOf s = x) (hc : P0.consts.all (fun p => constB p.2) = true) (hb : ∀ s ∈ ss ++ tds, BindOk s) (hsc : ∀ s ∈ ss, fnScB (nsOf s) (psOf s) (defScope s) = true) (hnd : ((ss ++ tds).map fun s => nm (nameOf s)).Nodup)
    (hhot : P0.hot = false) (hfns : ∀ s ∈ ss, nameOf s ∈ P0.fns) (hex : p.excs = P0.excs) (hlm : P0.tolds ≠ [] → ∀ s ∈ ss, (defScope s).names = P0.tnames → nameOf s ∈ p.lam)
    (hfile : P0.excs ≠ [] → ((l.prog.main.file : Str) == p.file) = true) (htop : (l.prog.main.scope.names.lookup ("super" : Str)).isSome = false) (hsay : P0.tolds ≠ [] → P0.excs ≠ []) (htd : ∀ x ∈ P0.tolds, ∃ t ∈ tds, nameOf t = x) (htb : ∀ t ∈ tds, ∃ h, toldShape t = some h ∧ toldB t h = true)
    (hM : muts (nameOf sl) = none) (h : ∀ ns : List Int, ns.length ≤ 63 → call (tabAll P0 tks muts ss tds) W n (nm (nameOf sl)) [.lst .old (ns.map .int)] = .ok (.bl true, [])) :
    PySem.W.WalkO q loose XP (hookQ p 4 (faOf (ss ++ tds) P0) ((ss ++ tds).map defD)).says l.row.toRowW d [] (fun f vs => PySem.call f vs) := by
  refine Att.attach_call hn hdf fun w s₀ s₁ mg mb fa o pm cd doc a vs ns G Y ho hd hcd hmg hobj hints hlen hg => ?_
  obtain ⟨K, KX, c, hno, hlb, hxb, hct⟩ := Y
  have hA := defs_at (ss := ss) (tds := tds) KX G.T.g c hf hc
  obtain ⟨fd, F⟩ := hA.fn sl (List.mem_append_left _ hsl)
  have e : fa = He.ga K (nameOf sl) := by
    have h1 := hA.glo sl (List.mem_append_left _ hsl)
    rw [hname] at hmg
    rw [hmg] at h1
    cases h1; rfl
  subst e
  have hA' : ∀ base : Heap, K.In base → base.Ns mainGlobals mg → (∀ q ∈ codesK K, LamX.TabB base mg q.1 q.2) → FnOk l.prog w K mg base (L2.CX l.prog w) (5 * n) (He.ga K (nameOf sl)) fd (psOf sl) (SpOf (call (tabAll P0 tks muts ss tds) W n) (mutsOf (tabAll P0 tks muts ss tds)) K (fnAt ss K) (exE K P0.excs) (nm (nameOf sl)) (psOf sl).length) :=
    fun base _ _ TB => defs_ok hA (defs_x KX G.T.g hhot hfns hex hlm hfile htop hsay htd htb hlb hxb TB) hb hsc hnd n sl hsl fd F
  rw [hps] at hA'
  have hnd0 : (ss.map fun s => nm (nameOf s)).Nodup := by
    rw [List.map_append, List.nodup_append] at hnd
    exact hnd.1
  have hMu : mutsOf (tabAll P0 tks muts ss tds) (nm (nameOf sl)) = none := by
    unfold mutsOf
    rw [show lookF (tabAll P0 tks muts ss tds) (nm (nameOf sl)) = _ from lookF_app (lookF_tab hnd0 hsl)]
    exact hM
  refine LamX.law_callTs KX G.T.g G.T.b G.T.builtins G.T.nolimit hg (fun p hp => (hct p hp).1) (fun p hp => (hct p hp).2.1) (fun p hp => codeHdB_ok KX (hct p hp).2.2) G.T.bmain hobj hints (Nat.le_trans hlen (by decide)) hr hA' (fun s u => ?_) (fun H hH hS => ?_) fun H e s' => ?_
  · have := FunD.bindsA (ps := psOf sl) F (hb sl (List.mem_append_left _ hsl)) s [u] (by rw [hps]; rfl)
    rw [hps] at this
    exact this
  · refine law_sp hMu h H a ns (fun p hp => ?_) hlen ?_
    · obtain ⟨y, hy, e⟩ := List.mem_filterMap.mp hp
      exact LamX.TabS.nil (hH (y.1, p.1) (List.mem_filterMap.mpr ⟨y, hy, by show (tabOf1 y.2).map _ = _; rw [e]; rfl⟩))
    · rcases hS with hS | ⟨o, its, n, e, hcl, _⟩
      · exact hS
      · exact absurd hcl (noList_at hno e)
  · rintro ⟨_, _, _, _, _, _, _, _, _, _, _, _, z⟩
    exact z
end QE
namespace QE
abbrev i__law_pick : Nat := 6482616824352681321323
def f__law_pick : FD := ⟨2, 2, some 0, [IS.ret (IE.pr (Pr.ix) [IE.var 1, IE.call 1659549907034303464433006 [IE.var 0, IE.pr (Pr.len) [IE.var 1]]])]⟩
abbrev i__law_rule : Nat := 6482616824352715664485
def f__law_rule : FD := ⟨3, 4, some 0, [IS.ret (IE.pr (Pr.tuple) [IE.comp [3] (IE.pr (Pr.add) [IE.var 2, IE.call 1659549907034303464433006 [IE.var 0, IE.var 1]]) (Tg.var 3) (It.range1) [IE.pr (Pr.add) [IE.lit (D.int 1), IE.call 1659549907034303464433006 [IE.var 0, IE.lit (D.int 5)]]] []])]⟩
abbrev i__law_taken : Nat := 1659549907034303464433006
def f__law_taken : FD := ⟨2, 4, some 0, [IS.iff (IE.pr (Pr.gt) [IE.pr (Pr.ix) [IE.var 0, IE.lit (D.int 3)], IE.lit (D.int 0)]) [IS.asg (Tg.var 2) (IE.pr (Pr.mod) [IE.pr (Pr.int1) [IE.pr (Pr.ix) [IE.var 0, IE.lit (D.int 3)]], IE.var 1]), IS.setS 0 [] (IE.lit (D.int 3)) (IE.pr (Pr.fdiv) [IE.pr (Pr.ix) [IE.var 0, IE.lit (D.int 3)], IE.var 1]), IS.ret (IE.var 2)] [], IS.setS 0 [] (IE.lit (D.int 1)) (IE.pr (Pr.add) [IE.pr (Pr.ix) [IE.var 0, IE.lit (D.int 1)], IE.lit (D.int 1)]), IS.iff (IE.pr (Pr.gt) [IE.pr (Pr.ix) [IE.var 0, IE.lit (D.int 1)], IE.pr (Pr.len) [IE.pr (Pr.ix) [IE.var 0, IE.lit (D.int 0)]]]) [IS.setS 0 [] (IE.lit (D.int 2)) (IE.pr (Pr.mod) [IE.pr (Pr.int1) [IE.pr (Pr.add) [IE.pr (Pr.mul) [IE.pr (Pr.ix) [IE.var 0, IE.lit (D.int 2)], IE.lit (D.int 48271)], IE.lit (D.int 11)]], IE.lit (D.int 2147483647)]), IS.ret (IE.pr (Pr.mod) [IE.pr (Pr.int1) [IE.pr (Pr.fdiv) [IE.pr (Pr.ix) [IE.var 0, IE.lit (D.int 2)], IE.lit (D.int 7)]], IE.var 1])] [], IS.asg (Tg.var 3) (IE.pr (Pr.ix) [IE.pr (Pr.ix) [IE.var 0, IE.lit (D.int 0)], IE.pr (Pr.sub) [IE.pr (Pr.ix) [IE.var 0, IE.lit (D.int 1)], IE.lit (D.int 1)]]), IS.setS 0 [] (IE.lit (D.int 2)) (IE.pr (Pr.mod) [IE.pr (Pr.int1) [IE.pr (Pr.add) [IE.pr (Pr.add) [IE.pr (Pr.mul) [IE.pr (Pr.ix) [IE.var 0, IE.lit (D.int 2)], IE.lit (D.int 48271)], IE.var 3], IE.lit (D.int 11)]], IE.lit (D.int 2147483647)]), IS.iff (IE.pr (Pr.ge) [IE.var 3, IE.pr (Pr.pow) [IE.lit (D.int 10), IE.lit (D.int 18)]]) [IS.setS 0 [] (IE.lit (D.int 3)) (IE.pr (Pr.fdiv) [IE.var 3, IE.var 1])] [], IS.ret (IE.pr (Pr.mod) [IE.pr (Pr.int1) [IE.var 3], IE.var 1])]⟩
abbrev i__law_told : Nat := 6482616824352748825700
def f__law_told : FD := ⟨1, 5, none, [IS.asg (Tg.var 1) (IE.lit (D.str [])), IS.fail, IS.ret (IE.var 1)]⟩
abbrev i__law_word : Nat := 6482616824352799158884
def f__law_word : FD := ⟨3, 6, some 0, [IS.asg (Tg.tup [Tg.var 3, Tg.var 4]) (IE.tup [IE.lit (D.str []), IE.lit (D.str [97])]), IS.for_ (Tg.var 5) (It.range1) [IE.call 1659549907034303464433006 [IE.var 0, IE.pr (Pr.add) [IE.var 1, IE.lit (D.int 1)]]] [IS.iff (IE.pr (Pr.gt) [IE.call 1659549907034303464433006 [IE.var 0, IE.lit (D.int 3)], IE.lit (D.int 0)]) [IS.asg (Tg.var 4) (IE.pr (Pr.ix) [IE.lit (D.str [97, 98, 99, 100]), IE.call 1659549907034303464433006 [IE.var 0, IE.var 2]])] [], IS.asg (Tg.var 3) (IE.pr (Pr.add) [IE.var 3, IE.var 4])], IS.ret (IE.var 3)]⟩
abbrev i_core : Nat := 5963215461
def f_core : FD := ⟨1, 1, none, [IS.expr (IE.call 6758814687309362852452 [IE.var 0]), IS.ret (IE.call 100046153849991014 [IE.var 0])]⟩
abbrev i_core_of : Nat := 100046153849991014
def f_core_of : FD := ⟨1, 4, none, [IS.asg (Tg.var 1) (IE.call 26328450702407331686 [IE.var 0]), IS.ret (IE.call 105675653367426918 [IE.comp [2, 3] (IE.tup [IE.var 2, IE.meth (Pr.index) (IE.var 1) [IE.var 3]]) (Tg.tup [Tg.var 2, Tg.var 3]) (It.list) [IE.call 104274858625429350 [IE.var 0]] []])]⟩
abbrev i_counts : Nat := 390805339403379
def f_counts : FD := ⟨1, 1, none, [IS.expr (IE.call 6758814687309362852452 [IE.var 0]), IS.ret (IE.pr (Pr.tuple) [IE.call 6556625593123806867302 [IE.var 0]])]⟩
abbrev i_counts_of : Nat := 6556625593123806867302
def f_counts_of : FD := ⟨1, 2, none, [IS.ret (IE.comp [1] (IE.meth (Pr.count) (IE.var 0) [IE.var 1]) (Tg.var 1) (It.list) [IE.lit (D.str [97, 98, 99, 100])] [])]⟩
abbrev i_from_gaps : Nat := 6612180308087281905779
def f_from_gaps : FD := ⟨2, 2, none, [IS.expr (IE.call 6758814687309027308133 [IE.var 0]), IS.expr (IE.call 6758814687309093498995 [IE.var 0, IE.var 1]), IS.iff (IE.pr (Pr.gt) [IE.call 6721923735825210634086 [IE.var 0, IE.var 1], IE.lit (D.int 20000)]) [IS.fail] [], IS.ret (IE.call 1543813166958 [IE.var 0, IE.var 1])]⟩
abbrev i_gaps : Nat := 6029406323
def f_gaps : FD := ⟨1, 1, none, [IS.expr (IE.call 6758814687309362852452 [IE.var 0]), IS.ret (IE.pr (Pr.tuple) [IE.call 101156652238991206 [IE.var 0]])]⟩
abbrev i_gaps_of : Nat := 101156652238991206
def f_gaps_of : FD := ⟨1, 3, none, [IS.asg (Tg.var 1) (IE.call 26328450702407331686 [IE.var 0]), IS.ret (IE.comp [2] (IE.pr (Pr.sub) [IE.pr (Pr.ix) [IE.var 1, IE.var 2], IE.pr (Pr.ix) [IE.var 1, IE.pr (Pr.sub) [IE.var 2, IE.lit (D.int 1)]]]) (Tg.var 2) (It.range2) [IE.lit (D.int 1), IE.pr (Pr.len) [IE.var 1]] [])]⟩
abbrev i_grown : Nat := 1543813166958
def f_grown : FD := ⟨2, 5, none, [IS.asg (Tg.var 2) (IE.call 104556329307172710 [IE.var 1]), IS.ret (IE.call 105675653367426918 [IE.comp [3, 4] (IE.tup [IE.var 3, IE.pr (Pr.ix) [IE.var 2, IE.var 4]]) (Tg.tup [Tg.var 3, Tg.var 4]) (It.list) [IE.call 104274858625429350 [IE.var 0]] []])]⟩
abbrev i_is_core : Nat := 101739320119882341
def f_is_core : FD := ⟨1, 1, none, [IS.expr (IE.call 6758814687309362852452 [IE.var 0]), IS.ret (IE.pr (Pr.eq) [IE.call 100046153849991014 [IE.var 0], IE.var 0])]⟩
abbrev i_is_from : Nat := 101739320170409837
def f_is_from : FD := ⟨3, 3, none, [IS.ret (IE.and (IE.call 397419219611252 [IE.var 0]) (IE.chain (Pr.le) (Pr.le) (IE.var 1) (IE.var 0) (IE.var 2)))]⟩
abbrev i_is_int : Nat := 397419219611252
def f_is_int : FD := ⟨1, 1, none, [IS.ret (IE.and (IE.isi [Cl.int] (IE.var 0)) (IE.not (IE.isi [Cl.bool] (IE.var 0))))]⟩
abbrev i_length_of : Nat := 6721923735825210634086
def f_length_of : FD := ⟨2, 4, none, [IS.asg (Tg.var 2) (IE.call 104556329307172710 [IE.var 1]), IS.ret (IE.pr (Pr.sumL) [IE.comp [3] (IE.pr (Pr.ix) [IE.var 2, IE.meth (Pr.count) (IE.var 0) [IE.var 3]]) (Tg.var 3) (It.list) [IE.lit (D.str [97, 98, 99, 100])] []])]⟩
abbrev i_length_said : Nat := 440527993951041004182268260
def f_length_said : FD := ⟨2, 2, none, [IS.expr (IE.call 6758814687309279358053 [IE.var 0]), IS.expr (IE.call 6758814687309362852452 [IE.var 1]), IS.ret (IE.call 448971492766612228384715880 [IE.var 0, IE.var 1])]⟩
abbrev i_level_of : Nat := 26257523380435513190
def f_level_of : FD := ⟨2, 5, none, [IS.expr (IE.call 6758814687309362852452 [IE.var 0]), IS.iff (IE.or (IE.not (IE.call 397419219611252 [IE.var 1])) (IE.pr (Pr.lt) [IE.var 1, IE.lit (D.int 0)])) [IS.fail] [], IS.iff (IE.pr (Pr.ge) [IE.var 1, IE.pr (Pr.len) [IE.var 0]]) [IS.ret (IE.lit (D.non))] [], IS.par [Tg.var 2, Tg.var 3] [IE.meth (Pr.count) (IE.pr (Pr.sl false true) [IE.var 0, IE.pr (Pr.add) [IE.var 1, IE.lit (D.int 1)]]) [IE.pr (Pr.ix) [IE.var 0, IE.var 1]], IE.call 26328450702407331686 [IE.var 0]], IS.ret (IE.pr (Pr.len) [IE.comp [4] (IE.var 4) (Tg.var 4) (It.list) [IE.var 3] [IE.pr (Pr.lt) [IE.var 4, IE.var 2]]])]⟩
abbrev i_level_words : Nat := 440528141378616813377709171
def f_level_words : FD := ⟨1, 5, none, [IS.expr (IE.call 6758814687309362852452 [IE.var 0]), IS.asg (Tg.var 1) (IE.pr (Pr.mul) [IE.lst [IE.lit (D.str [])], IE.pr (Pr.len) [IE.call 101156652238991206 [IE.var 0]]]), IS.for_ (Tg.tup [Tg.var 2, Tg.var 3]) (It.enum) [IE.var 0] [IS.asg (Tg.var 4) (IE.call 26257523380435513190 [IE.var 0, IE.var 2]), IS.setS 1 [] (IE.pr (Pr.sub) [IE.var 4, IE.lit (D.int 1)]) (IE.pr (Pr.add) [IE.pr (Pr.ix) [IE.var 1, IE.pr (Pr.sub) [IE.var 4, IE.lit (D.int 1)]], IE.var 3])], IS.ret (IE.pr (Pr.tuple) [IE.var 1])]⟩
abbrev i_levels_of : Nat := 6721925985391825874790
def f_levels_of : FD := ⟨1, 2, none, [IS.ret (IE.pr (Pr.maxL) [IE.pr (Pr.add) [IE.lst [IE.lit (D.int 0)], IE.comp [1] (IE.meth (Pr.count) (IE.var 0) [IE.var 1]) (Tg.var 1) (It.list) [IE.lit (D.str [97, 98, 99, 100])] []]])]⟩
abbrev i_marks : Nat := 1569297951603
def f_marks : FD := ⟨1, 1, none, [IS.expr (IE.call 6758814687309362852452 [IE.var 0]), IS.ret (IE.pr (Pr.tuple) [IE.call 26328450702407331686 [IE.var 0]])]⟩
abbrev i_marks_of : Nat := 26328450702407331686
def f_marks_of : FD := ⟨1, 3, none, [IS.ret (IE.pr (Pr.sortedSet) [IE.pr (Pr.add) [IE.lst [IE.lit (D.int 0)], IE.comp [1, 2] (IE.var 2) (Tg.tup [Tg.var 1, Tg.var 2]) (It.list) [IE.call 104274858625429350 [IE.var 0]] []]])]⟩
abbrev i_need_core : Nat := 6758814687309027308133
def f_need_core : FD := ⟨1, 1, none, [IS.expr (IE.call 6758814687309362852452 [IE.var 0]), IS.iff (IE.pr (Pr.ne) [IE.call 100046153849991014 [IE.var 0], IE.var 0]) [IS.fail] []]⟩
abbrev i_need_from : Nat := 6758814687309077835629
def f_need_from : FD := ⟨3, 3, none, [IS.iff (IE.not (IE.call 101739320170409837 [IE.var 0, IE.var 1, IE.var 2])) [IS.fail] []]⟩
abbrev i_need_gaps : Nat := 6758814687309093498995
def f_need_gaps : FD := ⟨2, 3, none, [IS.iff (IE.or (IE.not (IE.isi [Cl.tuple] (IE.var 1))) (IE.pr (Pr.ne) [IE.pr (Pr.len) [IE.var 1], IE.call 6721925985391825874790 [IE.var 0]])) [IS.fail] [], IS.iff (IE.not (IE.pr (Pr.allL) [IE.comp [2] (IE.and (IE.call 397419219611252 [IE.var 2]) (IE.pr (Pr.ge) [IE.var 2, IE.lit (D.int 1)])) (Tg.var 2) (It.list) [IE.var 1] []])) [IS.fail] []]⟩
abbrev i_need_rule : Nat := 6758814687309279358053
def f_need_rule : FD := ⟨1, 3, none, [IS.iff (IE.or (IE.not (IE.isi [Cl.tuple] (IE.var 0))) (IE.not (IE.chain (Pr.le) (Pr.le) (IE.lit (D.int 1)) (IE.pr (Pr.len) [IE.var 0]) (IE.lit (D.int 30))))) [IS.fail] [], IS.for_ (Tg.tup [Tg.var 1, Tg.var 2]) (It.enum) [IE.var 0] [IS.iff (IE.not (IE.call 101739320170409837 [IE.var 2, IE.lit (D.int 0), IE.lit (D.int 1000000)])) [IS.fail] []]]⟩
abbrev i_need_word : Nat := 6758814687309362852452
def f_need_word : FD := ⟨1, 3, none, [IS.iff (IE.or (IE.not (IE.isi [Cl.str] (IE.var 0))) (IE.pr (Pr.gt) [IE.pr (Pr.len) [IE.var 0], IE.lit (D.int 2000)])) [IS.fail] [], IS.for_ (Tg.tup [Tg.var 1, Tg.var 2]) (It.enum) [IE.var 0] [IS.iff (IE.pr (Pr.notIn) [IE.var 2, IE.lit (D.str [97, 98, 99, 100])]) [IS.fail] []]]⟩
abbrev i_rule_sum : Nat := 26694361548957381997
def f_rule_sum : FD := ⟨2, 2, none, [IS.expr (IE.call 6758814687309279358053 [IE.var 0]), IS.expr (IE.call 6758814687309077835629 [IE.var 1, IE.lit (D.int 0), IE.pr (Pr.pow) [IE.lit (D.int 10), IE.lit (D.int 60)]]), IS.ret (IE.call 408423160049510 [IE.var 0, IE.var 1])]⟩
abbrev i_runs : Nat := 6215265907
def f_runs : FD := ⟨1, 3, none, [IS.expr (IE.call 6758814687309362852452 [IE.var 0]), IS.asg (Tg.var 1) (IE.lst []), IS.for_ (Tg.var 2) (It.list) [IE.var 0] [IS.iff (IE.and (IE.pr (Pr.ne) [IE.var 1, IE.lst []]) (IE.pr (Pr.eq) [IE.pr (Pr.ix) [IE.pr (Pr.ix) [IE.var 1, IE.pr (Pr.neg) [IE.lit (D.int 1)]], IE.lit (D.int 0)], IE.var 2])) [IS.setS 1 [] (IE.pr (Pr.neg) [IE.lit (D.int 1)]) (IE.tup [IE.var 2, IE.pr (Pr.add) [IE.pr (Pr.ix) [IE.pr (Pr.ix) [IE.var 1, IE.pr (Pr.neg) [IE.lit (D.int 1)]], IE.lit (D.int 1)], IE.lit (D.int 1)]])] [IS.app 1 [] (IE.tup [IE.var 2, IE.lit (D.int 1)])]], IS.ret (IE.pr (Pr.tuple) [IE.var 1])]⟩
abbrev i_runs_of : Nat := 104274858625429350
def f_runs_of : FD := ⟨1, 4, none, [IS.par [Tg.var 1, Tg.var 2] [IE.dic false [], IE.lst []], IS.for_ (Tg.var 3) (It.list) [IE.var 0] [IS.setS 1 [] (IE.var 3) (IE.pr (Pr.add) [IE.meth (Pr.get2) (IE.var 1) [IE.var 3, IE.lit (D.int 0)], IE.lit (D.int 1)]), IS.iff (IE.and (IE.pr (Pr.ne) [IE.var 2, IE.lst []]) (IE.pr (Pr.eq) [IE.pr (Pr.ix) [IE.pr (Pr.ix) [IE.var 2, IE.pr (Pr.neg) [IE.lit (D.int 1)]], IE.lit (D.int 0)], IE.var 3])) [IS.setS 2 [] (IE.pr (Pr.neg) [IE.lit (D.int 1)]) (IE.tup [IE.var 3, IE.pr (Pr.ix) [IE.var 1, IE.var 3]])] [IS.app 2 [] (IE.tup [IE.var 3, IE.pr (Pr.ix) [IE.var 1, IE.var 3]])]], IS.ret (IE.var 2)]⟩
abbrev i_said : Nat := 6230731108
def f_said : FD := ⟨2, 2, none, [IS.expr (IE.call 6758814687309279358053 [IE.var 0]), IS.expr (IE.call 6758814687309362852452 [IE.var 1]), IS.iff (IE.pr (Pr.gt) [IE.call 448971492766612228384715880 [IE.var 0, IE.var 1], IE.lit (D.int 20000)]) [IS.fail] [], IS.ret (IE.call 104534321643089766 [IE.var 0, IE.var 1])]⟩
abbrev i_said_length : Nat := 448971492766612228384715880
def f_said_length : FD := ⟨2, 3, none, [IS.ret (IE.pr (Pr.sumL) [IE.comp [2] (IE.call 408423160049510 [IE.var 0, IE.var 2]) (Tg.var 2) (It.list) [IE.call 6556625593123806867302 [IE.var 1]] []])]⟩
abbrev i_said_of : Nat := 104534321643089766
def f_said_of : FD := ⟨2, 5, none, [IS.par [Tg.var 2, Tg.var 3] [IE.dic false [], IE.lst []], IS.for_ (Tg.var 4) (It.list) [IE.var 1] [IS.setS 2 [] (IE.var 4) (IE.pr (Pr.add) [IE.meth (Pr.get2) (IE.var 2) [IE.var 4, IE.lit (D.int 0)], IE.lit (D.int 1)]), IS.app 3 [] (IE.pr (Pr.mul) [IE.var 4, IE.call 26835100137158569830 [IE.var 0, IE.pr (Pr.ix) [IE.var 2, IE.var 4]]])], IS.ret (IE.meth (Pr.join) (IE.lit (D.str [])) [IE.var 3])]⟩
abbrev i_sum_of : Nat := 408423160049510
def f_sum_of : FD := ⟨2, 2, none, [IS.iff (IE.pr (Pr.le) [IE.var 1, IE.pr (Pr.len) [IE.var 0]]) [IS.ret (IE.pr (Pr.sumL) [IE.pr (Pr.sl false true) [IE.var 0, IE.var 1]])] [], IS.ret (IE.pr (Pr.add) [IE.pr (Pr.sumL) [IE.var 0], IE.pr (Pr.mul) [IE.pr (Pr.sub) [IE.var 1, IE.pr (Pr.len) [IE.var 0]], IE.pr (Pr.ix) [IE.var 0, IE.pr (Pr.neg) [IE.lit (D.int 1)]]]])]⟩
abbrev i_sums_of : Nat := 104556329307172710
def f_sums_of : FD := ⟨1, 3, none, [IS.asg (Tg.var 1) (IE.lst [IE.lit (D.int 0)]), IS.for_ (Tg.var 2) (It.list) [IE.var 0] [IS.app 1 [] (IE.pr (Pr.add) [IE.pr (Pr.ix) [IE.var 1, IE.pr (Pr.neg) [IE.lit (D.int 1)]], IE.var 2])], IS.ret (IE.var 1)]⟩
abbrev i_times : Nat := 1599496611187
def f_times : FD := ⟨2, 2, none, [IS.expr (IE.call 6758814687309279358053 [IE.var 0]), IS.expr (IE.call 6758814687309077835629 [IE.var 1, IE.lit (D.int 1), IE.pr (Pr.pow) [IE.lit (D.int 10), IE.lit (D.int 60)]]), IS.ret (IE.call 26835100137158569830 [IE.var 0, IE.var 1])]⟩
abbrev i_times_of : Nat := 26835100137158569830
def f_times_of : FD := ⟨2, 2, none, [IS.ret (IE.pr (Pr.ix) [IE.var 0, IE.pr (Pr.sub) [IE.pr (Pr.min2) [IE.var 1, IE.pr (Pr.len) [IE.var 0]], IE.lit (D.int 1)]])]⟩
abbrev i_walk : Nat := 6297840747
def f_walk : FD := ⟨1, 4, none, [IS.expr (IE.call 6758814687309362852452 [IE.var 0]), IS.par [Tg.var 1, Tg.var 2] [IE.pr (Pr.mul) [IE.lst [IE.lit (D.int 0)], IE.pr (Pr.len) [IE.lit (D.str [97, 98, 99, 100])]], IE.lst [IE.pr (Pr.mul) [IE.tup [IE.lit (D.int 0)], IE.pr (Pr.len) [IE.lit (D.str [97, 98, 99, 100])]]]], IS.for_ (Tg.var 3) (It.list) [IE.var 0] [IS.augS 1 [] (IE.meth (Pr.index) (IE.lit (D.str [97, 98, 99, 100])) [IE.var 3]) (Pr.add) (IE.lit (D.int 1)), IS.app 2 [] (IE.pr (Pr.tuple) [IE.var 1])], IS.ret (IE.pr (Pr.tuple) [IE.var 2])]⟩
abbrev i_widest : Nat := 412769516352372
def f_widest : FD := ⟨1, 2, none, [IS.expr (IE.call 6758814687309362852452 [IE.var 0]), IS.asg (Tg.var 1) (IE.call 101156652238991206 [IE.var 0]), IS.iff (IE.pr (Pr.eq) [IE.var 1, IE.lst []]) [IS.ret (IE.lit (D.non))] [], IS.ret (IE.tup [IE.pr (Pr.add) [IE.meth (Pr.index) (IE.var 1) [IE.pr (Pr.maxL) [IE.var 1]], IE.lit (D.int 1)], IE.pr (Pr.maxL) [IE.var 1]])]⟩
abbrev i_word_of : Nat := 105675653367426918
def f_word_of : FD := ⟨1, 5, none, [IS.par [Tg.var 1, Tg.var 2] [IE.dic false [], IE.lst []], IS.for_ (Tg.tup [Tg.var 3, Tg.var 4]) (It.list) [IE.var 0] [IS.app 2 [] (IE.pr (Pr.mul) [IE.var 3, IE.pr (Pr.sub) [IE.var 4, IE.meth (Pr.get2) (IE.var 1) [IE.var 3, IE.lit (D.int 0)]]]), IS.setS 1 [] (IE.var 3) (IE.var 4)], IS.ret (IE.meth (Pr.join) (IE.lit (D.str [])) [IE.var 2])]⟩
end QE
namespace K04
open PySem QE L2
abbrev top (i : Nat) : Stmt := PySem.Challenge.pw_saidcounts_k04_known_words.main.body.getD i (.Pass ⟨0, 0, 0, 0⟩)
def ss : List Stmt := [top 14, top 15, top 16, top 17, top 18, top 19, top 20, top 21, top 22, top 23, top 24, top 25, top 26, top 27, top 28, top 29, top 32, top 33, top 34, top 35, top 36, top 37, top 38, top 39, top 40, top 41, top 42, top 43, top 44, top 45, top 46, top 47, top 48, top 49, top 50, top 51, top 53, top 54, top 56]
def tds : List Stmt := [top 55]
def P0 : PD := { fns := [("is_int" : PySem.Str), ("is_from" : PySem.Str), ("need_from" : PySem.Str), ("need_word" : PySem.Str), ("need_rule" : PySem.Str), ("times_of" : PySem.Str), ("sum_of" : PySem.Str), ("counts_of" : PySem.Str), ("said_length" : PySem.Str), ("said_of" : PySem.Str), ("said" : PySem.Str), ("length_said" : PySem.Str), ("rule_sum" : PySem.Str), ("times" : PySem.Str), ("counts" : PySem.Str), ("walk" : PySem.Str), ("runs_of" : PySem.Str), ("marks_of" : PySem.Str), ("word_of" : PySem.Str), ("core_of" : PySem.Str), ("gaps_of" : PySem.Str), ("marks" : PySem.Str), ("core" : PySem.Str), ("gaps" : PySem.Str), ("is_core" : PySem.Str), ("need_core" : PySem.Str), ("levels_of" : PySem.Str), ("need_gaps" : PySem.Str), ("sums_of" : PySem.Str), ("length_of" : PySem.Str), ("grown" : PySem.Str), ("from_gaps" : PySem.Str), ("level_of" : PySem.Str), ("widest" : PySem.Str), ("level_words" : PySem.Str), ("runs" : PySem.Str), ("_law_taken" : PySem.Str), ("_law_pick" : PySem.Str), ("law" : PySem.Str)], consts := [("LETTERS", .str [97, 98, 99, 100]), ("MOST_WORD", .int 2000), ("MOST_SAID", .int 20000), ("MOST_RULE", .int 30), ("MOST_TIMES", .int 1000000), ("MOST_MADE", .int 20000)], free := [("range" : PySem.Str), ("len" : PySem.Str), ("enumerate" : PySem.Str), ("zip" : PySem.Str), ("isinstance" : PySem.Str), ("abs" : PySem.Str), ("min" : PySem.Str), ("max" : PySem.Str), ("sum" : PySem.Str), ("any" : PySem.Str), ("all" : PySem.Str), ("tuple" : PySem.Str), ("list" : PySem.Str), ("int" : PySem.Str), ("str" : PySem.Str), ("bool" : PySem.Str), ("dict" : PySem.Str), ("sorted" : PySem.Str), ("set" : PySem.Str), ("ValueError" : PySem.Str), ("super" : PySem.Str)], excs := [("BadWord", some "place"), ("BadRule", some "index"), ("BadCore", none), ("BadGaps", none), ("BadNumber", none), ("TooLong", some "most")], tolds := [("_law_told" : PySem.Str)], tnames := (L2.defScope (top 56)).names }
def hp : HkP := ⟨P0.excs, "/claim/cut.py", ["law"]⟩
def tks (x : Str) : Bool := false
def muts (x : Str) : Option Nat := if x == ("_law_taken" : Str) then some 0 else if x == ("_law_pick" : Str) then some 0 else none
def f_need_from : FD := ⟨3, 3, none, [QE.IS.iff (QE.IE.not (QE.IE.call 101739320170409837 [QE.IE.var 0, QE.IE.var 1, QE.IE.var 2])) [QE.IS.raise 5946869412120079000946 []] []]⟩
def f_need_word : FD := ⟨1, 3, none, [QE.IS.iff (QE.IE.or (QE.IE.not (QE.IE.isi [QE.Cl.str] (QE.IE.var 0))) (QE.IE.pr (QE.Pr.gt) [QE.IE.pr (QE.Pr.len) [QE.IE.var 0], QE.IE.lit (QE.D.int 2000)])) [QE.IS.raise 90742026092376676 [QE.IE.lit (QE.D.non)]] [], QE.IS.for_ (QE.Tg.tup [QE.Tg.var 1, QE.Tg.var 2]) (QE.It.enum) [QE.IE.var 0] [QE.IS.iff (QE.IE.pr (QE.Pr.notIn) [QE.IE.var 2, QE.IE.lit (QE.D.str [97, 98, 99, 100])]) [QE.IS.raise 90742026092376676 [QE.IE.var 1]] []]]⟩
def f_need_rule : FD := ⟨1, 3, none, [QE.IS.iff (QE.IE.or (QE.IE.not (QE.IE.isi [QE.Cl.tuple] (QE.IE.var 0))) (QE.IE.not (QE.IE.chain (QE.Pr.le) (QE.Pr.le) (QE.IE.lit (QE.D.int 1)) (QE.IE.pr (QE.Pr.len) [QE.IE.var 0]) (QE.IE.lit (QE.D.int 30))))) [QE.IS.raise 90742026008882277 [QE.IE.lit (QE.D.non)]] [], QE.IS.for_ (QE.Tg.tup [QE.Tg.var 1, QE.Tg.var 2]) (QE.It.enum) [QE.IE.var 0] [QE.IS.iff (QE.IE.not (QE.IE.call 101739320170409837 [QE.IE.var 2, QE.IE.lit (QE.D.int 0), QE.IE.lit (QE.D.int 1000000)])) [QE.IS.raise 90742026008882277 [QE.IE.var 1]] []]]⟩
def f_said : FD := ⟨2, 2, none, [QE.IS.expr (QE.IE.call 6758814687309279358053 [QE.IE.var 0]), QE.IS.expr (QE.IE.call 6758814687309362852452 [QE.IE.var 1]), QE.IS.iff (QE.IE.pr (QE.Pr.gt) [QE.IE.call 448971492766612228384715880 [QE.IE.var 0, QE.IE.var 1], QE.IE.lit (QE.D.int 20000)]) [QE.IS.raise 95824015896047207 [QE.IE.lit (QE.D.int 20000)]] [], QE.IS.ret (QE.IE.call 104534321643089766 [QE.IE.var 0, QE.IE.var 1])]⟩
def f_need_core : FD := ⟨1, 1, none, [QE.IS.expr (QE.IE.call 6758814687309362852452 [QE.IE.var 0]), QE.IS.iff (QE.IE.pr (QE.Pr.ne) [QE.IE.call 100046153849991014 [QE.IE.var 0], QE.IE.var 0]) [QE.IS.raise 90742025756832357 []] []]⟩
def f_need_gaps : FD := ⟨2, 3, none, [QE.IS.iff (QE.IE.or (QE.IE.not (QE.IE.isi [QE.Cl.tuple] (QE.IE.var 1))) (QE.IE.pr (QE.Pr.ne) [QE.IE.pr (QE.Pr.len) [QE.IE.var 1], QE.IE.call 6721925985391825874790 [QE.IE.var 0]])) [QE.IS.raise 90742025823023219 []] [], QE.IS.iff (QE.IE.not (QE.IE.pr (QE.Pr.allL) [QE.IE.comp [2] (QE.IE.and (QE.IE.call 397419219611252 [QE.IE.var 2]) (QE.IE.pr (QE.Pr.ge) [QE.IE.var 2, QE.IE.lit (QE.D.int 1)])) (QE.Tg.var 2) (QE.It.list) [QE.IE.var 1] []])) [QE.IS.raise 90742025823023219 []] []]⟩
def f_from_gaps : FD := ⟨2, 2, none, [QE.IS.expr (QE.IE.call 6758814687309027308133 [QE.IE.var 0]), QE.IS.expr (QE.IE.call 6758814687309093498995 [QE.IE.var 0, QE.IE.var 1]), QE.IS.iff (QE.IE.pr (QE.Pr.gt) [QE.IE.call 6721923735825210634086 [QE.IE.var 0, QE.IE.var 1], QE.IE.lit (QE.D.int 20000)]) [QE.IS.raise 95824015896047207 [QE.IE.lit (QE.D.int 20000)]] [], QE.IS.ret (QE.IE.call 1543813166958 [QE.IE.var 0, QE.IE.var 1])]⟩
def f_level_of : FD := ⟨2, 5, none, [QE.IS.expr (QE.IE.call 6758814687309362852452 [QE.IE.var 0]), QE.IS.iff (QE.IE.or (QE.IE.not (QE.IE.call 397419219611252 [QE.IE.var 1])) (QE.IE.pr (QE.Pr.lt) [QE.IE.var 1, QE.IE.lit (QE.D.int 0)])) [QE.IS.raise 5946869412120079000946 []] [], QE.IS.iff (QE.IE.pr (QE.Pr.ge) [QE.IE.var 1, QE.IE.pr (QE.Pr.len) [QE.IE.var 0]]) [QE.IS.ret (QE.IE.lit (QE.D.non))] [], QE.IS.par [QE.Tg.var 2, QE.Tg.var 3] [QE.IE.meth (QE.Pr.count) (QE.IE.pr (QE.Pr.sl false true) [QE.IE.var 0, QE.IE.pr (QE.Pr.add) [QE.IE.var 1, QE.IE.lit (QE.D.int 1)]]) [QE.IE.pr (QE.Pr.ix) [QE.IE.var 0, QE.IE.var 1]], QE.IE.call 26328450702407331686 [QE.IE.var 0]], QE.IS.ret (QE.IE.pr (QE.Pr.len) [QE.IE.comp [4] (QE.IE.var 4) (QE.Tg.var 4) (QE.It.list) [QE.IE.var 3] [QE.IE.pr (QE.Pr.lt) [QE.IE.var 4, QE.IE.var 2]]])]⟩
def f_law : FD := ⟨1, 12, none, [QE.IS.asg (QE.Tg.var 1) (QE.IE.lst [QE.IE.var 0, QE.IE.lit (QE.D.int 0), QE.IE.lit (QE.D.int 4604), QE.IE.lit (QE.D.int 0)]), QE.IS.asg (QE.Tg.var 2) (QE.IE.pr (QE.Pr.add) [QE.IE.lit (QE.D.int 1), QE.IE.call 1659549907034303464433006 [QE.IE.var 1, QE.IE.lit (QE.D.int 90)]]), QE.IS.iff (QE.IE.or (QE.IE.pr (QE.Pr.ne) [QE.IE.call 6230731108 [QE.IE.tup [QE.IE.lit (QE.D.int 1), QE.IE.lit (QE.D.int 2), QE.IE.lit (QE.D.int 3)], QE.IE.lit (QE.D.str [97, 98, 97, 97, 98])], QE.IE.lit (QE.D.str [97, 98, 97, 97, 97, 97, 97, 98, 98])]) (QE.IE.or (QE.IE.pr (QE.Pr.ne) [QE.IE.call 6230731108 [QE.IE.tup [QE.IE.lit (QE.D.int 0), QE.IE.lit (QE.D.int 1)], QE.IE.lit (QE.D.str [97, 98, 97, 98])], QE.IE.lit (QE.D.str [97, 98])]) (QE.IE.pr (QE.Pr.ne) [QE.IE.call 6230731108 [QE.IE.tup [QE.IE.lit (QE.D.int 2)], QE.IE.lit (QE.D.str [])], QE.IE.lit (QE.D.str [])]))) [QE.IS.ret (QE.IE.lit (QE.D.bl false))] [], QE.IS.iff (QE.IE.or (QE.IE.pr (QE.Pr.ne) [QE.IE.call 1569297951603 [QE.IE.lit (QE.D.str [97, 97, 98, 98, 97])], QE.IE.tup [QE.IE.lit (QE.D.int 0), QE.IE.lit (QE.D.int 2), QE.IE.lit (QE.D.int 3)]]) (QE.IE.or (QE.IE.pr (QE.Pr.ne) [QE.IE.call 5963215461 [QE.IE.lit (QE.D.str [97, 97, 98, 98, 97])], QE.IE.lit (QE.D.str [97, 98, 97])]) (QE.IE.or (QE.IE.pr (QE.Pr.ne) [QE.IE.call 6029406323 [QE.IE.lit (QE.D.str [97, 97, 98, 98, 97])], QE.IE.tup [QE.IE.lit (QE.D.int 2), QE.IE.lit (QE.D.int 1)]]) (QE.IE.pr (QE.Pr.ne) [QE.IE.call 5963215461 [QE.IE.lit (QE.D.str [])], QE.IE.lit (QE.D.str [])])))) [QE.IS.ret (QE.IE.lit (QE.D.bl false))] [], QE.IS.iff (QE.IE.or (QE.IE.pr (QE.Pr.ne) [QE.IE.call 5963215461 [QE.IE.pr (QE.Pr.mul) [QE.IE.lit (QE.D.str [97]), QE.IE.var 2]], QE.IE.lit (QE.D.str [97])]) (QE.IE.or (QE.IE.pr (QE.Pr.ne) [QE.IE.call 6029406323 [QE.IE.pr (QE.Pr.mul) [QE.IE.lit (QE.D.str [97]), QE.IE.var 2]], QE.IE.tup [QE.IE.var 2]]) (QE.IE.or (QE.IE.pr (QE.Pr.ne) [QE.IE.call 1569297951603 [QE.IE.lit (QE.D.str [])], QE.IE.tup [QE.IE.lit (QE.D.int 0)]]) (QE.IE.pr (QE.Pr.ne) [QE.IE.call 6029406323 [QE.IE.lit (QE.D.str [])], QE.IE.tup []])))) [QE.IS.ret (QE.IE.lit (QE.D.bl false))] [], QE.IS.iff (QE.IE.or (QE.IE.pr (QE.Pr.ne) [QE.IE.call 6612180308087281905779 [QE.IE.lit (QE.D.str [97, 98, 97]), QE.IE.tup [QE.IE.lit (QE.D.int 2), QE.IE.lit (QE.D.int 1)]], QE.IE.lit (QE.D.str [97, 97, 98, 98, 97])]) (QE.IE.pr (QE.Pr.ne) [QE.IE.call 6612180308087281905779 [QE.IE.lit (QE.D.str []), QE.IE.tup []], QE.IE.lit (QE.D.str [])])) [QE.IS.ret (QE.IE.lit (QE.D.bl false))] [], QE.IS.iff (QE.IE.or (QE.IE.pr (QE.Pr.isC (QE.D.bl true) false) [QE.IE.call 101739320119882341 [QE.IE.lit (QE.D.str [97, 97, 98])]]) (QE.IE.or (QE.IE.pr (QE.Pr.isC (QE.D.bl false) false) [QE.IE.call 101739320119882341 [QE.IE.lit (QE.D.str [97, 97, 98, 98])]]) (QE.IE.pr (QE.Pr.isC (QE.D.bl true) false) [QE.IE.call 101739320119882341 [QE.IE.lit (QE.D.str [97, 97, 98, 97, 98])]]))) [QE.IS.ret (QE.IE.lit (QE.D.bl false))] [], QE.IS.iff (QE.IE.or (QE.IE.pr (QE.Pr.ne) [QE.IE.call 6215265907 [QE.IE.lit (QE.D.str [97, 97, 98])], QE.IE.tup [QE.IE.tup [QE.IE.lit (QE.D.str [97]), QE.IE.lit (QE.D.int 2)], QE.IE.tup [QE.IE.lit (QE.D.str [98]), QE.IE.lit (QE.D.int 1)]]]) (QE.IE.pr (QE.Pr.ne) [QE.IE.call 6297840747 [QE.IE.lit (QE.D.str [98, 97])], QE.IE.tup [QE.IE.pr (QE.Pr.mul) [QE.IE.tup [QE.IE.lit (QE.D.int 0)], QE.IE.lit (QE.D.int 4)], QE.IE.tup [QE.IE.lit (QE.D.int 0), QE.IE.lit (QE.D.int 1), QE.IE.lit (QE.D.int 0), QE.IE.lit (QE.D.int 0)], QE.IE.tup [QE.IE.lit (QE.D.int 1), QE.IE.lit (QE.D.int 1), QE.IE.lit (QE.D.int 0), QE.IE.lit (QE.D.int 0)]]])) [QE.IS.ret (QE.IE.lit (QE.D.bl false))] [], QE.IS.iff (QE.IE.or (QE.IE.pr (QE.Pr.ne) [QE.IE.call 390805339403379 [QE.IE.lit (QE.D.str [97, 98, 99, 97])], QE.IE.tup [QE.IE.lit (QE.D.int 2), QE.IE.lit (QE.D.int 1), QE.IE.lit (QE.D.int 1), QE.IE.lit (QE.D.int 0)]]) (QE.IE.pr (QE.Pr.ne) [QE.IE.call 1599496611187 [QE.IE.tup [QE.IE.lit (QE.D.int 4), QE.IE.lit (QE.D.int 7)], QE.IE.lit (QE.D.int 9)], QE.IE.lit (QE.D.int 7)])) [QE.IS.ret (QE.IE.lit (QE.D.bl false))] [], QE.IS.iff (QE.IE.or (QE.IE.pr (QE.Pr.ne) [QE.IE.call 26694361548957381997 [QE.IE.tup [QE.IE.lit (QE.D.int 4), QE.IE.lit (QE.D.int 7)], QE.IE.lit (QE.D.int 3)], QE.IE.lit (QE.D.int 18)]) (QE.IE.pr (QE.Pr.ne) [QE.IE.call 440527993951041004182268260 [QE.IE.tup [QE.IE.lit (QE.D.int 1), QE.IE.lit (QE.D.int 2)], QE.IE.lit (QE.D.str [97, 97, 98])], QE.IE.lit (QE.D.int 4)])) [QE.IS.ret (QE.IE.lit (QE.D.bl false))] [], QE.IS.asg (QE.Tg.var 3) (QE.IE.lst [QE.IE.tup [QE.IE.lit (QE.D.non), QE.IE.lit (QE.D.non)], QE.IE.tup [QE.IE.tup [], QE.IE.lit (QE.D.non)], QE.IE.tup [QE.IE.lst [QE.IE.lit (QE.D.int 1)], QE.IE.lit (QE.D.non)], QE.IE.tup [QE.IE.pr (QE.Pr.mul) [QE.IE.tup [QE.IE.lit (QE.D.int 1)], QE.IE.lit (QE.D.int 31)], QE.IE.lit (QE.D.non)], QE.IE.tup [QE.IE.tup [QE.IE.lit (QE.D.int 1), QE.IE.pr (QE.Pr.neg) [QE.IE.lit (QE.D.int 1)]], QE.IE.lit (QE.D.int 1)], QE.IE.tup [QE.IE.tup [QE.IE.lit (QE.D.int 1), QE.IE.lit (QE.D.int 2), QE.IE.lit (QE.D.bl true)], QE.IE.lit (QE.D.int 2)]]), QE.IS.asg (QE.Tg.tup [QE.Tg.var 8, QE.Tg.var 4]) (QE.IE.call 6482616824352681321323 [QE.IE.var 1, QE.IE.pr (QE.Pr.add) [QE.IE.var 3, QE.IE.lst [QE.IE.tup [QE.IE.tup [QE.IE.lit (QE.D.str [49])], QE.IE.lit (QE.D.int 0)], QE.IE.tup [QE.IE.tup [QE.IE.lit (QE.D.int 0), QE.IE.pr (QE.Pr.add) [QE.IE.pr (QE.Pr.pow) [QE.IE.lit (QE.D.int 10), QE.IE.lit (QE.D.int 6)], QE.IE.lit (QE.D.int 1)]], QE.IE.lit (QE.D.int 1)]]]]), QE.IS.asg (QE.Tg.var 3) (QE.IE.lst [QE.IE.tup [QE.IE.lit (QE.D.non), QE.IE.lit (QE.D.non)], QE.IE.tup [QE.IE.lst [QE.IE.lit (QE.D.str [97])], QE.IE.lit (QE.D.non)], QE.IE.tup [QE.IE.lit (QE.D.str [97, 98, 101]), QE.IE.lit (QE.D.int 2)], QE.IE.tup [QE.IE.lit (QE.D.str [65]), QE.IE.lit (QE.D.int 0)], QE.IE.tup [QE.IE.lit (QE.D.bl true), QE.IE.lit (QE.D.non)], QE.IE.tup [QE.IE.pr (QE.Pr.mul) [QE.IE.lit (QE.D.str [97]), QE.IE.lit (QE.D.int 2001)], QE.IE.lit (QE.D.non)]]), QE.IS.asg (QE.Tg.tup [QE.Tg.var 10, QE.Tg.var 5]) (QE.IE.call 6482616824352681321323 [QE.IE.var 1, QE.IE.var 3]), QE.IS.asg (QE.Tg.var 6) (QE.IE.lst [QE.IE.thunk 6482616824352748825700 (QE.IE.lit (QE.D.fn 6230731108)) [QE.IE.var 8, QE.IE.lit (QE.D.non)], QE.IE.thunk 6482616824352748825700 (QE.IE.lit (QE.D.fn 440527993951041004182268260)) [QE.IE.var 8, QE.IE.lit (QE.D.non)]]), QE.IS.asg (QE.Tg.var 6) (QE.IE.pr (QE.Pr.add) [QE.IE.var 6, QE.IE.lst [QE.IE.thunk 6482616824352748825700 (QE.IE.lit (QE.D.fn 1599496611187)) [QE.IE.var 8, QE.IE.lit (QE.D.non)], QE.IE.thunk 6482616824352748825700 (QE.IE.lit (QE.D.fn 26694361548957381997)) [QE.IE.var 8, QE.IE.lit (QE.D.non)]]]), QE.IS.iff (QE.IE.pr (QE.Pr.ne) [QE.IE.var 6, QE.IE.pr (QE.Pr.mul) [QE.IE.lst [QE.IE.tup [QE.IE.lit (QE.D.str [114, 117, 108, 101]), QE.IE.var 4]], QE.IE.lit (QE.D.int 4)]]) [QE.IS.ret (QE.IE.lit (QE.D.bl false))] [], QE.IS.asg (QE.Tg.var 6) (QE.IE.lst [QE.IE.thunk 6482616824352748825700 (QE.IE.lit (QE.D.fn 6230731108)) [QE.IE.tup [QE.IE.lit (QE.D.int 1)], QE.IE.var 10], QE.IE.thunk 6482616824352748825700 (QE.IE.lit (QE.D.fn 440527993951041004182268260)) [QE.IE.tup [QE.IE.lit (QE.D.int 1)], QE.IE.var 10]]), QE.IS.for_ (QE.Tg.var 11) (QE.It.list) [QE.IE.lst [QE.IE.lit (QE.D.fn 390805339403379), QE.IE.lit (QE.D.fn 6297840747), QE.IE.lit (QE.D.fn 6215265907), QE.IE.lit (QE.D.fn 1569297951603), QE.IE.lit (QE.D.fn 6029406323), QE.IE.lit (QE.D.fn 5963215461), QE.IE.lit (QE.D.fn 101739320119882341), QE.IE.lit (QE.D.fn 440528141378616813377709171), QE.IE.lit (QE.D.fn 412769516352372)]] [QE.IS.app 6 [] (QE.IE.thunk 6482616824352748825700 (QE.IE.var 11) [QE.IE.var 10])], QE.IS.app 6 [] (QE.IE.thunk 6482616824352748825700 (QE.IE.lit (QE.D.fn 6612180308087281905779)) [QE.IE.var 10, QE.IE.lit (QE.D.non)]), QE.IS.app 6 [] (QE.IE.thunk 6482616824352748825700 (QE.IE.lit (QE.D.fn 26257523380435513190)) [QE.IE.var 10, QE.IE.lit (QE.D.non)]), QE.IS.iff (QE.IE.pr (QE.Pr.ne) [QE.IE.var 6, QE.IE.pr (QE.Pr.mul) [QE.IE.lst [QE.IE.tup [QE.IE.lit (QE.D.str [119, 111, 114, 100]), QE.IE.var 5]], QE.IE.lit (QE.D.int 13)]]) [QE.IS.ret (QE.IE.lit (QE.D.bl false))] [], QE.IS.asg (QE.Tg.var 7) (QE.IE.call 6482616824352681321323 [QE.IE.var 1, QE.IE.lst [QE.IE.lit (QE.D.non), QE.IE.pr (QE.Pr.neg) [QE.IE.lit (QE.D.int 1)], QE.IE.lit (QE.D.bl true), QE.IE.lit (QE.D.str [49]), QE.IE.pr (QE.Pr.pow) [QE.IE.lit (QE.D.int 10), QE.IE.lit (QE.D.int 61)]]]), QE.IS.asg (QE.Tg.var 9) (QE.IE.call 6482616824352681321323 [QE.IE.var 1, QE.IE.lst [QE.IE.lit (QE.D.non), QE.IE.tup [], QE.IE.tup [QE.IE.lit (QE.D.int 1)], QE.IE.tup [QE.IE.lit (QE.D.int 1), QE.IE.lit (QE.D.int 0)], QE.IE.tup [QE.IE.lit (QE.D.int 1), QE.IE.lit (QE.D.bl true)], QE.IE.lst [QE.IE.lit (QE.D.int 1), QE.IE.lit (QE.D.int 2)], QE.IE.tup [QE.IE.lit (QE.D.int 1), QE.IE.lit (QE.D.int 2), QE.IE.lit (QE.D.int 3)], QE.IE.tup [QE.IE.lit (QE.D.int 1), QE.IE.lit (QE.D.str [50])]]]), QE.IS.asg (QE.Tg.var 6) (QE.IE.lst [QE.IE.thunk 6482616824352748825700 (QE.IE.lit (QE.D.fn 1599496611187)) [QE.IE.tup [QE.IE.lit (QE.D.int 1)], QE.IE.var 7], QE.IE.thunk 6482616824352748825700 (QE.IE.lit (QE.D.fn 26694361548957381997)) [QE.IE.tup [QE.IE.lit (QE.D.int 1)], QE.IE.var 7]]), QE.IS.asg (QE.Tg.var 6) (QE.IE.pr (QE.Pr.add) [QE.IE.var 6, QE.IE.lst [QE.IE.thunk 6482616824352748825700 (QE.IE.lit (QE.D.fn 1599496611187)) [QE.IE.tup [QE.IE.lit (QE.D.int 1)], QE.IE.lit (QE.D.int 0)], QE.IE.thunk 6482616824352748825700 (QE.IE.lit (QE.D.fn 6612180308087281905779)) [QE.IE.lit (QE.D.str [97, 97, 98, 98]), QE.IE.lit (QE.D.non)]]]), QE.IS.asg (QE.Tg.var 6) (QE.IE.pr (QE.Pr.add) [QE.IE.var 6, QE.IE.lst [QE.IE.thunk 6482616824352748825700 (QE.IE.lit (QE.D.fn 6612180308087281905779)) [QE.IE.lit (QE.D.str [97, 98, 97]), QE.IE.var 9], QE.IE.thunk 6482616824352748825700 (QE.IE.lit (QE.D.fn 6230731108)) [QE.IE.tup [QE.IE.lit (QE.D.int 1000)], QE.IE.pr (QE.Pr.mul) [QE.IE.lit (QE.D.str [97]), QE.IE.lit (QE.D.int 21)]]]]), QE.IS.app 6 [] (QE.IE.thunk 6482616824352748825700 (QE.IE.lit (QE.D.fn 6612180308087281905779)) [QE.IE.lit (QE.D.str [97, 98, 97]), QE.IE.tup [QE.IE.lit (QE.D.int 10000), QE.IE.lit (QE.D.int 1)]]), QE.IS.ret (QE.IE.pr (QE.Pr.eq) [QE.IE.var 6, QE.IE.pr (QE.Pr.add) [QE.IE.pr (QE.Pr.mul) [QE.IE.lst [QE.IE.lit (QE.D.str [110, 117, 109, 98, 101, 114])], QE.IE.lit (QE.D.int 3)], QE.IE.lst [QE.IE.lit (QE.D.str [99, 111, 114, 101]), QE.IE.lit (QE.D.str [103, 97, 112, 115]), QE.IE.tup [QE.IE.lit (QE.D.str [108, 111, 110, 103]), QE.IE.lit (QE.D.int 20000)], QE.IE.tup [QE.IE.lit (QE.D.str [108, 111, 110, 103]), QE.IE.lit (QE.D.int 20000)]]]])]⟩
def f__law_told : FD := ⟨1, 5, none, [QE.IS.asg (QE.Tg.var 1) (QE.IE.lit (QE.D.str [])), QE.IS.try_ [QE.IS.expr (QE.IE.callv 0 [])] 0 (some 2) [QE.IS.asg (QE.Tg.var 3) (QE.IE.lst [QE.IE.exIs 2 (some 90742025756832357), QE.IE.exIs 2 (some 90742025823023219), QE.IE.exIs 2 (some 5946869412120079000946), QE.IE.exIs 2 (some 90742026008882277)]), QE.IS.asg (QE.Tg.var 3) (QE.IE.pr (QE.Pr.add) [QE.IE.var 3, QE.IE.lst [QE.IE.exIs 2 (some 90742026092376676), QE.IE.exIs 2 (some 95824015896047207)]]), QE.IS.asg (QE.Tg.var 4) (QE.IE.lst [QE.IE.lit (QE.D.str [99, 111, 114, 101]), QE.IE.lit (QE.D.str [103, 97, 112, 115]), QE.IE.lit (QE.D.str [110, 117, 109, 98, 101, 114]), QE.IE.lit (QE.D.str [114, 117, 108, 101]), QE.IE.lit (QE.D.str [119, 111, 114, 100]), QE.IE.lit (QE.D.str [108, 111, 110, 103])]), QE.IS.asg (QE.Tg.var 1) (QE.IE.ite (QE.IE.and (QE.IE.pr (QE.Pr.eq) [QE.IE.meth (QE.Pr.count) (QE.IE.var 3) [QE.IE.lit (QE.D.bl true)], QE.IE.lit (QE.D.int 1)]) (QE.IE.exIs 2 none)) (QE.IE.pr (QE.Pr.ix) [QE.IE.var 4, QE.IE.meth (QE.Pr.indexL) (QE.IE.var 3) [QE.IE.lit (QE.D.bl true)]]) (QE.IE.lit (QE.D.str [111, 116, 104, 101, 114]))), QE.IS.iff (QE.IE.pr (QE.Pr.eq) [QE.IE.var 1, QE.IE.lit (QE.D.str [114, 117, 108, 101])]) [QE.IS.asg (QE.Tg.var 1) (QE.IE.tup [QE.IE.var 1, QE.IE.exF 2 [90742026008882277]])] [], QE.IS.iff (QE.IE.pr (QE.Pr.eq) [QE.IE.var 1, QE.IE.lit (QE.D.str [119, 111, 114, 100])]) [QE.IS.asg (QE.Tg.var 1) (QE.IE.tup [QE.IE.var 1, QE.IE.exF 2 [90742026092376676]])] [], QE.IS.iff (QE.IE.pr (QE.Pr.eq) [QE.IE.var 1, QE.IE.lit (QE.D.str [108, 111, 110, 103])]) [QE.IS.asg (QE.Tg.var 1) (QE.IE.tup [QE.IE.var 1, QE.IE.exF 2 [95824015896047207]])] []], QE.IS.ret (QE.IE.var 1)]⟩
abbrev i_need_from : Nat := 6758814687309077835629
abbrev i_need_word : Nat := 6758814687309362852452
abbrev i_need_rule : Nat := 6758814687309279358053
abbrev i_said : Nat := 6230731108
abbrev i_need_core : Nat := 6758814687309027308133
abbrev i_need_gaps : Nat := 6758814687309093498995
abbrev i_from_gaps : Nat := 6612180308087281905779
abbrev i_level_of : Nat := 26257523380435513190
abbrev i_law : Nat := 23880055
abbrev i__law_told : Nat := 6482616824352748825700
def T0 : List (Nat × FD) := [(397419219611252, f_is_int), (101739320170409837, f_is_from), (6758814687309077835629, f_need_from), (6758814687309362852452, f_need_word), (6758814687309279358053, f_need_rule), (26835100137158569830, f_times_of), (408423160049510, f_sum_of), (6556625593123806867302, f_counts_of), (448971492766612228384715880, f_said_length), (104534321643089766, f_said_of), (6230731108, f_said), (440527993951041004182268260, f_length_said), (26694361548957381997, f_rule_sum), (1599496611187, f_times), (390805339403379, f_counts), (6297840747, f_walk), (104274858625429350, f_runs_of), (26328450702407331686, f_marks_of), (105675653367426918, f_word_of), (100046153849991014, f_core_of), (101156652238991206, f_gaps_of), (1569297951603, f_marks), (5963215461, f_core), (6029406323, f_gaps), (101739320119882341, f_is_core), (6758814687309027308133, f_need_core), (6721925985391825874790, f_levels_of), (6758814687309093498995, f_need_gaps), (104556329307172710, f_sums_of), (6721923735825210634086, f_length_of), (1543813166958, f_grown), (6612180308087281905779, f_from_gaps), (26257523380435513190, f_level_of), (412769516352372, f_widest), (440528141378616813377709171, f_level_words), (6215265907, f_runs), (1659549907034303464433006, f__law_taken), (6482616824352681321323, f__law_pick), (23880055, f_law), (6482616824352748825700, f__law_told)]
theorem l_is_int : lookF T0 i_is_int = some f_is_int := by kernel_rfl
theorem l_is_from : lookF T0 i_is_from = some f_is_from := by kernel_rfl
theorem l_need_from : lookF T0 i_need_from = some f_need_from := by kernel_rfl
theorem l_need_word : lookF T0 i_need_word = some f_need_word := by kernel_rfl
theorem l_need_rule : lookF T0 i_need_rule = some f_need_rule := by kernel_rfl
theorem l_times_of : lookF T0 i_times_of = some f_times_of := by kernel_rfl
theorem l_sum_of : lookF T0 i_sum_of = some f_sum_of := by kernel_rfl
theorem l_counts_of : lookF T0 i_counts_of = some f_counts_of := by kernel_rfl
theorem l_said_length : lookF T0 i_said_length = some f_said_length := by kernel_rfl
theorem l_said_of : lookF T0 i_said_of = some f_said_of := by kernel_rfl
theorem l_said : lookF T0 i_said = some f_said := by kernel_rfl
theorem l_length_said : lookF T0 i_length_said = some f_length_said := by kernel_rfl
theorem l_rule_sum : lookF T0 i_rule_sum = some f_rule_sum := by kernel_rfl
theorem l_times : lookF T0 i_times = some f_times := by kernel_rfl
theorem l_counts : lookF T0 i_counts = some f_counts := by kernel_rfl
theorem l_walk : lookF T0 i_walk = some f_walk := by kernel_rfl
theorem l_runs_of : lookF T0 i_runs_of = some f_runs_of := by kernel_rfl
theorem l_marks_of : lookF T0 i_marks_of = some f_marks_of := by kernel_rfl
theorem l_word_of : lookF T0 i_word_of = some f_word_of := by kernel_rfl
theorem l_core_of : lookF T0 i_core_of = some f_core_of := by kernel_rfl
theorem l_gaps_of : lookF T0 i_gaps_of = some f_gaps_of := by kernel_rfl
theorem l_marks : lookF T0 i_marks = some f_marks := by kernel_rfl
theorem l_core : lookF T0 i_core = some f_core := by kernel_rfl
theorem l_gaps : lookF T0 i_gaps = some f_gaps := by kernel_rfl
theorem l_is_core : lookF T0 i_is_core = some f_is_core := by kernel_rfl
theorem l_need_core : lookF T0 i_need_core = some f_need_core := by kernel_rfl
theorem l_levels_of : lookF T0 i_levels_of = some f_levels_of := by kernel_rfl
theorem l_need_gaps : lookF T0 i_need_gaps = some f_need_gaps := by kernel_rfl
theorem l_sums_of : lookF T0 i_sums_of = some f_sums_of := by kernel_rfl
theorem l_length_of : lookF T0 i_length_of = some f_length_of := by kernel_rfl
theorem l_grown : lookF T0 i_grown = some f_grown := by kernel_rfl
theorem l_from_gaps : lookF T0 i_from_gaps = some f_from_gaps := by kernel_rfl
theorem l_level_of : lookF T0 i_level_of = some f_level_of := by kernel_rfl
theorem l_widest : lookF T0 i_widest = some f_widest := by kernel_rfl
theorem l_level_words : lookF T0 i_level_words = some f_level_words := by kernel_rfl
theorem l_runs : lookF T0 i_runs = some f_runs := by kernel_rfl
theorem l__law_taken : lookF T0 i__law_taken = some f__law_taken := by kernel_rfl
theorem l__law_pick : lookF T0 i__law_pick = some f__law_pick := by kernel_rfl
theorem l_law : lookF T0 i_law = some f_law := by kernel_rfl
theorem l__law_told : lookF T0 i__law_told = some f__law_told := by kernel_rfl
theorem tab_eq : tabAll P0 tks muts ss tds = T0 := by kernel_rfl
theorem bnd_all : ∀ s ∈ ss ++ tds, BindOk s := by
  intro s hs
  unfold ss tds at hs
  simp only [List.cons_append, List.nil_append, List.append_nil, List.mem_cons, List.not_mem_nil, or_false] at hs
  rcases hs with rfl | rfl | rfl | rfl | rfl | rfl | rfl | rfl | rfl | rfl | rfl | rfl | rfl | rfl | rfl | rfl | rfl | rfl | rfl | rfl | rfl | rfl | rfl | rfl | rfl | rfl | rfl | rfl | rfl | rfl | rfl | rfl | rfl | rfl | rfl | rfl | rfl | rfl | rfl | rfl
  · exact fun _ _ _ _ _ _ us hl => match us, hl with | [_], _ => rfl
  · exact fun _ _ _ _ _ _ us hl => match us, hl with | [_, _, _], _ => rfl
  · exact fun _ _ _ _ _ _ us hl => match us, hl with | [_, _, _], _ => rfl
  · exact fun _ _ _ _ _ _ us hl => match us, hl with | [_], _ => rfl
  · exact fun _ _ _ _ _ _ us hl => match us, hl with | [_], _ => rfl
  · exact fun _ _ _ _ _ _ us hl => match us, hl with | [_, _], _ => rfl
  · exact fun _ _ _ _ _ _ us hl => match us, hl with | [_, _], _ => rfl
  · exact fun _ _ _ _ _ _ us hl => match us, hl with | [_], _ => rfl
  · exact fun _ _ _ _ _ _ us hl => match us, hl with | [_, _], _ => rfl
  · exact fun _ _ _ _ _ _ us hl => match us, hl with | [_, _], _ => rfl
  · exact fun _ _ _ _ _ _ us hl => match us, hl with | [_, _], _ => rfl
  · exact fun _ _ _ _ _ _ us hl => match us, hl with | [_, _], _ => rfl
  · exact fun _ _ _ _ _ _ us hl => match us, hl with | [_, _], _ => rfl
  · exact fun _ _ _ _ _ _ us hl => match us, hl with | [_, _], _ => rfl
  · exact fun _ _ _ _ _ _ us hl => match us, hl with | [_], _ => rfl
  · exact fun _ _ _ _ _ _ us hl => match us, hl with | [_], _ => rfl
  · exact fun _ _ _ _ _ _ us hl => match us, hl with | [_], _ => rfl
  · exact fun _ _ _ _ _ _ us hl => match us, hl with | [_], _ => rfl
  · exact fun _ _ _ _ _ _ us hl => match us, hl with | [_], _ => rfl
  · exact fun _ _ _ _ _ _ us hl => match us, hl with | [_], _ => rfl
  · exact fun _ _ _ _ _ _ us hl => match us, hl with | [_], _ => rfl
  · exact fun _ _ _ _ _ _ us hl => match us, hl with | [_], _ => rfl
  · exact fun _ _ _ _ _ _ us hl => match us, hl with | [_], _ => rfl
  · exact fun _ _ _ _ _ _ us hl => match us, hl with | [_], _ => rfl
  · exact fun _ _ _ _ _ _ us hl => match us, hl with | [_], _ => rfl
  · exact fun _ _ _ _ _ _ us hl => match us, hl with | [_], _ => rfl
  · exact fun _ _ _ _ _ _ us hl => match us, hl with | [_], _ => rfl
  · exact fun _ _ _ _ _ _ us hl => match us, hl with | [_, _], _ => rfl
  · exact fun _ _ _ _ _ _ us hl => match us, hl with | [_], _ => rfl
  · exact fun _ _ _ _ _ _ us hl => match us, hl with | [_, _], _ => rfl
  · exact fun _ _ _ _ _ _ us hl => match us, hl with | [_, _], _ => rfl
  · exact fun _ _ _ _ _ _ us hl => match us, hl with | [_, _], _ => rfl
  · exact fun _ _ _ _ _ _ us hl => match us, hl with | [_, _], _ => rfl
  · exact fun _ _ _ _ _ _ us hl => match us, hl with | [_], _ => rfl
  · exact fun _ _ _ _ _ _ us hl => match us, hl with | [_], _ => rfl
  · exact fun _ _ _ _ _ _ us hl => match us, hl with | [_], _ => rfl
  · exact fun _ _ _ _ _ _ us hl => match us, hl with | [_, _], _ => rfl
  · exact fun _ _ _ _ _ _ us hl => match us, hl with | [_, _], _ => rfl
  · exact fun _ _ _ _ _ _ us hl => match us, hl with | [_], _ => rfl
  · exact fun _ _ _ _ _ _ us hl => match us, hl with | [_], _ => rfl
def names0 : List PySem.Str := [("BadCore" : PySem.Str), ("BadGaps" : PySem.Str), ("BadNumber" : PySem.Str), ("BadRule" : PySem.Str), ("BadWord" : PySem.Str), ("LETTERS" : PySem.Str), ("MOST_MADE" : PySem.Str), ("MOST_RULE" : PySem.Str), ("MOST_SAID" : PySem.Str), ("MOST_TIMES" : PySem.Str), ("MOST_WORD" : PySem.Str), ("SayError" : PySem.Str), ("TooLong" : PySem.Str), ("_law_pick" : PySem.Str), ("_law_taken" : PySem.Str), ("_law_told" : PySem.Str), ("core" : PySem.Str), ("core_of" : PySem.Str), ("counts" : PySem.Str), ("counts_of" : PySem.Str), ("from_gaps" : PySem.Str), ("gaps" : PySem.Str), ("gaps_of" : PySem.Str), ("grown" : PySem.Str), ("is_core" : PySem.Str), ("is_from" : PySem.Str), ("is_int" : PySem.Str), ("length_of" : PySem.Str), ("length_said" : PySem.Str), ("level_of" : PySem.Str), ("level_words" : PySem.Str), ("levels_of" : PySem.Str), ("marks" : PySem.Str), ("marks_of" : PySem.Str), ("need_core" : PySem.Str), ("need_from" : PySem.Str), ("need_gaps" : PySem.Str), ("need_rule" : PySem.Str), ("need_word" : PySem.Str), ("rule_sum" : PySem.Str)]
def names1 : List PySem.Str := [("runs" : PySem.Str), ("runs_of" : PySem.Str), ("said" : PySem.Str), ("said_length" : PySem.Str), ("said_of" : PySem.Str), ("sum_of" : PySem.Str), ("sums_of" : PySem.Str), ("times" : PySem.Str), ("times_of" : PySem.Str), ("walk" : PySem.Str), ("widest" : PySem.Str), ("word_of" : PySem.Str)]
theorem sc_ok : ∀ s ∈ ss, fnScB (nsOf s) (psOf s) (defScope s) = true := by
  have h : ss.all (fun s => fnScB (nsOf s) (psOf s) (defScope s)) = true := by decide +kernel
  intro s hs
  exact List.all_eq_true.mp h s hs
theorem nd_ok : ((ss ++ tds).map fun s => nm (nameOf s)).Nodup := by decide +kernel
theorem fns_in : ∀ s ∈ ss, nameOf s ∈ P0.fns := by
  have h : ss.all (fun s => P0.fns.contains (nameOf s)) = true := by decide +kernel
  intro s hs
  simpa using List.all_eq_true.mp h s hs
theorem lam_ok : P0.tolds ≠ [] → ∀ s ∈ ss, (L2.defScope s).names = P0.tnames → nameOf s ∈ hp.lam := by
  have h : (P0.tolds.isEmpty || ss.all (fun s => !decide ((L2.defScope s).names = P0.tnames) || hp.lam.contains (nameOf s))) = true := by decide +kernel
  intro hne s hs e
  rcases Bool.or_eq_true_iff.mp h with z | z
  · exact absurd (List.isEmpty_iff.mp z) hne
  · have := List.all_eq_true.mp z s hs
    rw [e] at this
    simpa using this
theorem say_ok : P0.tolds ≠ [] → P0.excs ≠ [] := by
  have h : (P0.tolds.isEmpty || !P0.excs.isEmpty) = true := by decide +kernel
  intro h1 h2
  rw [h2] at h
  exact h1 (by simpa using h)
theorem td_ok : ∀ x ∈ P0.tolds, ∃ t ∈ tds, nameOf t = x := by
  have h : P0.tolds.all (fun x => tds.any fun s => nameOf s == x) = true := by decide +kernel
  intro x hx
  obtain ⟨s, h1, h2⟩ := List.any_eq_true.mp (List.all_eq_true.mp h x hx)
  exact ⟨s, h1, eq_of_beq h2⟩
def tdB (t : Stmt) : Bool := match toldShape t with
  | some h => toldB t h
  | none => false
theorem tb_ok : ∀ t ∈ tds, ∃ h, toldShape t = some h ∧ toldB t h = true := by
  have h : tds.all tdB = true := by decide +kernel
  intro t ht
  have := List.all_eq_true.mp h t ht
  unfold tdB at this
  split at this
  · rename_i h' e
    exact ⟨h', e, this⟩
  · cases this
theorem fns_ok : ∀ x ∈ P0.fns, ∃ s ∈ ss, nameOf s = x := by
  have h : P0.fns.all (fun x => ss.any fun s => nameOf s == x) = true := by decide +kernel
  intro x hx
  obtain ⟨s, h1, h2⟩ := List.any_eq_true.mp (List.all_eq_true.mp h x hx)
  exact ⟨s, h1, eq_of_beq h2⟩
theorem consts_ok : P0.consts.all (fun p => constB p.2) = true := by decide +kernel
def names : List PySem.Str := names0 ++ names1
abbrev R : PySem.W.OpenRow := PySem.W.OpenLaw.row PySem.Challenge.rw_saidcounts_k04_known_words
abbrev hk : PySem.W.Hook := hookQ hp 4 (faOf (ss ++ tds) P0) ((ss ++ tds).map defD)
def ob (s : PySem.W.SharedT) : He.AlD × Bool := obsQ hp 4 (faOf (ss ++ tds) P0) ((ss ++ tds).map defD) (HandSHeadRun.getT s)
theorem ob_eq (s : PySem.W.SharedT) : ob s = hk.obs s.abs := obsQ_eq (HandSHeadRun.getT_eq s)
theorem run (w : World) : HandSHeadRun.RunEq R (PySem.W.view R.prog [56]) hk ob 6000 names w := by
  intro os
  kernel_rfl
open PySem.W PySem.Calls PyProof.Rows
theorem holds_of (h : ∀ ns : List Int, ns.length ≤ 63 → call T0 100000 40 i_law [.lst .old (ns.map .int)] = .ok (.bl true, [])) : PySem.Challenge.rw_saidcounts_k04_known_words.Holds := by
  w_on; o_law
  refine HandSHeadRun.head_any (r := OpenLaw.row PySem.Challenge.rw_saidcounts_k04_known_words) (q := view (OpenLaw.row PySem.Challenge.rw_saidcounts_k04_known_words).prog [56]) (H := hk) (ob := ob) (M := 6000) (loose := names) (d := HandSHeadRun.topDef (OpenLaw.row PySem.Challenge.rw_saidcounts_k04_known_words).prog 56) (kwd := []) ob_eq
    (by kernel_rfl) (fun s => by kernel_rfl) run (by kernel_rfl) (by kernel_rfl) (by kernel_rfl) (by rfl) (by first | assumption | decide +kernel) (by decide +kernel) ⟨rfl, rfl, rfl, rfl, rfl, by decide +kernel⟩ ?hw ?hc
  case hw => w_witness2
  case hc =>
    refine law_walk (ss := ss) (tds := tds) (P0 := P0) (p := hp) (tks := tks) (muts := muts) (W := 100000) (n := 40) (sl := top 56) rfl (by kernel_rfl) ⟨rfl, by decide, by decide⟩ (by unfold ss; simp) (by kernel_rfl) (x := "_law_script") (by kernel_rfl) fns_ok consts_ok bnd_all sc_ok nd_ok rfl fns_in rfl lam_ok (fun _ => by decide +kernel) (by decide +kernel) say_ok td_ok tb_ok (by kernel_rfl) ?_
    rw [tab_eq, show nm (nameOf (top 56)) = i_law from by kernel_rfl]
    exact h
end K04
namespace QE
@[inline] def Fw.then (f : Fw) (k : Env → Res Fw) : Res Fw := match f with
  | .nx ρ => k ρ
  | .rt d ρ => .ok (.rt d ρ)
section
variable {Φ : Calls} {M : Muts} {W : Nat} {ρ : Env}
theorem bind_ok {α β : Type} (a : α) (f : α → Res β) : (Res.ok a).bind f = f a := rfl
theorem bind_bad {α β : Type} (f : α → Res β) : (Res.bad : Res α).bind f = .bad := rfl
theorem bind_assoc {α β γ : Type} (r : Res α) (f : α → Res β) (g : β → Res γ) : (r.bind f).bind g = r.bind fun a => (f a).bind g := by cases r <;> rfl
theorem noErr_ok {α : Type} (a : α) : noErr (Res.ok a) = .ok a := rfl
theorem of_some {α : Type} (a : α) : Res.of (some a) = .ok a := rfl
theorem then_nx (ρ : Env) (k : Env → Res Fw) : (Fw.nx ρ).then k = k ρ := rfl
theorem then_rt (d : D) (ρ : Env) (k : Env → Res Fw) : (Fw.rt d ρ).then k = .ok (.rt d ρ) := rfl
theorem exs_nil : exs Φ M W [] ρ = .ok (.nx ρ) := rfl
theorem exs_cons (s : IS) (r : List IS) : exs Φ M W (s :: r) ρ = (ex Φ M W s ρ).bind fun f => f.then fun ρ1 => exs Φ M W r ρ1 := rfl
theorem exs_app : ∀ (a b : List IS) (ρ : Env), exs Φ M W (a ++ b) ρ = (exs Φ M W a ρ).bind fun f => f.then fun ρ1 => exs Φ M W b ρ1
  | [], b, ρ => rfl
  | s :: a, b, ρ => by
    rw [List.cons_append, exs_cons, exs_cons, bind_assoc]
    congr 1
    funext f
    cases f with
    | nx ρ1 => exact exs_app a b ρ1
    | rt d ρ1 => rfl
theorem ex_asg (i : Nat) (e : IE) : ex Φ M W (.asg (.var i) e) ρ = (ev Φ M e ρ).bind fun r => .ok (.nx (setS r.2 i (some r.1))) := rfl
theorem ex_asgT (ts : List Tg) (e : IE) : ex Φ M W (.asg (.tup ts) e) ρ = (ev Φ M e ρ).bind fun r => (Res.of (bindT (.tup ts) r.1 r.2)).bind fun ρ2 => .ok (.nx ρ2) := rfl
theorem ex_par (ts : List Tg) (es : List IE) : ex Φ M W (.par ts es) ρ = (evPar Φ M es ρ).bind fun r => (Res.of (parT ts r.1 r.2)).bind fun ρ2 => .ok (.nx ρ2) := rfl
theorem ex_expr (e : IE) : ex Φ M W (.expr e) ρ = (ev Φ M e ρ).bind fun r => .ok (.nx r.2) := rfl
theorem ex_ret (e : IE) : ex Φ M W (.ret e) ρ = (ev Φ M e ρ).bind fun r => .ok (.rt r.1 r.2) := rfl
theorem ex_iff (c : IE) (a b : List IS) : ex Φ M W (.iff c a b) ρ = (evB Φ M c ρ).bind fun r => if r.1 then exs Φ M W a r.2 else exs Φ M W b r.2 := rfl
theorem ex_pass : ex Φ M W .pass ρ = .ok (.nx ρ) := rfl
theorem ex_for (t : Tg) (it : It) (src : List IE) (body : List IS) : ex Φ M W (.for_ t it src body) ρ = (evs Φ M src ρ).bind fun r => match iterOf it r.1 with
    | some xs => forF t (fun ρ2 => exs Φ M W body ρ2) xs r.2
    | none => .bad := rfl
theorem ex_while (c : IE) (body : List IS) : ex Φ M W (.while_ c body) ρ = whileF (fun ρ1 => evB Φ M c ρ1) (fun ρ1 => exs Φ M W body ρ1) W ρ := rfl
theorem ex_setS (i : Nat) (k e : IE) : ex Φ M W (.setS i [] k e) ρ = (ev Φ M e ρ).bind fun r => (shareR r.1).bind fun d => if (getS r.2 i).isSome then (ev Φ M k r.2).bind fun r2 => match getS r2.2 i with
      | some o => match setItem o r2.1 d with
        | some o' => .ok (.nx (setS r2.2 i (some o')))
        | none => .bad
      | none => .bad else .bad := rfl
theorem ex_app (i : Nat) (e : IE) (f : Fl) (xs : List D) (h : getS ρ i = some (.lst f xs)) : ex Φ M W (.app i [] e) ρ = (ev Φ M e ρ).bind fun r => (shareR r.1).bind fun d => match getS r.2 i with
      | some o => match appD d o with
        | some o' => .ok (.nx (setS r.2 i (some o')))
        | none => .bad
      | none => .bad := by
  have e0 : ex Φ M W (.app i [] e) ρ = (match ([] : List IE), getS ρ i with
    | [], some (.lst _ _) => (ev Φ M e ρ).bind fun (d0, ρ1) => (shareR d0).bind fun d => match getS ρ1 i with
      | some o => match appD d o with
        | some o' => .ok (.nx (setS ρ1 i (some o')))
        | none => .bad
      | none => .bad
    | _, _ => .bad) := rfl
  rw [e0, h]
theorem evB_eq (c : IE) : evB Φ M c ρ = (ev Φ M c ρ).bind fun r => match r.1 with
  | .bl b => .ok (b, r.2)
  | _ => .bad := by
  unfold evB
  congr 1
  funext r
  obtain ⟨d, ρ1⟩ := r
  cases d <;> rfl
theorem ev_lit (d : D) : ev Φ M (.lit d) ρ = .ok (d, ρ) := rfl
theorem ev_var (i : Nat) : ev Φ M (.var i) ρ = match getS ρ i with
    | some d => if isM d then .bad else .ok (share d, setS ρ i (some (share d)))
    | none => .bad := rfl
theorem evl_pr (p : Pr) (args : List IE) : ev Φ M (.pr p args) ρ = (evOs Φ M args ρ).bind fun r => match gets r.2 r.1 with
    | some ds => (noErr (prim p ds)).bind fun d => .ok (d, r.2)
    | none => .bad := rfl
theorem ev_isi (ts : List Cl) (a : IE) : ev Φ M (.isi ts a) ρ = (opOf a ρ (ev Φ M a ρ)).bind fun r => match r.1.get r.2 with
    | some d => if isiOk d then .ok (.bl (ts.any fun t => isCl t d), r.2) else .bad
    | none => .bad := rfl
theorem ev_meth (p : Pr) (o : IE) (args : List IE) : ev Φ M (.meth p o args) ρ = (opOf o ρ (ev Φ M o ρ)).bind fun r => match r.1.get r.2 with
    | some d1 => if methOk p (kindN d1) then (evOs Φ M args r.2).bind fun r2 => match r.1.get r2.2 with
      | some d2 => if Nat.beq (kindN d2) (kindN d1) then match gets r2.2 r2.1 with
        | some ds => (noErr (prim p (d2 :: ds))).bind fun d => .ok (d, r2.2)
        | none => .bad else .bad
      | none => .bad else .bad
    | none => .bad := rfl
theorem ev_and (a b : IE) : ev Φ M (.and a b) ρ = (ev Φ M a ρ).bind fun r => match r.1 with
    | .bl true => ev Φ M b r.2
    | .bl false => .ok (.bl false, r.2)
    | _ => .bad := by
  show (ev Φ M a ρ).bind _ = _
  congr 1
  funext r
  obtain ⟨d, ρ1⟩ := r
  cases d with
  | bl t => cases t <;> rfl
  | _ => rfl
theorem ev_or (a b : IE) : ev Φ M (.or a b) ρ = (ev Φ M a ρ).bind fun r => match r.1 with
    | .bl false => ev Φ M b r.2
    | .bl true => .ok (.bl true, r.2)
    | _ => .bad := by
  show (ev Φ M a ρ).bind _ = _
  congr 1
  funext r
  obtain ⟨d, ρ1⟩ := r
  cases d with
  | bl t => cases t <;> rfl
  | _ => rfl
theorem ev_not (a : IE) : ev Φ M (.not a) ρ = (ev Φ M a ρ).bind fun r => match r.1 with
    | .bl b => .ok (.bl (!b), r.2)
    | _ => .bad := by
  show (ev Φ M a ρ).bind _ = _
  congr 1
  funext r
  obtain ⟨d, ρ1⟩ := r
  cases d <;> rfl
theorem ev_ite (c a b : IE) : ev Φ M (.ite c a b) ρ = (ev Φ M c ρ).bind fun r => match r.1 with
    | .bl true => ev Φ M a r.2
    | .bl false => ev Φ M b r.2
    | _ => .bad := by
  show (ev Φ M c ρ).bind _ = _
  congr 1
  funext r
  obtain ⟨d, ρ1⟩ := r
  cases d with
  | bl t => cases t <;> rfl
  | _ => rfl
theorem ev_chain (p q : Pr) (a b c : IE) : ev Φ M (.chain p q a b c) ρ = (ev Φ M a ρ).bind fun r1 => (ev Φ M b r1.2).bind fun r2 => (noErr (prim p [r1.1, r2.1])).bind fun t => match t with
    | .bl true => (ev Φ M c r2.2).bind fun r3 => (noErr (prim q [r2.1, r3.1])).bind fun d => .ok (d, r3.2)
    | .bl false => .ok (.bl false, r2.2)
    | _ => .bad := by
  show (ev Φ M a ρ).bind _ = _
  congr 1
theorem ev_tup (es : List IE) : ev Φ M (.tup es) ρ = (evs Φ M es ρ).bind fun r => (limT r.1).bind fun d => .ok (d, r.2) := rfl
theorem ev_lst (es : List IE) : ev Φ M (.lst es) ρ = (evs Φ M es ρ).bind fun r => (limL r.1).bind fun d => .ok (d, r.2) := rfl
theorem ev_dic0 : ev Φ M (.dic false []) ρ = .ok (.dic .own false [], ρ) := rfl
theorem ev_call (f : Nat) (args : List IE) : ev Φ M (.call f args) ρ = (evOs Φ M args ρ).bind fun r => doCall Φ M f r.1 r.2 := rfl
theorem ev_slc (a lo hi : IE) (i j : Int) (ρ1 ρ2 ρ3 : Env) (o : Opd) (h1 : opOf a ρ (ev Φ M a ρ) = .ok (o, ρ1)) (h2 : ev Φ M lo ρ1 = .ok (.int i, ρ2)) (h3 : ev Φ M hi ρ2 = .ok (.int j, ρ3)) : ev Φ M (.slc a lo hi) ρ = match o.get ρ3 with
        | some x => (noErr (sliceD x (some i) (some j))).bind fun d => .ok (d, ρ3)
        | none => .bad := by
  show ((opOf a ρ (ev Φ M a ρ)).bind _) = _
  rw [h1, bind_ok]
  show ((ev Φ M lo ρ1).bind _) = _
  rw [h2, bind_ok]
  show ((ev Φ M hi ρ2).bind _) = _
  rw [h3, bind_ok]
  all_goals rfl
theorem evl_comp (own : List Nat) (elt : IE) (t : Tg) (it : It) (src ifs : List IE) : ev Φ M (.comp own elt t it src ifs) ρ = (evs Φ M src ρ).bind fun r => match iterOf it r.1 with
    | some xs => (noErr (compF t own r.2 (fun ρ2 => (evIfs Φ M ifs ρ2).bind fun r3 =>
        if r3.1 then (ev Φ M elt r3.2).bind fun r4 => .ok (some r4.1, r4.2) else .ok (none, r3.2)) [] xs r.2)).bind fun r5 => .ok (.lst .own r5.1, restore r.2 (wipe r5.2 own) own)
    | none => .bad := rfl
theorem evOs_nil : evOs Φ M [] ρ = .ok ([], ρ) := rfl
theorem evOs_var (i : Nat) (es : List IE) : evOs Φ M (.var i :: es) ρ = (match getS ρ i with | some _ => Res.ok (Opd.slot i, ρ) | none => .bad).bind fun r => (evOs Φ M es r.2).bind fun r2 => .ok (r.1 :: r2.1, r2.2) := rfl
theorem evOs_e (e : IE) (es : List IE) (h : varOf e = none) : evOs Φ M (e :: es) ρ = (ev Φ M e ρ).bind fun r => (evOs Φ M es r.2).bind fun r2 => .ok (.val r.1 :: r2.1, r2.2) := by
  show (opOf e ρ (ev Φ M e ρ)).bind _ = _
  unfold opOf
  rw [h]
  simp only [bind_assoc]
  rfl
theorem evs_nil : evs Φ M [] ρ = .ok ([], ρ) := rfl
theorem evs_cons (e : IE) (es : List IE) : evs Φ M (e :: es) ρ = (ev Φ M e ρ).bind fun r => (shareR r.1).bind fun d' => (evs Φ M es r.2).bind fun r2 => .ok (d' :: r2.1, r2.2) := rfl
theorem evIfs_nil : evIfs Φ M [] ρ = .ok (true, ρ) := rfl
theorem evIfs_cons (c : IE) (cs : List IE) : evIfs Φ M (c :: cs) ρ = (ev Φ M c ρ).bind fun r => match r.1 with
    | .bl true => evIfs Φ M cs r.2
    | .bl false => .ok (false, r.2)
    | _ => .bad := by
  show (ev Φ M c ρ).bind _ = _
  congr 1
  funext r
  obtain ⟨d, ρ1⟩ := r
  cases d with
  | bl t => cases t <;> rfl
  | _ => rfl
theorem evPar_nil : evPar Φ M [] ρ = .ok ([], ρ) := rfl
theorem evPar_cons (e : IE) (es : List IE) : evPar Φ M (e :: es) ρ = (ev Φ M e ρ).bind fun r => (evPar Φ M es r.2).bind fun r2 => .ok (r.1 :: r2.1, r2.2) := rfl
theorem opOf_var (i : Nat) (r : Res (D × Env)) : opOf (.var i) ρ r = match getS ρ i with
  | some _ => .ok (.slot i, ρ)
  | none => .bad := rfl
theorem opOf_e (e : IE) (r : Res (D × Env)) (h : varOf e = none) : opOf e ρ r = r.bind fun r => .ok (.val r.1, r.2) := by
  unfold opOf
  rw [h]
theorem evOs_lit (d : D) (r : List IE) : evOs Φ M (.lit d :: r) ρ = (ev Φ M (.lit d) ρ).bind fun q => (evOs Φ M r q.2).bind fun q2 => .ok (.val q.1 :: q2.1, q2.2) := evOs_e _ _ rfl
theorem opOf_lit (d : D) (q : Res (D × Env)) : opOf (.lit d) ρ q = q.bind fun r => .ok (.val r.1, r.2) := opOf_e _ _ rfl
theorem evOs_pr (p : Pr) (as : List IE) (r : List IE) : evOs Φ M (.pr p as :: r) ρ = (ev Φ M (.pr p as) ρ).bind fun q => (evOs Φ M r q.2).bind fun q2 => .ok (.val q.1 :: q2.1, q2.2) := evOs_e _ _ rfl
theorem opOf_pr (p : Pr) (as : List IE) (q : Res (D × Env)) : opOf (.pr p as) ρ q = q.bind fun r => .ok (.val r.1, r.2) := opOf_e _ _ rfl
theorem evOs_isi (ts : List Cl) (a : IE) (r : List IE) : evOs Φ M (.isi ts a :: r) ρ = (ev Φ M (.isi ts a) ρ).bind fun q => (evOs Φ M r q.2).bind fun q2 => .ok (.val q.1 :: q2.1, q2.2) := evOs_e _ _ rfl
theorem opOf_isi (ts : List Cl) (a : IE) (q : Res (D × Env)) : opOf (.isi ts a) ρ q = q.bind fun r => .ok (.val r.1, r.2) := opOf_e _ _ rfl
theorem evOs_meth (p : Pr) (o : IE) (as : List IE) (r : List IE) : evOs Φ M (.meth p o as :: r) ρ = (ev Φ M (.meth p o as) ρ).bind fun q => (evOs Φ M r q.2).bind fun q2 => .ok (.val q.1 :: q2.1, q2.2) := evOs_e _ _ rfl
theorem opOf_meth (p : Pr) (o : IE) (as : List IE) (q : Res (D × Env)) : opOf (.meth p o as) ρ q = q.bind fun r => .ok (.val r.1, r.2) := opOf_e _ _ rfl
theorem evOs_slc (a b c : IE) (r : List IE) : evOs Φ M (.slc a b c :: r) ρ = (ev Φ M (.slc a b c) ρ).bind fun q => (evOs Φ M r q.2).bind fun q2 => .ok (.val q.1 :: q2.1, q2.2) := evOs_e _ _ rfl
theorem opOf_slc (a b c : IE) (q : Res (D × Env)) : opOf (.slc a b c) ρ q = q.bind fun r => .ok (.val r.1, r.2) := opOf_e _ _ rfl
theorem evOs_and (a b : IE) (r : List IE) : evOs Φ M (.and a b :: r) ρ = (ev Φ M (.and a b) ρ).bind fun q => (evOs Φ M r q.2).bind fun q2 => .ok (.val q.1 :: q2.1, q2.2) := evOs_e _ _ rfl
theorem opOf_and (a b : IE) (q : Res (D × Env)) : opOf (.and a b) ρ q = q.bind fun r => .ok (.val r.1, r.2) := opOf_e _ _ rfl
theorem evOs_or (a b : IE) (r : List IE) : evOs Φ M (.or a b :: r) ρ = (ev Φ M (.or a b) ρ).bind fun q => (evOs Φ M r q.2).bind fun q2 => .ok (.val q.1 :: q2.1, q2.2) := evOs_e _ _ rfl
theorem opOf_or (a b : IE) (q : Res (D × Env)) : opOf (.or a b) ρ q = q.bind fun r => .ok (.val r.1, r.2) := opOf_e _ _ rfl
theorem evOs_not (a : IE) (r : List IE) : evOs Φ M (.not a :: r) ρ = (ev Φ M (.not a) ρ).bind fun q => (evOs Φ M r q.2).bind fun q2 => .ok (.val q.1 :: q2.1, q2.2) := evOs_e _ _ rfl
theorem opOf_not (a : IE) (q : Res (D × Env)) : opOf (.not a) ρ q = q.bind fun r => .ok (.val r.1, r.2) := opOf_e _ _ rfl
theorem evOs_ite (a b c : IE) (r : List IE) : evOs Φ M (.ite a b c :: r) ρ = (ev Φ M (.ite a b c) ρ).bind fun q => (evOs Φ M r q.2).bind fun q2 => .ok (.val q.1 :: q2.1, q2.2) := evOs_e _ _ rfl
theorem opOf_ite (a b c : IE) (q : Res (D × Env)) : opOf (.ite a b c) ρ q = q.bind fun r => .ok (.val r.1, r.2) := opOf_e _ _ rfl
theorem evOs_chain (p q : Pr) (a b c : IE) (r : List IE) : evOs Φ M (.chain p q a b c :: r) ρ = (ev Φ M (.chain p q a b c) ρ).bind fun q => (evOs Φ M r q.2).bind fun q2 => .ok (.val q.1 :: q2.1, q2.2) := evOs_e _ _ rfl
theorem opOf_chain (p p' : Pr) (a b c : IE) (q : Res (D × Env)) : opOf (.chain p p' a b c) ρ q = q.bind fun r => .ok (.val r.1, r.2) := opOf_e _ _ rfl
theorem evOs_tup (es : List IE) (r : List IE) : evOs Φ M (.tup es :: r) ρ = (ev Φ M (.tup es) ρ).bind fun q => (evOs Φ M r q.2).bind fun q2 => .ok (.val q.1 :: q2.1, q2.2) := evOs_e _ _ rfl
theorem opOf_tup (es : List IE) (q : Res (D × Env)) : opOf (.tup es) ρ q = q.bind fun r => .ok (.val r.1, r.2) := opOf_e _ _ rfl
theorem evOs_lst (es : List IE) (r : List IE) : evOs Φ M (.lst es :: r) ρ = (ev Φ M (.lst es) ρ).bind fun q => (evOs Φ M r q.2).bind fun q2 => .ok (.val q.1 :: q2.1, q2.2) := evOs_e _ _ rfl
theorem opOf_lst (es : List IE) (q : Res (D × Env)) : opOf (.lst es) ρ q = q.bind fun r => .ok (.val r.1, r.2) := opOf_e _ _ rfl
theorem evOs_dic (t : Bool) (es : List IE) (r : List IE) : evOs Φ M (.dic t es :: r) ρ = (ev Φ M (.dic t es) ρ).bind fun q => (evOs Φ M r q.2).bind fun q2 => .ok (.val q.1 :: q2.1, q2.2) := evOs_e _ _ rfl
theorem opOf_dic (t : Bool) (es : List IE) (q : Res (D × Env)) : opOf (.dic t es) ρ q = q.bind fun r => .ok (.val r.1, r.2) := opOf_e _ _ rfl
theorem evOs_call (f : Nat) (as : List IE) (r : List IE) : evOs Φ M (.call f as :: r) ρ = (ev Φ M (.call f as) ρ).bind fun q => (evOs Φ M r q.2).bind fun q2 => .ok (.val q.1 :: q2.1, q2.2) := evOs_e _ _ rfl
theorem opOf_call (f : Nat) (as : List IE) (q : Res (D × Env)) : opOf (.call f as) ρ q = q.bind fun r => .ok (.val r.1, r.2) := opOf_e _ _ rfl
theorem evOs_comp (w : List Nat) (e : IE) (t : Tg) (it : It) (src ifs : List IE) (r : List IE) : evOs Φ M (.comp w e t it src ifs :: r) ρ = (ev Φ M (.comp w e t it src ifs) ρ).bind fun q => (evOs Φ M r q.2).bind fun q2 => .ok (.val q.1 :: q2.1, q2.2) := evOs_e _ _ rfl
theorem opOf_comp (w : List Nat) (e : IE) (t : Tg) (it : It) (src ifs : List IE) (q : Res (D × Env)) : opOf (.comp w e t it src ifs) ρ q = q.bind fun r => .ok (.val r.1, r.2) := opOf_e _ _ rfl
theorem get_slot (i : Nat) : (Opd.slot i).get ρ = getS ρ i := rfl
theorem get_val (d : D) : (Opd.val d).get ρ = some d := rfl
theorem gets_nil : gets ρ [] = some [] := rfl
theorem gets_slot (i : Nat) (os : List Opd) : gets ρ (.slot i :: os) = (getS ρ i).bind fun d => (gets ρ os).map (d :: ·) := rfl
theorem gets_val (d : D) (os : List Opd) : gets ρ (.val d :: os) = (gets ρ os).map (d :: ·) := rfl
theorem getS0 (d : Option D) (r : Env) : getS (d :: r) 0 = d := rfl
theorem getSs (d : Option D) (r : Env) (n : Nat) : getS (d :: r) (n + 1) = getS r n := rfl
theorem setS0 (d v : Option D) (r : Env) : setS (d :: r) 0 v = v :: r := rfl
theorem setSs (d v : Option D) (r : Env) (n : Nat) : setS (d :: r) (n + 1) v = d :: setS r n v := rfl
end
def fin (m : Option Nat) (r : Res Fw) : Res (D × List D) := match r with
  | .ok (.rt v ρ) => (match outsOf ρ m with
    | some outs => .ok (v, outs)
    | none => .bad)
  | .ok (.nx ρ) => (match outsOf ρ m with
    | some outs => .ok (.non, outs)
    | none => .bad)
  | .err c x => .err c x
  | .bad => .bad
theorem call_at {T : List (Nat × FD)} {W n f : Nat} {fd : FD} (ds : List D) (ρ0 : Env) (hl : lookF T f = some fd) (hb : (lenIs ds fd.np && mOk fd.muts ds) = true) (he : somes ds ++ none? (fd.ns - fd.np) = ρ0) :
    call T W (n + 1) f ds = fin fd.muts (exs (call T W n) (mutsOf T) W fd.body ρ0) := by
  subst he
  show (match lookF T f with | some d => _ | none => _) = _
  rw [hl]
  simp only [hb, if_true]
  rfl
theorem fin_rt (m : Option Nat) (v : D) (ρ : Env) : fin m (.ok (.rt v ρ)) = match outsOf ρ m with | some outs => .ok (v, outs) | none => .bad := rfl
theorem fin_nx (m : Option Nat) (ρ : Env) : fin m (.ok (.nx ρ)) = match outsOf ρ m with | some outs => .ok (.non, outs) | none => .bad := rfl
theorem outs_none (ρ : Env) : outsOf ρ none = some [] := rfl
theorem outs_some (ρ : Env) (i : Nat) : outsOf ρ (some i) = match getS ρ i with | some d => if isM d then some [d] else none | none => none := rfl
theorem p_addI (a b : Int) : prim .add [.int a, .int b] = .ok (.int (a + b)) := rfl
theorem p_addS (a b : List Nat) : prim .add [.str a, .str b] = limS (a ++ b) := rfl
theorem p_addL (f g : Fl) (a b : List D) : prim .add [.lst f a, .lst g b] = limL (a ++ b) := rfl
theorem p_addT (a b : List D) : prim .add [.tup a, .tup b] = limT (a ++ b) := rfl
theorem p_sub (a b : Int) : prim .sub [.int a, .int b] = .ok (.int (a - b)) := rfl
theorem p_mulI (a b : Int) : prim .mul [.int a, .int b] = if mulOk a b then .ok (.int (a * b)) else .bad := rfl
theorem p_mulS (a : List Nat) (k : Int) : prim .mul [.str a, .int k] = if Nat.ble (a.length * k.toNat) LIM && Nat.ble a.length LIM && decide (k < 16777216) && decide (-16777216 < k) then .ok (.str (rep a k.toNat)) else .bad := rfl
theorem p_fdiv (a b : Int) : prim .fdiv [.int a, .int b] = if divOk b then .ok (.int (a / b)) else .bad := rfl
theorem p_mod (a b : Int) : prim .mod [.int a, .int b] = if decide (0 < b) then .ok (.int (a % b)) else .bad := rfl
theorem p_neg (a : Int) : prim .neg [.int a] = .ok (.int (-a)) := rfl
theorem p_ltI (a b : Int) : prim .lt [.int a, .int b] = .ok (.bl (decide (a < b))) := rfl
theorem p_gtI (a b : Int) : prim .gt [.int a, .int b] = .ok (.bl (decide (b < a))) := rfl
theorem p_leI (a b : Int) : prim .le [.int a, .int b] = .ok (.bl (decide (a ≤ b))) := rfl
theorem p_geI (a b : Int) : prim .ge [.int a, .int b] = .ok (.bl (decide (b ≤ a))) := rfl
theorem p_eqS (a b : List Nat) : prim .eq [.str a, .str b] = .ok (.bl (a == b)) := rfl
theorem p_neS (a b : List Nat) : prim .ne [.str a, .str b] = .ok (.bl (!(a == b))) := rfl
theorem p_eqI (a b : Int) : prim .eq [.int a, .int b] = .ok (.bl (a == b)) := rfl
theorem p_neI (a b : Int) : prim .ne [.int a, .int b] = .ok (.bl (!(a == b))) := rfl
theorem p_eqB (a b : Bool) : prim .eq [.bl a, .bl b] = .ok (.bl (a == b)) := rfl
theorem p_neB (a b : Bool) : prim .ne [.bl a, .bl b] = .ok (.bl (!(a == b))) := rfl
theorem p_eqL (f g : Fl) (a b : List D) : prim .eq [.lst f a, .lst g b] = if eqOks 49 a && eqOks 49 b then .ok (.bl (deqs a b)) else .bad := rfl
theorem p_inS (c : Nat) (s : List Nat) : prim .in_ [.str [c], .str s] = .ok (.bl (memN c s)) := rfl
theorem p_ninS (c : Nat) (s : List Nat) : prim .notIn [.str [c], .str s] = .ok (.bl (!memN c s)) := rfl
theorem p_isN (pos : Bool) (x : D) : prim (.isC .non pos) [x] = .ok (.bl ((match x with | .non => true | _ => false) == pos)) := by cases x <;> rfl
theorem p_isB (b pos a : Bool) : prim (.isC (.bl b) pos) [.bl a] = .ok (.bl ((a == b) == pos)) := rfl
theorem p_ixS (s : List Nat) (i : Int) : prim .ix [.str s, .int i] = if Nat.ble s.length LIM then (match atI s i with | some c => .ok (.str [c]) | none => .bad) else .bad := rfl
theorem p_ixL (f : Fl) (xs : List D) (i : Int) : prim .ix [.lst f xs, .int i] = Res.of (atI xs i) := rfl
theorem p_ixT (xs : List D) (i : Int) : prim .ix [.tup xs, .int i] = Res.of (atI xs i) := rfl
theorem p_ixD (f : Fl) (t : Bool) (kvs : List (D × D)) (k : D) : prim .ix [.dic f t kvs, k] = if keyIs t k then Res.of (dfind k kvs) else .bad := by cases k <;> rfl
theorem p_lenS (s : List Nat) : prim .len [.str s] = if Nat.ble s.length LIM then .ok (.int s.length) else .bad := rfl
theorem p_lenL (f : Fl) (xs : List D) : prim .len [.lst f xs] = .ok (.int xs.length) := rfl
theorem p_lenT (xs : List D) : prim .len [.tup xs] = .ok (.int xs.length) := rfl
theorem p_min2 (a b : Int) : prim .min2 [.int a, .int b] = .ok (.int (if b < a then b else a)) := rfl
theorem p_max2 (a b : Int) : prim .max2 [.int a, .int b] = .ok (.int (if a < b then b else a)) := rfl
theorem p_sumL (f : Fl) (xs : List D) : prim .sumL [.lst f xs] = match intsD xs with | some r => .ok (.int (sumI r)) | _ => .bad := rfl
theorem p_sumT (xs : List D) : prim .sumL [.tup xs] = match intsD xs with | some r => .ok (.int (sumI r)) | _ => .bad := rfl
theorem p_tupL (f : Fl) (xs : List D) : prim .tuple [.lst f xs] = .ok (.tup xs) := rfl
theorem p_tupT (xs : List D) : prim .tuple [.tup xs] = .ok (.tup xs) := rfl
theorem p_int1 (a : Int) : prim .int1 [.int a] = .ok (.int a) := rfl
theorem p_sl00 (x : D) : prim (.sl false false) [x] = sliceD x none none := rfl
theorem p_sl10 (x : D) (a : Int) : prim (.sl true false) [x, .int a] = sliceD x (some a) none := rfl
theorem p_sl01 (x : D) (a : Int) : prim (.sl false true) [x, .int a] = sliceD x none (some a) := rfl
theorem p_cntS (s : List Nat) (c : Nat) : prim .count [.str s, .str [c]] = .ok (.int (cntN c s)) := rfl
theorem p_get2 (f : Fl) (t : Bool) (kvs : List (D × D)) (k d : D) : prim .get2 [.dic f t kvs, k, d] = if keyIs t k && notOwnB d then .ok ((dfind k kvs).getD d) else .bad := rfl
theorem p_join (f : Fl) (sep : List Nat) (xs : List D) : prim .join [.str sep, .lst f xs] = match strsD xs with
    | some r => if Nat.ble (sumLen r + r.length * sep.length) LIM then .ok (.str (joinS sep r)) else .bad
    | none => .bad := rfl
theorem for_nil (t : Tg) (b : Env → Res Fw) (ρ : Env) : forF t b [] ρ = .ok (.nx ρ) := rfl
theorem for_cons (t : Tg) (b : Env → Res Fw) (x : D) (r : List D) (ρ : Env) : forF t b (x :: r) ρ = (Res.of (bindT t x ρ)).bind fun ρ1 => (b ρ1).bind fun f => f.then fun ρ2 => forF t b r ρ2 := rfl
theorem bindT_var (i : Nat) (d : D) (ρ : Env) : bindT (.var i) d ρ = some (setS ρ i (some (share d))) := rfl
theorem for_inv {t : Tg} {b : Env → Res Fw} (st : List D → Env → Prop) : ∀ (post pre : List D) (ρ : Env), st pre ρ → (∀ pre x ρ, st pre ρ → x ∈ post → ∃ ρ1 ρ2, bindT t x ρ = some ρ1 ∧ b ρ1 = .ok (.nx ρ2) ∧ st (pre ++ [x]) ρ2) → ∃ ρ', forF t b post ρ = .ok (.nx ρ') ∧ st (pre ++ post) ρ'
  | [], pre, ρ, h, _ => ⟨ρ, rfl, by rw [List.append_nil]; exact h⟩
  | x :: r, pre, ρ, h, hs => by
    obtain ⟨ρ1, ρ2, h1, h2, h3⟩ := hs pre x ρ h List.mem_cons_self
    obtain ⟨ρ', h4, h5⟩ := for_inv st r (pre ++ [x]) ρ2 h3 fun p y ρ k m => hs p y ρ k (List.mem_cons_of_mem _ m)
    refine ⟨ρ', ?_, by rw [List.append_assoc] at h5; exact h5⟩
    rw [for_cons, h1, of_some, bind_ok, h2, bind_ok, then_nx, h4]
theorem comp_nil (t : Tg) (own : List Nat) (ρ0 : Env) (b : Env → Res (Option D × Env)) (acc : List D) (ρ : Env) : compF t own ρ0 b acc [] ρ = .ok (acc, ρ) := rfl
theorem comp_cons (t : Tg) (own : List Nat) (ρ0 : Env) (b : Env → Res (Option D × Env)) (acc : List D) (x : D) (r : List D) (ρ : Env) : compF t own ρ0 b acc (x :: r) ρ = (Res.of (bindT t x (wipe ρ own))).bind fun ρ1 => (b ρ1).bind fun q => match q with
      | (some d, ρ2) => if Nat.blt acc.length LIM then (shareR d).bind fun d' => compF t own ρ0 b (acc ++ [d']) r ρ2 else .bad
      | (none, ρ2) => compF t own ρ0 b acc r ρ2 := rfl
section
variable {Φ : Calls} {M : Muts} {W : Nat} {ρ ρ1 ρ5 : Env}
theorem for_eq {t : Tg} {it : It} {src : List IE} {body : List IS} {ss xs : List D} {r : Res Fw} (h1 : evs Φ M src ρ = .ok (ss, ρ1)) (h2 : iterOf it ss = some xs) (h3 : forF t (fun ρ2 => exs Φ M W body ρ2) xs ρ1 = r) : ex Φ M W (.for_ t it src body) ρ = r := by
  rw [ex_for, h1, bind_ok]
  simp only [h2]
  exact h3
theorem comp_eq {own : List Nat} {elt : IE} {t : Tg} {it : It} {src ifs : List IE} {ss xs acc : List D} (h1 : evs Φ M src ρ = .ok (ss, ρ1)) (h2 : iterOf it ss = some xs) (h3 : compF t own ρ1 (fun ρ2 => (evIfs Φ M ifs ρ2).bind fun r3 =>
        if r3.1 then (ev Φ M elt r3.2).bind fun r4 => .ok (some r4.1, r4.2) else .ok (none, r3.2)) [] xs ρ1 = .ok (acc, ρ5)) : ev Φ M (.comp own elt t it src ifs) ρ = .ok (.lst .own acc, restore ρ1 (wipe ρ5 own) own) := by
  rw [evl_comp, h1, bind_ok]
  simp only [h2, h3, noErr_ok, bind_ok]
end
end QE
namespace QE
section
variable {T : List (Nat × FD)} {W : Nat}
theorem muts_at {f : Nat} {fd : FD} (h : lookF T f = some fd) : mutsOf T f = fd.muts := by unfold mutsOf; rw [h]
theorem at0 (p q r s : D) (f : Fl) : prim .ix [.lst f [p, q, r, s], .int 0] = .ok p := rfl
theorem at1 (p q r s : D) (f : Fl) : prim .ix [.lst f [p, q, r, s], .int 1] = .ok q := rfl
theorem at2 (p q r s : D) (f : Fl) : prim .ix [.lst f [p, q, r, s], .int 2] = .ok r := rfl
theorem at3 (p q r s : D) (f : Fl) : prim .ix [.lst f [p, q, r, s], .int 3] = .ok s := rfl
theorem st1 (p q r s d : D) : setItem (.lst .ownM [p, q, r, s]) (.int 1) d = some (.lst .ownM [p, d, r, s]) := rfl
theorem st2 (p q r s d : D) : setItem (.lst .ownM [p, q, r, s]) (.int 2) d = some (.lst .ownM [p, q, d, s]) := rfl
theorem st3 (p q r s d : D) : setItem (.lst .ownM [p, q, r, s]) (.int 3) d = some (.lst .ownM [p, q, r, d]) := rfl
theorem sh_int (i : Int) : shareR (.int i) = .ok (.int i) := rfl
theorem sh_str (i : List Nat) : shareR (.str i) = .ok (.str i) := rfl
theorem shr_int (i : Int) : share (.int i) = .int i := rfl
theorem shr_str (i : List Nat) : share (.str i) = .str i := rfl
theorem isM_int (i : Int) : isM (.int i) = false := rfl
theorem isM_str (i : List Nat) : isM (.str i) = false := rfl
theorem isM_ownM (i : List D) : isM (.lst .ownM i) = true := rfl

def iL (xs : List Int) : List D := xs.map .int
theorem iL_len (xs : List Int) : (iL xs).length = xs.length := List.length_map ..
theorem nth_map {α β : Type} (f : α → β) : ∀ (xs : List α) (k : Nat), nth (xs.map f) k = (xs[k]?).map f
  | [], k => by cases k <;> rfl
  | x :: r, 0 => rfl
  | x :: r, k + 1 => by simpa [nth] using nth_map f r k
theorem atI_nat {α : Type} {xs : List α} {k : Nat} (h : k < xs.length) : atI xs (k : Int) = nth xs k := by
  show ((if Nat.blt k xs.length then some k else none).bind fun k => nth xs k) = _
  rw [if_pos (Nat.blt_eq.mpr h)]
  rfl
theorem iL_at {xs : List Int} {k : Nat} (h : k < xs.length) : atI (iL xs) (k : Int) = some (.int (xs[k])) := by
  rw [atI_nat (by rw [iL_len]; exact h)]
  unfold iL
  rw [nth_map, List.getElem?_eq_getElem h]
  rfl
theorem asOlds_iL : ∀ xs : List Int, asOlds (iL xs) = iL xs
  | [] => rfl
  | x :: r => by show asOld (.int x) :: asOlds (iL r) = _; rw [asOlds_iL r]; rfl
theorem okArgs_iL : ∀ xs : List Int, okArgs (iL xs) = true
  | [] => rfl
  | x :: r => by show (okArg (.int x) && okArgs (iL r)) = _; rw [okArgs_iL r]; rfl
def rowD (f : Fl) (xs : List Int) (a b c : Int) : D := .lst f [.lst .old (iL xs), .int a, .int b, .int c]
structure RowOk (xs : List Int) (a b : Int) : Prop where
  a0 : 0 ≤ a
  b0 : 0 ≤ b
  b1 : b < 2147483647
theorem mulOk_b {b : Int} (h0 : 0 ≤ b) (h1 : b < 2147483647) : mulOk b 48271 = true := by
  unfold mulOk
  rw [Nat.blt_eq]
  have : b.natAbs.log2 ≤ 31 := by
    have : b.natAbs < 2 ^ 31 := by omega
    by_cases h : b.natAbs = 0
    · rw [h]; decide
    · have := (Nat.log2_lt h).mpr this
      omega
  have e : (48271 : Int).natAbs.log2 = 15 := by decide
  rw [e]; omega
theorem divOk_small {m : Int} (h0 : 0 < m) (h1 : m ≤ 1000000) : divOk m = true := by
  unfold divOk
  rw [Bool.and_eq_true, decide_eq_true_eq, Nat.blt_eq]
  refine ⟨h0, ?_⟩
  have : m.natAbs < 2 ^ 20 := by omega
  have := (Nat.log2_lt (by omega : m.natAbs ≠ 0)).mpr this
  omega
theorem p_pow18 : prim .pow [.int 10, .int 18] = .ok (.int 1000000000000000000) := by rfl
local macro_rules | `(tactic| walk_at "sim") => `(tactic| simp only [exs_cons, exs_nil, ex_iff, ex_asg, ex_setS, ex_ret, ex_expr, evB_eq, evl_pr, evOs_var, evOs_lit, evOs_pr, evOs_nil, List.cons_append, List.nil_append, getS0, getSs, setS0, setSs, bind_ok, bind_bad, ev_lit, ev_var, gets_slot, gets_val, gets_nil, Option.map_some, Option.bind_some, Option.isSome_some, p_gtI, p_geI, p_addI, p_sub, p_mulI, p_int1, p_mod, p_fdiv, p_lenL, at0, at1, at2, at3, st1, st2, st3, sh_int, shr_int, isM_int, noErr_ok, then_nx, then_rt, fin_rt, fin_nx, outs_some, outs_none, isM_ownM, ite_true, if_true, Bool.false_eq_true, if_false, decide_true, decide_false, Bool.not_true, Bool.not_false, Bool.and_true, Bool.true_and, Bool.and_self, *])
theorem tk_rest (n : Nat) (xs : List Int) (a b c m : Int) (hT : lookF T i__law_taken = some f__law_taken) (hm : 0 < m) (hc : 0 < c) (hd : divOk m = true) : call T W (n+1) i__law_taken [rowD .ownM xs a b c, .int m] = .ok (.int (c % m), [rowD .ownM xs a b (c / m)]) := by
  rw [call_at _ [some (rowD .ownM xs a b c), some (.int m), none, none] hT rfl rfl]
  have h1 : decide (0 < c) = true := decide_eq_true hc
  have h2 : decide (0 < m) = true := decide_eq_true hm
  clear hT
  unfold f__law_taken rowD
  walk_at "sim"
theorem tk_out (n : Nat) (xs : List Int) (a b c m : Int) (hT : lookF T i__law_taken = some f__law_taken) (hm : 0 < m) (hc : ¬ 0 < c) (hR : RowOk xs a b) (hl : (xs.length : Int) < a + 1) : call T W (n+1) i__law_taken [rowD .ownM xs a b c, .int m] = .ok (.int ((b * 48271 + 11) % 2147483647 / 7 % m), [rowD .ownM xs (a + 1) ((b * 48271 + 11) % 2147483647) c]) := by
  rw [call_at _ [some (rowD .ownM xs a b c), some (.int m), none, none] hT rfl rfl]
  have h1 : decide (0 < c) = false := decide_eq_false hc
  have h2 : decide (0 < m) = true := decide_eq_true hm
  have h3 : decide (((iL xs).length : Int) < a + 1) = true := by rw [iL_len]; exact decide_eq_true hl
  have h4 := mulOk_b hR.b0 hR.b1
  have h5 : divOk 7 = true := by decide +kernel
  have h6 : decide ((0 : Int) < 2147483647) = true := by decide
  clear hT hR
  unfold f__law_taken rowD
  walk_at "sim"
theorem tk_cell (n : Nat) (xs : List Int) (a b c m x : Int) (hT : lookF T i__law_taken = some f__law_taken) (hm : 0 < m) (hc : ¬ 0 < c) (hR : RowOk xs a b) (hl : ¬ (xs.length : Int) < a + 1) (hx : atI (iL xs) a = some (.int x)) (hd : divOk m = true) :
    call T W (n+1) i__law_taken [rowD .ownM xs a b c, .int m] = .ok (.int (x % m), [rowD .ownM xs (a + 1) ((b * 48271 + x + 11) % 2147483647) (if 1000000000000000000 ≤ x then x / m else c)]) := by
  rw [call_at _ [some (rowD .ownM xs a b c), some (.int m), none, none] hT rfl rfl]
  have h3 : decide (((iL xs).length : Int) < a + 1) = false := by rw [iL_len]; exact decide_eq_false hl
  have h4 := mulOk_b hR.b0 hR.b1
  have h6 : decide ((0 : Int) < 2147483647) = true := by decide
  have h7 : a + 1 - 1 = a := by omega
  have h8 : prim .ix [.lst .old (iL xs), .int a] = .ok (.int x) := by rw [p_ixL, hx]; rfl
  have h9 := p_pow18
  by_cases hq : 1000000000000000000 ≤ x
  · clear hT hR hx
    unfold f__law_taken rowD
    walk_at "sim"
  · clear hT hR hx
    unfold f__law_taken rowD
    walk_at "sim"
theorem taken {xs : List Int} {a b c m : Int} {n : Nat} (hT : lookF T i__law_taken = some f__law_taken) (hR : RowOk xs a b) (h0 : 0 < m) (h1 : m ≤ 1000000) (hn : 1 ≤ n) :
    ∃ r a' b' c', call T W n i__law_taken [rowD .ownM xs a b c, .int m] = .ok (.int r, [rowD .ownM xs a' b' c']) ∧ 0 ≤ r ∧ r < m ∧ RowOk xs a' b' := by
  obtain ⟨k, rfl⟩ : ∃ k, n = k + 1 := ⟨n - 1, by omega⟩
  have hd := divOk_small h0 h1
  by_cases hc : 0 < c
  · exact ⟨_, _, _, _, tk_rest k xs a b c m hT h0 hc hd, Int.emod_nonneg _ (by omega), Int.emod_lt_of_pos _ h0, hR⟩
  · have nb : ∀ z : Int, 0 ≤ z % 2147483647 ∧ z % 2147483647 < 2147483647 := fun z => ⟨Int.emod_nonneg _ (by omega), Int.emod_lt_of_pos _ (by omega)⟩
    by_cases hl : (xs.length : Int) < a + 1
    · exact ⟨_, _, _, _, tk_out k xs a b c m hT h0 hc hR hl, Int.emod_nonneg _ (by omega), Int.emod_lt_of_pos _ h0, ⟨by have := hR.a0; omega, (nb _).1, (nb _).2⟩⟩
    · have ha := hR.a0
      obtain ⟨j, rfl⟩ : ∃ j : Nat, a = j := ⟨a.toNat, by omega⟩
      have hx := iL_at (xs := xs) (k := j) (by omega)
      exact ⟨_, _, _, _, tk_cell k xs j b c m _ hT h0 hc hR hl hx hd, Int.emod_nonneg _ (by omega), Int.emod_lt_of_pos _ h0, ⟨by omega, (nb _).1, (nb _).2⟩⟩

structure Plain (d : D) : Prop where
  old : asOld d = d
  arg : okArg d = true
  sh : share d = d
  m : isM d = false
  o : ownD d = false
  nm : notM d = true
theorem Plain.int (i : Int) : Plain (.int i) := ⟨rfl, rfl, rfl, rfl, rfl, rfl⟩
theorem Plain.str (i : List Nat) : Plain (.str i) := ⟨rfl, rfl, rfl, rfl, rfl, rfl⟩
theorem Plain.bl (i : Bool) : Plain (.bl i) := ⟨rfl, rfl, rfl, rfl, rfl, rfl⟩
theorem Plain.non : Plain .non := ⟨rfl, rfl, rfl, rfl, rfl, rfl⟩
theorem Plain.tupI (xs : List Int) : Plain (.tup (iL xs)) := ⟨by show D.tup (asOlds (iL xs)) = _; rw [asOlds_iL], okArgs_iL xs, rfl, rfl, rfl, rfl⟩
inductive Ops (ρ : Env) : List Opd → List D → Prop
  | nil : Ops ρ [] []
  | val {d : D} {os : List Opd} {ds : List D} : Plain d → Ops ρ os ds → Ops ρ (.val d :: os) (d :: ds)
  | slot {i : Nat} {d : D} {os : List Opd} {ds : List D} : getS ρ i = some d → Plain d → Ops ρ os ds → Ops ρ (.slot i :: os) (d :: ds)
  | lst {xs : List D} {os : List Opd} {ds : List D} : okArgs xs = true → asOlds xs = xs → Ops ρ os ds → Ops ρ (.val (.lst .own xs) :: os) (.lst .old xs :: ds)
  | slotL {i : Nat} {f : Fl} {xs : List D} {os : List Opd} {ds : List D} : getS ρ i = some (.lst f xs) → f = .fr ∨ f = .old → okArgs xs = true → asOlds xs = xs → Ops ρ os ds → Ops ρ (.slot i :: os) (.lst .old xs :: ds)
theorem setS_same : ∀ {ρ : Env} {i : Nat} {d : D}, getS ρ i = some d → setS ρ i (some d) = ρ
  | [], _, _, h => by cases h
  | x :: r, 0, d, h => by have h : x = some d := h; rw [h]; rfl
  | x :: r, i + 1, d, h => congrArg (x :: ·) (setS_same (ρ := r) h)
structure OpsB (ρ : Env) (os os' : List Opd) (ds : List D) : Prop where
  s : shareOs none os = os'
  v : valsOk none os = true
  h : handOver ρ none os' = some ds
  l : lends ρ none os' = false
  sl : shareLent none os' ρ = some ρ
theorem Ops.share {ρ : Env} : ∀ {os : List Opd} {ds : List D}, Ops ρ os ds → ∃ os', OpsB ρ os os' ds ∧ ∀ i d0, getS ρ i = some d0 → ownD d0 = true → allNot i os' = true
  | _, _, .nil => ⟨[], ⟨rfl, rfl, rfl, rfl, rfl⟩, fun _ _ _ _ => rfl⟩
  | _, _, .val (d := d) (os := os) (ds := ds) p r => by
    obtain ⟨os', ⟨h1, h2, h3, h4, h5⟩, h6⟩ := Ops.share r
    refine ⟨.val d :: os', ⟨?_, ?_, ?_, ?_, ?_⟩, fun i d0 e o => ?_⟩
    · show Opd.val (QE.share d) :: shareOs none os = _
      rw [p.sh, h1]
    · show ((false || !isM d) && valsOk none os) = true
      rw [p.m, h2]; rfl
    · show (give d).bind (fun d' => (handOver ρ none os').map (d' :: ·)) = _
      unfold give
      rw [if_pos p.arg, h3, p.old]; rfl
    · show ((true && ownD d) || lends ρ none os') = false
      rw [p.o, h4]; rfl
    · exact h5
    · show (true && allNot i os') = true
      rw [h6 i d0 e o]; rfl
  | _, _, .slot (i := i) (d := d) (os := os) (ds := ds) e p r => by
    obtain ⟨os', ⟨h1, h2, h3, h4, h5⟩, h6⟩ := Ops.share r
    refine ⟨.slot i :: os', ⟨?_, ?_, ?_, ?_, ?_⟩, fun j d0 e0 o => ?_⟩
    · show Opd.slot i :: shareOs none os = _
      rw [h1]
    · exact h2
    · show (getS ρ i).bind (fun d => (give d).bind (fun d' => (handOver ρ none os').map (d' :: ·))) = _
      rw [e]
      show (give d).bind (fun d' => (handOver ρ none os').map (d' :: ·)) = _
      unfold give
      rw [if_pos p.arg, h3, p.old]; rfl
    · show ((true && (match getS ρ i with | some d => ownD d | none => false)) || lends ρ none os') = false
      rw [e, h4]
      show ((true && ownD d) || false) = false
      rw [p.o]; rfl
    · show (match getS ρ i with | some d => if isM d then none else shareLent none os' (setS ρ i (some (QE.share d))) | none => none) = _
      rw [e]
      show (if isM d then none else shareLent none os' (setS ρ i (some (QE.share d)))) = _
      rw [p.m, p.sh, setS_same e]
      exact h5
    · show ((!Nat.beq i j) && allNot j os') = true
      rw [h6 j d0 e0 o, Bool.and_true]
      cases hb : Nat.beq i j with
      | false => rfl
      | true =>
        have := Nat.eq_of_beq_eq_true hb
        subst this
        rw [e] at e0; cases e0
        rw [p.o] at o; cases o
  | _, _, .lst (xs := xs) (os := os) (ds := ds) k1 k2 r => by
    obtain ⟨os', ⟨h1, h2, h3, h4, h5⟩, h6⟩ := Ops.share r
    refine ⟨.val (.lst .fr xs) :: os', ⟨?_, ?_, ?_, ?_, ?_⟩, fun i d0 e o => ?_⟩
    · show Opd.val (.lst .fr xs) :: shareOs none os = _
      rw [h1]
    · exact h2
    · show (if okArgs xs then some (D.lst .old (asOlds xs)) else none).bind (fun d' => (handOver ρ none os').map (d' :: ·)) = _
      rw [if_pos k1, h3, k2]; rfl
    · exact h4
    · exact h5
    · show (true && allNot i os') = true
      rw [h6 i d0 e o]; rfl
  | _, _, .slotL (i := i) (f := f) (xs := xs) (os := os) (ds := ds) e hf k1 k2 r => by
    obtain ⟨os', ⟨h1, h2, h3, h4, h5⟩, h6⟩ := Ops.share r
    have o1 : ownD (.lst f xs) = false := by rcases hf with rfl | rfl <;> rfl
    have m1 : isM (.lst f xs) = false := by rcases hf with rfl | rfl <;> rfl
    have s1 : QE.share (.lst f xs) = .lst f xs := by rcases hf with rfl | rfl <;> rfl
    refine ⟨.slot i :: os', ⟨?_, ?_, ?_, ?_, ?_⟩, fun j d0 e0 o => ?_⟩
    · show Opd.slot i :: shareOs none os = _
      rw [h1]
    · exact h2
    · show (getS ρ i).bind (fun d => (give d).bind (fun d' => (handOver ρ none os').map (d' :: ·))) = _
      rw [e]
      show (if okArgs xs then some (D.lst .old (asOlds xs)) else none).bind (fun d' => (handOver ρ none os').map (d' :: ·)) = _
      rw [if_pos k1, h3, k2]; rfl
    · show ((true && (match getS ρ i with | some d => ownD d | none => false)) || lends ρ none os') = false
      rw [e, h4]
      show ((true && ownD (.lst f xs)) || false) = false
      rw [o1]; rfl
    · show (match getS ρ i with | some d => if isM d then none else shareLent none os' (setS ρ i (some (QE.share d))) | none => none) = _
      rw [e]
      show (if isM (.lst f xs) then none else shareLent none os' (setS ρ i (some (QE.share (.lst f xs))))) = _
      rw [m1, s1, setS_same e]
      exact h5
    · show ((!Nat.beq i j) && allNot j os') = true
      rw [h6 j d0 e0 o, Bool.and_true]
      cases hb : Nat.beq i j with
      | false => rfl
      | true =>
        have := Nat.eq_of_beq_eq_true hb
        subst this
        rw [e] at e0; cases e0
        rw [o1] at o; cases o
theorem doCall_row {Φ : Calls} {M : Muts} {ρ : Env} {f i : Nat} {os : List Opd} {ds : List D} {r : D} {fl : Fl} {xs : List Int} {a b c a' b' c' : Int} (hM : M f = some 0) (hf : fl = .own ∨ fl = .ownM) (hi : getS ρ i = some (rowD fl xs a b c)) (ho : Ops ρ os ds)
    (hc : Φ f (rowD .ownM xs a b c :: ds) = .ok (r, [rowD .ownM xs a' b' c'])) (hr : notM r = true) : doCall Φ M f (.slot i :: os) ρ = .ok (r, setS ρ i (some (rowD fl xs a' b' c'))) := by
  obtain ⟨os', ⟨h1, h2, h3, h4, h5⟩, h6⟩ := ho.share
  have hnp : ownD (rowD fl xs a b c) = true := by rcases hf with rfl | rfl <;> rfl
  have g : giveM (rowD fl xs a b c) = some (rowD .ownM xs a b c) := by
    have k1 : okArgs [D.lst .old (iL xs), .int a, .int b, .int c] = true := by
      show (okArgs (iL xs) && true) = true
      rw [okArgs_iL]; rfl
    have k2 : asOlds [D.lst .old (iL xs), .int a, .int b, .int c] = [D.lst .old (iL xs), .int a, .int b, .int c] := by
      show [D.lst .old (asOlds (iL xs)), .int a, .int b, .int c] = _
      rw [asOlds_iL]
    rcases hf with rfl | rfl
    · show (if okArgs [D.lst .old (iL xs), .int a, .int b, .int c] then some (D.lst .ownM (asOlds [D.lst .old (iL xs), .int a, .int b, .int c])) else none) = _
      rw [if_pos k1, k2]; rfl
    · show (if okArgs [D.lst .old (iL xs), .int a, .int b, .int c] then some (D.lst .ownM (asOlds [D.lst .old (iL xs), .int a, .int b, .int c])) else none) = _
      rw [if_pos k1, k2]; rfl
  have hno : noOldOuts [rowD .ownM xs a' b' c'] = false := rfl
  have e1 : shareOs (some 0) (.slot i :: os) = .slot i :: os' := congrArg (Opd.slot i :: ·) h1
  have e2 : valsOk (some 0) (.slot i :: os) = true := h2
  have e3 : soleM (some 0) (.slot i :: os') = true := h6 i _ hi hnp
  have e4 : handOver ρ (some 0) (.slot i :: os') = some (rowD .ownM xs a b c :: ds) := by
    show (getS ρ i).bind (fun d => (giveM d).bind (fun d' => (handOver ρ none os').map (d' :: ·))) = _
    rw [hi]
    show (giveM _).bind (fun d' => (handOver ρ none os').map (d' :: ·)) = _
    rw [g, h3]; rfl
  have e5 : shareLent (some 0) (.slot i :: os') ρ = some ρ := h5
  have e6 : lends ρ (some 0) (.slot i :: os') = false := h4
  have e7 : takeBack (some 0) (.slot i :: os') [rowD .ownM xs a' b' c'] ρ = some (setS ρ i (some (rowD fl xs a' b' c'))) := by
    show (match getS ρ i with | some (.lst f _) => some (setS ρ i (some (.lst f [D.lst .old (iL xs), .int a', .int b', .int c']))) | _ => none) = _
    rw [hi]; rfl
  unfold doCall
  rw [hM]
  simp only [e1, e2, e3, Bool.and_self, if_true, e4, hc, hr, Bool.not_true, Bool.false_eq_true, if_false, hno, Bool.and_false, e5, e6, e7]
end
end QE
namespace QL
open QE
theorem it_list (f : Fl) (xs : List D) : iterOf .list [.lst f xs] = some xs := rfl
theorem it_tup (xs : List D) : iterOf .list [.tup xs] = some xs := rfl
theorem it_str (s : List Nat) : iterOf .list [.str s] = some (signs s) := rfl
theorem isM_row (xs : List Int) (a b c : Int) : isM (rowD .ownM xs a b c) = true := rfl
theorem rest1 (ρ0 ρ : Env) (i : Nat) : restore ρ0 ρ [i] = setS ρ i (getS ρ0 i) := rfl
theorem wipe1 (ρ : Env) (i : Nat) : wipe ρ [i] = setS ρ i none := rfl
theorem limT2 (a b : D) : limT [a, b] = .ok (.tup [a, b]) := rfl
theorem bind2 (i j : Nat) (a b : D) (ρ : Env) : bindT (.tup [.var i, .var j]) (.tup [a, b]) ρ = some (setS (setS ρ i (some (share a))) j (some (share b))) := rfl
def Word (m : Nat) (w : List Nat) : Prop := ∀ c ∈ w, 97 ≤ c ∧ c < 97 + m
theorem Word.app {m : Nat} {w : List Nat} {c : Nat} (h : Word m w) (h0 : 97 ≤ c) (h1 : c < 97 + m) : Word m (w ++ [c]) := fun x hx => by
  rcases List.mem_append.mp hx with q | q
  · exact h x q
  · rw [List.mem_singleton.mp q]; exact ⟨h0, h1⟩
section
variable {T : List (Nat × FD)} {W : Nat}
local macro_rules | `(tactic| walk_at "sim") => `(tactic| simp only [exs_cons, exs_nil, ex_iff, ex_asg, ex_asgT, ex_setS, ex_ret, ex_expr, evB_eq, evl_pr, ev_call, ev_tup, evs_cons, evs_nil, evOs_var, evOs_lit, evOs_pr, evOs_call, evOs_nil, List.cons_append, List.nil_append, getS0, getSs, setS0, setSs, bind_ok, bind_bad, of_some, ev_lit, ev_var, gets_slot, gets_val, gets_nil, Option.map_some, Option.bind_some, Option.isSome_some, p_gtI, p_geI, p_addI, p_addS, p_sub, p_mulI, p_int1, p_mod, p_fdiv, p_lenL, p_tupL, sh_int, sh_str, shr_int, shr_str, isM_int, isM_str, isM_ownM, noErr_ok, then_nx, then_rt, fin_rt, fin_nx, outs_some, outs_none, limT2, bind2, bindT_var, isM_row, rest1, wipe1, evIfs_nil, evOs_comp, ite_true, if_true, Bool.false_eq_true, if_false, decide_true, decide_false, Bool.not_true, Bool.not_false, Bool.and_true, Bool.true_and, Bool.and_self, *])
theorem draw {ρ : Env} {i : Nat} {fl : Fl} {xs : List Int} {a b c m : Int} {o : Opd} {n : Nat} (hT : lookF T i__law_taken = some f__law_taken) (hf : fl = .own ∨ fl = .ownM) (hi : getS ρ i = some (rowD fl xs a b c)) (ho : Ops ρ [o] [.int m]) (hR : RowOk xs a b) (h0 : 0 < m) (h1 : m ≤ 1000000) (hn : 1 ≤ n) :
    ∃ r a' b' c', doCall (call T W n) (mutsOf T) i__law_taken [.slot i, o] ρ = .ok (.int r, setS ρ i (some (rowD fl xs a' b' c'))) ∧ 0 ≤ r ∧ r < m ∧ RowOk xs a' b' := by
  obtain ⟨r, a', b', c', h, k⟩ := taken (T := T) (W := W) hT hR h0 h1 hn
  exact ⟨r, a', b', c', doCall_row (muts_at hT) hf hi ho h rfl, k⟩
end
end QL
namespace QL
open QE
def backC (M : Muts) (f : Nat) (os : List Opd) (d : D) (outs : List D) (ρ : Env) : Res (D × Env) :=
  if !notM d then .bad else if noOld d && noOldOuts outs then (match takeBack (M f) os outs ρ with
        | some ρ' => .ok (d, ρ')
        | none => .bad) else match shareLent (M f) os ρ with
      | some ρb => if lends ρb (M f) os then .bad else match takeBack (M f) os outs ρb with
        | some ρ' => .ok (d, ρ')
        | none => .bad
      | none => .bad
theorem doCall_of {Φ : Calls} {M : Muts} {ρ : Env} {f : Nat} {os0 os : List Opd} {ds : List D} {d : D} {outs : List D} {X : Res (D × Env)} (h1 : shareOs (M f) os0 = os) (h2 : (valsOk (M f) os0 && soleM (M f) os) = true) (h3 : handOver ρ (M f) os = some ds) (hc : Φ f ds = .ok (d, outs)) (h4 : backC M f os d outs ρ = X) : doCall Φ M f os0 ρ = X := by
  subst h1
  unfold doCall
  simp only [h2, if_true, h3, hc]
  exact h4
section
variable {T : List (Nat × FD)} {W : Nat}
theorem getS_1 (x : Option D) (y : Option D) : getS [x, y] 1 = y := rfl
theorem pick_sp {xs : List Int} {a b c : Int} {items : List D} {m : Nat} {n : Nat} (hT : lookF T i__law_taken = some f__law_taken) (hP : lookF T i__law_pick = some f__law_pick) (hm : items.length = m) (hR : RowOk xs a b) (h0 : 0 < m) (h1 : m ≤ 1000) (hn : 2 ≤ n) :
    ∃ (r a' b' c' : Int), 0 ≤ r ∧ r < m ∧ RowOk xs a' b' ∧ ∀ v, prim .ix [.lst .old items, .int r] = .ok v → call T W n i__law_pick [rowD .ownM xs a b c, .lst .old items] = .ok (v, [rowD .ownM xs a' b' c']) := by
  obtain ⟨k, rfl⟩ : ∃ k, n = k + 2 := ⟨n - 2, by omega⟩
  obtain ⟨r, a', b', c', h, r0, r1, R⟩ := draw (T := T) (W := W) (n := k + 1) (ρ := [some (rowD .ownM xs a b c), some (.lst .old items)]) (i := 0) (m := (m : Int)) hT (.inr rfl) rfl (.val (.int _) .nil) hR (by omega) (by omega) (by omega)
  refine ⟨r, a', b', c', r0, r1, R, fun v hv => ?_⟩
  rw [call_at _ [some (rowD .ownM xs a b c), some (.lst .old items)] hP rfl rfl]
  have e1 : prim .len [.lst .old items] = .ok (.int (m : Int)) := by subst hm; rfl
  show fin (some 0) (exs (call T W (k + 1)) (mutsOf T) W [IS.ret (IE.pr (Pr.ix) [IE.var 1, IE.call 1659549907034303464433006 [IE.var 0, IE.pr (Pr.len) [IE.var 1]]])] _) = _
  simp only [exs_cons, exs_nil, ex_ret, evl_pr, ev_call, evOs_var, evOs_pr, evOs_call, evOs_nil, List.cons_append, List.nil_append, getS0, getSs, setS0, setSs, bind_ok, of_some, gets_slot, gets_val, gets_nil, Option.map_some, Option.bind_some, Option.isSome_some, isM_row, noErr_ok, then_rt, fin_rt, outs_some, Bool.false_eq_true, if_false, if_true, h, hv, e1, *]
theorem giveM_row (xs : List Int) (a b c : Int) : giveM (rowD .own xs a b c) = some (rowD .ownM xs a b c) := by
  have k1 : okArgs [D.lst .old (iL xs), .int a, .int b, .int c] = true := by
    show (okArgs (iL xs) && true) = true
    rw [okArgs_iL]; rfl
  have k2 : asOlds [D.lst .old (iL xs), .int a, .int b, .int c] = [D.lst .old (iL xs), .int a, .int b, .int c] := by
    show [D.lst .old (asOlds (iL xs)), .int a, .int b, .int c] = _
    rw [asOlds_iL]
  show (if okArgs [D.lst .old (iL xs), .int a, .int b, .int c] then some (D.lst .ownM (asOlds [D.lst .old (iL xs), .int a, .int b, .int c])) else none) = _
  rw [if_pos k1, k2]; rfl
theorem doCall_pick {Φ : Calls} {M : Muts} {ρ : Env} {f : Nat} {it0 it1 it2 r : D} {xs : List Int} {a b c a' b' c' : Int} (hM : M f = some 0) (hi : getS ρ 1 = some (rowD .own xs a b c))
    (e1 : shareOs (some 0) [.slot 1, .val it0] = [.slot 1, .val it1]) (e2 : valsOk (some 0) [.slot 1, .val it0] = true) (e3 : soleM (some 0) [.slot 1, .val it1] = true) (h3 : handOver ρ none [.val it1] = some [it2])
    (e5 : shareLent (some 0) [.slot 1, .val it1] ρ = some ρ) (e6 : lends ρ (some 0) [.slot 1, .val it1] = false)
    (hc : Φ f [rowD .ownM xs a b c, it2] = .ok (r, [rowD .ownM xs a' b' c'])) (hr : notM r = true) : doCall Φ M f [.slot 1, .val it0] ρ = .ok (r, setS ρ 1 (some (rowD .own xs a' b' c'))) := by
  have hno : noOldOuts [rowD .ownM xs a' b' c'] = false := rfl
  have e4 : handOver ρ (some 0) [.slot 1, .val it1] = some [rowD .ownM xs a b c, it2] := by
    show (getS ρ 1).bind (fun d => (giveM d).bind (fun d' => (handOver ρ none [.val it1]).map (d' :: ·))) = _
    rw [hi]
    show (giveM _).bind (fun d' => (handOver ρ none [.val it1]).map (d' :: ·)) = _
    rw [giveM_row, h3]; rfl
  have e7 : takeBack (some 0) [.slot 1, .val it1] [rowD .ownM xs a' b' c'] ρ = some (setS ρ 1 (some (rowD .own xs a' b' c'))) := by
    show (match getS ρ 1 with | some (.lst f _) => some (setS ρ 1 (some (.lst f [D.lst .old (iL xs), .int a', .int b', .int c']))) | _ => none) = _
    rw [hi]; rfl
  unfold doCall
  rw [hM]
  simp only [e1, e2, e3, Bool.and_self, if_true, e4, hc, hr, Bool.not_true, Bool.false_eq_true, if_false, hno, Bool.and_false, e5, e6, e7]
theorem exs_to {Φ : Calls} {M : Muts} {L : List IS} (a b : Nat) (hab : a ≤ b) {ρ ρ' : Env} (h : exs Φ M W ((L.drop a).take (b - a)) ρ = .ok (.nx ρ')) : exs Φ M W (L.drop a) ρ = exs Φ M W (L.drop b) ρ' := by
  have e : L.drop a = (L.drop a).take (b - a) ++ L.drop b := by
    have e2 : (L.drop a).drop (b - a) = L.drop b := by rw [List.drop_drop]; congr 1; omega
    rw [← e2, List.take_append_drop]
  rw [e, exs_app, h, bind_ok, then_nx]
theorem st_draw {Φ : Calls} {M : Muts} {ρ ρ1 : Env} {f j : Nat} {k m r : Int} {xs : List Int} {a b c : Int} (hi : getS ρ 1 = some (rowD .own xs a b c)) (h : doCall Φ M f [.slot 1, .val (.int m)] ρ = .ok (.int r, ρ1)) : exs Φ M W [.asg (.var j) (.pr .add [.lit (.int k), .call f [.var 1, .lit (.int m)]])] ρ = .ok (.nx (setS ρ1 j (some (.int (k + r))))) := by
  have e : isM (rowD .own xs a b c) = false := rfl
  simp only [exs_cons, exs_nil, ex_asg, evl_pr, ev_call, ev_lit, evOs_var, evOs_lit, evOs_pr, evOs_call, evOs_nil, List.cons_append, List.nil_append, hi, e, bind_ok, of_some, gets_slot, gets_val, gets_nil, Option.map_some, Option.bind_some, noErr_ok, then_nx, Bool.false_eq_true, if_false, if_true, h, p_addI]
theorem st_pickT {Φ : Calls} {M : Muts} {ρ ρ1 ρ2 : Env} {f : Nat} {ts : List Tg} {e : IE} {items v : D} (h0 : evOs Φ M [.var 1, e] ρ = .ok ([.slot 1, .val items], ρ)) (h : doCall Φ M f [.slot 1, .val items] ρ = .ok (v, ρ1)) (h2 : bindT (.tup ts) v ρ1 = some ρ2) : exs Φ M W [.asg (.tup ts) (.call f [.var 1, e])] ρ = .ok (.nx ρ2) := by
  rw [exs_cons, ex_asgT, ev_call, h0, bind_ok, h, bind_ok, h2, of_some, bind_ok, bind_ok, then_nx, exs_nil]
theorem st_pickV {Φ : Calls} {M : Muts} {ρ ρ1 : Env} {f i : Nat} {e : IE} {items v : D} (h0 : evOs Φ M [.var 1, e] ρ = .ok ([.slot 1, .val items], ρ)) (h : doCall Φ M f [.slot 1, .val items] ρ = .ok (v, ρ1)) : exs Φ M W [.asg (.var i) (.call f [.var 1, e])] ρ = .ok (.nx (setS ρ1 i (some v))) := by
  rw [exs_cons, ex_asg, ev_call, h0, bind_ok, h, bind_ok, bind_ok, then_nx, exs_nil]
theorem doCall_pickG {Φ : Calls} {M : Muts} {ρ ρb : Env} {f : Nat} {o0 o1 : Opd} {it2 r : D} {xs : List Int} {a b c a' b' c' : Int} (hM : M f = some 0) (hi : getS ρ 1 = some (rowD .own xs a b c)) (hi' : getS ρb 1 = some (rowD .own xs a b c))
    (e1 : shareOs (some 0) [.slot 1, o0] = [.slot 1, o1]) (e2 : valsOk (some 0) [.slot 1, o0] = true) (e3 : soleM (some 0) [.slot 1, o1] = true) (h3 : handOver ρ none [o1] = some [it2])
    (e5 : shareLent (some 0) [.slot 1, o1] ρ = some ρb) (e6 : lends ρb (some 0) [.slot 1, o1] = false)
    (hc : Φ f [rowD .ownM xs a b c, it2] = .ok (r, [rowD .ownM xs a' b' c'])) (hr : notM r = true) : doCall Φ M f [.slot 1, o0] ρ = .ok (r, setS ρb 1 (some (rowD .own xs a' b' c'))) := by
  have hno : noOldOuts [rowD .ownM xs a' b' c'] = false := rfl
  have e4 : handOver ρ (some 0) [.slot 1, o1] = some [rowD .ownM xs a b c, it2] := by
    show (getS ρ 1).bind (fun d => (giveM d).bind (fun d' => (handOver ρ none [o1]).map (d' :: ·))) = _
    rw [hi]
    show (giveM _).bind (fun d' => (handOver ρ none [o1]).map (d' :: ·)) = _
    rw [giveM_row, h3]; rfl
  have e7 : takeBack (some 0) [.slot 1, o1] [rowD .ownM xs a' b' c'] ρb = some (setS ρb 1 (some (rowD .own xs a' b' c'))) := by
    show (match getS ρb 1 with | some (.lst f _) => some (setS ρb 1 (some (.lst f [D.lst .old (iL xs), .int a', .int b', .int c']))) | _ => none) = _
    rw [hi']; rfl
  unfold doCall
  rw [hM]
  simp only [e1, e2, e3, Bool.and_self, if_true, e4, hc, hr, Bool.not_true, Bool.false_eq_true, if_false, hno, Bool.and_false, e5, e6, e7]
theorem st_drawP {Φ : Calls} {M : Muts} {ρ ρ1 : Env} {f j : Nat} {p q k m r : Int} {xs : List Int} {a b c : Int} (hi : getS ρ 1 = some (rowD .own xs a b c)) (hp : prim .pow [.int p, .int q] = .ok (.int k)) (h : doCall Φ M f [.slot 1, .val (.int m)] ρ = .ok (.int r, ρ1)) : exs Φ M W [.asg (.var j) (.pr .add [.pr .pow [.lit (.int p), .lit (.int q)], .call f [.var 1, .lit (.int m)]])] ρ = .ok (.nx (setS ρ1 j (some (.int (k + r))))) := by
  have e : isM (rowD .own xs a b c) = false := rfl
  simp only [exs_cons, exs_nil, ex_asg, evl_pr, ev_call, ev_lit, evOs_var, evOs_lit, evOs_pr, evOs_call, evOs_nil, List.cons_append, List.nil_append, hi, e, bind_ok, of_some, gets_slot, gets_val, gets_nil, Option.map_some, Option.bind_some, noErr_ok, then_nx, Bool.false_eq_true, if_false, if_true, h, hp, p_addI]
theorem st_pickTG {Φ : Calls} {M : Muts} {ρ ρ0 ρ1 ρ2 : Env} {f : Nat} {ts : List Tg} {e : IE} {o : Opd} {v : D} (h0 : evOs Φ M [.var 1, e] ρ = .ok ([.slot 1, o], ρ0)) (h : doCall Φ M f [.slot 1, o] ρ0 = .ok (v, ρ1)) (h2 : bindT (.tup ts) v ρ1 = some ρ2) : exs Φ M W [.asg (.tup ts) (.call f [.var 1, e])] ρ = .ok (.nx ρ2) := by
  rw [exs_cons, ex_asgT, ev_call, h0, bind_ok, h, bind_ok, h2, of_some, bind_ok, bind_ok, then_nx, exs_nil]
theorem st_pickVG {Φ : Calls} {M : Muts} {ρ ρ0 ρ1 : Env} {f i : Nat} {e : IE} {o : Opd} {v : D} (h0 : evOs Φ M [.var 1, e] ρ = .ok ([.slot 1, o], ρ0)) (h : doCall Φ M f [.slot 1, o] ρ0 = .ok (v, ρ1)) : exs Φ M W [.asg (.var i) (.call f [.var 1, e])] ρ = .ok (.nx (setS ρ1 i (some v))) := by
  rw [exs_cons, ex_asg, ev_call, h0, bind_ok, h, bind_ok, bind_ok, then_nx, exs_nil]
end
end QL
namespace K04
open QE QL
abbrev Φ0 : Calls := call T0 100000 39
abbrev M0 : Muts := mutsOf T0
abbrev B0 : List IS := f_law.body
def aN (n : Nat) : List Nat := List.replicate n 97
theorem p0 (ns : List Int) : exs Φ0 M0 100000 ((B0.drop 0).take (1 - 0)) [some (.lst .old (iL ns)), none, none, none, none, none, none, none, none, none, none, none] = .ok (.nx [some (.lst .old (iL ns)), some (rowD .own ns 0 4604 0), none, none, none, none, none, none, none, none, none, none]) := by kernel_rfl
theorem q2 (x0 x1 x2 : Option D) : exs Φ0 M0 100000 ((B0.drop 2).take (4 - 2)) [x0, x1, x2, none, none, none, none, none, none, none, none, none] = .ok (.nx [x0, x1, x2, none, none, none, none, none, none, none, none, none]) := by kernel_rfl
theorem q4_0 (x0 x1 : Option D) : (List.range 15).map (fun r : Nat => exs Φ0 M0 100000 ((B0.drop 4).take (5 - 4)) [x0, x1, some (.int (1 + ((0 + r : Nat) : Int))), none, none, none, none, none, none, none, none, none]) = (List.range 15).map (fun r : Nat => .ok (.nx [x0, x1, some (.int (1 + ((0 + r : Nat) : Int))), none, none, none, none, none, none, none, none, none])) := by kernel_rfl
theorem q4_15 (x0 x1 : Option D) : (List.range 15).map (fun r : Nat => exs Φ0 M0 100000 ((B0.drop 4).take (5 - 4)) [x0, x1, some (.int (1 + ((15 + r : Nat) : Int))), none, none, none, none, none, none, none, none, none]) = (List.range 15).map (fun r : Nat => .ok (.nx [x0, x1, some (.int (1 + ((15 + r : Nat) : Int))), none, none, none, none, none, none, none, none, none])) := by kernel_rfl
theorem q4_30 (x0 x1 : Option D) : (List.range 15).map (fun r : Nat => exs Φ0 M0 100000 ((B0.drop 4).take (5 - 4)) [x0, x1, some (.int (1 + ((30 + r : Nat) : Int))), none, none, none, none, none, none, none, none, none]) = (List.range 15).map (fun r : Nat => .ok (.nx [x0, x1, some (.int (1 + ((30 + r : Nat) : Int))), none, none, none, none, none, none, none, none, none])) := by kernel_rfl
theorem q4_45 (x0 x1 : Option D) : (List.range 15).map (fun r : Nat => exs Φ0 M0 100000 ((B0.drop 4).take (5 - 4)) [x0, x1, some (.int (1 + ((45 + r : Nat) : Int))), none, none, none, none, none, none, none, none, none]) = (List.range 15).map (fun r : Nat => .ok (.nx [x0, x1, some (.int (1 + ((45 + r : Nat) : Int))), none, none, none, none, none, none, none, none, none])) := by kernel_rfl
theorem q4_60 (x0 x1 : Option D) : (List.range 15).map (fun r : Nat => exs Φ0 M0 100000 ((B0.drop 4).take (5 - 4)) [x0, x1, some (.int (1 + ((60 + r : Nat) : Int))), none, none, none, none, none, none, none, none, none]) = (List.range 15).map (fun r : Nat => .ok (.nx [x0, x1, some (.int (1 + ((60 + r : Nat) : Int))), none, none, none, none, none, none, none, none, none])) := by kernel_rfl
theorem q4_75 (x0 x1 : Option D) : (List.range 15).map (fun r : Nat => exs Φ0 M0 100000 ((B0.drop 4).take (5 - 4)) [x0, x1, some (.int (1 + ((75 + r : Nat) : Int))), none, none, none, none, none, none, none, none, none]) = (List.range 15).map (fun r : Nat => .ok (.nx [x0, x1, some (.int (1 + ((75 + r : Nat) : Int))), none, none, none, none, none, none, none, none, none])) := by kernel_rfl
theorem q4 {r : Int} (h0 : 0 ≤ r) (h1 : r < 90) (x0 x1 : Option D) : exs Φ0 M0 100000 ((B0.drop 4).take (5 - 4)) [x0, x1, some (.int (1 + r)), none, none, none, none, none, none, none, none, none] = .ok (.nx [x0, x1, some (.int (1 + r)), none, none, none, none, none, none, none, none, none]) := by
  obtain ⟨k, rfl⟩ : ∃ k : Nat, r = k := ⟨r.toNat, by omega⟩
  by_cases h0 : k < 15
  · obtain ⟨j, rfl⟩ : ∃ j, k = 0 + j := ⟨k - 0, by omega⟩
    exact List.map_inj_left.mp (q4_0 x0 x1) j (List.mem_range.mpr (by omega))
  by_cases h15 : k < 30
  · obtain ⟨j, rfl⟩ : ∃ j, k = 15 + j := ⟨k - 15, by omega⟩
    exact List.map_inj_left.mp (q4_15 x0 x1) j (List.mem_range.mpr (by omega))
  by_cases h30 : k < 45
  · obtain ⟨j, rfl⟩ : ∃ j, k = 30 + j := ⟨k - 30, by omega⟩
    exact List.map_inj_left.mp (q4_30 x0 x1) j (List.mem_range.mpr (by omega))
  by_cases h45 : k < 60
  · obtain ⟨j, rfl⟩ : ∃ j, k = 45 + j := ⟨k - 45, by omega⟩
    exact List.map_inj_left.mp (q4_45 x0 x1) j (List.mem_range.mpr (by omega))
  by_cases h60 : k < 75
  · obtain ⟨j, rfl⟩ : ∃ j, k = 60 + j := ⟨k - 60, by omega⟩
    exact List.map_inj_left.mp (q4_60 x0 x1) j (List.mem_range.mpr (by omega))
  by_cases h75 : k < 90
  · obtain ⟨j, rfl⟩ : ∃ j, k = 75 + j := ⟨k - 75, by omega⟩
    exact List.map_inj_left.mp (q4_75 x0 x1) j (List.mem_range.mpr (by omega))
  omega
theorem q5 (x0 x1 x2 : Option D) : exs Φ0 M0 100000 ((B0.drop 5).take (11 - 5)) [x0, x1, x2, none, none, none, none, none, none, none, none, none] = .ok (.nx [x0, x1, x2, some (D.lst (Fl.own) [D.tup [D.non, D.non], D.tup [D.tup [], D.non], D.tup [D.lst (Fl.fr) [D.int 1], D.non], D.tup [D.tup [D.int 1, D.int 1, D.int 1, D.int 1, D.int 1, D.int 1, D.int 1, D.int 1, D.int 1, D.int 1, D.int 1, D.int 1, D.int 1, D.int 1, D.int 1, D.int 1, D.int 1, D.int 1, D.int 1, D.int 1, D.int 1, D.int 1, D.int 1, D.int 1, D.int 1, D.int 1, D.int 1, D.int 1, D.int 1, D.int 1, D.int 1], D.non], D.tup [D.tup [D.int 1, D.int (-1)], D.int 1], D.tup [D.tup [D.int 1, D.int 2, D.bl true], D.int 2]]), none, none, none, none, none, none, none, none]) := by kernel_rfl
def V_p11 : List (D × D) := [(D.non, D.non), (D.tup [], D.non), (D.lst (Fl.old) [D.int 1], D.non), (D.tup [D.int 1, D.int 1, D.int 1, D.int 1, D.int 1, D.int 1, D.int 1, D.int 1, D.int 1, D.int 1, D.int 1, D.int 1, D.int 1, D.int 1, D.int 1, D.int 1, D.int 1, D.int 1, D.int 1, D.int 1, D.int 1, D.int 1, D.int 1, D.int 1, D.int 1, D.int 1, D.int 1, D.int 1, D.int 1, D.int 1, D.int 1], D.non), (D.tup [D.int 1, D.int (-1)], D.int 1), (D.tup [D.int 1, D.int 2, D.bl true], D.int 2), (D.tup [D.str [49]], D.int 0), (D.tup [D.int 0, D.int 1000001], D.int 1)]
theorem kp11 {ns : List Int} {a b c : Int} (R : RowOk ns a b) (x2 : Option D) : ∃ v ∈ V_p11, ∃ a' b' c', RowOk ns a' b' ∧ exs Φ0 M0 100000 ((B0.drop 11).take (12 - 11)) [some (.lst .old (iL ns)), some (rowD .own ns a b c), x2, some (D.lst (Fl.own) [D.tup [D.non, D.non], D.tup [D.tup [], D.non], D.tup [D.lst (Fl.fr) [D.int 1], D.non], D.tup [D.tup [D.int 1, D.int 1, D.int 1, D.int 1, D.int 1, D.int 1, D.int 1, D.int 1, D.int 1, D.int 1, D.int 1, D.int 1, D.int 1, D.int 1, D.int 1, D.int 1, D.int 1, D.int 1, D.int 1, D.int 1, D.int 1, D.int 1, D.int 1, D.int 1, D.int 1, D.int 1, D.int 1, D.int 1, D.int 1, D.int 1, D.int 1], D.non], D.tup [D.tup [D.int 1, D.int (-1)], D.int 1], D.tup [D.tup [D.int 1, D.int 2, D.bl true], D.int 2]]), none, none, none, none, none, none, none, none] = .ok (.nx [some (.lst .old (iL ns)), some (rowD .own ns a' b' c'), x2, some (D.lst (Fl.own) [D.tup [D.non, D.non], D.tup [D.tup [], D.non], D.tup [D.lst (Fl.fr) [D.int 1], D.non], D.tup [D.tup [D.int 1, D.int 1, D.int 1, D.int 1, D.int 1, D.int 1, D.int 1, D.int 1, D.int 1, D.int 1, D.int 1, D.int 1, D.int 1, D.int 1, D.int 1, D.int 1, D.int 1, D.int 1, D.int 1, D.int 1, D.int 1, D.int 1, D.int 1, D.int 1, D.int 1, D.int 1, D.int 1, D.int 1, D.int 1, D.int 1, D.int 1], D.non], D.tup [D.tup [D.int 1, D.int (-1)], D.int 1], D.tup [D.tup [D.int 1, D.int 2, D.bl true], D.int 2]]), some v.2, none, none, none, some v.1, none, none, none]) := by
  obtain ⟨r, a', b', c', r0, r1, R', P⟩ := pick_sp (T := T0) (W := 100000) (n := 39) (items := [D.tup [D.non, D.non], D.tup [D.tup [], D.non], D.tup [D.lst (Fl.old) [D.int 1], D.non], D.tup [D.tup [D.int 1, D.int 1, D.int 1, D.int 1, D.int 1, D.int 1, D.int 1, D.int 1, D.int 1, D.int 1, D.int 1, D.int 1, D.int 1, D.int 1, D.int 1, D.int 1, D.int 1, D.int 1, D.int 1, D.int 1, D.int 1, D.int 1, D.int 1, D.int 1, D.int 1, D.int 1, D.int 1, D.int 1, D.int 1, D.int 1, D.int 1], D.non], D.tup [D.tup [D.int 1, D.int (-1)], D.int 1], D.tup [D.tup [D.int 1, D.int 2, D.bl true], D.int 2], D.tup [D.tup [D.str [49]], D.int 0], D.tup [D.tup [D.int 0, D.int 1000001], D.int 1]]) (m := 8) (c := c) l__law_taken l__law_pick rfl R (by decide) (by decide) (by decide)
  have key : ∀ v ∈ V_p11, prim .ix [.lst .old [D.tup [D.non, D.non], D.tup [D.tup [], D.non], D.tup [D.lst (Fl.old) [D.int 1], D.non], D.tup [D.tup [D.int 1, D.int 1, D.int 1, D.int 1, D.int 1, D.int 1, D.int 1, D.int 1, D.int 1, D.int 1, D.int 1, D.int 1, D.int 1, D.int 1, D.int 1, D.int 1, D.int 1, D.int 1, D.int 1, D.int 1, D.int 1, D.int 1, D.int 1, D.int 1, D.int 1, D.int 1, D.int 1, D.int 1, D.int 1, D.int 1, D.int 1], D.non], D.tup [D.tup [D.int 1, D.int (-1)], D.int 1], D.tup [D.tup [D.int 1, D.int 2, D.bl true], D.int 2], D.tup [D.tup [D.str [49]], D.int 0], D.tup [D.tup [D.int 0, D.int 1000001], D.int 1]], .int r] = .ok (.tup [v.1, v.2]) → QE.notM (.tup [v.1, v.2]) = true → bindT (.tup [.var 8, .var 4]) (.tup [v.1, v.2]) [some (.lst .old (iL ns)), some (rowD .own ns a' b' c'), x2, some (D.lst (Fl.own) [D.tup [D.non, D.non], D.tup [D.tup [], D.non], D.tup [D.lst (Fl.fr) [D.int 1], D.non], D.tup [D.tup [D.int 1, D.int 1, D.int 1, D.int 1, D.int 1, D.int 1, D.int 1, D.int 1, D.int 1, D.int 1, D.int 1, D.int 1, D.int 1, D.int 1, D.int 1, D.int 1, D.int 1, D.int 1, D.int 1, D.int 1, D.int 1, D.int 1, D.int 1, D.int 1, D.int 1, D.int 1, D.int 1, D.int 1, D.int 1, D.int 1, D.int 1], D.non], D.tup [D.tup [D.int 1, D.int (-1)], D.int 1], D.tup [D.tup [D.int 1, D.int 2, D.bl true], D.int 2]]), none, none, none, none, none, none, none, none] = some [some (.lst .old (iL ns)), some (rowD .own ns a' b' c'), x2, some (D.lst (Fl.own) [D.tup [D.non, D.non], D.tup [D.tup [], D.non], D.tup [D.lst (Fl.fr) [D.int 1], D.non], D.tup [D.tup [D.int 1, D.int 1, D.int 1, D.int 1, D.int 1, D.int 1, D.int 1, D.int 1, D.int 1, D.int 1, D.int 1, D.int 1, D.int 1, D.int 1, D.int 1, D.int 1, D.int 1, D.int 1, D.int 1, D.int 1, D.int 1, D.int 1, D.int 1, D.int 1, D.int 1, D.int 1, D.int 1, D.int 1, D.int 1, D.int 1, D.int 1], D.non], D.tup [D.tup [D.int 1, D.int (-1)], D.int 1], D.tup [D.tup [D.int 1, D.int 2, D.bl true], D.int 2]]), some v.2, none, none, none, some v.1, none, none, none] → exs Φ0 M0 100000 ((B0.drop 11).take (12 - 11)) [some (.lst .old (iL ns)), some (rowD .own ns a b c), x2, some (D.lst (Fl.own) [D.tup [D.non, D.non], D.tup [D.tup [], D.non], D.tup [D.lst (Fl.fr) [D.int 1], D.non], D.tup [D.tup [D.int 1, D.int 1, D.int 1, D.int 1, D.int 1, D.int 1, D.int 1, D.int 1, D.int 1, D.int 1, D.int 1, D.int 1, D.int 1, D.int 1, D.int 1, D.int 1, D.int 1, D.int 1, D.int 1, D.int 1, D.int 1, D.int 1, D.int 1, D.int 1, D.int 1, D.int 1, D.int 1, D.int 1, D.int 1, D.int 1, D.int 1], D.non], D.tup [D.tup [D.int 1, D.int (-1)], D.int 1], D.tup [D.tup [D.int 1, D.int 2, D.bl true], D.int 2]]), none, none, none, none, none, none, none, none] = .ok (.nx [some (.lst .old (iL ns)), some (rowD .own ns a' b' c'), x2, some (D.lst (Fl.own) [D.tup [D.non, D.non], D.tup [D.tup [], D.non], D.tup [D.lst (Fl.fr) [D.int 1], D.non], D.tup [D.tup [D.int 1, D.int 1, D.int 1, D.int 1, D.int 1, D.int 1, D.int 1, D.int 1, D.int 1, D.int 1, D.int 1, D.int 1, D.int 1, D.int 1, D.int 1, D.int 1, D.int 1, D.int 1, D.int 1, D.int 1, D.int 1, D.int 1, D.int 1, D.int 1, D.int 1, D.int 1, D.int 1, D.int 1, D.int 1, D.int 1, D.int 1], D.non], D.tup [D.tup [D.int 1, D.int (-1)], D.int 1], D.tup [D.tup [D.int 1, D.int 2, D.bl true], D.int 2]]), some v.2, none, none, none, some v.1, none, none, none]) := fun v hv h1 h2 h3 =>
    st_pickTG (o := .val (D.lst (Fl.own) [D.tup [D.non, D.non], D.tup [D.tup [], D.non], D.tup [D.lst (Fl.fr) [D.int 1], D.non], D.tup [D.tup [D.int 1, D.int 1, D.int 1, D.int 1, D.int 1, D.int 1, D.int 1, D.int 1, D.int 1, D.int 1, D.int 1, D.int 1, D.int 1, D.int 1, D.int 1, D.int 1, D.int 1, D.int 1, D.int 1, D.int 1, D.int 1, D.int 1, D.int 1, D.int 1, D.int 1, D.int 1, D.int 1, D.int 1, D.int 1, D.int 1, D.int 1], D.non], D.tup [D.tup [D.int 1, D.int (-1)], D.int 1], D.tup [D.tup [D.int 1, D.int 2, D.bl true], D.int 2], D.tup [D.tup [D.str [49]], D.int 0], D.tup [D.tup [D.int 0, D.int 1000001], D.int 1]])) (ρ0 := [some (.lst .old (iL ns)), some (rowD .own ns a b c), x2, some (D.lst (Fl.own) [D.tup [D.non, D.non], D.tup [D.tup [], D.non], D.tup [D.lst (Fl.fr) [D.int 1], D.non], D.tup [D.tup [D.int 1, D.int 1, D.int 1, D.int 1, D.int 1, D.int 1, D.int 1, D.int 1, D.int 1, D.int 1, D.int 1, D.int 1, D.int 1, D.int 1, D.int 1, D.int 1, D.int 1, D.int 1, D.int 1, D.int 1, D.int 1, D.int 1, D.int 1, D.int 1, D.int 1, D.int 1, D.int 1, D.int 1, D.int 1, D.int 1, D.int 1], D.non], D.tup [D.tup [D.int 1, D.int (-1)], D.int 1], D.tup [D.tup [D.int 1, D.int 2, D.bl true], D.int 2]]), none, none, none, none, none, none, none, none]) (by kernel_rfl) (doCall_pickG (o1 := .val (D.lst (Fl.fr) [D.tup [D.non, D.non], D.tup [D.tup [], D.non], D.tup [D.lst (Fl.fr) [D.int 1], D.non], D.tup [D.tup [D.int 1, D.int 1, D.int 1, D.int 1, D.int 1, D.int 1, D.int 1, D.int 1, D.int 1, D.int 1, D.int 1, D.int 1, D.int 1, D.int 1, D.int 1, D.int 1, D.int 1, D.int 1, D.int 1, D.int 1, D.int 1, D.int 1, D.int 1, D.int 1, D.int 1, D.int 1, D.int 1, D.int 1, D.int 1, D.int 1, D.int 1], D.non], D.tup [D.tup [D.int 1, D.int (-1)], D.int 1], D.tup [D.tup [D.int 1, D.int 2, D.bl true], D.int 2], D.tup [D.tup [D.str [49]], D.int 0], D.tup [D.tup [D.int 0, D.int 1000001], D.int 1]])) (ρb := [some (.lst .old (iL ns)), some (rowD .own ns a b c), x2, some (D.lst (Fl.own) [D.tup [D.non, D.non], D.tup [D.tup [], D.non], D.tup [D.lst (Fl.fr) [D.int 1], D.non], D.tup [D.tup [D.int 1, D.int 1, D.int 1, D.int 1, D.int 1, D.int 1, D.int 1, D.int 1, D.int 1, D.int 1, D.int 1, D.int 1, D.int 1, D.int 1, D.int 1, D.int 1, D.int 1, D.int 1, D.int 1, D.int 1, D.int 1, D.int 1, D.int 1, D.int 1, D.int 1, D.int 1, D.int 1, D.int 1, D.int 1, D.int 1, D.int 1], D.non], D.tup [D.tup [D.int 1, D.int (-1)], D.int 1], D.tup [D.tup [D.int 1, D.int 2, D.bl true], D.int 2]]), none, none, none, none, none, none, none, none]) (muts_at l__law_pick) rfl rfl (by kernel_rfl) (by kernel_rfl) (by kernel_rfl) (by kernel_rfl) (by kernel_rfl) (by kernel_rfl) (P _ h1) h2) h3
  have : r = 0 ∨ r = 1 ∨ r = 2 ∨ r = 3 ∨ r = 4 ∨ r = 5 ∨ r = 6 ∨ r = 7 := by omega
  rcases this with rfl | rfl | rfl | rfl | rfl | rfl | rfl | rfl
  · exact ⟨(D.non, D.non), by simp [V_p11], _, _, _, R', key (D.non, D.non) (by simp [V_p11]) (by kernel_rfl) (by kernel_rfl) (by kernel_rfl)⟩
  · exact ⟨(D.tup [], D.non), by simp [V_p11], _, _, _, R', key (D.tup [], D.non) (by simp [V_p11]) (by kernel_rfl) (by kernel_rfl) (by kernel_rfl)⟩
  · exact ⟨(D.lst (Fl.old) [D.int 1], D.non), by simp [V_p11], _, _, _, R', key (D.lst (Fl.old) [D.int 1], D.non) (by simp [V_p11]) (by kernel_rfl) (by kernel_rfl) (by kernel_rfl)⟩
  · exact ⟨(D.tup [D.int 1, D.int 1, D.int 1, D.int 1, D.int 1, D.int 1, D.int 1, D.int 1, D.int 1, D.int 1, D.int 1, D.int 1, D.int 1, D.int 1, D.int 1, D.int 1, D.int 1, D.int 1, D.int 1, D.int 1, D.int 1, D.int 1, D.int 1, D.int 1, D.int 1, D.int 1, D.int 1, D.int 1, D.int 1, D.int 1, D.int 1], D.non), by simp [V_p11], _, _, _, R', key (D.tup [D.int 1, D.int 1, D.int 1, D.int 1, D.int 1, D.int 1, D.int 1, D.int 1, D.int 1, D.int 1, D.int 1, D.int 1, D.int 1, D.int 1, D.int 1, D.int 1, D.int 1, D.int 1, D.int 1, D.int 1, D.int 1, D.int 1, D.int 1, D.int 1, D.int 1, D.int 1, D.int 1, D.int 1, D.int 1, D.int 1, D.int 1], D.non) (by simp [V_p11]) (by kernel_rfl) (by kernel_rfl) (by kernel_rfl)⟩
  · exact ⟨(D.tup [D.int 1, D.int (-1)], D.int 1), by simp [V_p11], _, _, _, R', key (D.tup [D.int 1, D.int (-1)], D.int 1) (by simp [V_p11]) (by kernel_rfl) (by kernel_rfl) (by kernel_rfl)⟩
  · exact ⟨(D.tup [D.int 1, D.int 2, D.bl true], D.int 2), by simp [V_p11], _, _, _, R', key (D.tup [D.int 1, D.int 2, D.bl true], D.int 2) (by simp [V_p11]) (by kernel_rfl) (by kernel_rfl) (by kernel_rfl)⟩
  · exact ⟨(D.tup [D.str [49]], D.int 0), by simp [V_p11], _, _, _, R', key (D.tup [D.str [49]], D.int 0) (by simp [V_p11]) (by kernel_rfl) (by kernel_rfl) (by kernel_rfl)⟩
  · exact ⟨(D.tup [D.int 0, D.int 1000001], D.int 1), by simp [V_p11], _, _, _, R', key (D.tup [D.int 0, D.int 1000001], D.int 1) (by simp [V_p11]) (by kernel_rfl) (by kernel_rfl) (by kernel_rfl)⟩
theorem q12 (x0 x1 x2 x3 x4 x8 : Option D) : exs Φ0 M0 100000 ((B0.drop 12).take (13 - 12)) [x0, x1, x2, x3, x4, none, none, none, x8, none, none, none] = .ok (.nx [x0, x1, x2, some (D.lst (Fl.own) [D.tup [D.non, D.non], D.tup [D.lst (Fl.fr) [D.str [97]], D.non], D.tup [D.str [97, 98, 101], D.int 2], D.tup [D.str [65], D.int 0], D.tup [D.bl true, D.non], D.tup [D.str (aN 2001), D.non]]), x4, none, none, none, x8, none, none, none]) := by kernel_rfl
def V_p13 : List (D × D) := [(D.non, D.non), (D.lst (Fl.old) [D.str [97]], D.non), (D.str [97, 98, 101], D.int 2), (D.str [65], D.int 0), (D.bl true, D.non), (D.str (aN 2001), D.non)]
theorem kp13 {ns : List Int} {a b c : Int} (R : RowOk ns a b) (x2 x4 x8 : Option D) : ∃ v ∈ V_p13, ∃ a' b' c', RowOk ns a' b' ∧ exs Φ0 M0 100000 ((B0.drop 13).take (14 - 13)) [some (.lst .old (iL ns)), some (rowD .own ns a b c), x2, some (D.lst (Fl.own) [D.tup [D.non, D.non], D.tup [D.lst (Fl.fr) [D.str [97]], D.non], D.tup [D.str [97, 98, 101], D.int 2], D.tup [D.str [65], D.int 0], D.tup [D.bl true, D.non], D.tup [D.str (aN 2001), D.non]]), x4, none, none, none, x8, none, none, none] = .ok (.nx [some (.lst .old (iL ns)), some (rowD .own ns a' b' c'), x2, some (D.lst (Fl.fr) [D.tup [D.non, D.non], D.tup [D.lst (Fl.fr) [D.str [97]], D.non], D.tup [D.str [97, 98, 101], D.int 2], D.tup [D.str [65], D.int 0], D.tup [D.bl true, D.non], D.tup [D.str (aN 2001), D.non]]), x4, some v.2, none, none, x8, none, some v.1, none]) := by
  obtain ⟨r, a', b', c', r0, r1, R', P⟩ := pick_sp (T := T0) (W := 100000) (n := 39) (items := [D.tup [D.non, D.non], D.tup [D.lst (Fl.old) [D.str [97]], D.non], D.tup [D.str [97, 98, 101], D.int 2], D.tup [D.str [65], D.int 0], D.tup [D.bl true, D.non], D.tup [D.str (aN 2001), D.non]]) (m := 6) (c := c) l__law_taken l__law_pick rfl R (by decide) (by decide) (by decide)
  have key : ∀ v ∈ V_p13, prim .ix [.lst .old [D.tup [D.non, D.non], D.tup [D.lst (Fl.old) [D.str [97]], D.non], D.tup [D.str [97, 98, 101], D.int 2], D.tup [D.str [65], D.int 0], D.tup [D.bl true, D.non], D.tup [D.str (aN 2001), D.non]], .int r] = .ok (.tup [v.1, v.2]) → QE.notM (.tup [v.1, v.2]) = true → bindT (.tup [.var 10, .var 5]) (.tup [v.1, v.2]) [some (.lst .old (iL ns)), some (rowD .own ns a' b' c'), x2, some (D.lst (Fl.fr) [D.tup [D.non, D.non], D.tup [D.lst (Fl.fr) [D.str [97]], D.non], D.tup [D.str [97, 98, 101], D.int 2], D.tup [D.str [65], D.int 0], D.tup [D.bl true, D.non], D.tup [D.str (aN 2001), D.non]]), x4, none, none, none, x8, none, none, none] = some [some (.lst .old (iL ns)), some (rowD .own ns a' b' c'), x2, some (D.lst (Fl.fr) [D.tup [D.non, D.non], D.tup [D.lst (Fl.fr) [D.str [97]], D.non], D.tup [D.str [97, 98, 101], D.int 2], D.tup [D.str [65], D.int 0], D.tup [D.bl true, D.non], D.tup [D.str (aN 2001), D.non]]), x4, some v.2, none, none, x8, none, some v.1, none] → exs Φ0 M0 100000 ((B0.drop 13).take (14 - 13)) [some (.lst .old (iL ns)), some (rowD .own ns a b c), x2, some (D.lst (Fl.own) [D.tup [D.non, D.non], D.tup [D.lst (Fl.fr) [D.str [97]], D.non], D.tup [D.str [97, 98, 101], D.int 2], D.tup [D.str [65], D.int 0], D.tup [D.bl true, D.non], D.tup [D.str (aN 2001), D.non]]), x4, none, none, none, x8, none, none, none] = .ok (.nx [some (.lst .old (iL ns)), some (rowD .own ns a' b' c'), x2, some (D.lst (Fl.fr) [D.tup [D.non, D.non], D.tup [D.lst (Fl.fr) [D.str [97]], D.non], D.tup [D.str [97, 98, 101], D.int 2], D.tup [D.str [65], D.int 0], D.tup [D.bl true, D.non], D.tup [D.str (aN 2001), D.non]]), x4, some v.2, none, none, x8, none, some v.1, none]) := fun v hv h1 h2 h3 =>
    st_pickTG (o := .slot 3) (ρ0 := [some (.lst .old (iL ns)), some (rowD .own ns a b c), x2, some (D.lst (Fl.own) [D.tup [D.non, D.non], D.tup [D.lst (Fl.fr) [D.str [97]], D.non], D.tup [D.str [97, 98, 101], D.int 2], D.tup [D.str [65], D.int 0], D.tup [D.bl true, D.non], D.tup [D.str (aN 2001), D.non]]), x4, none, none, none, x8, none, none, none]) (by kernel_rfl) (doCall_pickG (o1 := .slot 3) (ρb := [some (.lst .old (iL ns)), some (rowD .own ns a b c), x2, some (D.lst (Fl.fr) [D.tup [D.non, D.non], D.tup [D.lst (Fl.fr) [D.str [97]], D.non], D.tup [D.str [97, 98, 101], D.int 2], D.tup [D.str [65], D.int 0], D.tup [D.bl true, D.non], D.tup [D.str (aN 2001), D.non]]), x4, none, none, none, x8, none, none, none]) (muts_at l__law_pick) rfl rfl (by kernel_rfl) (by kernel_rfl) (by kernel_rfl) (by kernel_rfl) (by kernel_rfl) (by kernel_rfl) (P _ h1) h2) h3
  have : r = 0 ∨ r = 1 ∨ r = 2 ∨ r = 3 ∨ r = 4 ∨ r = 5 := by omega
  rcases this with rfl | rfl | rfl | rfl | rfl | rfl
  · exact ⟨(D.non, D.non), by simp [V_p13], _, _, _, R', key (D.non, D.non) (by simp [V_p13]) (by kernel_rfl) (by kernel_rfl) (by kernel_rfl)⟩
  · exact ⟨(D.lst (Fl.old) [D.str [97]], D.non), by simp [V_p13], _, _, _, R', key (D.lst (Fl.old) [D.str [97]], D.non) (by simp [V_p13]) (by kernel_rfl) (by kernel_rfl) (by kernel_rfl)⟩
  · exact ⟨(D.str [97, 98, 101], D.int 2), by simp [V_p13], _, _, _, R', key (D.str [97, 98, 101], D.int 2) (by simp [V_p13]) (by kernel_rfl) (by kernel_rfl) (by kernel_rfl)⟩
  · exact ⟨(D.str [65], D.int 0), by simp [V_p13], _, _, _, R', key (D.str [65], D.int 0) (by simp [V_p13]) (by kernel_rfl) (by kernel_rfl) (by kernel_rfl)⟩
  · exact ⟨(D.bl true, D.non), by simp [V_p13], _, _, _, R', key (D.bl true, D.non) (by simp [V_p13]) (by kernel_rfl) (by kernel_rfl) (by kernel_rfl)⟩
  · exact ⟨(D.str (aN 2001), D.non), by simp [V_p13], _, _, _, R', key (D.str (aN 2001), D.non) (by simp [V_p13]) (by kernel_rfl) (by kernel_rfl) (by kernel_rfl)⟩
theorem q14_0 (x0 x1 x2 x3 x5 x10 : Option D) : exs Φ0 M0 100000 ((B0.drop 14).take (17 - 14)) [x0, x1, x2, x3, some (D.non), x5, none, none, some (D.non), none, x10, none] = .ok (.nx [x0, x1, x2, x3, some (D.non), x5, some (D.lst (Fl.own) [D.tup [D.str [114, 117, 108, 101], D.non], D.tup [D.str [114, 117, 108, 101], D.non], D.tup [D.str [114, 117, 108, 101], D.non], D.tup [D.str [114, 117, 108, 101], D.non]]), none, some (D.non), none, x10, none]) := by kernel_rfl
theorem q14_1 (x0 x1 x2 x3 x5 x10 : Option D) : exs Φ0 M0 100000 ((B0.drop 14).take (17 - 14)) [x0, x1, x2, x3, some (D.non), x5, none, none, some (D.tup []), none, x10, none] = .ok (.nx [x0, x1, x2, x3, some (D.non), x5, some (D.lst (Fl.own) [D.tup [D.str [114, 117, 108, 101], D.non], D.tup [D.str [114, 117, 108, 101], D.non], D.tup [D.str [114, 117, 108, 101], D.non], D.tup [D.str [114, 117, 108, 101], D.non]]), none, some (D.tup []), none, x10, none]) := by kernel_rfl
theorem q14_2 (x0 x1 x2 x3 x5 x10 : Option D) : exs Φ0 M0 100000 ((B0.drop 14).take (17 - 14)) [x0, x1, x2, x3, some (D.non), x5, none, none, some (D.lst (Fl.old) [D.int 1]), none, x10, none] = .ok (.nx [x0, x1, x2, x3, some (D.non), x5, some (D.lst (Fl.own) [D.tup [D.str [114, 117, 108, 101], D.non], D.tup [D.str [114, 117, 108, 101], D.non], D.tup [D.str [114, 117, 108, 101], D.non], D.tup [D.str [114, 117, 108, 101], D.non]]), none, some (D.lst (Fl.old) [D.int 1]), none, x10, none]) := by kernel_rfl
theorem q14_3 (x0 x1 x2 x3 x5 x10 : Option D) : exs Φ0 M0 100000 ((B0.drop 14).take (17 - 14)) [x0, x1, x2, x3, some (D.non), x5, none, none, some (D.tup [D.int 1, D.int 1, D.int 1, D.int 1, D.int 1, D.int 1, D.int 1, D.int 1, D.int 1, D.int 1, D.int 1, D.int 1, D.int 1, D.int 1, D.int 1, D.int 1, D.int 1, D.int 1, D.int 1, D.int 1, D.int 1, D.int 1, D.int 1, D.int 1, D.int 1, D.int 1, D.int 1, D.int 1, D.int 1, D.int 1, D.int 1]), none, x10, none] = .ok (.nx [x0, x1, x2, x3, some (D.non), x5, some (D.lst (Fl.own) [D.tup [D.str [114, 117, 108, 101], D.non], D.tup [D.str [114, 117, 108, 101], D.non], D.tup [D.str [114, 117, 108, 101], D.non], D.tup [D.str [114, 117, 108, 101], D.non]]), none, some (D.tup [D.int 1, D.int 1, D.int 1, D.int 1, D.int 1, D.int 1, D.int 1, D.int 1, D.int 1, D.int 1, D.int 1, D.int 1, D.int 1, D.int 1, D.int 1, D.int 1, D.int 1, D.int 1, D.int 1, D.int 1, D.int 1, D.int 1, D.int 1, D.int 1, D.int 1, D.int 1, D.int 1, D.int 1, D.int 1, D.int 1, D.int 1]), none, x10, none]) := by kernel_rfl
theorem q14_4 (x0 x1 x2 x3 x5 x10 : Option D) : exs Φ0 M0 100000 ((B0.drop 14).take (17 - 14)) [x0, x1, x2, x3, some (D.int 1), x5, none, none, some (D.tup [D.int 1, D.int (-1)]), none, x10, none] = .ok (.nx [x0, x1, x2, x3, some (D.int 1), x5, some (D.lst (Fl.own) [D.tup [D.str [114, 117, 108, 101], D.int 1], D.tup [D.str [114, 117, 108, 101], D.int 1], D.tup [D.str [114, 117, 108, 101], D.int 1], D.tup [D.str [114, 117, 108, 101], D.int 1]]), none, some (D.tup [D.int 1, D.int (-1)]), none, x10, none]) := by kernel_rfl
theorem q14_5 (x0 x1 x2 x3 x5 x10 : Option D) : exs Φ0 M0 100000 ((B0.drop 14).take (17 - 14)) [x0, x1, x2, x3, some (D.int 2), x5, none, none, some (D.tup [D.int 1, D.int 2, D.bl true]), none, x10, none] = .ok (.nx [x0, x1, x2, x3, some (D.int 2), x5, some (D.lst (Fl.own) [D.tup [D.str [114, 117, 108, 101], D.int 2], D.tup [D.str [114, 117, 108, 101], D.int 2], D.tup [D.str [114, 117, 108, 101], D.int 2], D.tup [D.str [114, 117, 108, 101], D.int 2]]), none, some (D.tup [D.int 1, D.int 2, D.bl true]), none, x10, none]) := by kernel_rfl
theorem q14_6 (x0 x1 x2 x3 x5 x10 : Option D) : exs Φ0 M0 100000 ((B0.drop 14).take (17 - 14)) [x0, x1, x2, x3, some (D.int 0), x5, none, none, some (D.tup [D.str [49]]), none, x10, none] = .ok (.nx [x0, x1, x2, x3, some (D.int 0), x5, some (D.lst (Fl.own) [D.tup [D.str [114, 117, 108, 101], D.int 0], D.tup [D.str [114, 117, 108, 101], D.int 0], D.tup [D.str [114, 117, 108, 101], D.int 0], D.tup [D.str [114, 117, 108, 101], D.int 0]]), none, some (D.tup [D.str [49]]), none, x10, none]) := by kernel_rfl
theorem q14_7 (x0 x1 x2 x3 x5 x10 : Option D) : exs Φ0 M0 100000 ((B0.drop 14).take (17 - 14)) [x0, x1, x2, x3, some (D.int 1), x5, none, none, some (D.tup [D.int 0, D.int 1000001]), none, x10, none] = .ok (.nx [x0, x1, x2, x3, some (D.int 1), x5, some (D.lst (Fl.own) [D.tup [D.str [114, 117, 108, 101], D.int 1], D.tup [D.str [114, 117, 108, 101], D.int 1], D.tup [D.str [114, 117, 108, 101], D.int 1], D.tup [D.str [114, 117, 108, 101], D.int 1]]), none, some (D.tup [D.int 0, D.int 1000001]), none, x10, none]) := by kernel_rfl
theorem q14 {v_p11 : D × D} (h_p11 : v_p11 ∈ V_p11) (x0 x1 x2 x3 x5 x10 : Option D) : ∃ o6, exs Φ0 M0 100000 ((B0.drop 14).take (17 - 14)) [x0, x1, x2, x3, some v_p11.2, x5, none, none, some v_p11.1, none, x10, none] = .ok (.nx [x0, x1, x2, x3, some v_p11.2, x5, o6, none, some v_p11.1, none, x10, none]) := by
  simp only [V_p11, List.mem_cons, List.not_mem_nil, or_false] at h_p11
  rcases h_p11 with rfl | rfl | rfl | rfl | rfl | rfl | rfl | rfl
  · exact ⟨_, q14_0 x0 x1 x2 x3 x5 x10⟩
  · exact ⟨_, q14_1 x0 x1 x2 x3 x5 x10⟩
  · exact ⟨_, q14_2 x0 x1 x2 x3 x5 x10⟩
  · exact ⟨_, q14_3 x0 x1 x2 x3 x5 x10⟩
  · exact ⟨_, q14_4 x0 x1 x2 x3 x5 x10⟩
  · exact ⟨_, q14_5 x0 x1 x2 x3 x5 x10⟩
  · exact ⟨_, q14_6 x0 x1 x2 x3 x5 x10⟩
  · exact ⟨_, q14_7 x0 x1 x2 x3 x5 x10⟩
theorem q17_0 (x0 x1 x2 x3 x4 x6 x8 : Option D) : exs Φ0 M0 100000 ((B0.drop 17).take (22 - 17)) [x0, x1, x2, x3, x4, some (D.non), x6, none, x8, none, some (D.non), none] = .ok (.nx [x0, x1, x2, x3, x4, some (D.non), some (D.lst (Fl.own) [D.tup [D.str [119, 111, 114, 100], D.non], D.tup [D.str [119, 111, 114, 100], D.non], D.tup [D.str [119, 111, 114, 100], D.non], D.tup [D.str [119, 111, 114, 100], D.non], D.tup [D.str [119, 111, 114, 100], D.non], D.tup [D.str [119, 111, 114, 100], D.non], D.tup [D.str [119, 111, 114, 100], D.non], D.tup [D.str [119, 111, 114, 100], D.non], D.tup [D.str [119, 111, 114, 100], D.non], D.tup [D.str [119, 111, 114, 100], D.non], D.tup [D.str [119, 111, 114, 100], D.non], D.tup [D.str [119, 111, 114, 100], D.non], D.tup [D.str [119, 111, 114, 100], D.non]]), none, x8, none, some (D.non), some (D.fn 412769516352372)]) := by kernel_rfl
theorem q17_1 (x0 x1 x2 x3 x4 x6 x8 : Option D) : exs Φ0 M0 100000 ((B0.drop 17).take (22 - 17)) [x0, x1, x2, x3, x4, some (D.non), x6, none, x8, none, some (D.lst (Fl.old) [D.str [97]]), none] = .ok (.nx [x0, x1, x2, x3, x4, some (D.non), some (D.lst (Fl.own) [D.tup [D.str [119, 111, 114, 100], D.non], D.tup [D.str [119, 111, 114, 100], D.non], D.tup [D.str [119, 111, 114, 100], D.non], D.tup [D.str [119, 111, 114, 100], D.non], D.tup [D.str [119, 111, 114, 100], D.non], D.tup [D.str [119, 111, 114, 100], D.non], D.tup [D.str [119, 111, 114, 100], D.non], D.tup [D.str [119, 111, 114, 100], D.non], D.tup [D.str [119, 111, 114, 100], D.non], D.tup [D.str [119, 111, 114, 100], D.non], D.tup [D.str [119, 111, 114, 100], D.non], D.tup [D.str [119, 111, 114, 100], D.non], D.tup [D.str [119, 111, 114, 100], D.non]]), none, x8, none, some (D.lst (Fl.old) [D.str [97]]), some (D.fn 412769516352372)]) := by kernel_rfl
theorem q17_2 (x0 x1 x2 x3 x4 x6 x8 : Option D) : exs Φ0 M0 100000 ((B0.drop 17).take (22 - 17)) [x0, x1, x2, x3, x4, some (D.int 2), x6, none, x8, none, some (D.str [97, 98, 101]), none] = .ok (.nx [x0, x1, x2, x3, x4, some (D.int 2), some (D.lst (Fl.own) [D.tup [D.str [119, 111, 114, 100], D.int 2], D.tup [D.str [119, 111, 114, 100], D.int 2], D.tup [D.str [119, 111, 114, 100], D.int 2], D.tup [D.str [119, 111, 114, 100], D.int 2], D.tup [D.str [119, 111, 114, 100], D.int 2], D.tup [D.str [119, 111, 114, 100], D.int 2], D.tup [D.str [119, 111, 114, 100], D.int 2], D.tup [D.str [119, 111, 114, 100], D.int 2], D.tup [D.str [119, 111, 114, 100], D.int 2], D.tup [D.str [119, 111, 114, 100], D.int 2], D.tup [D.str [119, 111, 114, 100], D.int 2], D.tup [D.str [119, 111, 114, 100], D.int 2], D.tup [D.str [119, 111, 114, 100], D.int 2]]), none, x8, none, some (D.str [97, 98, 101]), some (D.fn 412769516352372)]) := by kernel_rfl
theorem q17_3 (x0 x1 x2 x3 x4 x6 x8 : Option D) : exs Φ0 M0 100000 ((B0.drop 17).take (22 - 17)) [x0, x1, x2, x3, x4, some (D.int 0), x6, none, x8, none, some (D.str [65]), none] = .ok (.nx [x0, x1, x2, x3, x4, some (D.int 0), some (D.lst (Fl.own) [D.tup [D.str [119, 111, 114, 100], D.int 0], D.tup [D.str [119, 111, 114, 100], D.int 0], D.tup [D.str [119, 111, 114, 100], D.int 0], D.tup [D.str [119, 111, 114, 100], D.int 0], D.tup [D.str [119, 111, 114, 100], D.int 0], D.tup [D.str [119, 111, 114, 100], D.int 0], D.tup [D.str [119, 111, 114, 100], D.int 0], D.tup [D.str [119, 111, 114, 100], D.int 0], D.tup [D.str [119, 111, 114, 100], D.int 0], D.tup [D.str [119, 111, 114, 100], D.int 0], D.tup [D.str [119, 111, 114, 100], D.int 0], D.tup [D.str [119, 111, 114, 100], D.int 0], D.tup [D.str [119, 111, 114, 100], D.int 0]]), none, x8, none, some (D.str [65]), some (D.fn 412769516352372)]) := by kernel_rfl
theorem q17_4 (x0 x1 x2 x3 x4 x6 x8 : Option D) : exs Φ0 M0 100000 ((B0.drop 17).take (22 - 17)) [x0, x1, x2, x3, x4, some (D.non), x6, none, x8, none, some (D.bl true), none] = .ok (.nx [x0, x1, x2, x3, x4, some (D.non), some (D.lst (Fl.own) [D.tup [D.str [119, 111, 114, 100], D.non], D.tup [D.str [119, 111, 114, 100], D.non], D.tup [D.str [119, 111, 114, 100], D.non], D.tup [D.str [119, 111, 114, 100], D.non], D.tup [D.str [119, 111, 114, 100], D.non], D.tup [D.str [119, 111, 114, 100], D.non], D.tup [D.str [119, 111, 114, 100], D.non], D.tup [D.str [119, 111, 114, 100], D.non], D.tup [D.str [119, 111, 114, 100], D.non], D.tup [D.str [119, 111, 114, 100], D.non], D.tup [D.str [119, 111, 114, 100], D.non], D.tup [D.str [119, 111, 114, 100], D.non], D.tup [D.str [119, 111, 114, 100], D.non]]), none, x8, none, some (D.bl true), some (D.fn 412769516352372)]) := by kernel_rfl
theorem q17_5 (x0 x1 x2 x3 x4 x6 x8 : Option D) : exs Φ0 M0 100000 ((B0.drop 17).take (22 - 17)) [x0, x1, x2, x3, x4, some (D.non), x6, none, x8, none, some (D.str (aN 2001)), none] = .ok (.nx [x0, x1, x2, x3, x4, some (D.non), some (D.lst (Fl.own) [D.tup [D.str [119, 111, 114, 100], D.non], D.tup [D.str [119, 111, 114, 100], D.non], D.tup [D.str [119, 111, 114, 100], D.non], D.tup [D.str [119, 111, 114, 100], D.non], D.tup [D.str [119, 111, 114, 100], D.non], D.tup [D.str [119, 111, 114, 100], D.non], D.tup [D.str [119, 111, 114, 100], D.non], D.tup [D.str [119, 111, 114, 100], D.non], D.tup [D.str [119, 111, 114, 100], D.non], D.tup [D.str [119, 111, 114, 100], D.non], D.tup [D.str [119, 111, 114, 100], D.non], D.tup [D.str [119, 111, 114, 100], D.non], D.tup [D.str [119, 111, 114, 100], D.non]]), none, x8, none, some (D.str (aN 2001)), some (D.fn 412769516352372)]) := by kernel_rfl
theorem q17 {v_p13 : D × D} (h_p13 : v_p13 ∈ V_p13) (x0 x1 x2 x3 x4 x6 x8 : Option D) : ∃ o6, exs Φ0 M0 100000 ((B0.drop 17).take (22 - 17)) [x0, x1, x2, x3, x4, some v_p13.2, x6, none, x8, none, some v_p13.1, none] = .ok (.nx [x0, x1, x2, x3, x4, some v_p13.2, o6, none, x8, none, some v_p13.1, some (D.fn 412769516352372)]) := by
  simp only [V_p13, List.mem_cons, List.not_mem_nil, or_false] at h_p13
  rcases h_p13 with rfl | rfl | rfl | rfl | rfl | rfl
  · exact ⟨_, q17_0 x0 x1 x2 x3 x4 x6 x8⟩
  · exact ⟨_, q17_1 x0 x1 x2 x3 x4 x6 x8⟩
  · exact ⟨_, q17_2 x0 x1 x2 x3 x4 x6 x8⟩
  · exact ⟨_, q17_3 x0 x1 x2 x3 x4 x6 x8⟩
  · exact ⟨_, q17_4 x0 x1 x2 x3 x4 x6 x8⟩
  · exact ⟨_, q17_5 x0 x1 x2 x3 x4 x6 x8⟩
def V_p22 : List D := [D.non, D.int (-1), D.bl true, D.str [49], D.int 10000000000000000000000000000000000000000000000000000000000000]
theorem kp22 {ns : List Int} {a b c : Int} (R : RowOk ns a b) (x2 x3 x4 x5 x6 x8 x10 x11 : Option D) : ∃ v ∈ V_p22, ∃ a' b' c', RowOk ns a' b' ∧ exs Φ0 M0 100000 ((B0.drop 22).take (23 - 22)) [some (.lst .old (iL ns)), some (rowD .own ns a b c), x2, x3, x4, x5, x6, none, x8, none, x10, x11] = .ok (.nx [some (.lst .old (iL ns)), some (rowD .own ns a' b' c'), x2, x3, x4, x5, x6, some v, x8, none, x10, x11]) := by
  obtain ⟨r, a', b', c', r0, r1, R', P⟩ := pick_sp (T := T0) (W := 100000) (n := 39) (items := [D.non, D.int (-1), D.bl true, D.str [49], D.int 10000000000000000000000000000000000000000000000000000000000000]) (m := 5) (c := c) l__law_taken l__law_pick rfl R (by decide) (by decide) (by decide)
  have key : ∀ v ∈ V_p22, prim .ix [.lst .old [D.non, D.int (-1), D.bl true, D.str [49], D.int 10000000000000000000000000000000000000000000000000000000000000], .int r] = .ok v → QE.notM v = true → exs Φ0 M0 100000 ((B0.drop 22).take (23 - 22)) [some (.lst .old (iL ns)), some (rowD .own ns a b c), x2, x3, x4, x5, x6, none, x8, none, x10, x11] = .ok (.nx [some (.lst .old (iL ns)), some (rowD .own ns a' b' c'), x2, x3, x4, x5, x6, some v, x8, none, x10, x11]) := fun v hv h1 h2 =>
    st_pickVG (o := .val (D.lst (Fl.own) [D.non, D.int (-1), D.bl true, D.str [49], D.int 10000000000000000000000000000000000000000000000000000000000000])) (ρ0 := [some (.lst .old (iL ns)), some (rowD .own ns a b c), x2, x3, x4, x5, x6, none, x8, none, x10, x11]) (by kernel_rfl) (doCall_pickG (o1 := .val (D.lst (Fl.fr) [D.non, D.int (-1), D.bl true, D.str [49], D.int 10000000000000000000000000000000000000000000000000000000000000])) (ρb := [some (.lst .old (iL ns)), some (rowD .own ns a b c), x2, x3, x4, x5, x6, none, x8, none, x10, x11]) (muts_at l__law_pick) rfl rfl (by kernel_rfl) (by kernel_rfl) (by kernel_rfl) (by kernel_rfl) (by kernel_rfl) (by kernel_rfl) (P _ h1) h2)
  have : r = 0 ∨ r = 1 ∨ r = 2 ∨ r = 3 ∨ r = 4 := by omega
  rcases this with rfl | rfl | rfl | rfl | rfl
  · exact ⟨(D.non), by simp [V_p22], _, _, _, R', key (D.non) (by simp [V_p22]) (by kernel_rfl) (by kernel_rfl)⟩
  · exact ⟨(D.int (-1)), by simp [V_p22], _, _, _, R', key (D.int (-1)) (by simp [V_p22]) (by kernel_rfl) (by kernel_rfl)⟩
  · exact ⟨(D.bl true), by simp [V_p22], _, _, _, R', key (D.bl true) (by simp [V_p22]) (by kernel_rfl) (by kernel_rfl)⟩
  · exact ⟨(D.str [49]), by simp [V_p22], _, _, _, R', key (D.str [49]) (by simp [V_p22]) (by kernel_rfl) (by kernel_rfl)⟩
  · exact ⟨(D.int 10000000000000000000000000000000000000000000000000000000000000), by simp [V_p22], _, _, _, R', key (D.int 10000000000000000000000000000000000000000000000000000000000000) (by simp [V_p22]) (by kernel_rfl) (by kernel_rfl)⟩
def V_p23 : List D := [D.non, D.tup [], D.tup [D.int 1], D.tup [D.int 1, D.int 0], D.tup [D.int 1, D.bl true], D.lst (Fl.old) [D.int 1, D.int 2], D.tup [D.int 1, D.int 2, D.int 3], D.tup [D.int 1, D.str [50]]]
theorem kp23 {ns : List Int} {a b c : Int} (R : RowOk ns a b) (x2 x3 x4 x5 x6 x7 x8 x10 x11 : Option D) : ∃ v ∈ V_p23, ∃ a' b' c', RowOk ns a' b' ∧ exs Φ0 M0 100000 ((B0.drop 23).take (24 - 23)) [some (.lst .old (iL ns)), some (rowD .own ns a b c), x2, x3, x4, x5, x6, x7, x8, none, x10, x11] = .ok (.nx [some (.lst .old (iL ns)), some (rowD .own ns a' b' c'), x2, x3, x4, x5, x6, x7, x8, some v, x10, x11]) := by
  obtain ⟨r, a', b', c', r0, r1, R', P⟩ := pick_sp (T := T0) (W := 100000) (n := 39) (items := [D.non, D.tup [], D.tup [D.int 1], D.tup [D.int 1, D.int 0], D.tup [D.int 1, D.bl true], D.lst (Fl.old) [D.int 1, D.int 2], D.tup [D.int 1, D.int 2, D.int 3], D.tup [D.int 1, D.str [50]]]) (m := 8) (c := c) l__law_taken l__law_pick rfl R (by decide) (by decide) (by decide)
  have key : ∀ v ∈ V_p23, prim .ix [.lst .old [D.non, D.tup [], D.tup [D.int 1], D.tup [D.int 1, D.int 0], D.tup [D.int 1, D.bl true], D.lst (Fl.old) [D.int 1, D.int 2], D.tup [D.int 1, D.int 2, D.int 3], D.tup [D.int 1, D.str [50]]], .int r] = .ok v → QE.notM v = true → exs Φ0 M0 100000 ((B0.drop 23).take (24 - 23)) [some (.lst .old (iL ns)), some (rowD .own ns a b c), x2, x3, x4, x5, x6, x7, x8, none, x10, x11] = .ok (.nx [some (.lst .old (iL ns)), some (rowD .own ns a' b' c'), x2, x3, x4, x5, x6, x7, x8, some v, x10, x11]) := fun v hv h1 h2 =>
    st_pickVG (o := .val (D.lst (Fl.own) [D.non, D.tup [], D.tup [D.int 1], D.tup [D.int 1, D.int 0], D.tup [D.int 1, D.bl true], D.lst (Fl.fr) [D.int 1, D.int 2], D.tup [D.int 1, D.int 2, D.int 3], D.tup [D.int 1, D.str [50]]])) (ρ0 := [some (.lst .old (iL ns)), some (rowD .own ns a b c), x2, x3, x4, x5, x6, x7, x8, none, x10, x11]) (by kernel_rfl) (doCall_pickG (o1 := .val (D.lst (Fl.fr) [D.non, D.tup [], D.tup [D.int 1], D.tup [D.int 1, D.int 0], D.tup [D.int 1, D.bl true], D.lst (Fl.fr) [D.int 1, D.int 2], D.tup [D.int 1, D.int 2, D.int 3], D.tup [D.int 1, D.str [50]]])) (ρb := [some (.lst .old (iL ns)), some (rowD .own ns a b c), x2, x3, x4, x5, x6, x7, x8, none, x10, x11]) (muts_at l__law_pick) rfl rfl (by kernel_rfl) (by kernel_rfl) (by kernel_rfl) (by kernel_rfl) (by kernel_rfl) (by kernel_rfl) (P _ h1) h2)
  have : r = 0 ∨ r = 1 ∨ r = 2 ∨ r = 3 ∨ r = 4 ∨ r = 5 ∨ r = 6 ∨ r = 7 := by omega
  rcases this with rfl | rfl | rfl | rfl | rfl | rfl | rfl | rfl
  · exact ⟨(D.non), by simp [V_p23], _, _, _, R', key (D.non) (by simp [V_p23]) (by kernel_rfl) (by kernel_rfl)⟩
  · exact ⟨(D.tup []), by simp [V_p23], _, _, _, R', key (D.tup []) (by simp [V_p23]) (by kernel_rfl) (by kernel_rfl)⟩
  · exact ⟨(D.tup [D.int 1]), by simp [V_p23], _, _, _, R', key (D.tup [D.int 1]) (by simp [V_p23]) (by kernel_rfl) (by kernel_rfl)⟩
  · exact ⟨(D.tup [D.int 1, D.int 0]), by simp [V_p23], _, _, _, R', key (D.tup [D.int 1, D.int 0]) (by simp [V_p23]) (by kernel_rfl) (by kernel_rfl)⟩
  · exact ⟨(D.tup [D.int 1, D.bl true]), by simp [V_p23], _, _, _, R', key (D.tup [D.int 1, D.bl true]) (by simp [V_p23]) (by kernel_rfl) (by kernel_rfl)⟩
  · exact ⟨(D.lst (Fl.old) [D.int 1, D.int 2]), by simp [V_p23], _, _, _, R', key (D.lst (Fl.old) [D.int 1, D.int 2]) (by simp [V_p23]) (by kernel_rfl) (by kernel_rfl)⟩
  · exact ⟨(D.tup [D.int 1, D.int 2, D.int 3]), by simp [V_p23], _, _, _, R', key (D.tup [D.int 1, D.int 2, D.int 3]) (by simp [V_p23]) (by kernel_rfl) (by kernel_rfl)⟩
  · exact ⟨(D.tup [D.int 1, D.str [50]]), by simp [V_p23], _, _, _, R', key (D.tup [D.int 1, D.str [50]]) (by simp [V_p23]) (by kernel_rfl) (by kernel_rfl)⟩
theorem q24_0 (x0 x1 x2 x3 x4 x5 x6 x8 x9 x10 x11 : Option D) : exs Φ0 M0 100000 ((B0.drop 24).take (26 - 24)) [x0, x1, x2, x3, x4, x5, x6, some (D.non), x8, x9, x10, x11] = .ok (.nx [x0, x1, x2, x3, x4, x5, some (D.lst (Fl.own) [D.str [110, 117, 109, 98, 101, 114], D.str [110, 117, 109, 98, 101, 114], D.str [110, 117, 109, 98, 101, 114], D.str [99, 111, 114, 101]]), some (D.non), x8, x9, x10, x11]) := by kernel_rfl
theorem q24_1 (x0 x1 x2 x3 x4 x5 x6 x8 x9 x10 x11 : Option D) : exs Φ0 M0 100000 ((B0.drop 24).take (26 - 24)) [x0, x1, x2, x3, x4, x5, x6, some (D.int (-1)), x8, x9, x10, x11] = .ok (.nx [x0, x1, x2, x3, x4, x5, some (D.lst (Fl.own) [D.str [110, 117, 109, 98, 101, 114], D.str [110, 117, 109, 98, 101, 114], D.str [110, 117, 109, 98, 101, 114], D.str [99, 111, 114, 101]]), some (D.int (-1)), x8, x9, x10, x11]) := by kernel_rfl
theorem q24_2 (x0 x1 x2 x3 x4 x5 x6 x8 x9 x10 x11 : Option D) : exs Φ0 M0 100000 ((B0.drop 24).take (26 - 24)) [x0, x1, x2, x3, x4, x5, x6, some (D.bl true), x8, x9, x10, x11] = .ok (.nx [x0, x1, x2, x3, x4, x5, some (D.lst (Fl.own) [D.str [110, 117, 109, 98, 101, 114], D.str [110, 117, 109, 98, 101, 114], D.str [110, 117, 109, 98, 101, 114], D.str [99, 111, 114, 101]]), some (D.bl true), x8, x9, x10, x11]) := by kernel_rfl
theorem q24_3 (x0 x1 x2 x3 x4 x5 x6 x8 x9 x10 x11 : Option D) : exs Φ0 M0 100000 ((B0.drop 24).take (26 - 24)) [x0, x1, x2, x3, x4, x5, x6, some (D.str [49]), x8, x9, x10, x11] = .ok (.nx [x0, x1, x2, x3, x4, x5, some (D.lst (Fl.own) [D.str [110, 117, 109, 98, 101, 114], D.str [110, 117, 109, 98, 101, 114], D.str [110, 117, 109, 98, 101, 114], D.str [99, 111, 114, 101]]), some (D.str [49]), x8, x9, x10, x11]) := by kernel_rfl
theorem q24_4 (x0 x1 x2 x3 x4 x5 x6 x8 x9 x10 x11 : Option D) : exs Φ0 M0 100000 ((B0.drop 24).take (26 - 24)) [x0, x1, x2, x3, x4, x5, x6, some (D.int 10000000000000000000000000000000000000000000000000000000000000), x8, x9, x10, x11] = .ok (.nx [x0, x1, x2, x3, x4, x5, some (D.lst (Fl.own) [D.str [110, 117, 109, 98, 101, 114], D.str [110, 117, 109, 98, 101, 114], D.str [110, 117, 109, 98, 101, 114], D.str [99, 111, 114, 101]]), some (D.int 10000000000000000000000000000000000000000000000000000000000000), x8, x9, x10, x11]) := by kernel_rfl
theorem q24 {v_p22 : D} (h_p22 : v_p22 ∈ V_p22) (x0 x1 x2 x3 x4 x5 x6 x8 x9 x10 x11 : Option D) : exs Φ0 M0 100000 ((B0.drop 24).take (26 - 24)) [x0, x1, x2, x3, x4, x5, x6, some v_p22, x8, x9, x10, x11] = .ok (.nx [x0, x1, x2, x3, x4, x5, some (D.lst (Fl.own) [D.str [110, 117, 109, 98, 101, 114], D.str [110, 117, 109, 98, 101, 114], D.str [110, 117, 109, 98, 101, 114], D.str [99, 111, 114, 101]]), some v_p22, x8, x9, x10, x11]) := by
  simp only [V_p22, List.mem_cons, List.not_mem_nil, or_false] at h_p22
  rcases h_p22 with rfl | rfl | rfl | rfl | rfl
  · exact q24_0 x0 x1 x2 x3 x4 x5 x6 x8 x9 x10 x11
  · exact q24_1 x0 x1 x2 x3 x4 x5 x6 x8 x9 x10 x11
  · exact q24_2 x0 x1 x2 x3 x4 x5 x6 x8 x9 x10 x11
  · exact q24_3 x0 x1 x2 x3 x4 x5 x6 x8 x9 x10 x11
  · exact q24_4 x0 x1 x2 x3 x4 x5 x6 x8 x9 x10 x11
theorem q26_0 (x0 x1 x2 x3 x4 x5 x7 x8 x10 x11 : Option D) : fin none (exs Φ0 M0 100000 (B0.drop 26) [x0, x1, x2, x3, x4, x5, some (D.lst (Fl.own) [D.str [110, 117, 109, 98, 101, 114], D.str [110, 117, 109, 98, 101, 114], D.str [110, 117, 109, 98, 101, 114], D.str [99, 111, 114, 101]]), x7, x8, some (D.non), x10, x11]) = .ok (.bl true, []) := by kernel_rfl
theorem q26_1 (x0 x1 x2 x3 x4 x5 x7 x8 x10 x11 : Option D) : fin none (exs Φ0 M0 100000 (B0.drop 26) [x0, x1, x2, x3, x4, x5, some (D.lst (Fl.own) [D.str [110, 117, 109, 98, 101, 114], D.str [110, 117, 109, 98, 101, 114], D.str [110, 117, 109, 98, 101, 114], D.str [99, 111, 114, 101]]), x7, x8, some (D.tup []), x10, x11]) = .ok (.bl true, []) := by kernel_rfl
theorem q26_2 (x0 x1 x2 x3 x4 x5 x7 x8 x10 x11 : Option D) : fin none (exs Φ0 M0 100000 (B0.drop 26) [x0, x1, x2, x3, x4, x5, some (D.lst (Fl.own) [D.str [110, 117, 109, 98, 101, 114], D.str [110, 117, 109, 98, 101, 114], D.str [110, 117, 109, 98, 101, 114], D.str [99, 111, 114, 101]]), x7, x8, some (D.tup [D.int 1]), x10, x11]) = .ok (.bl true, []) := by kernel_rfl
theorem q26_3 (x0 x1 x2 x3 x4 x5 x7 x8 x10 x11 : Option D) : fin none (exs Φ0 M0 100000 (B0.drop 26) [x0, x1, x2, x3, x4, x5, some (D.lst (Fl.own) [D.str [110, 117, 109, 98, 101, 114], D.str [110, 117, 109, 98, 101, 114], D.str [110, 117, 109, 98, 101, 114], D.str [99, 111, 114, 101]]), x7, x8, some (D.tup [D.int 1, D.int 0]), x10, x11]) = .ok (.bl true, []) := by kernel_rfl
theorem q26_4 (x0 x1 x2 x3 x4 x5 x7 x8 x10 x11 : Option D) : fin none (exs Φ0 M0 100000 (B0.drop 26) [x0, x1, x2, x3, x4, x5, some (D.lst (Fl.own) [D.str [110, 117, 109, 98, 101, 114], D.str [110, 117, 109, 98, 101, 114], D.str [110, 117, 109, 98, 101, 114], D.str [99, 111, 114, 101]]), x7, x8, some (D.tup [D.int 1, D.bl true]), x10, x11]) = .ok (.bl true, []) := by kernel_rfl
theorem q26_5 (x0 x1 x2 x3 x4 x5 x7 x8 x10 x11 : Option D) : fin none (exs Φ0 M0 100000 (B0.drop 26) [x0, x1, x2, x3, x4, x5, some (D.lst (Fl.own) [D.str [110, 117, 109, 98, 101, 114], D.str [110, 117, 109, 98, 101, 114], D.str [110, 117, 109, 98, 101, 114], D.str [99, 111, 114, 101]]), x7, x8, some (D.lst (Fl.old) [D.int 1, D.int 2]), x10, x11]) = .ok (.bl true, []) := by kernel_rfl
theorem q26_6 (x0 x1 x2 x3 x4 x5 x7 x8 x10 x11 : Option D) : fin none (exs Φ0 M0 100000 (B0.drop 26) [x0, x1, x2, x3, x4, x5, some (D.lst (Fl.own) [D.str [110, 117, 109, 98, 101, 114], D.str [110, 117, 109, 98, 101, 114], D.str [110, 117, 109, 98, 101, 114], D.str [99, 111, 114, 101]]), x7, x8, some (D.tup [D.int 1, D.int 2, D.int 3]), x10, x11]) = .ok (.bl true, []) := by kernel_rfl
theorem q26_7 (x0 x1 x2 x3 x4 x5 x7 x8 x10 x11 : Option D) : fin none (exs Φ0 M0 100000 (B0.drop 26) [x0, x1, x2, x3, x4, x5, some (D.lst (Fl.own) [D.str [110, 117, 109, 98, 101, 114], D.str [110, 117, 109, 98, 101, 114], D.str [110, 117, 109, 98, 101, 114], D.str [99, 111, 114, 101]]), x7, x8, some (D.tup [D.int 1, D.str [50]]), x10, x11]) = .ok (.bl true, []) := by kernel_rfl
theorem q26 {v_p23 : D} (h_p23 : v_p23 ∈ V_p23) (x0 x1 x2 x3 x4 x5 x7 x8 x10 x11 : Option D) : fin none (exs Φ0 M0 100000 (B0.drop 26) [x0, x1, x2, x3, x4, x5, some (D.lst (Fl.own) [D.str [110, 117, 109, 98, 101, 114], D.str [110, 117, 109, 98, 101, 114], D.str [110, 117, 109, 98, 101, 114], D.str [99, 111, 114, 101]]), x7, x8, some v_p23, x10, x11]) = .ok (.bl true, []) := by
  simp only [V_p23, List.mem_cons, List.not_mem_nil, or_false] at h_p23
  rcases h_p23 with rfl | rfl | rfl | rfl | rfl | rfl | rfl | rfl
  · exact q26_0 x0 x1 x2 x3 x4 x5 x7 x8 x10 x11
  · exact q26_1 x0 x1 x2 x3 x4 x5 x7 x8 x10 x11
  · exact q26_2 x0 x1 x2 x3 x4 x5 x7 x8 x10 x11
  · exact q26_3 x0 x1 x2 x3 x4 x5 x7 x8 x10 x11
  · exact q26_4 x0 x1 x2 x3 x4 x5 x7 x8 x10 x11
  · exact q26_5 x0 x1 x2 x3 x4 x5 x7 x8 x10 x11
  · exact q26_6 x0 x1 x2 x3 x4 x5 x7 x8 x10 x11
  · exact q26_7 x0 x1 x2 x3 x4 x5 x7 x8 x10 x11
theorem law_true (ns : List Int) (hns : ns.length ≤ 63) : call T0 100000 40 i_law [.lst .old (ns.map .int)] = .ok (.bl true, []) := by
  show call T0 100000 (39 + 1) i_law [.lst .old (iL ns)] = .ok (.bl true, [])
  rw [call_at _ [some (.lst .old (iL ns)), none, none, none, none, none, none, none, none, none, none, none] l_law rfl rfl]
  show fin none (exs Φ0 M0 100000 (B0.drop 0) _) = _
  rw [exs_to 0 1 (by decide) (p0 ns)]
  have R0 : RowOk ns 0 4604 := ⟨by omega, by omega, by omega⟩
  obtain ⟨r1, ar1, br1, cr1, hr1, r10, r11, Rr1⟩ := draw (T := T0) (W := 100000) (n := 39) (ρ := [some (.lst .old (iL ns)), some (rowD .own ns 0 4604 0), none, none, none, none, none, none, none, none, none, none]) (i := 1) (m := 90) (c := 0) l__law_taken (.inl rfl) rfl (.val (.int _) .nil) R0 (by omega) (by omega) (by omega)
  rw [exs_to 1 2 (by decide) (st_draw (k := 1) (j := 2) rfl hr1)]
  show fin none (exs Φ0 M0 100000 (B0.drop 2) [some (.lst .old (iL ns)), some (rowD .own ns ar1 br1 cr1), some (.int (1 + r1)), none, none, none, none, none, none, none, none, none]) = _
  rw [exs_to 2 4 (by decide) (q2 _ _ _)]
  rw [exs_to 4 5 (by decide) (q4 r10 r11 _ _)]
  rw [exs_to 5 11 (by decide) (q5 _ _ _)]
  obtain ⟨v_p11, h_p11, a_p11, b_p11, c_p11, R_p11, e_p11⟩ := kp11 (c := cr1) Rr1 (some (.int (1 + r1)))
  rw [exs_to 11 12 (by decide) e_p11]
  rw [exs_to 12 13 (by decide) (q12 _ _ _ _ _ _)]
  obtain ⟨v_p13, h_p13, a_p13, b_p13, c_p13, R_p13, e_p13⟩ := kp13 (c := c_p11) R_p11 (some (.int (1 + r1))) (some v_p11.2) (some v_p11.1)
  rw [exs_to 13 14 (by decide) e_p13]
  obtain ⟨o1, e_q14⟩ := q14 h_p11 (some (.lst .old (iL ns))) (some (rowD .own ns a_p13 b_p13 c_p13)) (some (.int (1 + r1))) (some (D.lst (Fl.fr) [D.tup [D.non, D.non], D.tup [D.lst (Fl.fr) [D.str [97]], D.non], D.tup [D.str [97, 98, 101], D.int 2], D.tup [D.str [65], D.int 0], D.tup [D.bl true, D.non], D.tup [D.str (aN 2001), D.non]])) (some v_p13.2) (some v_p13.1)
  rw [exs_to 14 17 (by decide) e_q14]
  obtain ⟨o2, e_q17⟩ := q17 h_p13 (some (.lst .old (iL ns))) (some (rowD .own ns a_p13 b_p13 c_p13)) (some (.int (1 + r1))) (some (D.lst (Fl.fr) [D.tup [D.non, D.non], D.tup [D.lst (Fl.fr) [D.str [97]], D.non], D.tup [D.str [97, 98, 101], D.int 2], D.tup [D.str [65], D.int 0], D.tup [D.bl true, D.non], D.tup [D.str (aN 2001), D.non]])) (some v_p11.2) (o1) (some v_p11.1)
  rw [exs_to 17 22 (by decide) e_q17]
  obtain ⟨v_p22, h_p22, a_p22, b_p22, c_p22, R_p22, e_p22⟩ := kp22 (c := c_p13) R_p13 (some (.int (1 + r1))) (some (D.lst (Fl.fr) [D.tup [D.non, D.non], D.tup [D.lst (Fl.fr) [D.str [97]], D.non], D.tup [D.str [97, 98, 101], D.int 2], D.tup [D.str [65], D.int 0], D.tup [D.bl true, D.non], D.tup [D.str (aN 2001), D.non]])) (some v_p11.2) (some v_p13.2) (o2) (some v_p11.1) (some v_p13.1) (some (D.fn 412769516352372))
  rw [exs_to 22 23 (by decide) e_p22]
  obtain ⟨v_p23, h_p23, a_p23, b_p23, c_p23, R_p23, e_p23⟩ := kp23 (c := c_p22) R_p22 (some (.int (1 + r1))) (some (D.lst (Fl.fr) [D.tup [D.non, D.non], D.tup [D.lst (Fl.fr) [D.str [97]], D.non], D.tup [D.str [97, 98, 101], D.int 2], D.tup [D.str [65], D.int 0], D.tup [D.bl true, D.non], D.tup [D.str (aN 2001), D.non]])) (some v_p11.2) (some v_p13.2) (o2) (some v_p22) (some v_p11.1) (some v_p13.1) (some (D.fn 412769516352372))
  rw [exs_to 23 24 (by decide) e_p23]
  rw [exs_to 24 26 (by decide) (q24 h_p22 _ _ _ _ _ _ _ _ _ _ _)]
  exact q26 h_p23 _ _ _ _ _ _ _ _ _ _
end K04
theorem PySem.Challenge.cw_saidcounts_k04_known_words_holds : PySem.Challenge.rw_saidcounts_k04_known_words.Holds := by
  exact K04.holds_of K04.law_true
